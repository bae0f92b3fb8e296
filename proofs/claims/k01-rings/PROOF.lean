import PyProof.Rows.All
import Wide.All
import PySem.Challenge.RW_meankept_k01_rings_and_turned_rows
import HandS.ForMost
import HandS.CallSlots
import HandS.Lambda
import HandS.TupAny
import HandS.TupMul
import HandS.Rev
import HandS.IsInst
import HandS.Conv
import HandS.Style
import HandS.ExcOwn
import HandS.ForExc
import HandS.Comp
import HandS.Iter
import HandS.ExcValue
import HandS.ExcIs
import HandS.SetFor
import HandS.Strs
import HandS.SortInts
import KE.DataMinMax
import KE.SortData
import HandS.EndOwn
set_option Elab.async false
set_option linter.all false
set_option maxRecDepth 100000
set_option maxHeartbeats 4000000
/-! Pd00: tuples whose object is known (no dict), so that their methods may be called. -/
namespace Pd
open PySem PySem.Spec PyProof.Rows L2
/-- a tuple at a, its object known -/
def TupK (H : Hp) (a : Addr) (xs : List V) : Prop := ∃ o : Obj, H a = some (.frz o (.tup xs)) ∧ o.cls = .type "tuple" ∧ o.dict = none
theorem TupK.sq {K : PySem.W.Frag} {H : Hp} {a : Addr} {xs : List V} (h : TupK H a xs) : SqT K H a xs := by
  obtain ⟨o, e, _⟩ := h
  exact .inl (.inr ⟨o, e⟩)
/-- a new one -/
def NewT (H : Hp) (xs : List V) (Q : VK) : Prop := ∀ (p : Addr) (o : Obj), H p = none → o.cls = .type "tuple" → o.dict = none → Q (.ref p) (upd H p (.frz o (.tup xs)))
section
variable {X : Cx} {pins : List (Addr × Obj)} {σ : L2.St} {H : Hp} {s : Shared} {Q : VK}
theorem Inv.newT {xs : List V} {its : List Value} (I : Inv X pins σ H s) (hz : xs.length ≤ sizeLine) (r : Vals xs its) (q : NewT H xs Q) : EP X pins σ Q (.ref s.heap.objs.size) { s with heap := s.heap.push { cls := .type "tuple", data := .seq its.toArray } } :=
  ⟨.ref s.heap.objs.size, upd H s.heap.objs.size (.frz { cls := .type "tuple", data := .seq its.toArray } (.tup xs)), I.laid (t' := s.toks) (fun _ _ e => Heap.get?_push_of_some _ e) (Nat.le_refl _) ⟨Heap.get?_push_size _ rfl, hz, its, r, IsTup.new _ _⟩, rfl, q _ _ (I.hok.fresh (Nat.le_refl _)) rfl rfl⟩
/-- a tuple of written items -/
def tTupK (t : TA) : TE := fun σ H Q => t σ H fun xs H1 => xs.length ≤ sizeLine ∧ NewT H1 xs Q
theorem pe_tupK {es : List Expr} {k : Nat} {pos : Pos} {t : TA} (h : PA X es t) : PE X (.Tuple es k pos) (tTupK t) := ⟨fun pins s σ H Q I hq =>
  wpAny_Tuple_spliced (thn (h.run pos pins s σ H _ I hq) fun us s1 hh => by
    obtain ⟨xs, H1, I1, r, z, q⟩ := hh
    exact ⟨by rw [← r.length]; exact z, Inv.newT I1 z r q⟩)⟩
/-- tuple(x) -/
theorem call_tupK : CallR X (.type "tuple") (fun xs H Q => ∃ p ys, xs = [.ref p] ∧ ((SqL X.K H p ys ∧ NewT H ys Q) ∨ (SqT X.K H p ys ∧ Q (.ref p) H))) := by
  intro pins s σ H xs us Q I r h
  obtain ⟨p, ys, rfl, h⟩ := h
  obtain ⟨u, rfl, rx⟩ := vals1 r
  cases rx
  rcases h with ⟨hq, q⟩ | ⟨hq, q⟩
  · obtain ⟨its, r', pl, hz⟩ := I.list hq
    refine call_tuple_list pl.isList (fun h' kp => ?_) (by rw [List.size_toArray, ← r'.length]; exact hz)
    exact Inv.newT (s := { s with heap := h' }) (I.kept (t' := s.toks) kp) hz r' q
  · obtain ⟨its, r', pl, _⟩ := I.tuple hq
    exact call_tuple_same pl ⟨.ref p, _, I, rfl, q⟩
/-- t + u -/
def rCatK (K : PySem.W.Frag) : R2 := fun x y H Q => ∃ a b xs ys, x = .ref a ∧ y = .ref b ∧ SqT K H a xs ∧ SqT K H b ys ∧ xs.length + ys.length ≤ sizeLine ∧ (xs = [] → Q (.ref b) H) ∧ (xs ≠ [] → ys = [] → Q (.ref a) H) ∧ (xs ≠ [] → ys ≠ [] → NewT H (xs ++ ys) Q)
theorem op_catK : OpR X (binaryOp .Add) (rCatK X.K) := by
  intro pins s σ H x y v u Q I rx ry h
  obtain ⟨a, b, xs, ys, rfl, rfl, ha, hb, hz, q0, q1, q2⟩ := h
  cases rx
  cases ry
  obtain ⟨its, r1, p1, _⟩ := I.tuple ha
  obtain ⟨its2, r2, p2, _⟩ := I.tuple hb
  by_cases hx : xs = []
  · subst hx
    cases r1
    exact cat_tup0 p1 p2 ⟨.ref b, _, I, rfl, q0 rfl⟩
  · refine HT.cat_tup p1 p2 (fun z => hx (r1.nil_iff.mp z)) (fun z => ⟨.ref a, _, I, rfl, q1 hx (r2.nil_iff.mp z)⟩) (fun z => ?_) (by rw [← r1.length, ← r2.length]; exact hz)
    exact Inv.newT I (by rw [List.length_append]; exact hz) (r1.append r2) (q2 hx fun w => z (r2.nil_iff.mpr w))
/-- t[lo:hi] -/
def rSlK (K : PySem.W.Frag) : V → Option Int → Option Int → Hp → VK → Prop := fun x lo hi H Q => ∃ a xs, x = .ref a ∧ SqT K H a xs ∧
  (HT.sIx xs.length 0 lo = 0 ∧ HT.sIx xs.length xs.length hi = xs.length → Q (.ref a) H) ∧ (¬ (HT.sIx xs.length 0 lo = 0 ∧ HT.sIx xs.length xs.length hi = xs.length) → NewT H (cutV xs lo hi) Q)
theorem sl_tupK : SlR X (rSlK X.K) := by
  intro pins s σ H x v vl vu lo hi sl Q I rx hs pl pu h
  obtain ⟨a, xs, rfl, hx, q1, q2⟩ := h
  cases rx
  obtain ⟨its, r, ht, hz⟩ := I.tuple hx
  have hlen : its.toArray.size = xs.length := by rw [List.size_toArray]; exact r.length.symm
  refine ⟨"tuple", _, PyProof.Rows.slot_tuple_getitem.lookup, ht.typeIs, ?_⟩
  by_cases hw : HT.sIx xs.length 0 lo = 0 ∧ HT.sIx xs.length xs.length hi = xs.length
  · exact getItem_tuple_whole ht hs pl pu (by rw [hlen]; exact hw) ⟨.ref a, _, I, rfl, q1 hw⟩
  · refine HT.getItem_tuple_cut ht hs pl pu (by rw [hlen]; exact hw) ?_ (by rw [hlen]; exact hz)
    rw [hlen]
    exact Inv.newT I (Nat.le_trans (cutV_length xs lo hi) hz) ((r.drop _).take _) (q2 hw)
/-- a method of a tuple -/
def tMt (r : V → List V → Hp → VK → Prop) (to : TE) (t : TA) : TE := fun σ H Q => to σ H fun x H1 => (∃ a xs, x = .ref a ∧ TupK H1 a xs) ∧ t σ H1 fun xs H2 => r x xs H2 Q
theorem pe_mt {o e : Expr} {to : TE} {t : TA} {name : Str} {apos cpos : Pos} {id : String} {r : V → List V → Hp → VK → Prop} (slot : Slot "tuple" name id) (hty : typeOf (.builtin id) = pure (.type "method_descriptor")) (hm : MtR X id r) (ho : PE X o to) (ha : PA X [e] t)
    (hbase : attributeBase o name X.env (eval o X.env) = eval o X.env)
    (hfew : ((backTo cpos (starEach [e] X.env)).all (fun x => !x.1) && (backToKw cpos (keywordEach [] X.env)).all (fun x => x.1.isSome) && decide ([e].length + ([] : List Keyword).length + (if ([] : List Keyword).isEmpty then 0 else 1) < 30)) = true)
    (hline : (apos.endLine == cpos.line) = true) (hs : starEach [e] X.env = (false, eval e X.env) :: starEach [] X.env) (hplain : (backTo cpos (starEach [] X.env)).any (·.1) = false) :
    PE X (.Call (.Attribute o name apos) [e] [] cpos) (tMt r to t) := ⟨fun pins s σ H Q I h => by
  refine wpAny_Call_method_late hbase hfew hline rfl (thn (ho.run pins s σ H _ I h) fun v s1 hh => ?_)
  obtain ⟨x, H1, I1, r1, ⟨a, ys, rfl, ob, hob, hc, hd⟩, q1⟩ := hh
  cases r1
  have hg : s1.heap.get? a = some ob := (I1.hok a _ hob).1
  refine ⟨"tuple", id, PySem.F.plainAttrs_tuple, slot, hty, ⟨ob, hg, hc⟩, fun b e => by cases e; exact ⟨ob, hg, hd⟩, ?_⟩
  have hA := ha.run cpos pins s1 σ H1 _ I1 q1
  rw [hs] at hA ⊢
  refine Calls.callWith_builtin (by show (false || (backTo cpos (starEach [] X.env)).any (·.1)) = false; rw [hplain] <;> rfl) (Calls.evalArgs_plain (thn hA fun us s2 hh => ?_))
  obtain ⟨vs, H2, I2, r2, q2⟩ := hh
  exact hm pins s2 σ H2 (.ref a) vs _ us Q I2 rfl r2 q2⟩
end
end Pd

set_option Elab.async false
set_option linter.all false
set_option maxRecDepth 100000
set_option maxHeartbeats 4000000
/-! Pd0: pure data over the hand layer: values D, environments of slots, monadic programs and their readings. -/
namespace Pd
open PySem PySem.Spec PyProof.Rows L2

/-! ### data -/
inductive D where
  | non | bl (b : Bool) | int (i : Int) | str (s : Str) | tup (l : List D) | lst (l : List D) | lsk (l : List D) | ref (a : Addr) | exn (c : Addr) | dct (ks vs : List D)

/-- a dict's key -/
def keyD : Key → D
  | .inl i => .int i
  | .inr x => .str x
/-- a caught exception of the class c, at a -/
def ExI (c a : Addr) : HO := .ext fun h => ∃ (oe : Obj) (vs : Array Value), h.get? a = some oe ∧ Zc (.ref c) none oe ∧ oe.data = .fields vs
mutual
inductive Rp (K : PySem.W.Frag) (H : Hp) : V → D → Prop
  | non : Rp K H .non .non
  | bl (b : Bool) : Rp K H (.bl b) (.bl b)
  | int (i : Int) : Rp K H (.int i) (.int i)
  | str (x : Str) : Rp K H (.str x) (.str x)
  | ref (a : Addr) : Rp K H (.ref a) (.ref a)
  | tup {a : Addr} {xs : List V} {ds : List D} : TupK H a xs → RpL K H xs ds → Rp K H (.ref a) (.tup ds)
  | lst {a : Addr} {xs : List V} {ds : List D} : H a = some (.lst xs) → RpL K H xs ds → Rp K H (.ref a) (.lst ds)
  | lsk {a : Addr} {xs : List V} {ds : List D} : SqL K H a xs → RpL K H xs ds → Rp K H (.ref a) (.lsk ds)
  | exn {a c : Addr} : H a = some (ExI c a) → Rp K H (.ref a) (.exn c)
  | dK {a : Addr} {kvs : List (Key × V)} {us : List V} {ks es : List D} : H a = some (.dK kvs) → us = kvs.map (·.2) → ks = kvs.map (fun p => keyD p.1) → RpL K H us es → Rp K H (.ref a) (.dct ks es)
  | dT {a : Addr} {kvs : List (List Key × V)} {us : List V} {ks es : List D} : H a = some (.dT kvs) → us = kvs.map (·.2) → ks = kvs.map (fun p => .tup (p.1.map keyD)) → RpL K H us es → Rp K H (.ref a) (.dct ks es)
inductive RpL (K : PySem.W.Frag) (H : Hp) : List V → List D → Prop
  | nil : RpL K H [] []
  | cons {v : V} {vs : List V} {d : D} {ds : List D} : Rp K H v d → RpL K H vs ds → RpL K H (v :: vs) (d :: ds)
end

/-- what H tells H' tells -/
def Sub (H H' : Hp) : Prop := ∀ b o, H b = some o → H' b = some o
theorem Sub.refl (H : Hp) : Sub H H := fun _ _ h => h
theorem Sub.trans {H H1 H2 : Hp} (a : Sub H H1) (b : Sub H1 H2) : Sub H H2 := fun x o h => b x o (a x o h)
theorem Sub.upd {H : Hp} {p : Addr} {o : HO} (h : H p = none) : Sub H (upd H p o) := fun b u e => by
  rw [upd_ne (ne_of_none e h)]; exact e
theorem Sub.rd {H H' : Hp} {a : Addr} {u : HO} (e : Sub H H') (h : Rd H a u) : Rd H' a u := by
  rcases h with h | ⟨o, h⟩
  · exact .inl (e _ _ h)
  · exact .inr ⟨o, e _ _ h⟩
theorem Sub.sqL {K : PySem.W.Frag} {H H' : Hp} {a : Addr} {xs : List V} (e : Sub H H') (h : SqL K H a xs) : SqL K H' a xs := by
  rcases h with h | h
  · exact .inl (e.rd h)
  · exact .inr h
theorem Sub.tk {H H' : Hp} {a : Addr} {xs : List V} (e : Sub H H') (h : TupK H a xs) : TupK H' a xs := by
  obtain ⟨o, h, r⟩ := h
  exact ⟨o, e _ _ h, r⟩
theorem Sub.sqT {K : PySem.W.Frag} {H H' : Hp} {a : Addr} {xs : List V} (e : Sub H H') (h : SqT K H a xs) : SqT K H' a xs := by
  rcases h with h | h
  · exact .inl (e.rd h)
  · exact .inr h
mutual
theorem Rp.mono {K : PySem.W.Frag} {H H' : Hp} (e : Sub H H') : ∀ {v : V} {d : D}, Rp K H v d → Rp K H' v d
  | _, _, .non => .non
  | _, _, .bl b => .bl b
  | _, _, .int i => .int i
  | _, _, .str x => .str x
  | _, _, .ref a => .ref a
  | _, _, .tup h r => .tup (e.tk h) (RpL.mono e r)
  | _, _, .lst h r => .lst (e _ _ h) (RpL.mono e r)
  | _, _, .lsk h r => .lsk (e.sqL h) (RpL.mono e r)
  | _, _, .exn h => .exn (e _ _ h)
  | _, _, .dK h a b r => .dK (e _ _ h) a b (RpL.mono e r)
  | _, _, .dT h a b r => .dT (e _ _ h) a b (RpL.mono e r)
theorem RpL.mono {K : PySem.W.Frag} {H H' : Hp} (e : Sub H H') : ∀ {vs : List V} {ds : List D}, RpL K H vs ds → RpL K H' vs ds
  | _, _, .nil => .nil
  | _, _, .cons a r => .cons (Rp.mono e a) (RpL.mono e r)
end
theorem RpL.length {K : PySem.W.Frag} {H : Hp} : ∀ {vs : List V} {ds : List D}, RpL K H vs ds → vs.length = ds.length
  | _, _, .nil => rfl
  | _, _, .cons _ r => by simp [RpL.length r]
theorem RpL.get {K : PySem.W.Frag} {H : Hp} : ∀ {vs : List V} {ds : List D} {i : Nat} {d : D}, RpL K H vs ds → ds[i]? = some d → ∃ v, vs[i]? = some v ∧ Rp K H v d
  | _, _, _, _, .nil, h => by simp at h
  | _, _, 0, d, .cons a _, h => by simp at h; subst h; exact ⟨_, rfl, a⟩
  | _, _, i + 1, d, .cons _ r, h => by
    obtain ⟨v, h1, h2⟩ := RpL.get (i := i) (d := d) r (by simpa using h)
    exact ⟨v, by simpa using h1, h2⟩
theorem RpL.getV {K : PySem.W.Frag} {H : Hp} : ∀ {vs : List V} {ds : List D} {i : Nat} {v : V}, RpL K H vs ds → vs[i]? = some v → ∃ d, ds[i]? = some d ∧ Rp K H v d
  | _, _, _, _, .nil, h => by simp at h
  | _, _, 0, d, .cons a _, h => by simp at h; subst h; exact ⟨_, rfl, a⟩
  | _, _, i + 1, v, .cons _ r, h => by
    obtain ⟨d, h1, h2⟩ := RpL.getV (i := i) (v := v) r (by simpa using h)
    exact ⟨d, by simpa using h1, h2⟩
theorem RpL.append {K : PySem.W.Frag} {H : Hp} : ∀ {vs us : List V} {ds es : List D}, RpL K H vs ds → RpL K H us es → RpL K H (vs ++ us) (ds ++ es)
  | _, _, _, _, .nil, r => r
  | _, _, _, _, .cons a t, r => .cons a (RpL.append t r)
theorem RpL.take {K : PySem.W.Frag} {H : Hp} : ∀ {vs : List V} {ds : List D} (n : Nat), RpL K H vs ds → RpL K H (vs.take n) (ds.take n)
  | _, _, 0, _ => .nil
  | _, _, _ + 1, .nil => .nil
  | _, _, n + 1, .cons a r => .cons a (RpL.take n r)
theorem RpL.drop {K : PySem.W.Frag} {H : Hp} : ∀ {vs : List V} {ds : List D} (n : Nat), RpL K H vs ds → RpL K H (vs.drop n) (ds.drop n)
  | _, _, 0, r => r
  | _, _, _ + 1, .nil => .nil
  | _, _, n + 1, .cons _ r => RpL.drop n r
theorem RpL.set {K : PySem.W.Frag} {H : Hp} {v : V} {d : D} (a : Rp K H v d) : ∀ {vs : List V} {ds : List D} (i : Nat), RpL K H vs ds → RpL K H (vs.set i v) (ds.set i d)
  | _, _, _, .nil => .nil
  | _, _, 0, .cons _ r => .cons a r
  | _, _, i + 1, .cons b r => .cons b (RpL.set a i r)
theorem RpL.reverse {K : PySem.W.Frag} {H : Hp} : ∀ {vs : List V} {ds : List D}, RpL K H vs ds → RpL K H vs.reverse ds.reverse
  | _, _, .nil => .nil
  | _, _, .cons a r => by
    rw [List.reverse_cons, List.reverse_cons]
    exact (RpL.reverse r).append (.cons a .nil)
theorem RpL.eraseIdx {K : PySem.W.Frag} {H : Hp} : ∀ {vs : List V} {ds : List D} (i : Nat), RpL K H vs ds → RpL K H (vs.eraseIdx i) (ds.eraseIdx i)
  | _, _, _, .nil => .nil
  | _, _, 0, .cons _ r => r
  | _, _, i + 1, .cons b r => .cons b (RpL.eraseIdx i r)
theorem RpL.flatRep {K : PySem.W.Frag} {H : Hp} {vs : List V} {ds : List D} (h : RpL K H vs ds) : ∀ n : Nat, RpL K H (List.replicate n vs).flatten (List.replicate n ds).flatten
  | 0 => .nil
  | n + 1 => by
    rw [List.replicate_succ, List.replicate_succ, List.flatten_cons, List.flatten_cons]
    exact h.append (RpL.flatRep h n)
/-- lists of ints -/
theorem RpL.ints {K : PySem.W.Frag} {H : Hp} : ∀ (ns : List Int), RpL K H (ns.map V.int) (ns.map D.int)
  | [] => .nil
  | n :: ns => .cons (.int n) (RpL.ints ns)
theorem RpL.ofInts {K : PySem.W.Frag} {H : Hp} : ∀ {vs : List V} (ns : List Int), RpL K H vs (ns.map D.int) → vs = ns.map V.int
  | _, [], .nil => rfl
  | _, n :: ns, .cons (.int _) r => by rw [RpL.ofInts ns r]; rfl

/-! ### the world of a law: the state of its draws -/
structure Wd where
  a : Addr
  g : Addr
  c : Addr
def Wd.Z (w : Wd) (b : Addr) : Prop := b = w.a ∨ b = w.g ∨ b = w.c
structure LS where
  self : Addr
  tb : List (Addr × Str)
  great : List Int
  cells : List Int
  rest : Int
  turn : Int
structure SOk (w : Wd) (ls : LS) (H : Hp) : Prop where
  hs : w.a = ls.self
  ha : H w.a = some (.dK [(.inr "great", .ref w.g), (.inr "cells", .ref w.c), (.inr "rest", .int ls.rest), (.inr "turn", .int ls.turn)])
  hg : H w.g = some (.lst (ls.great.map V.int))
  hc : H w.c = some (.lst (ls.cells.map V.int))
  hcg : w.c ≠ w.g
  tabs : LamX.Tabs ls.tb H
def NT (o : HO) : Prop := ∀ ps, o ≠ .tbl ps
theorem NT.lst {xs : List V} : NT (.lst xs) := fun _ h => by cases h
theorem NT.tup {o : Obj} {xs : List V} : NT (.frz o (.tup xs)) := fun _ h => by cases h
/-- B tells nothing at p, but a table perhaps -/
def NB (B : Hp) (p : Addr) : Prop := ∀ o, B p = some o → ¬ NT o
theorem NB.of {B : Hp} {p : Addr} (h : B p = none) : NB B p := fun o e => by rw [h] at e; cases e
theorem NB.lst {B : Hp} {p : Addr} {xs : List V} (h : NB B p) (e : B p = some (.lst xs)) : False := h _ e NT.lst
theorem NB.ne {B : Hp} {p b : Addr} {o : HO} (h : NB B p) (e : B b = some o) (t : NT o) : b ≠ p := fun z => h o (z ▸ e) t
theorem NB.up {B : Hp} {p b : Addr} {o : HO} (hb : b ≠ p) : NB (upd B p o) b ↔ NB B b := by
  unfold NB; rw [upd_ne hb]
theorem NB.atL {B : Hp} {p b : Addr} {xs : List V} (h : NB (upd B p (.lst xs)) b) : b ≠ p := fun z => h _ (by rw [z]; exact upd_same) NT.lst
/-- a thing that the tables don't hang on -/
def Lo (o : HO) : Prop := (∀ ps, o ≠ .tbl ps) ∧ ∀ c q, o ≠ LamX.CodeO c q
theorem Lo.lst {xs : List V} : Lo (.lst xs) := ⟨(fun _ h => nomatch h), (fun _ _ h => nomatch h)⟩
theorem Lo.dK {kvs : List (Key × V)} : Lo (.dK kvs) := ⟨(fun _ h => nomatch h), (fun _ _ h => nomatch h)⟩
theorem tabs_keep {T : List (Addr × Str)} {H H' : Hp} (t : LamX.Tabs T H) (h : ∀ b o, H b = some o → (∃ ps, o = .tbl ps) ∨ (∃ c q, o = LamX.CodeO c q) → H' b = some o) : LamX.Tabs T H' := fun p hp => by
  obtain ⟨ps, h1, h2, h3⟩ := t p hp
  refine ⟨ps, h _ _ h1 (.inl ⟨ps, rfl⟩), h2, fun pos cv hc => ?_⟩
  obtain ⟨c, e1, e2⟩ := h3 pos cv hc
  exact ⟨c, e1, h _ _ e2 (.inr ⟨_, _, rfl⟩)⟩
/-- an update at a place that was free or held a thing of that kind -/
theorem tabs_upd {T : List (Addr × Str)} {H : Hp} {p : Addr} {o : HO} (t : LamX.Tabs T H) (h : ∀ u, H p = some u → Lo u) : LamX.Tabs T (upd H p o) := tabs_keep t fun b u e k => by
  have hb : b ≠ p := fun z => by
    obtain ⟨l1, l2⟩ := h u (z ▸ e)
    rcases k with ⟨ps, k⟩ | ⟨c, q, k⟩
    · exact l1 ps k
    · exact l2 c q k
  rw [upd_ne hb]; exact e
theorem lo_none {H : Hp} {p : Addr} (h : H p = none) : ∀ u, H p = some u → Lo u := fun u e => by rw [h] at e; cases e
theorem lo_lst {H : Hp} {p : Addr} {xs : List V} (h : H p = some (.lst xs)) : ∀ u, H p = some u → Lo u := fun u e => by rw [h] at e; cases e; exact Lo.lst
theorem lo_dK {H : Hp} {p : Addr} {kvs : List (Key × V)} (h : H p = some (.dK kvs)) : ∀ u, H p = some u → Lo u := fun u e => by rw [h] at e; cases e; exact Lo.dK

/-! ### slots -/
inductive Sl where
  | un | dat (d : D) | own (l : List D)
abbrev Rho := List Sl

structure EOk (K : PySem.W.Frag) (w : Wd) (B D0 Hd H : Hp) (σ : L2.St) (ρ : Rho) (ls : LS) : Prop where
  base : ∀ b o, B b = some o → ¬ w.Z b → NT o → H b = some o
  dom : ∀ b, H b = none → NB B b
  sub : Sub Hd H
  sub0 : Sub D0 Hd
  noz : ∀ b, w.Z b → Hd b = none
  nt : ∀ b o, Hd b = some o → NT o
  fr : ∀ b o, Hd b = some o → D0 b = some o ∨ NB B b
  st : SOk w ls H
  len : σ.length = ρ.length
  dat : ∀ (i : Nat) (d : D), ρ[i]? = some (.dat d) → ∃ v, σ[i]? = some (some v) ∧ Rp K Hd v d
  own : ∀ (i : Nat) (ds : List D), ρ[i]? = some (.own ds) → ∃ p xs, σ[i]? = some (some (.ref p)) ∧ H p = some (.lst xs) ∧ RpL K Hd xs ds ∧ Hd p = none ∧ NB B p ∧ ¬ w.Z p
  apart : ∀ (i j : Nat) (p : Addr) (ds es : List D), i ≠ j → ρ[i]? = some (.own ds) → ρ[j]? = some (.own es) → σ[i]? = some (some (.ref p)) → σ[j]? = some (some (.ref p)) → False

/-- p holds a list that nothing else knows -/
structure Fresh (w : Wd) (B Hd H : Hp) (σ : L2.St) (ρ : Rho) (p : Addr) (xs : List V) : Prop where
  at_ : H p = some (.lst xs)
  nd : Hd p = none
  nb : NB B p
  nz : ¬ w.Z p
  ns : ∀ (i : Nat) (ds : List D), ρ[i]? = some (.own ds) → σ[i]? ≠ some (some (.ref p))

section
variable {K : PySem.W.Frag} {w : Wd} {B D0 Hd H : Hp} {σ : L2.St} {ρ : Rho} {ls : LS}

theorem SOk.keep {H' : Hp} (s : SOk w ls H) (h : ∀ b, w.Z b → H' b = H b) (t : LamX.Tabs ls.tb H') : SOk w ls H' :=
  ⟨s.hs, (h _ (.inl rfl)).trans s.ha, (h _ (.inr (.inl rfl))).trans s.hg, (h _ (.inr (.inr rfl))).trans s.hc, s.hcg, t⟩
theorem SOk.inH (s : SOk w ls H) {b : Addr} (z : w.Z b) : ∃ o, H b = some o := by
  rcases z with rfl | rfl | rfl
  · exact ⟨_, s.ha⟩
  · exact ⟨_, s.hg⟩
  · exact ⟨_, s.hc⟩
theorem EOk.nz_new (E : EOk K w B D0 Hd H σ ρ ls) {p : Addr} (h : H p = none) : ¬ w.Z p := fun z => by
  obtain ⟨o, e⟩ := E.st.inH z
  rw [h] at e; cases e
theorem EOk.nd_new (E : EOk K w B D0 Hd H σ ρ ls) {p : Addr} (h : H p = none) : Hd p = none := by
  cases e : Hd p with
  | none => rfl
  | some o => rw [E.sub _ _ e] at h; cases h
/-- a new object of data -/
theorem EOk.newDat (E : EOk K w B D0 Hd H σ ρ ls) {p : Addr} {o : HO} (h : H p = none) (n : NT o) : EOk K w B D0 (upd Hd p o) (upd H p o) σ ρ ls := by
  have hd := E.nd_new h
  have nz := E.nz_new h
  have sd : Sub Hd (upd Hd p o) := .upd hd
  refine ⟨fun b u e z t => ?_, fun b e => ?_, fun b u e => ?_, E.sub0.trans sd, fun b z => ?_, fun b u e => ?_, fun b u e => ?_, E.st.keep (fun b z => ?_) (tabs_upd E.st.tabs (lo_none h)), E.len, fun i d e => ?_, fun i ds e => ?_, E.apart⟩
  · rw [upd_ne (ne_of_none (E.base b u e z t) h)]; exact E.base b u e z t
  · by_cases hb : b = p
    · subst hb; rw [upd_same] at e; cases e
    · rw [upd_ne hb] at e; exact E.dom b e
  · by_cases hb : b = p
    · subst hb; rw [upd_same] at e ⊢; exact e
    · rw [upd_ne hb] at e ⊢; exact E.sub b u e
  · rw [upd_ne (show b ≠ p from fun q => nz (q ▸ z))]; exact E.noz b z
  · by_cases hb : b = p
    · subst hb; rw [upd_same] at e; cases e; exact n
    · rw [upd_ne hb] at e; exact E.nt b u e
  · by_cases hb : b = p
    · subst hb; exact .inr (E.dom _ h)
    · rw [upd_ne hb] at e; exact E.fr b u e
  · exact upd_ne fun q => nz (q ▸ z)
  · obtain ⟨v, h1, h2⟩ := E.dat i d e
    exact ⟨v, h1, h2.mono sd⟩
  · obtain ⟨q, xs, h1, h2, h3, h4, h5, h6⟩ := E.own i ds e
    have hq : q ≠ p := ne_of_none h2 h
    exact ⟨q, xs, h1, by rw [upd_ne hq]; exact h2, h3.mono sd, by rw [upd_ne hq]; exact h4, h5, h6⟩
/-- a new list that is nobody's yet -/
theorem EOk.newList (E : EOk K w B D0 Hd H σ ρ ls) {p : Addr} {xs : List V} (h : H p = none) : EOk K w B D0 Hd (upd H p (.lst xs)) σ ρ ls ∧ Fresh w B Hd (upd H p (.lst xs)) σ ρ p xs := by
  have hd := E.nd_new h
  have nz := E.nz_new h
  refine ⟨⟨fun b u e z t => ?_, fun b e => ?_, fun b u e => ?_, E.sub0, E.noz, E.nt, E.fr, E.st.keep (fun b z => upd_ne fun q => nz (q ▸ z)) (tabs_upd E.st.tabs (lo_none h)), E.len, E.dat, fun i ds e => ?_, E.apart⟩, ⟨upd_same, hd, E.dom _ h, nz, fun i ds e q => ?_⟩⟩
  · rw [upd_ne (ne_of_none (E.base b u e z t) h)]; exact E.base b u e z t
  · by_cases hb : b = p
    · subst hb; rw [upd_same] at e; cases e
    · rw [upd_ne hb] at e; exact E.dom b e
  · rw [upd_ne (ne_of_none (E.sub b u e) h)]; exact E.sub b u e
  · obtain ⟨q, ys, h1, h2, h3, h4, h5, h6⟩ := E.own i ds e
    exact ⟨q, ys, h1, by rw [upd_ne (ne_of_none h2 h)]; exact h2, h3, h4, h5, h6⟩
  · obtain ⟨r, ys, h1, h2, _⟩ := E.own i ds e
    rw [h1] at q; cases q
    rw [h] at h2; cases h2
/-- a list that nobody knows becomes data -/
theorem EOk.freeze {p : Addr} {xs : List V} (E : EOk K w B D0 Hd H σ ρ ls) (F : Fresh w B Hd H σ ρ p xs) : EOk K w B D0 (upd Hd p (.lst xs)) H σ ρ ls := by
  have sd : Sub Hd (upd Hd p (.lst xs)) := .upd F.nd
  refine ⟨E.base, E.dom, fun b u e => ?_, E.sub0.trans sd, fun b z => ?_, fun b u e => ?_, fun b u e => ?_, E.st, E.len, fun i d e => ?_, fun i ds e => ?_, E.apart⟩
  · by_cases hb : b = p
    · subst hb; rw [upd_same] at e; cases e; exact F.at_
    · rw [upd_ne hb] at e; exact E.sub b u e
  · rw [upd_ne (show b ≠ p from fun q => F.nz (q ▸ z))]; exact E.noz b z
  · by_cases hb : b = p
    · subst hb; rw [upd_same] at e; cases e; exact NT.lst
    · rw [upd_ne hb] at e; exact E.nt b u e
  · by_cases hb : b = p
    · subst hb; exact .inr F.nb
    · rw [upd_ne hb] at e; exact E.fr b u e
  · obtain ⟨v, h1, h2⟩ := E.dat i d e
    exact ⟨v, h1, h2.mono sd⟩
  · obtain ⟨q, ys, h1, h2, h3, h4, h5, h6⟩ := E.own i ds e
    have hq : q ≠ p := fun z => F.ns i ds e (z ▸ h1)
    exact ⟨q, ys, h1, h2, h3.mono sd, by rw [upd_ne hq]; exact h4, h5, h6⟩
theorem getSet {α : Type} {l : List α} {i j : Nat} {a b : α} (h : (l.set i a)[j]? = some b) : (j = i ∧ i < l.length ∧ b = a) ∨ (j ≠ i ∧ l[j]? = some b) := by
  by_cases e : j = i
  · subst e
    have hl : j < (l.set j a).length := (List.getElem?_eq_some_iff.mp h).1
    rw [List.length_set] at hl
    rw [List.getElem?_set_self hl] at h
    exact .inl ⟨rfl, hl, (Option.some.inj h).symm⟩
  · rw [List.getElem?_set_ne (Ne.symm e)] at h
    exact .inr ⟨e, h⟩
/-- a slot's list is given away: data from now on -/
theorem EOk.leak {i : Nat} {ds : List D} (E : EOk K w B D0 Hd H σ ρ ls) (h : ρ[i]? = some (.own ds)) :
    ∃ p xs, σ[i]? = some (some (.ref p)) ∧ H p = some (.lst xs) ∧ Hd p = none ∧ EOk K w B D0 (upd Hd p (.lst xs)) H σ (ρ.set i (.dat (.lst ds))) ls ∧ Rp K (upd Hd p (.lst xs)) (.ref p) (.lst ds) := by
  obtain ⟨p, xs, h1, h2, h3, h4, h5, h6⟩ := E.own i ds h
  have sd : Sub Hd (upd Hd p (.lst xs)) := .upd h4
  have rp : Rp K (upd Hd p (.lst xs)) (.ref p) (.lst ds) := .lst upd_same (h3.mono sd)
  refine ⟨p, xs, h1, h2, h4, ⟨E.base, E.dom, fun b u e => ?_, E.sub0.trans sd, fun b z => ?_, fun b u e => ?_, fun b u e => ?_, E.st, by simpa using E.len, fun j d e => ?_, fun j es e => ?_, fun j k q es fs ne e1 e2 => ?_⟩, rp⟩
  · by_cases hb : b = p
    · subst hb; rw [upd_same] at e; cases e; exact h2
    · rw [upd_ne hb] at e; exact E.sub b u e
  · rw [upd_ne (show b ≠ p from fun q => h6 (q ▸ z))]; exact E.noz b z
  · by_cases hb : b = p
    · subst hb; rw [upd_same] at e; cases e; exact NT.lst
    · rw [upd_ne hb] at e; exact E.nt b u e
  · by_cases hb : b = p
    · subst hb; exact .inr h5
    · rw [upd_ne hb] at e; exact E.fr b u e
  · rcases getSet e with ⟨rfl, _, q⟩ | ⟨_, e⟩
    · cases q; exact ⟨_, h1, rp⟩
    · obtain ⟨v, g1, g2⟩ := E.dat j d e
      exact ⟨v, g1, g2.mono sd⟩
  · rcases getSet e with ⟨_, _, q⟩ | ⟨ne, e⟩
    · cases q
    · obtain ⟨q, ys, g1, g2, g3, g4, g5, g6⟩ := E.own j es e
      have hq : q ≠ p := fun z => E.apart j i p es ds ne e h (z ▸ g1) h1
      exact ⟨q, ys, g1, g2, g3.mono sd, by rw [upd_ne hq]; exact g4, g5, g6⟩
  · rcases getSet e1 with ⟨_, _, z⟩ | ⟨_, e1⟩
    · cases z
    · rcases getSet e2 with ⟨_, _, z⟩ | ⟨_, e2⟩
      · cases z
      · exact E.apart j k q es fs ne e1 e2
/-- a slot's list is changed -/
theorem EOk.change {i : Nat} {ds es : List D} {p : Addr} {ys : List V} (E : EOk K w B D0 Hd H σ ρ ls) (h : ρ[i]? = some (.own ds)) (hp : σ[i]? = some (some (.ref p))) (r : RpL K Hd ys es) :
    EOk K w B D0 Hd (upd H p (.lst ys)) σ (ρ.set i (.own es)) ls := by
  obtain ⟨p', xs, h1, h2, h3, h4, h5, h6⟩ := E.own i ds h
  rw [hp] at h1; cases h1
  have hi : i < ρ.length := (List.getElem?_eq_some_iff.mp h).1
  refine ⟨fun b u e z t => ?_, fun b e => ?_, fun b u e => ?_, E.sub0, E.noz, E.nt, E.fr, E.st.keep (fun b z => upd_ne fun q => h6 (q ▸ z)) (tabs_upd E.st.tabs (lo_lst h2)), by simpa using E.len, fun j d e => ?_, fun j es' e => ?_, fun j k q as bs ne e1 e2 s1 s2 => ?_⟩
  · rw [upd_ne (h5.ne e t)]; exact E.base b u e z t
  · by_cases hb : b = p
    · subst hb; rw [upd_same] at e; cases e
    · rw [upd_ne hb] at e; exact E.dom b e
  · rw [upd_ne (fun q => by subst q; rw [h4] at e; cases e)]; exact E.sub b u e
  · rcases getSet e with ⟨_, _, q⟩ | ⟨_, e⟩
    · cases q
    · exact E.dat j d e
  · rcases getSet e with ⟨rfl, _, q⟩ | ⟨ne, e⟩
    · cases q; exact ⟨p, ys, hp, upd_same, r, h4, h5, h6⟩
    · obtain ⟨q, zs, g1, g2, g3, g4, g5, g6⟩ := E.own j es' e
      have hq : q ≠ p := fun z => E.apart j i p es' ds ne e h (z ▸ g1) hp
      exact ⟨q, zs, g1, by rw [upd_ne hq]; exact g2, g3, g4, g5, g6⟩
  · have old : ∀ (m : Nat) (as : List D), (ρ.set i (.own es))[m]? = some (.own as) → ∃ as', ρ[m]? = some (.own as') := fun m as e => by
      rcases getSet e with ⟨rfl, _, _⟩ | ⟨_, e⟩
      · exact ⟨ds, h⟩
      · exact ⟨as, e⟩
    obtain ⟨as', e1⟩ := old j as e1
    obtain ⟨bs', e2⟩ := old k bs e2
    exact E.apart j k q as' bs' ne e1 e2 s1 s2
/-- a name gets data -/
theorem EOk.store {i : Nat} {v : V} {d : D} (E : EOk K w B D0 Hd H σ ρ ls) (hi : i < ρ.length) (r : Rp K Hd v d) : EOk K w B D0 Hd H (σ.set i (some v)) (ρ.set i (.dat d)) ls := by
  refine ⟨E.base, E.dom, E.sub, E.sub0, E.noz, E.nt, E.fr, E.st, by simpa using E.len, fun j e h => ?_, fun j es h => ?_, fun j k q as bs ne e1 e2 s1 s2 => ?_⟩
  · rcases getSet h with ⟨rfl, _, q⟩ | ⟨ne, h⟩
    · cases q; exact ⟨v, List.getElem?_set_self (by rw [E.len]; exact hi), r⟩
    · rw [List.getElem?_set_ne (Ne.symm ne)]; exact E.dat j e h
  · rcases getSet h with ⟨_, _, q⟩ | ⟨ne, h⟩
    · cases q
    · rw [List.getElem?_set_ne (Ne.symm ne)]; exact E.own j es h
  · rcases getSet e1 with ⟨_, _, z⟩ | ⟨n1, e1⟩
    · cases z
    · rcases getSet e2 with ⟨_, _, z⟩ | ⟨n2, e2⟩
      · cases z
      · rw [List.getElem?_set_ne (Ne.symm n1)] at s1
        rw [List.getElem?_set_ne (Ne.symm n2)] at s2
        exact E.apart j k q as bs ne e1 e2 s1 s2
/-- a name gets a list that nobody knows -/
theorem EOk.storeOwn {i : Nat} {p : Addr} {xs : List V} {ds : List D} (E : EOk K w B D0 Hd H σ ρ ls) (hi : i < ρ.length) (F : Fresh w B Hd H σ ρ p xs) (r : RpL K Hd xs ds) : EOk K w B D0 Hd H (σ.set i (some (.ref p))) (ρ.set i (.own ds)) ls := by
  have hs : (σ.set i (some (V.ref p)))[i]? = some (some (.ref p)) := List.getElem?_set_self (by rw [E.len]; exact hi)
  refine ⟨E.base, E.dom, E.sub, E.sub0, E.noz, E.nt, E.fr, E.st, by simpa using E.len, fun j e h => ?_, fun j es h => ?_, fun j k q as bs ne e1 e2 s1 s2 => ?_⟩
  · rcases getSet h with ⟨_, _, q⟩ | ⟨ne, h⟩
    · cases q
    · rw [List.getElem?_set_ne (Ne.symm ne)]; exact E.dat j e h
  · rcases getSet h with ⟨rfl, _, q⟩ | ⟨ne, h⟩
    · cases q; exact ⟨p, xs, hs, F.at_, r, F.nd, F.nb, F.nz⟩
    · rw [List.getElem?_set_ne (Ne.symm ne)]; exact E.own j es h
  · rcases getSet e1 with ⟨hj, _, z⟩ | ⟨n1, e1'⟩
    · rw [hj, hs] at s1; cases s1
      rcases getSet e2 with ⟨z2, _, _⟩ | ⟨n2, e2'⟩
      · exact ne (hj.trans z2.symm)
      · rw [List.getElem?_set_ne (Ne.symm n2)] at s2
        exact F.ns k bs e2' s2
    · rw [List.getElem?_set_ne (Ne.symm n1)] at s1
      rcases getSet e2 with ⟨hk, _, _⟩ | ⟨n2, e2'⟩
      · rw [hk, hs] at s2; cases s2
        exact F.ns j as e1' s1
      · rw [List.getElem?_set_ne (Ne.symm n2)] at s2
        exact E.apart j k q as bs ne e1' e2' s1 s2
end
end Pd

set_option Elab.async false
set_option linter.all false
set_option maxRecDepth 100000
set_option maxHeartbeats 4000000
/-! Pd1: programs over environments, and their readings. -/
namespace Pd
open PySem PySem.Spec PyProof.Rows L2

/-- an exception: its class, its int field -/
structure XV where
  cls : Addr
  fld : Option (Str × Int)
inductive Out (α : Type) where
  | ok (a : α) (ρ : Rho) (ls : LS) | rs (x : XV) (ls : LS) | no
abbrev M (α : Type) := Rho → LS → Out α
def ret {α : Type} (a : α) : M α := fun ρ ls => .ok a ρ ls
def bnd {α β : Type} (f : M α) (g : α → M β) : M β := fun ρ ls => match f ρ ls with
  | .ok a ρ' ls' => g a ρ' ls'
  | .rs x ls' => .rs x ls'
  | .no => .no
def opt {α : Type} : Option α → M α
  | some a => ret a
  | none => fun _ _ => .no
/-- what an expression gives: data, or the list of a slot -/
inductive Rf where
  | d (x : D) | sl (i : Nat)
def slD : Option Sl → Option D
  | some (.own ds) => some (.lst ds)
  | some (.dat x) => some x
  | _ => none
def den (ρ : Rho) : Rf → Option D
  | .d x => some x
  | .sl i => slD ρ[i]?
/-- its data as it stands -/
def look (r : Rf) : M D := fun ρ ls => opt (den ρ r) ρ ls
/-- its data, given away -/
def giveS (i : Nat) (ρ : Rho) (ls : LS) : Option Sl → Out D
  | some (.own ds) => .ok (.lst ds) (ρ.set i (.dat (.lst ds))) ls
  | some (.dat x) => .ok x ρ ls
  | _ => .no
def give : Rf → M D
  | .d x => ret x
  | .sl i => fun ρ ls => giveS i ρ ls ρ[i]?

structure XOk (w : Wd) (B H' : Hp) (ls' : LS) (x : XV) (cls : Value) (dd : Option Addr) : Prop where
  base : ∀ b o, B b = some o → ¬ w.Z b → NT o → H' b = some o
  st : SOk w ls' H'
  cls : cls = .ref x.cls
  non : x.fld = none → dd = none
  fld : ∀ n i, x.fld = some (n, i) → ∃ a, dd = some a ∧ H' a = some (.xd [(n, .int i)])

def Go {α : Type} (K : PySem.W.Frag) (W : WX) (w : Wd) (B D0 : Hp) (σ : L2.St) (Hd : Hp) (o : Out α) (P : Hp → Hp → Rho → LS → α → Prop) : Prop := match o with
  | .ok a ρ' ls' => ∀ Hd' H', EOk K w B D0 Hd' H' σ ρ' ls' → Sub Hd Hd' → P Hd' H' ρ' ls' a
  | .rs x ls' => ∀ H' cls dd, XOk w B H' ls' x cls dd → W cls dd σ H'
  | .no => False
abbrev PostT (α : Type) := Wd → Hp → Hp → Hp → Hp → Rho → LS → α → Prop
def Ru {α : Type} (K : PySem.W.Frag) (W : WX) (f : M α) (σ : L2.St) (H : Hp) (P : PostT α) : Prop :=
  ∃ w B D0 Hd ρ ls, EOk K w B D0 Hd H σ ρ ls ∧ Go K W w B D0 σ Hd (f ρ ls) (P w B D0)

def RfOk (K : PySem.W.Frag) (Hd : Hp) (σ : L2.St) (v : V) : Rf → Prop
  | .d x => Rp K Hd v x
  | .sl i => σ[i]? = some (some v)
/-- an expression -/
def U (K : PySem.W.Frag) (W : WX) (f : M Rf) : TE := fun σ H Q => Ru K W f σ H fun _ _ _ Hd' H' _ _ r => ∀ v, RfOk K Hd' σ v r → Q v H'
/-- an expression, its data -/
def UV (K : PySem.W.Frag) (W : WX) (f : M D) : TE := fun σ H Q => Ru K W f σ H fun _ _ _ Hd' H' _ _ d => ∀ v, Rp K Hd' v d → Q v H'
/-- an expression that makes a list -/
def UN (K : PySem.W.Frag) (W : WX) (f : M (List D)) : TE := fun σ H Q => Ru K W f σ H fun w B _ Hd' H' ρ' _ ds => ∀ p xs, Fresh w B Hd' H' σ ρ' p xs → RpL K Hd' xs ds → Q (.ref p) H'
/-- arguments -/
def UA (K : PySem.W.Frag) (W : WX) (f : M (List D)) : TA := fun σ H Q => Ru K W f σ H fun _ _ _ Hd' H' _ _ ds => ∀ vs, RpL K Hd' vs ds → Q vs H'
/-- a test -/
def UT (K : PySem.W.Frag) (W : WX) (f : M Bool) : TT := fun σ H Q => Ru K W f σ H fun _ _ _ _ H' _ _ b => Q b H'

section
variable {X : Cx} {K : PySem.W.Frag} {W : WX} {α β : Type} {w : Wd} {B D0 Hd H : Hp} {σ : L2.St} {ρ : Rho} {ls : LS}

theorem Go.imp {o : Out α} {P P' : Hp → Hp → Rho → LS → α → Prop} (h : Go K W w B D0 σ Hd o P) (i : ∀ Hd' H' ρ' ls' a, EOk K w B D0 Hd' H' σ ρ' ls' → Sub Hd Hd' → P Hd' H' ρ' ls' a → P' Hd' H' ρ' ls' a) : Go K W w B D0 σ Hd o P' := by
  cases o with
  | ok a ρ' ls' => exact fun Hd' H' E s => i _ _ _ _ _ E s (h Hd' H' E s)
  | rs x ls' => exact h
  | no => exact h
theorem Go.xBnd {f : M α} {g : α → M β} {P : Hp → Hp → Rho → LS → β → Prop} (h : Go K W w B D0 σ Hd (bnd f g ρ ls) P) :
    Go K W w B D0 σ Hd (f ρ ls) fun Hd1 _ ρ1 ls1 a => Go K W w B D0 σ Hd1 (g a ρ1 ls1) P := by
  unfold bnd at h
  cases e : f ρ ls with
  | ok a ρ' ls' =>
    rw [e] at h
    intro Hd1 H1 E1 s1
    refine Go.imp (P := P) ?_ fun _ _ _ _ _ _ _ q => q
    simp only at h
    cases e2 : g a ρ' ls' with
    | ok b ρ2 ls2 => rw [e2] at h; exact fun Hd' H' E s => h Hd' H' E (s1.trans s)
    | rs x ls2 => rw [e2] at h; exact h
    | no => rw [e2] at h; exact h
  | rs x ls' => rw [e] at h; exact h
  | no => rw [e] at h; exact h
theorem Ru.xBnd {f : M α} {g : α → M β} {P : PostT β} (h : Ru K W (bnd f g) σ H P) :
    Ru K W f σ H fun w B D0 Hd1 _ ρ1 ls1 a => Go K W w B D0 σ Hd1 (g a ρ1 ls1) (P w B D0) := by
  obtain ⟨w, B, D0, Hd, ρ, ls, E, h⟩ := h
  exact ⟨w, B, D0, Hd, ρ, ls, E, h.xBnd⟩
theorem Go.ru {f : M α} {P : PostT α} (E : EOk K w B D0 Hd H σ ρ ls) (h : Go K W w B D0 σ Hd (f ρ ls) (P w B D0)) : Ru K W f σ H P := ⟨w, B, D0, Hd, ρ, ls, E, h⟩
theorem Ru.imp {f : M α} {P P' : PostT α} (h : Ru K W f σ H P) (i : ∀ w B D0 Hd' H' ρ' ls' a, EOk K w B D0 Hd' H' σ ρ' ls' → P w B D0 Hd' H' ρ' ls' a → P' w B D0 Hd' H' ρ' ls' a) : Ru K W f σ H P' := by
  obtain ⟨w, B, D0, Hd, ρ, ls, E, h⟩ := h
  exact ⟨w, B, D0, Hd, ρ, ls, E, h.imp fun Hd' H' ρ' ls' a E' _ q => i _ _ _ _ _ _ _ _ E' q⟩

/-! ### another reading -/
theorem pe_imp {e : Expr} {t t' : TE} (h : PE X e t) (i : ∀ σ H Q, t' σ H Q → t σ H Q) : PE X e t' := ⟨fun pins s σ H Q I q => h.run pins s σ H Q I (i σ H Q q)⟩
theorem pt_imp {e : Expr} {t t' : TT} (h : PT X e t) (i : ∀ σ H Q, t' σ H Q → t σ H Q) : PT X e t' := ⟨fun pins s σ H Q I q => h.run pins s σ H Q I (i σ H Q q)⟩
theorem pw_imp {e : Expr} {t t' : TT} (h : PW X e t) (i : ∀ σ H Q, t' σ H Q → t σ H Q) : PW X e t' := ⟨fun wh pins s σ H Q I q => h.run wh pins s σ H Q I (i σ H Q q)⟩
theorem pa_imp {es : List Expr} {t t' : TA} (h : PA X es t) (i : ∀ σ H Q, t' σ H Q → t σ H Q) : PA X es t' := ⟨fun pos pins s σ H Q I q => h.run pos pins s σ H Q I (i σ H Q q)⟩
theorem ps_imp {st : Stmt} {t t' : TS} (h : PS X st t) (i : ∀ D σ H, t' D σ H → t D σ H) : PS X st t' := ⟨fun pins s σ H D I q => h.run pins s σ H D I (i D σ H q)⟩
theorem pss_imp {st : List Stmt} {t t' : TS} (h : PSs X st t) (i : ∀ D σ H, t' D σ H → t D σ H) : PSs X st t' := ⟨fun pins s σ H D I q => h.run pins s σ H D I (i D σ H q)⟩

/-! ### what is read -/
/-- v is x: a list's items are data -/
def RpS (K : PySem.W.Frag) (Hd H : Hp) (v : V) (x : D) : Prop := match x with
  | .lst ds => ∃ p xs, v = .ref p ∧ H p = some (.lst xs) ∧ RpL K Hd xs ds
  | x => Rp K Hd v x
theorem RpS.of {v : V} {x : D} (s : Sub Hd H) (h : Rp K Hd v x) : RpS K Hd H v x := by
  cases h with
  | lst e r => exact ⟨_, _, rfl, s _ _ e, r⟩
  | non => exact .non
  | bl b => exact .bl b
  | int i => exact .int i
  | str x => exact .str x
  | ref a => exact .ref a
  | tup e r => exact .tup e r
  | lsk e r => exact .lsk e r
  | exn h => exact .exn h
  | dK h a b r => exact .dK h a b r
  | dT h a b r => exact .dT h a b r
theorem RpS.rp {v : V} {x : D} (s : Sub Hd H) (h : RpS K Hd H v x) : Rp K H v x := by
  cases x with
  | lst ds =>
    obtain ⟨p, xs, rfl, e, r⟩ := h
    exact .lst e (r.mono s)
  | non => exact Rp.mono s h
  | bl b => exact Rp.mono s h
  | int i => exact Rp.mono s h
  | str x => exact Rp.mono s h
  | ref a => exact Rp.mono s h
  | tup l => exact Rp.mono s h
  | lsk l => exact Rp.mono s h
  | exn c => exact Rp.mono s h
  | dct ks es => exact Rp.mono s h
theorem RfOk.mono {Hd' : Hp} {v : V} {r : Rf} (s : Sub Hd Hd') (h : RfOk K Hd σ v r) : RfOk K Hd' σ v r := by
  cases r with
  | d x => exact Rp.mono s h
  | sl i => exact h
theorem EOk.xDen (E : EOk K w B D0 Hd H σ ρ ls) {v : V} {r : Rf} {x : D} (h : RfOk K Hd σ v r) (e : den ρ r = some x) : RpS K Hd H v x := by
  cases r with
  | d y => cases e; exact RpS.of E.sub h
  | sl i =>
    have h : σ[i]? = some (some v) := h
    have e : slD ρ[i]? = some x := e
    cases q : ρ[i]? with
    | none => rw [q] at e; cases e
    | some s =>
      rw [q] at e
      cases s with
      | un => cases e
      | dat y =>
        cases e
        obtain ⟨v', h1, h2⟩ := E.dat i _ q
        rw [h] at h1; cases h1
        exact RpS.of E.sub h2
      | own ds =>
        cases e
        obtain ⟨p, xs, h1, h2, h3, _⟩ := E.own i _ q
        rw [h] at h1; cases h1
        exact ⟨p, xs, rfl, h2, h3⟩
/-- a look: nothing changes -/
theorem Go.xLook {r : Rf} {P : Hp → Hp → Rho → LS → D → Prop} (h : Go K W w B D0 σ Hd (look r ρ ls) P) (E : EOk K w B D0 Hd H σ ρ ls) {v : V} (hv : RfOk K Hd σ v r) : ∃ x, RpS K Hd H v x ∧ P Hd H ρ ls x := by
  have h : Go K W w B D0 σ Hd (opt (den ρ r) ρ ls) P := h
  cases e : den ρ r with
  | none => rw [e] at h; exact False.elim h
  | some x => rw [e] at h; exact ⟨x, E.xDen hv e, h Hd H E (Sub.refl _)⟩
theorem Go.xLookB {r : Rf} {g : D → M β} {P : Hp → Hp → Rho → LS → β → Prop} (h : Go K W w B D0 σ Hd (bnd (look r) g ρ ls) P) (E : EOk K w B D0 Hd H σ ρ ls) {v : V} (hv : RfOk K Hd σ v r) :
    ∃ x, RpS K Hd H v x ∧ Go K W w B D0 σ Hd (g x ρ ls) P := h.xBnd.xLook E hv
theorem Go.xGive {r : Rf} {P : Hp → Hp → Rho → LS → D → Prop} (h : Go K W w B D0 σ Hd (give r ρ ls) P) (E : EOk K w B D0 Hd H σ ρ ls) {v : V} (hv : RfOk K Hd σ v r) :
    ∃ x Hd' ρ', Rp K Hd' v x ∧ Sub Hd Hd' ∧ EOk K w B D0 Hd' H σ ρ' ls ∧ P Hd' H ρ' ls x := by
  cases r with
  | d x => exact ⟨x, Hd, ρ, hv, Sub.refl _, E, h Hd H E (Sub.refl _)⟩
  | sl i =>
    have hv : σ[i]? = some (some v) := hv
    have h : Go K W w B D0 σ Hd (giveS i ρ ls ρ[i]?) P := h
    cases q : ρ[i]? with
    | none => rw [q] at h; exact False.elim h
    | some s =>
      rw [q] at h
      cases s with
      | un => exact False.elim h
      | dat y =>
        obtain ⟨v', h1, h2⟩ := E.dat i _ q
        rw [hv] at h1; cases h1
        exact ⟨y, Hd, ρ, h2, Sub.refl _, E, h Hd H E (Sub.refl _)⟩
      | own ds =>
        obtain ⟨p, xs, h1, h2, h3, E', r'⟩ := E.leak q
        rw [hv] at h1; cases h1
        exact ⟨_, _, _, r', .upd h3, E', h _ _ E' (.upd h3)⟩
theorem Go.xOpt {o : Option α} {g : α → M β} {P : Hp → Hp → Rho → LS → β → Prop} (h : Go K W w B D0 σ Hd (bnd (opt o) g ρ ls) P) : ∃ a, o = some a ∧ Go K W w B D0 σ Hd (g a ρ ls) P := by
  cases o with
  | none => exact False.elim h
  | some a => exact ⟨a, rfl, h⟩
theorem Go.xOpt1 {o : Option α} {P : Hp → Hp → Rho → LS → α → Prop} (h : Go K W w B D0 σ Hd (opt o ρ ls) P) : ∃ a, o = some a ∧ ∀ Hd' H', EOk K w B D0 Hd' H' σ ρ ls → Sub Hd Hd' → P Hd' H' ρ ls a := by
  cases o with
  | none => exact False.elim h
  | some a => exact ⟨a, rfl, h⟩

/-! ### from one reading to the other -/
theorem UV.of {f : M Rf} {Q : VK} (h : UV K W (bnd f give) σ H Q) : U K W f σ H Q := by
  refine Ru.imp h.xBnd fun w B D0 Hd' H' ρ' ls' r E q v hv => ?_
  obtain ⟨x, Hd2, ρ2, h1, h2, E2, q⟩ := q.xGive E hv
  exact q v h1
theorem u_give {e : Expr} {f : M Rf} (h : PE X e (U K W f)) : PE X e (UV K W (bnd f give)) := pe_imp h fun _ _ _ q => UV.of q
/-- data as what is given -/
def dt (f : M D) : M Rf := bnd f fun d => ret (.d d)
theorem u_dt {e : Expr} {f : M D} (h : PE X e (UV K W f)) : PE X e (U K W (dt f)) := pe_imp h fun σ H Q q => by
  refine Ru.imp q.xBnd fun w B D0 Hd' H' ρ' ls' d E q v hv => ?_
  exact q Hd' H' E (Sub.refl _) v hv
/-- a list that is made, as data -/
def ls1 (f : M (List D)) : M D := bnd f fun l => ret (.lst l)
theorem u_ls {e : Expr} {f : M (List D)} (h : PE X e (UN K W f)) : PE X e (UV K W (ls1 f)) := pe_imp h fun σ H Q q => by
  refine Ru.imp q.xBnd fun w B D0 Hd' H' ρ' ls' ds E q p xs F r => ?_
  have sd : Sub Hd' (upd Hd' p (.lst xs)) := .upd F.nd
  exact q _ H' (E.freeze F) sd (.ref p) (.lst upd_same (r.mono sd))

/-! ### names, constants -/
def namS (i : Nat) (ρ : Rho) (ls : LS) : Option Sl → Out Rf
  | some (.dat x) => .ok (.d x) ρ ls
  | some (.own _) => .ok (.sl i) ρ ls
  | _ => .no
def nam (i : Nat) : M Rf := fun ρ ls => namS i ρ ls ρ[i]?
theorem u_nam {e : Expr} (i : Nat) (h : PE X e (tVar i)) : PE X e (U K W (nam i)) := pe_imp h fun σ H Q q => by
  obtain ⟨w, B, D0, Hd, ρ, ls, E, q⟩ := q
  have q : Go K W w B D0 σ Hd (namS i ρ ls ρ[i]?) fun Hd' H' _ _ r => ∀ v, RfOk K Hd' σ v r → Q v H' := q
  cases e : ρ[i]? with
  | none => rw [e] at q; exact False.elim q
  | some s =>
    rw [e] at q
    cases s with
    | un => exact False.elim q
    | dat x =>
      obtain ⟨v, h1, h2⟩ := E.dat i _ e
      exact ⟨v, h1, q Hd H E (Sub.refl _) v h2⟩
    | own ds =>
      obtain ⟨p, xs, h1, _⟩ := E.own i _ e
      exact ⟨.ref p, h1, q Hd H E (Sub.refl _) _ h1⟩
theorem u_con {e : Expr} {v : V} {d : D} (h : PE X e (tC v)) (r : ∀ H, Rp K H v d) : PE X e (UV K W (ret d)) := pe_imp h fun σ H Q q => by
  obtain ⟨w, B, D0, Hd, ρ, ls, E, q⟩ := q
  exact q Hd H E (Sub.refl _) v (r _)
theorem u_int {i : Int} {j pos} : PE X (.Constant (.int i) j pos) (UV K W (ret (.int i))) := u_con pe_int fun _ => .int i
theorem u_str {x : Str} {j pos} : PE X (.Constant (.str x) j pos) (UV K W (ret (.str x))) := u_con pe_str fun _ => .str x
theorem u_bl {b : Bool} {j pos} : PE X (.Constant (.bool b) j pos) (UV K W (ret (.bl b))) := u_con pe_bl fun _ => .bl b
theorem u_non {j pos} : PE X (.Constant .none j pos) (UV K W (ret .non)) := u_con pe_non fun _ => .non

/-! ### operations -/
/-- what a two-place operation's reading asks, in data -/
structure OpD (K : PySem.W.Frag) (r : R2) (op : D → D → Option D) : Prop where
  run : ∀ {w : Wd} {B D0 Hd H : Hp} {σ : L2.St} {ρ : Rho} {ls : LS} {v u : V} {x y z : D}, EOk K w B D0 Hd H σ ρ ls → RpS K Hd H v x → RpS K Hd H u y → op x y = some z →
  ∀ Q : VK, (∀ t Hd' H', EOk K w B D0 Hd' H' σ ρ ls → Sub Hd Hd' → Rp K Hd' t z → Q t H') → r v u H Q
structure OpN (K : PySem.W.Frag) (r : R2) (op : D → D → Option (List D)) : Prop where
  run : ∀ {w : Wd} {B D0 Hd H : Hp} {σ : L2.St} {ρ : Rho} {ls : LS} {v u : V} {x y : D} {z : List D}, EOk K w B D0 Hd H σ ρ ls → RpS K Hd H v x → RpS K Hd H u y → op x y = some z →
  ∀ Q : VK, (∀ p xs H', EOk K w B D0 Hd H' σ ρ ls → Fresh w B Hd H' σ ρ p xs → RpL K Hd xs z → Q (.ref p) H') → r v u H Q
/-- two operands, then an operation on what they are -/
def bin {α : Type} (op : D → D → Option α) (f g : M Rf) : M α := bnd f fun r => bnd g fun s => bnd (look r) fun x => bnd (look s) fun y => opt (op x y)
variable {a b : Expr} {ta tb : TE} {pos : Pos} {f g : M Rf} {r : R2}
theorem read_bin {op : D → D → Option D} (h : OpD K r op) {Q : VK} (q : UV K W (bin op f g) σ H Q) : tOp r (U K W f) (U K W g) σ H Q := by
  refine Ru.imp q.xBnd fun w B D0 Hd1 H1 ρ1 ls1 r1 E1 q1 v hv => ?_
  refine Go.ru (P := fun _ _ _ Hd' H' _ _ r => ∀ v_1, RfOk K Hd' σ v_1 r → _) E1 ?_
  refine q1.xBnd.imp fun Hd2 H2 ρ2 ls2 r2 E2 s2 q2 u hu => ?_
  obtain ⟨x, hx, q3⟩ := q2.xLookB E2 (hv.mono s2)
  obtain ⟨y, hy, q4⟩ := q3.xLookB E2 hu
  obtain ⟨z, hz, q5⟩ := q4.xOpt1
  exact h.run E2 hx hy hz Q fun t Hd' H' E' s' r' => q5 Hd' H' E' s' t r'
theorem read_binN {op : D → D → Option (List D)} (h : OpN K r op) {Q : VK} (q : UN K W (bin op f g) σ H Q) : tOp r (U K W f) (U K W g) σ H Q := by
  refine Ru.imp q.xBnd fun w B D0 Hd1 H1 ρ1 ls1 r1 E1 q1 v hv => ?_
  refine Go.ru (P := fun _ _ _ Hd' H' _ _ r => ∀ v_1, RfOk K Hd' σ v_1 r → _) E1 ?_
  refine q1.xBnd.imp fun Hd2 H2 ρ2 ls2 r2 E2 s2 q2 u hu => ?_
  obtain ⟨x, hx, q3⟩ := q2.xLookB E2 (hv.mono s2)
  obtain ⟨y, hy, q4⟩ := q3.xLookB E2 hu
  obtain ⟨z, hz, q5⟩ := q4.xOpt1
  exact h.run E2 hx hy hz Q fun p xs H' E' F r' => q5 Hd2 H' E' (Sub.refl _) p xs F r'
theorem u_op {o : Operator} {op : D → D → Option D} (ho : OpR X (binaryOp o) r) (h : OpD K r op) (ha : PE X a (U K W f)) (hb : PE X b (U K W g)) : PE X (.BinOp a o b pos) (UV K W (bin op f g)) := pe_imp (pe_op ho ha hb) fun _ _ _ q => read_bin h q
theorem u_opN {o : Operator} {op : D → D → Option (List D)} (ho : OpR X (binaryOp o) r) (h : OpN K r op) (ha : PE X a (U K W f)) (hb : PE X b (U K W g)) : PE X (.BinOp a o b pos) (UN K W (bin op f g)) := pe_imp (pe_op ho ha hb) fun _ _ _ q => read_binN h q
theorem u_cmp {o : CmpOp} {op : D → D → Option D} (ho : OpR X (compareOp o) r) (h : OpD K r op) (ha : PE X a (U K W f)) (hb : PE X b (U K W g)) (hm : behindInMarks o b = false) : PE X (.Compare a [o] [b] pos) (UV K W (bin op f g)) := pe_imp (pe_cmpR ho ha hb hm) fun _ _ _ q => read_bin h q
/-- a bool that data is -/
def D.bool? : D → Option Bool
  | .bl b => some b
  | _ => none
def isB (d : D) : M Bool := opt d.bool?
theorem Go.xB {d : D} {P : Hp → Hp → Rho → LS → Bool → Prop} {v : V} (h : Go K W w B D0 σ Hd (isB d ρ ls) P) (E : EOk K w B D0 Hd H σ ρ ls) (r : Rp K Hd v d) : ∃ b, v = .bl b ∧ P Hd H ρ ls b := by
  obtain ⟨b, e, h⟩ := Go.xOpt1 h
  cases r with
  | bl c => cases e; exact ⟨_, rfl, h _ _ E (Sub.refl _)⟩
  | _ => cases e
theorem read_tst {f : M D} {t : TE} (ht : ∀ σ H Q, UV K W f σ H Q → t σ H Q) {Q : Bool → Hp → Prop} (q : UT K W (bnd f isB) σ H Q) : tTest t σ H Q := by
  refine ht _ _ _ (Ru.imp q.xBnd fun w B D0 Hd1 H1 ρ1 ls1 d E1 q1 v hv => ?_)
  exact q1.xB E1 hv
theorem ut_cmp {o : CmpOp} {op : D → D → Option D} (ho : OpR X (compareOp o) r) (h : OpD K r op) (ha : PE X a (U K W f)) (hb : PE X b (U K W g)) (hm : behindInMarks o b = false) : PT X (.Compare a [o] [b] pos) (UT K W (bnd (bin op f g) isB)) :=
  pt_imp (pt_cmpR ho ha hb hm) fun _ _ _ q => read_tst (fun _ _ _ q => read_bin h q) q
theorem ut_val {e : Expr} {f : M D} (h : PE X e (UV K W f)) (he : ∀ whole, isTrue e X.env whole = (do let v ← whole; standAt e.pos; holding [v] (truthy v)) := by intro _; rfl) : PT X e (UT K W (bnd f isB)) :=
  pt_imp (pt_val h he) fun _ _ _ q => read_tst (fun _ _ _ q => q) q
variable {p q : M Bool} {rest : List Expr}
def andM (p q : M Bool) : M Bool := bnd p fun c => if c = true then q else ret false
def orM (p q : M Bool) : M Bool := bnd p fun c => if c = true then ret true else q
def notM (p : M Bool) : M Bool := bnd p fun c => ret (!c)
theorem ut_and1 (h : PT X a (UT K W p)) : PW X (.BoolOp .And [a] pos) (UT K W p) := pw_and1 h
theorem ut_or1 (h : PT X a (UT K W p)) : PW X (.BoolOp .Or [a] pos) (UT K W p) := pw_or1 h
theorem ut_and (ha : PT X a (UT K W p)) (hb : PW X (.BoolOp .And (b :: rest) pos) (UT K W q)) : PW X (.BoolOp .And (a :: b :: rest) pos) (UT K W (andM p q)) := pw_imp (pw_and ha hb) fun σ H Q h => by
  refine Ru.imp h.xBnd fun w B D0 Hd1 H1 ρ1 ls1 c E1 q1 => ?_
  cases c with
  | true => exact Go.ru (P := fun _ _ _ _ H' _ _ b => Q b H') E1 q1
  | false => exact q1 _ _ E1 (Sub.refl _)
theorem ut_or (ha : PT X a (UT K W p)) (hb : PW X (.BoolOp .Or (b :: rest) pos) (UT K W q)) : PW X (.BoolOp .Or (a :: b :: rest) pos) (UT K W (orM p q)) := pw_imp (pw_or ha hb) fun σ H Q h => by
  refine Ru.imp h.xBnd fun w B D0 Hd1 H1 ρ1 ls1 c E1 q1 => ?_
  cases c with
  | false => exact Go.ru (P := fun _ _ _ _ H' _ _ b => Q b H') E1 q1
  | true => exact q1 _ _ E1 (Sub.refl _)
theorem ut_not (ha : PT X a (UT K W p)) : PT X (.UnaryOp .Not a pos) (UT K W (notM p)) := pt_imp (pt_not ha) fun σ H Q h => by
  refine Ru.imp h.xBnd fun w B D0 Hd1 H1 ρ1 ls1 c E1 q1 => ?_
  exact q1 _ _ E1 (Sub.refl _)
variable {fv gv : M D}
def andV (f g : M D) : M D := bnd f fun d => bnd (isB d) fun c => if c = true then g else ret (.bl false)
def orV (f g : M D) : M D := bnd f fun d => bnd (isB d) fun c => if c = true then ret (.bl true) else g
def notV (f : M D) : M D := bnd f fun d => bnd (isB d) fun c => ret (.bl (!c))
theorem u_one {op} (h : PE X a (UV K W fv)) : PE X (.BoolOp op [a] pos) (UV K W fv) := pe_one h
theorem u_and (ha : PE X a (UV K W fv)) (hb : PE X (.BoolOp .And (b :: rest) pos) (UV K W gv)) : PE X (.BoolOp .And (a :: b :: rest) pos) (UV K W (andV fv gv)) := pe_imp (pe_and ha hb) fun σ H Q h => by
  refine Ru.imp h.xBnd fun w B D0 Hd1 H1 ρ1 ls1 d E1 q1 v hv => ?_
  obtain ⟨c, rfl, q2⟩ := q1.xBnd.xB E1 hv
  refine ⟨c, rfl, ?_⟩
  cases c with
  | true => exact Go.ru (P := fun _ _ _ Hd' H' _ _ d => ∀ v, Rp K Hd' v d → Q v H') E1 q2
  | false => exact q2 _ _ E1 (Sub.refl _) _ (.bl false)
theorem u_or (ha : PE X a (UV K W fv)) (hb : PE X (.BoolOp .Or (b :: rest) pos) (UV K W gv)) : PE X (.BoolOp .Or (a :: b :: rest) pos) (UV K W (orV fv gv)) := pe_imp (pe_or ha hb) fun σ H Q h => by
  refine Ru.imp h.xBnd fun w B D0 Hd1 H1 ρ1 ls1 d E1 q1 v hv => ?_
  obtain ⟨c, rfl, q2⟩ := q1.xBnd.xB E1 hv
  refine ⟨c, rfl, ?_⟩
  cases c with
  | false => exact Go.ru (P := fun _ _ _ Hd' H' _ _ d => ∀ v, Rp K Hd' v d → Q v H') E1 q2
  | true => exact q2 _ _ E1 (Sub.refl _) _ (.bl true)
theorem u_not (ha : PE X a (UV K W fv)) : PE X (.UnaryOp .Not a pos) (UV K W (notV fv)) := pe_imp (pe_not ha) fun σ H Q h => by
  refine Ru.imp h.xBnd fun w B D0 Hd1 H1 ρ1 ls1 d E1 q1 v hv => ?_
  obtain ⟨c, rfl, q2⟩ := q1.xBnd.xB E1 hv
  exact ⟨c, rfl, q2 _ _ E1 (Sub.refl _) _ (.bl _)⟩
/-- a if t else b -/
def ifM {α : Type} (p : M Bool) (f g : M α) : M α := bnd p fun c => if c = true then f else g
theorem u_if {c : Expr} (hc : PT X c (UT K W p)) (ha : PE X a (UV K W fv)) (hb : PE X b (UV K W gv)) : PE X (.IfExp c a b pos) (UV K W (ifM p fv gv)) := pe_imp (pe_ifExp hc ha hb) fun σ H Q h => by
  refine Ru.imp h.xBnd fun w B D0 Hd1 H1 ρ1 ls1 c E1 q1 => ?_
  cases c with
  | true => exact Go.ru (P := fun _ _ _ Hd' H' _ _ d => ∀ v, Rp K Hd' v d → Q v H') E1 q1
  | false => exact Go.ru (P := fun _ _ _ Hd' H' _ _ d => ∀ v, Rp K Hd' v d → Q v H') E1 q1
/-! ### arguments, displays -/
variable {ga : M (List D)} {es : List Expr}
def consM (f : M D) (g : M (List D)) : M (List D) := bnd f fun d => bnd g fun ds => ret (d :: ds)
theorem ua_nil : PA X [] (UA K W (ret [])) := pa_imp pa_nil fun σ H Q h => by
  obtain ⟨w, B, D0, Hd, ρ, ls, E, q⟩ := h
  exact q Hd H E (Sub.refl _) [] .nil
theorem ua_cons (ha : PE X a (UV K W fv)) (hr : PA X es (UA K W ga)) (hs : starEach (a :: es) X.env = (false, eval a X.env) :: starEach es X.env := by rfl) : PA X (a :: es) (UA K W (consM fv ga)) := pa_imp (pa_cons ha hr hs) fun σ H Q h => by
  refine Ru.imp h.xBnd fun w B D0 Hd1 H1 ρ1 ls1 d E1 q1 v hv => ?_
  refine Go.ru (P := fun _ _ _ Hd' H' _ _ ds => ∀ vs, RpL K Hd' vs ds → Q (v :: vs) H') E1 ?_
  exact q1.xBnd.imp fun Hd2 H2 ρ2 ls2 ds E2 s2 q2 vs hvs => q2 _ _ E2 (Sub.refl _) _ (.cons (hv.mono s2) hvs)
/-- a bound on a list's length that is asked everywhere -/
def top : Nat := 100000
theorem top_le {n : Nat} (h : n ≤ top) : n ≤ sizeLine := Nat.le_trans h (by decide)
theorem top_lt {n : Nat} (h : n < top) : n < sizeLine := Nat.lt_of_lt_of_le h (by decide)
def few {α : Type} (l : List α) : Option (List α) := if l.length ≤ top then some l else none
def tupM (g : M (List D)) : M D := bnd g fun ds => bnd (opt (few ds)) fun ds => ret (.tup ds)
def lstM (g : M (List D)) : M (List D) := bnd g fun ds => opt (few ds)
theorem few_some {α : Type} {l l' : List α} (h : few l = some l') : l' = l ∧ l.length ≤ top := by
  unfold few at h
  split at h
  · cases h; exact ⟨rfl, by assumption⟩
  · cases h
theorem u_tup {k : Nat} (h : PA X es (UA K W ga)) : PE X (.Tuple es k pos) (UV K W (tupM ga)) := pe_imp (pe_tupK h) fun σ H Q h => by
  refine Ru.imp h.xBnd fun w B D0 Hd1 H1 ρ1 ls1 ds E1 q1 vs hv => ?_
  obtain ⟨l, e, q2⟩ := q1.xOpt
  obtain ⟨rfl, hl⟩ := few_some e
  refine ⟨by rw [hv.length]; exact top_le hl, fun p o hp h1 h2 => ?_⟩
  have sd : Sub Hd1 (upd Hd1 p (.frz o (.tup vs))) := .upd (E1.nd_new hp)
  exact q2 _ _ (E1.newDat hp NT.tup) sd _ (.tup ⟨o, upd_same, h1, h2⟩ (hv.mono sd))
theorem u_lst (h : PA X es (UA K W ga)) : PE X (.List es pos) (UN K W (lstM ga)) := pe_imp (pe_lst h) fun σ H Q h => by
  refine Ru.imp h.xBnd fun w B D0 Hd1 H1 ρ1 ls1 ds E1 q1 vs hv => ?_
  obtain ⟨l, e, q2⟩ := q1.xOpt1
  obtain ⟨rfl, hl⟩ := few_some e
  refine ⟨by rw [hv.length]; exact top_le hl, fun p hp => ?_⟩
  obtain ⟨E2, F⟩ := E1.newList (xs := vs) hp
  exact q2 _ _ E2 (Sub.refl _) p vs F hv
end
end Pd

set_option Elab.async false
set_option linter.all false
set_option maxRecDepth 100000
set_option maxHeartbeats 4000000
/-! Pd2: operations on data. -/
namespace Pd
open PySem PySem.Spec PyProof.Rows L2

section
variable {X : Cx} {K : PySem.W.Frag} {W : WX} {w : Wd} {B D0 Hd H : Hp} {σ : L2.St} {ρ : Rho} {ls : LS} {v u : V} {x y z : D}

theorem noneE {α : Type} {z : α} {P : Prop} (h : (none : Option α) = some z) : P := nomatch h
theorem RpS.int_inv {i : Int} (h : RpS K Hd H v (.int i)) : v = .int i := by cases (show Rp K Hd v (.int i) from h); rfl
theorem RpS.bl_inv {b : Bool} (h : RpS K Hd H v (.bl b)) : v = .bl b := by cases (show Rp K Hd v (.bl b) from h); rfl
theorem RpS.str_inv {s : Str} (h : RpS K Hd H v (.str s)) : v = .str s := by cases (show Rp K Hd v (.str s) from h); rfl
theorem RpS.non_inv (h : RpS K Hd H v .non) : v = .non := by cases (show Rp K Hd v .non from h); rfl
theorem RpS.ref_inv {a : Addr} (h : RpS K Hd H v (.ref a)) : v = .ref a := by cases (show Rp K Hd v (.ref a) from h); rfl
theorem RpS.tup_inv {ds : List D} (h : RpS K Hd H v (.tup ds)) : ∃ a xs, v = .ref a ∧ TupK Hd a xs ∧ RpL K Hd xs ds := by
  cases (show Rp K Hd v (.tup ds) from h) with
  | tup e r => exact ⟨_, _, rfl, e, r⟩
theorem RpS.lst_inv {ds : List D} (h : RpS K Hd H v (.lst ds)) : ∃ p xs, v = .ref p ∧ H p = some (.lst xs) ∧ RpL K Hd xs ds := h
theorem RpS.lsk_inv {ds : List D} (h : RpS K Hd H v (.lsk ds)) : ∃ a xs, v = .ref a ∧ SqL K Hd a xs ∧ RpL K Hd xs ds := by
  cases (show Rp K Hd v (.lsk ds) from h) with
  | lsk e r => exact ⟨_, _, rfl, e, r⟩

/-! ### ints -/
def intOp (c : Int → Int → Bool) (g : Int → Int → D) : D → D → Option D
  | .int i, .int j => if c i j then some (g i j) else none
  | _, _ => none
theorem opd_int {C : Int → Int → Prop} {c : Int → Int → Bool} {g : Int → Int → V} {gd : Int → Int → D} (hc : ∀ i j, c i j = true → C i j) (hg : ∀ i j H, Rp K H (g i j) (gd i j)) : OpD K (rI C g) (intOp c gd) := by
  refine ⟨?_⟩
  intro w B D0 Hd H σ ρ ls v u x y z E hx hy e Q q
  cases x <;> cases y <;> try (exact noneE e)
  rename_i i j
  cases hx.int_inv; cases hy.int_inv
  have e : (if c i j then some (gd i j) else none) = some z := e
  split at e
  · rename_i hcc
    cases e
    exact ⟨i, j, rfl, rfl, hc _ _ hcc, q _ Hd H E (Sub.refl _) (hg _ _ _)⟩
  · cases e
theorem opd_int0 {g : Int → Int → V} {gd : Int → Int → D} (hg : ∀ i j H, Rp K H (g i j) (gd i j)) : OpD K (rI0 g) (intOp (fun _ _ => true) gd) := by
  refine ⟨?_⟩
  intro w B D0 Hd H σ ρ ls v u x y z E hx hy e Q q
  cases x <;> cases y <;> try (exact noneE e)
  rename_i i j
  cases hx.int_inv; cases hy.int_inv
  have e : some (gd i j) = some z := e
  cases e
  exact ⟨i, j, rfl, rfl, q _ Hd H E (Sub.refl _) (hg _ _ _)⟩
theorem OpD.or {r r' : R2} {op op' : D → D → Option D} (h : OpD K r op) (h' : OpD K r' op') : OpD K (fun x y H Q => r x y H Q ∨ r' x y H Q) (fun x y => (op x y).or (op' x y)) := by
  refine ⟨?_⟩
  intro w B D0 Hd H σ ρ ls v u x y z E hx hy e Q q
  have e : (op x y).or (op' x y) = some z := e
  cases e1 : op x y with
  | some z1 =>
    rw [e1] at e
    have e : some z1 = some z := e
    cases e
    exact .inl (h.run E hx hy e1 Q q)
  | none =>
    rw [e1] at e
    exact .inr (h'.run E hx hy e Q q)
theorem OpD.imp {r r' : R2} {op : D → D → Option D} (h : OpD K r op) (i : ∀ x y H Q, r x y H Q → r' x y H Q) : OpD K r' op := by
  refine ⟨?_⟩
  intro w B D0 Hd H σ ρ ls v u x y z E hx hy e Q q
  exact i _ _ _ _ (h.run E hx hy e Q q)
theorem OpD.cong {r : R2} {op op' : D → D → Option D} (h : OpD K r op) (i : ∀ x y, op' x y = op x y) : OpD K r op' := by
  refine ⟨?_⟩
  intro w B D0 Hd H σ ρ ls v u x y z E hx hy e Q q
  exact h.run E hx hy (by rw [← i]; exact e) Q q

def subD : D → D → Option D := intOp (fun _ _ => true) fun i j => .int (i - j)
def modD : D → D → Option D := intOp (fun _ j => decide (0 < j)) fun i j => .int (i % j)
def fdivD : D → D → Option D := intOp (fun _ j => decide (0 < j) && decide (j < 1073741824)) fun i j => .int (i / j)
def mulI : D → D → Option D := intOp (fun i j => (decide (-(2 ^ 64) < i) && decide (i < 2 ^ 64)) || (decide (-(2 ^ 64) < j) && decide (j < 2 ^ 64))) fun i j => .int (i * j)
def ltD : D → D → Option D := intOp (fun _ _ => true) fun i j => .bl (decide (i < j))
def leD : D → D → Option D := intOp (fun _ _ => true) fun i j => .bl (decide (i ≤ j))
def gtD : D → D → Option D := intOp (fun _ _ => true) fun i j => .bl (decide (j < i))
def geD : D → D → Option D := intOp (fun _ _ => true) fun i j => .bl (decide (j ≤ i))
theorem od_sub : OpD K (rI0 fun i j => .int (i - j)) subD := opd_int0 fun _ _ _ => .int _
theorem od_mod : OpD K (rI (fun _ j => 0 < j) fun i j => .int (i % j)) modD := opd_int (fun _ _ h => of_decide_eq_true h) fun _ _ _ => .int _
theorem od_fdiv : OpD K (rI CDiv fun i j => .int (i / j)) fdivD := opd_int (fun i j h => by
  rw [Bool.and_eq_true] at h
  exact ⟨of_decide_eq_true h.1, of_decide_eq_true h.2⟩) fun _ _ _ => .int _
theorem od_mulI : OpD K (rI CMul fun i j => .int (i * j)) mulI := opd_int (fun i j h => by
  rw [Bool.or_eq_true, Bool.and_eq_true, Bool.and_eq_true] at h
  rcases h with h | h
  · exact .inl ⟨of_decide_eq_true h.1, of_decide_eq_true h.2⟩
  · exact .inr ⟨of_decide_eq_true h.1, of_decide_eq_true h.2⟩) fun _ _ _ => .int _
theorem od_lt : OpD K (rI0 fun i j => .bl (decide (i < j))) ltD := opd_int0 fun _ _ _ => .bl _
theorem od_le : OpD K (rI0 fun i j => .bl (decide (i ≤ j))) leD := opd_int0 fun _ _ _ => .bl _
theorem od_gt : OpD K (rI0 fun i j => .bl (decide (j < i))) gtD := opd_int0 fun _ _ _ => .bl _
theorem od_ge : OpD K (rI0 fun i j => .bl (decide (j ≤ i))) geD := opd_int0 fun _ _ _ => .bl _

/-! ### plus -/
def addT : D → D → Option D
  | .tup a, .tup b => if a.length + b.length ≤ top then some (.tup (a ++ b)) else none
  | _, _ => none
def addL : D → D → Option (List D)
  | .lst a, .lst b => if a.length + b.length ≤ top then some (a ++ b) else none
  | _, _ => none
def addS : D → D → Option D
  | .str a, .str b => if a.length + b.length ≤ top then some (.str (a ++ b)) else none
  | _, _ => none
def addI : D → D → Option D := intOp (fun _ _ => true) fun i j => .int (i + j)
theorem od_addI : OpD K (rI0 fun i j => .int (i + j)) addI := opd_int0 fun _ _ _ => .int _
theorem od_addS : OpD K (fun x y H Q => ∃ i j, x = V.str i ∧ y = V.str j ∧ i.length + j.length ≤ sizeLine ∧ Q (.str (i ++ j)) H) addS := by
  refine ⟨?_⟩
  intro w B D0 Hd H σ ρ ls v u x y z E hx hy e Q q
  cases x <;> cases y <;> try (exact noneE e)
  rename_i i j
  cases hx.str_inv; cases hy.str_inv
  have e : (if i.length + j.length ≤ top then some (D.str (i ++ j)) else none) = some z := e
  split at e
  · cases e
    exact ⟨i, j, rfl, rfl, top_le (by assumption), q _ Hd H E (Sub.refl _) (.str _)⟩
  · cases e
theorem od_addT : OpD K (rCatK K) addT := by
  refine ⟨?_⟩
  intro w B D0 Hd H σ ρ ls v u x y z E hx hy e Q q
  cases x <;> cases y <;> try (exact noneE e)
  rename_i da db
  obtain ⟨a, xs, rfl, ha, ra⟩ := hx.tup_inv
  obtain ⟨b, ys, rfl, hb, rb⟩ := hy.tup_inv
  have e : (if da.length + db.length ≤ top then some (D.tup (da ++ db)) else none) = some z := e
  split at e
  · rename_i hl
    cases e
    refine ⟨a, b, xs, ys, rfl, rfl, (E.sub.tk ha).sq, (E.sub.tk hb).sq, by rw [ra.length, rb.length]; exact top_le hl, fun e => ?_, fun _ e => ?_, fun _ _ p o hp h1 h2 => ?_⟩
    · subst e
      cases ra
      exact q _ Hd H E (Sub.refl _) (.tup hb rb)
    · subst e
      cases rb
      rw [List.append_nil] at q
      exact q _ Hd H E (Sub.refl _) (.tup ha ra)
    · have sd : Sub Hd (upd Hd p (.frz o (.tup (xs ++ ys)))) := .upd (E.nd_new hp)
      exact q _ _ _ (E.newDat hp NT.tup) sd (.tup ⟨o, upd_same, h1, h2⟩ ((ra.append rb).mono sd))
  · cases e
theorem on_addL : OpN K rCat addL := by
  refine ⟨?_⟩
  intro w B D0 Hd H σ ρ ls v u x y z E hx hy e Q q
  cases x <;> cases y <;> try (exact noneE e)
  rename_i da db
  obtain ⟨a, xs, rfl, ha, ra⟩ := hx.lst_inv
  obtain ⟨b, ys, rfl, hb, rb⟩ := hy.lst_inv
  have e : (if da.length + db.length ≤ top then some (da ++ db) else none) = some z := e
  split at e
  · rename_i hl
    cases e
    refine ⟨a, b, xs, ys, rfl, rfl, ha, hb, by rw [ra.length, rb.length]; exact top_le hl, fun p hp => ?_⟩
    obtain ⟨E2, F⟩ := E.newList (xs := xs ++ ys) hp
    exact q p _ _ E2 F (ra.append rb)
  · cases e
/-- a list-making operation whose list is data at once -/
def asL (op : D → D → Option (List D)) : D → D → Option D := fun x y => (op x y).map .lst
theorem OpN.data {r : R2} {op : D → D → Option (List D)} (h : OpN K r op) : OpD K r (asL op) := by
  refine ⟨?_⟩
  intro w B D0 Hd H σ ρ ls v u x y z E hx hy e Q q
  unfold asL at e
  cases e1 : op x y with
  | none => rw [e1] at e; cases e
  | some l =>
    rw [e1] at e
    have e : some (D.lst l) = some z := e
    cases e
    refine h.run E hx hy e1 Q fun p xs H' E' F r => ?_
    have sd : Sub Hd (upd Hd p (.lst xs)) := .upd F.nd
    exact q _ _ _ (E'.freeze F) sd (.lst upd_same (r.mono sd))
def addD : D → D → Option D := fun x y => (addI x y).or ((addT x y).or ((asL addL x y).or (addS x y)))
theorem od_add : OpD K (fun x y H Q => rI0 (fun i j => .int (i + j)) x y H Q ∨ rCatK K x y H Q ∨ rCat x y H Q ∨ (∃ i j, x = V.str i ∧ y = V.str j ∧ i.length + j.length ≤ sizeLine ∧ Q (.str (i ++ j)) H)) addD :=
  od_addI.or (od_addT.or (on_addL.data.or od_addS))
theorem op_addU : OpR X (binaryOp .Add) (fun x y H Q => rI0 (fun i j => .int (i + j)) x y H Q ∨ rCatK X.K x y H Q ∨ rCat x y H Q ∨ (∃ i j, x = V.str i ∧ y = V.str j ∧ i.length + j.length ≤ sizeLine ∧ Q (.str (i ++ j)) H)) :=
  op_add.or (op_catK.or (op_cat.or op_add_str))

/-! ### times of a list -/
def mulL : D → D → Option (List D)
  | .lst a, .int k => if decide (k ≤ 1000) && decide (a.length ≤ 1000) && decide (0 - 1000 ≤ k) then some (List.replicate k.toNat a).flatten else none
  | _, _ => none
theorem top_eq : top = 100000 := rfl
theorem flat_len {α : Type} (a : List α) (n : Nat) : (List.replicate n a).flatten.length = n * a.length := by
  induction n with
  | zero => simp
  | succ n ih => rw [List.replicate_succ, List.flatten_cons, List.length_append, ih, Nat.succ_mul]; omega
theorem on_mulL : OpN K rRep mulL := by
  refine ⟨?_⟩
  intro w B D0 Hd H σ ρ ls v u x y z E hx hy e Q q
  cases x <;> cases y <;> try (exact noneE e)
  rename_i da k
  obtain ⟨a, xs, rfl, ha, ra⟩ := hx.lst_inv
  cases hy.int_inv
  have e : (if decide (k ≤ 1000) && decide (da.length ≤ 1000) && decide (0 - 1000 ≤ k) then some (List.replicate k.toNat da).flatten else none) = some z := e
  split at e
  · rename_i hl
    cases e
    rw [Bool.and_eq_true, Bool.and_eq_true] at hl
    have h1 := of_decide_eq_true hl.1.1
    have h2 := of_decide_eq_true hl.1.2
    have h3 := of_decide_eq_true hl.2
    have hz : xs.length * k.toNat ≤ sizeLine := by
      rw [ra.length, sizeLine_eq]
      have a1 : da.length * k.toNat ≤ 1000 * 1000 := Nat.mul_le_mul h2 (by omega)
      omega
    refine ⟨a, k, xs, rfl, rfl, ha, by omega, by omega, hz, fun p hp => ?_⟩
    obtain ⟨E2, F⟩ := E.newList (xs := (List.replicate k.toNat xs).flatten) hp
    exact q p _ _ E2 F (ra.flatRep _)
  · cases e

/-! ### equality -/
mutual
def D.py : D → PyData
  | .non => .none
  | .bl b => .bool b
  | .int i => .int i
  | .str s => .str s
  | .tup l => .tuple (D.pyL l)
  | .lst l => .list (D.pyL l)
  | .lsk l => .list (D.pyL l)
  | .ref _ => .none
  | .exn _ => .none
  | .dct _ _ => .none
def D.pyL : List D → List PyData
  | [] => []
  | d :: ds => D.py d :: D.pyL ds
end
mutual
def D.pure : D → Bool
  | .tup l => D.pureL l
  | .lst l => D.pureL l
  | .lsk l => D.pureL l
  | .ref _ => false
  | .exn _ => false
  | .dct _ _ => false
  | _ => true
def D.pureL : List D → Bool
  | [] => true
  | d :: ds => D.pure d && D.pureL ds
end
mutual
theorem Rp.dp : ∀ {v : V} {d : D}, Rp K H v d → d.pure = true → Dp K H v d.py
  | _, _, .non, _ => .non
  | _, _, .bl b, _ => .bl b
  | _, _, .int i, _ => .int i
  | _, _, .str x, _ => .str x
  | _, _, .ref a, h => nomatch h
  | _, _, .exn _, h => nomatch h
  | _, _, .dK _ _ _ _, h => nomatch h
  | _, _, .dT _ _ _ _, h => nomatch h
  | _, _, .tup e r, h => .tup e.sq (RpL.dp r h)
  | _, _, .lst e r, h => .lst (SqL.of e) (RpL.dp r h)
  | _, _, .lsk e r, h => .lst e (RpL.dp r h)
theorem RpL.dp : ∀ {vs : List V} {ds : List D}, RpL K H vs ds → D.pureL ds = true → DpAll K H vs (D.pyL ds)
  | _, _, .nil, _ => .nil
  | _, _, .cons a r, h => by
    have h : (D.pure _ && D.pureL _) = true := h
    rw [Bool.and_eq_true] at h
    exact .cons (Rp.dp a h.1) (RpL.dp r h.2)
end
def D.okq (d : D) : Bool := d.pure && SeqAt.shaped d.py
def eqb (x y : D) : Bool := PyData.eqv x.py y.py
def eqD (x y : D) : Option D := if x.okq && y.okq then some (.bl (eqb x y)) else none
def neD (x y : D) : Option D := if x.okq && y.okq then some (.bl (!eqb x y)) else none
theorem okq_of {x y : D} (h : (x.okq && y.okq) = true) : (x.pure = true ∧ SeqAt.shaped x.py = true) ∧ (y.pure = true ∧ SeqAt.shaped y.py = true) := by
  unfold D.okq at h
  rw [Bool.and_eq_true, Bool.and_eq_true, Bool.and_eq_true] at h
  exact h
theorem od_eq : OpD K (rEqD K) eqD := by
  refine ⟨?_⟩
  intro w B D0 Hd H σ ρ ls v u x y z E hx hy e Q q
  unfold eqD at e
  split at e
  · rename_i h
    cases e
    obtain ⟨⟨p1, s1⟩, p2, s2⟩ := okq_of h
    exact ⟨_, _, (hx.rp E.sub).dp p1, (hy.rp E.sub).dp p2, s1, s2, q _ Hd H E (Sub.refl _) (.bl _)⟩
  · cases e
theorem od_ne : OpD K (rNeD K) neD := by
  refine ⟨?_⟩
  intro w B D0 Hd H σ ρ ls v u x y z E hx hy e Q q
  unfold neD at e
  split at e
  · rename_i h
    cases e
    obtain ⟨⟨p1, s1⟩, p2, s2⟩ := okq_of h
    exact ⟨_, _, (hx.rp E.sub).dp p1, (hy.rp E.sub).dp p2, s1, s2, q _ Hd H E (Sub.refl _) (.bl _)⟩
  · cases e

/-! ### subscripts -/
def atD : D → D → Option D
  | .tup l, .int i => atI l i
  | .lst l, .int i => atI l i
  | .lsk l, .int i => atI l i
  | _, _ => none
theorem RpL.atI {H : Hp} {xs : List V} {ds : List D} {i : Int} {d : D} (r : RpL K H xs ds) (h : L2.atI ds i = some d) : ∃ v, L2.atI xs i = some v ∧ Rp K H v d := by
  unfold L2.atI at h ⊢
  rw [r.length]
  cases e : ixN ds.length i with
  | none => rw [e] at h; cases h
  | some j =>
    rw [e] at h
    exact r.get h
theorem od_at : OpD K (fun x y H Q => rIxL K x y H Q ∨ rIxT K x y H Q) atD := by
  refine ⟨?_⟩
  intro w B D0 Hd H σ ρ ls v u x y z E hx hy e Q q
  cases x <;> cases y <;> try (exact noneE e)
  · rename_i l i
    obtain ⟨a, xs, rfl, ha, r⟩ := hx.tup_inv
    cases hy.int_inv
    obtain ⟨t, h1, h2⟩ := r.atI e
    exact .inr ⟨a, xs, i, t, rfl, rfl, (E.sub.tk ha).sq, h1, q _ Hd H E (Sub.refl _) h2⟩
  · rename_i l i
    obtain ⟨a, xs, rfl, ha, r⟩ := hx.lst_inv
    cases hy.int_inv
    obtain ⟨t, h1, h2⟩ := r.atI e
    exact .inl ⟨a, xs, i, t, rfl, rfl, SqL.of ha, h1, q _ Hd H E (Sub.refl _) h2⟩
  · rename_i l i
    obtain ⟨a, xs, rfl, ha, r⟩ := hx.lsk_inv
    cases hy.int_inv
    obtain ⟨t, h1, h2⟩ := r.atI e
    exact .inl ⟨a, xs, i, t, rfl, rfl, E.sub.sqL ha, h1, q _ Hd H E (Sub.refl _) h2⟩
variable {a b : Expr} {pos : Pos} {f g : M Rf}
theorem u_at (ha : PE X a (U X.K W f)) (hb : PE X b (U X.K W g)) (hs : PlainIx b) : PE X (.Subscript a b pos) (UV X.K W (bin atD f g)) := pe_imp (pe_ix (ix_list.or ix_tup) ha hb hs) fun _ _ _ q => read_bin od_at q

/-! ### one operand -/
structure One (K : PySem.W.Frag) (r : V → Hp → VK → Prop) (op : D → Option D) : Prop where
  run : ∀ {w : Wd} {B D0 Hd H : Hp} {σ : L2.St} {ρ : Rho} {ls : LS} {v : V} {x z : D}, EOk K w B D0 Hd H σ ρ ls → RpS K Hd H v x → op x = some z →
  ∀ Q : VK, (∀ t Hd' H', EOk K w B D0 Hd' H' σ ρ ls → Sub Hd Hd' → Rp K Hd' t z → Q t H') → r v H Q
structure OneN (K : PySem.W.Frag) (r : V → Hp → VK → Prop) (op : D → Option (List D)) : Prop where
  run : ∀ {w : Wd} {B D0 Hd H : Hp} {σ : L2.St} {ρ : Rho} {ls : LS} {v : V} {x : D} {z : List D}, EOk K w B D0 Hd H σ ρ ls → RpS K Hd H v x → op x = some z →
  ∀ Q : VK, (∀ p xs H', EOk K w B D0 Hd H' σ ρ ls → Fresh w B Hd H' σ ρ p xs → RpL K Hd xs z → Q (.ref p) H') → r v H Q
def uno {α : Type} (op : D → Option α) (f : M Rf) : M α := bnd f fun r => bnd (look r) fun x => opt (op x)
theorem read_uno {r : V → Hp → VK → Prop} {op : D → Option D} (h : One K r op) {Q : VK} (q : UV K W (uno op f) σ H Q) : U K W f σ H (fun v H1 => r v H1 Q) := by
  refine Ru.imp q.xBnd fun w B D0 Hd1 H1 ρ1 ls1 r1 E1 q1 v hv => ?_
  obtain ⟨x, hx, q2⟩ := q1.xLookB E1 hv
  obtain ⟨z, hz, q3⟩ := q2.xOpt1
  exact h.run E1 hx hz Q fun t Hd' H' E' s' r' => q3 Hd' H' E' s' t r'
theorem read_unoN {r : V → Hp → VK → Prop} {op : D → Option (List D)} (h : OneN K r op) {Q : VK} (q : UN K W (uno op f) σ H Q) : U K W f σ H (fun v H1 => r v H1 Q) := by
  refine Ru.imp q.xBnd fun w B D0 Hd1 H1 ρ1 ls1 r1 E1 q1 v hv => ?_
  obtain ⟨x, hx, q2⟩ := q1.xLookB E1 hv
  obtain ⟨z, hz, q3⟩ := q2.xOpt1
  exact h.run E1 hx hz Q fun p xs H' E' F r' => q3 Hd1 H' E' (Sub.refl _) p xs F r'
def negD : D → Option D
  | .int i => some (.int (-i))
  | _ => none
theorem one_neg : One K (rU fun i => .int (-i)) negD := by
  refine ⟨?_⟩
  intro w B D0 Hd H σ ρ ls v x z E hx e Q q
  cases x <;> try (exact noneE e)
  cases hx.int_inv
  cases e
  exact ⟨_, rfl, q _ Hd H E (Sub.refl _) (.int _)⟩
theorem u_neg (ha : PE X a (U K W f)) : PE X (.UnaryOp .USub a pos) (UV K W (uno negD f)) := pe_imp (pe_un un_neg ha) fun _ _ _ q => read_uno one_neg q
variable {xn : Str} {p : Pos} {id T : String} {r : List V → Hp → VK → Prop}
theorem u_callB {op : D → Option D} (hc : CallR X (.builtin id) r) (h : One K (fun v => r [v]) op) (hm : X.mg xn = none) (hv : bootBuiltins xn = some (.builtin id)) (ha : PE X a (U K W f)) (hg : Gl X xn := by rfl) (hn : xn ≠ "__name__" := by decide) (hdb : (xn == ("__debug__" : Str)) = false := by decide)
    (he : starEach [a] X.env = (false, eval a X.env) :: starEach [] X.env := by rfl) (hpl : (backTo pos (starEach [] X.env)).any (·.1) = false := by rfl) : PE X (.Call (.Name xn p) [a] [] pos) (UV K W (uno op f)) :=
  pe_imp (pe_callB hc hg hm hv (pa_cons ha pa_nil he) hn hdb he hpl) fun _ _ _ q => read_uno h q
theorem u_callT {op : D → Option D} (hc : CallR X (.type T) r) (h : One K (fun v => r [v]) op) (hm : X.mg xn = none) (hv : bootBuiltins xn = some (.type T)) (ha : PE X a (U K W f)) (hg : Gl X xn := by rfl) (hn : xn ≠ "__name__" := by decide) (hdb : (xn == ("__debug__" : Str)) = false := by decide)
    (he : starEach [a] X.env = (false, eval a X.env) :: starEach [] X.env := by rfl) (hpl : (backTo pos (starEach [] X.env)).any (·.1) = false := by rfl) : PE X (.Call (.Name xn p) [a] [] pos) (UV K W (uno op f)) :=
  pe_imp (pe_callTy hc hg hm hv (pa_cons ha pa_nil he) hn hdb he hpl) fun _ _ _ q => read_uno h q
theorem u_callTN {op : D → Option (List D)} (hc : CallR X (.type T) r) (h : OneN K (fun v => r [v]) op) (hm : X.mg xn = none) (hv : bootBuiltins xn = some (.type T)) (ha : PE X a (U K W f)) (hg : Gl X xn := by rfl) (hn : xn ≠ "__name__" := by decide) (hdb : (xn == ("__debug__" : Str)) = false := by decide)
    (he : starEach [a] X.env = (false, eval a X.env) :: starEach [] X.env := by rfl) (hpl : (backTo pos (starEach [] X.env)).any (·.1) = false := by rfl) : PE X (.Call (.Name xn p) [a] [] pos) (UN K W (uno op f)) :=
  pe_imp (pe_callTy hc hg hm hv (pa_cons ha pa_nil he) hn hdb he hpl) fun _ _ _ q => read_unoN h q
def lenD : D → Option D
  | .tup l => some (.int l.length)
  | .lst l => some (.int l.length)
  | .lsk l => some (.int l.length)
  | _ => none
theorem one_len : One K (fun v H Q => ∃ p ys, [v] = [V.ref p] ∧ (SqL K H p ys ∨ SqT K H p ys) ∧ Q (.int ys.length) H) lenD := by
  refine ⟨?_⟩
  intro w B D0 Hd H σ ρ ls v x z E hx e Q q
  cases x <;> try (exact noneE e)
  · cases e
    obtain ⟨a, xs, rfl, ha, r⟩ := hx.tup_inv
    exact ⟨a, xs, rfl, .inr ((E.sub.tk ha).sq), by rw [r.length]; exact q _ Hd H E (Sub.refl _) (.int _)⟩
  · cases e
    obtain ⟨a, xs, rfl, ha, r⟩ := hx.lst_inv
    exact ⟨a, xs, rfl, .inl (SqL.of ha), by rw [r.length]; exact q _ Hd H E (Sub.refl _) (.int _)⟩
  · cases e
    obtain ⟨a, xs, rfl, ha, r⟩ := hx.lsk_inv
    exact ⟨a, xs, rfl, .inl (E.sub.sqL ha), by rw [r.length]; exact q _ Hd H E (Sub.refl _) (.int _)⟩
theorem u_len (hm : X.mg "len" = none) (ha : PE X a (U X.K W f)) (hg : Gl X "len" := by rfl) (he : starEach [a] X.env = (false, eval a X.env) :: starEach [] X.env := by rfl) (hpl : (backTo pos (starEach [] X.env)).any (·.1) = false := by rfl) : PE X (.Call (.Name "len" p) [a] [] pos) (UV X.K W (uno lenD f)) :=
  u_callB call_len_seq one_len hm PySem.boot_len ha hg (by decide) (by decide) he hpl
def absD : D → Option D
  | .int i => some (.int (if i < 0 then -i else i))
  | _ => none
theorem one_abs : One K (fun v H Q => ∃ i, [v] = [V.int i] ∧ Q (.int (if i < 0 then -i else i)) H) absD := by
  refine ⟨?_⟩
  intro w B D0 Hd H σ ρ ls v x z E hx e Q q
  cases x <;> try (exact noneE e)
  cases hx.int_inv
  cases e
  exact ⟨_, rfl, q _ Hd H E (Sub.refl _) (.int _)⟩
theorem u_abs (hm : X.mg "abs" = none) (ha : PE X a (U X.K W f)) (hg : Gl X "abs" := by rfl) (he : starEach [a] X.env = (false, eval a X.env) :: starEach [] X.env := by rfl) (hpl : (backTo pos (starEach [] X.env)).any (·.1) = false := by rfl) : PE X (.Call (.Name "abs" p) [a] [] pos) (UV X.K W (uno absD f)) :=
  u_callB call_abs one_abs hm (by decide +kernel) ha hg (by decide) (by decide) he hpl
/-- tuple(list), tuple(tuple) -/
def tupleD : D → Option D
  | .tup l => some (.tup l)
  | .lst l => some (.tup l)
  | .lsk l => some (.tup l)
  | _ => none
theorem one_tuple : One K (fun v H Q => ∃ p ys, [v] = [V.ref p] ∧ ((SqL K H p ys ∧ NewT H ys Q) ∨ (SqT K H p ys ∧ Q (.ref p) H))) tupleD := by
  refine ⟨?_⟩
  intro w B D0 Hd H σ ρ ls v x z E hx e Q q
  cases x <;> try (exact noneE e)
  · cases e
    obtain ⟨a, xs, rfl, ha, r⟩ := hx.tup_inv
    exact ⟨a, xs, rfl, .inr ⟨(E.sub.tk ha).sq, q _ Hd H E (Sub.refl _) (.tup ha r)⟩⟩
  · cases e
    obtain ⟨a, xs, rfl, ha, r⟩ := hx.lst_inv
    refine ⟨a, xs, rfl, .inl ⟨SqL.of ha, fun l o hl h1 h2 => ?_⟩⟩
    have sd : Sub Hd (upd Hd l (.frz o (.tup xs))) := .upd (E.nd_new hl)
    exact q _ _ _ (E.newDat hl NT.tup) sd (.tup ⟨o, upd_same, h1, h2⟩ (r.mono sd))
  · cases e
    obtain ⟨a, xs, rfl, ha, r⟩ := hx.lsk_inv
    refine ⟨a, xs, rfl, .inl ⟨E.sub.sqL ha, fun l o hl h1 h2 => ?_⟩⟩
    have sd : Sub Hd (upd Hd l (.frz o (.tup xs))) := .upd (E.nd_new hl)
    exact q _ _ _ (E.newDat hl NT.tup) sd (.tup ⟨o, upd_same, h1, h2⟩ (r.mono sd))
theorem u_tuple (hm : X.mg "tuple" = none) (ha : PE X a (U X.K W f)) (hg : Gl X "tuple" := by rfl) (he : starEach [a] X.env = (false, eval a X.env) :: starEach [] X.env := by rfl) (hpl : (backTo pos (starEach [] X.env)).any (·.1) = false := by rfl) : PE X (.Call (.Name "tuple" p) [a] [] pos) (UV X.K W (uno tupleD f)) :=
  u_callT call_tupK one_tuple hm (by decide +kernel) ha hg (by decide) (by decide) he hpl
def listD : D → Option (List D)
  | .tup l => some l
  | .lst l => some l
  | .lsk l => some l
  | _ => none
theorem one_list : OneN K (fun v H Q => ∃ p ys, [v] = [V.ref p] ∧ (SqL K H p ys ∨ SqT K H p ys) ∧ ∀ l, H l = none → Q (.ref l) (upd H l (.lst ys))) listD := by
  refine ⟨?_⟩
  intro w B D0 Hd H σ ρ ls v x z E hx e Q q
  cases x <;> try (exact noneE e)
  · cases e
    obtain ⟨a, xs, rfl, ha, r⟩ := hx.tup_inv
    refine ⟨a, xs, rfl, .inr ((E.sub.tk ha).sq), fun l hl => ?_⟩
    obtain ⟨E2, F⟩ := E.newList (xs := xs) hl
    exact q _ _ _ E2 F r
  · cases e
    obtain ⟨a, xs, rfl, ha, r⟩ := hx.lst_inv
    refine ⟨a, xs, rfl, .inl (SqL.of ha), fun l hl => ?_⟩
    obtain ⟨E2, F⟩ := E.newList (xs := xs) hl
    exact q _ _ _ E2 F r
  · cases e
    obtain ⟨a, xs, rfl, ha, r⟩ := hx.lsk_inv
    refine ⟨a, xs, rfl, .inl (E.sub.sqL ha), fun l hl => ?_⟩
    obtain ⟨E2, F⟩ := E.newList (xs := xs) hl
    exact q _ _ _ E2 F r
theorem u_list (hm : X.mg "list" = none) (ha : PE X a (U X.K W f)) (hg : Gl X "list" := by rfl) (he : starEach [a] X.env = (false, eval a X.env) :: starEach [] X.env := by rfl) (hpl : (backTo pos (starEach [] X.env)).any (·.1) = false := by rfl) : PE X (.Call (.Name "list" p) [a] [] pos) (UN X.K W (uno listD f)) :=
  u_callTN call_list_of one_list hm (by decide +kernel) ha hg (by decide) (by decide) he hpl
/-- all, any of a list of bools -/
def boolsD : List D → Option (List Bool)
  | [] => some []
  | .bl b :: l => (boolsD l).map (b :: ·)
  | _ :: _ => none
theorem RpL.bools : ∀ {ds : List D} {xs : List V} {bs : List Bool}, RpL K H xs ds → boolsD ds = some bs → xs = bs.map V.bl
  | [], _, _, .nil, e => by cases e; rfl
  | d :: ds, _, bs, .cons a r, e => by
    cases a with
    | bl b =>
      have e : (boolsD ds).map (b :: ·) = some bs := e
      cases e1 : boolsD ds with
      | none => rw [e1] at e; cases e
      | some bs' =>
        rw [e1] at e
        cases e
        rw [RpL.bools r e1]; rfl
    | _ => cases e
def allD : D → Option D
  | .lst l => (boolsD l).map fun bs => .bl (bs.all fun b => b)
  | _ => none
def anyD : D → Option D
  | .lst l => (boolsD l).map fun bs => .bl (bs.any fun b => b)
  | _ => none
theorem one_all : One K (fun v => rAll K [v]) allD := by
  refine ⟨?_⟩
  intro w B D0 Hd H σ ρ ls v x z E hx e Q q
  cases x <;> try (exact noneE e)
  obtain ⟨a, xs, rfl, ha, r⟩ := hx.lst_inv
  rename_i l
  have e : (boolsD l).map (fun bs => D.bl (bs.all fun b => b)) = some z := e
  cases e1 : boolsD l with
  | none => rw [e1] at e; cases e
  | some bs =>
    rw [e1] at e; cases e
    exact ⟨a, bs, rfl, by rw [← r.bools e1]; exact SqL.of ha, q _ Hd H E (Sub.refl _) (.bl _)⟩
theorem one_any : One K (fun v => rAny K [v]) anyD := by
  refine ⟨?_⟩
  intro w B D0 Hd H σ ρ ls v x z E hx e Q q
  cases x <;> try (exact noneE e)
  obtain ⟨a, xs, rfl, ha, r⟩ := hx.lst_inv
  rename_i l
  have e : (boolsD l).map (fun bs => D.bl (bs.any fun b => b)) = some z := e
  cases e1 : boolsD l with
  | none => rw [e1] at e; cases e
  | some bs =>
    rw [e1] at e; cases e
    exact ⟨a, bs, rfl, by rw [← r.bools e1]; exact SqL.of ha, q _ Hd H E (Sub.refl _) (.bl _)⟩
theorem u_all (hm : X.mg "all" = none) (hc : X.calm = true) (ha : PE X a (U X.K W f)) (hg : Gl X "all" := by rfl) (he : starEach [a] X.env = (false, eval a X.env) :: starEach [] X.env := by rfl) (hpl : (backTo pos (starEach [] X.env)).any (·.1) = false := by rfl) : PE X (.Call (.Name "all" p) [a] [] pos) (UV X.K W (uno allD f)) :=
  u_callB (cr_all hc) one_all hm (by decide +kernel) ha hg (by decide) (by decide) he hpl
theorem u_any (hm : X.mg "any" = none) (hc : X.calm = true) (ha : PE X a (U X.K W f)) (hg : Gl X "any" := by rfl) (he : starEach [a] X.env = (false, eval a X.env) :: starEach [] X.env := by rfl) (hpl : (backTo pos (starEach [] X.env)).any (·.1) = false := by rfl) : PE X (.Call (.Name "any" p) [a] [] pos) (UV X.K W (uno anyD f)) :=
  u_callB (cr_any hc) one_any hm (by decide +kernel) ha hg (by decide) (by decide) he hpl
variable {f2 : M Rf} {a2 : Expr}
theorem read_call2 {r2 : List V → Hp → VK → Prop} {op : D → D → Option D} (h : OpD K (fun v u => r2 [v, u]) op) {Q : VK} (q : UV K W (bin op f f2) σ H Q) : tCB r2 (tCons (U K W f) (tCons (U K W f2) tNil)) σ H Q := read_bin (r := fun v u => r2 [v, u]) h q
def minD : D → D → Option D := intOp (fun _ _ => true) fun i j => .int (if j < i then j else i)
def maxD : D → D → Option D := intOp (fun _ _ => true) fun i j => .int (if j > i then j else i)
theorem od_min : OpD K (fun v u H Q => ∃ i j, [v, u] = [V.int i, V.int j] ∧ Q (.int (if j < i then j else i)) H) minD :=
  (opd_int0 (g := fun i j => .int (if j < i then j else i)) fun _ _ _ => .int _).imp fun x y H Q ⟨i, j, h1, h2, q⟩ => ⟨i, j, by rw [h1, h2], q⟩
theorem od_max : OpD K (fun v u H Q => ∃ i j, [v, u] = [V.int i, V.int j] ∧ Q (.int (if j > i then j else i)) H) maxD :=
  (opd_int0 (g := fun i j => .int (if j > i then j else i)) fun _ _ _ => .int _).imp fun x y H Q ⟨i, j, h1, h2, q⟩ => ⟨i, j, by rw [h1, h2], q⟩
theorem u_min (hm : X.mg "min" = none) (hc : X.calm = true) (ha : PE X a (U X.K W f)) (hb : PE X a2 (U X.K W f2)) (hg : Gl X "min" := by rfl) (he : starEach [a, a2] X.env = (false, eval a X.env) :: starEach [a2] X.env := by rfl) (he2 : starEach [a2] X.env = (false, eval a2 X.env) :: starEach [] X.env := by rfl) (hpl : (backTo pos (starEach [a2] X.env)).any (·.1) = false := by rfl) :
    PE X (.Call (.Name "min" p) [a, a2] [] pos) (UV X.K W (bin minD f f2)) := pe_imp (pe_callB (call_min2 hc) hg hm (by decide +kernel) (pa_cons ha (pa_cons hb pa_nil he2) he) (by decide) (by decide) he hpl) fun _ _ _ q => read_call2 od_min q
theorem u_max (hm : X.mg "max" = none) (hc : X.calm = true) (ha : PE X a (U X.K W f)) (hb : PE X a2 (U X.K W f2)) (hg : Gl X "max" := by rfl) (he : starEach [a, a2] X.env = (false, eval a X.env) :: starEach [a2] X.env := by rfl) (he2 : starEach [a2] X.env = (false, eval a2 X.env) :: starEach [] X.env := by rfl) (hpl : (backTo pos (starEach [a2] X.env)).any (·.1) = false := by rfl) :
    PE X (.Call (.Name "max" p) [a, a2] [] pos) (UV X.K W (bin maxD f f2)) := pe_imp (pe_callB (call_max2 hc) hg hm (by decide +kernel) (pa_cons ha (pa_cons hb pa_nil he2) he) (by decide) (by decide) he hpl) fun _ _ _ q => read_call2 od_max q
end
end Pd

set_option Elab.async false
set_option linter.all false
set_option maxRecDepth 100000
set_option maxHeartbeats 4000000
/-! Pd3: statements, loops, defs. -/
namespace Pd
open PySem PySem.Spec PyProof.Rows L2

inductive PO where
  | nx (ρ : Rho) (ls : LS) | bk (ρ : Rho) (ls : LS) | ct (ρ : Rho) (ls : LS) | rt (d : D) (ls : LS) | rtN (l : List D) (ls : LS) | rs (x : XV) (ls : LS) | no
abbrev PM := Rho → LS → PO
def lift {α : Type} (f : M α) (k : α → PM) : PM := fun ρ ls => match f ρ ls with
  | .ok a ρ' ls' => k a ρ' ls'
  | .rs x ls' => .rs x ls'
  | .no => .no
def skip : PM := fun ρ ls => .nx ρ ls
def seqP (p q : PM) : PM := fun ρ ls => match p ρ ls with
  | .nx ρ' ls' => q ρ' ls'
  | o => o
def never : PM := fun _ _ => .no

def GoS (K : PySem.W.Frag) (W : WX) (w : Wd) (B D0 Hd : Hp) (D : Ends) : PO → Prop
  | .nx ρ' ls' => ∀ σ' Hd' H', EOk K w B D0 Hd' H' σ' ρ' ls' → Sub Hd Hd' → D.nx σ' H'
  | .bk ρ' ls' => ∀ σ' Hd' H', EOk K w B D0 Hd' H' σ' ρ' ls' → Sub Hd Hd' → D.bk σ' H'
  | .ct ρ' ls' => ∀ σ' Hd' H', EOk K w B D0 Hd' H' σ' ρ' ls' → Sub Hd Hd' → D.ct σ' H'
  | .rt d ls' => ∀ v σ' Hd' H' ρ', EOk K w B D0 Hd' H' σ' ρ' ls' → Sub Hd Hd' → Rp K Hd' v d → D.rt v H'
  | .rtN l ls' => ∀ p xs σ' Hd' H' ρ', EOk K w B D0 Hd' H' σ' ρ' ls' → Sub Hd Hd' → Fresh w B Hd' H' σ' ρ' p xs → RpL K Hd' xs l → D.rt (.ref p) H'
  | .rs x ls' => ∀ H' cls dd σ', XOk w B H' ls' x cls dd → W cls dd σ' H'
  | .no => False
def US (K : PySem.W.Frag) (W : WX) (p : PM) : TS := fun D σ H => ∃ w B D0 Hd ρ ls, EOk K w B D0 Hd H σ ρ ls ∧ GoS K W w B D0 Hd D (p ρ ls)

section
variable {X : Cx} {K : PySem.W.Frag} {W : WX} {α : Type} {w : Wd} {B D0 Hd Hd1 H : Hp} {σ : L2.St} {ρ : Rho} {ls : LS} {D : Ends} {p q : PM} {pos : Pos}

theorem GoS.sub {o : PO} (s : Sub Hd Hd1) (h : GoS K W w B D0 Hd D o) : GoS K W w B D0 Hd1 D o := by
  cases o with
  | nx ρ ls => exact fun σ' Hd' H' E s' => h σ' Hd' H' E (s.trans s')
  | bk ρ ls => exact fun σ' Hd' H' E s' => h σ' Hd' H' E (s.trans s')
  | ct ρ ls => exact fun σ' Hd' H' E s' => h σ' Hd' H' E (s.trans s')
  | rt d ls => exact fun v σ' Hd' H' ρ' E s' => h v σ' Hd' H' ρ' E (s.trans s')
  | rtN l ls => exact fun p xs σ' Hd' H' ρ' E s' => h p xs σ' Hd' H' ρ' E (s.trans s')
  | rs x ls => exact h
  | no => exact h
/-- an expression ahead of a program -/
theorem GoS.lift {f : M α} {k : α → PM} (h : GoS K W w B D0 Hd D (lift f k ρ ls)) : Go K W w B D0 σ Hd (f ρ ls) fun Hd' _ ρ' ls' a => GoS K W w B D0 Hd' D (k a ρ' ls') := by
  unfold Pd.lift at h
  cases e : f ρ ls with
  | ok a ρ' ls' => rw [e] at h; exact fun Hd' H' E s => GoS.sub s h
  | rs x ls' => rw [e] at h; exact fun H' cls dd xo => h H' cls dd σ xo
  | no => rw [e] at h; exact h
theorem US.lift {f : M α} {k : α → PM} (h : US K W (lift f k) D σ H) : Ru K W f σ H fun w B D0 Hd' _ ρ' ls' a => GoS K W w B D0 Hd' D (k a ρ' ls') := by
  obtain ⟨w, B, D0, Hd, ρ, ls, E, h⟩ := h
  exact ⟨w, B, D0, Hd, ρ, ls, E, h.lift⟩
theorem GoS.seq (h : GoS K W w B D0 Hd D (seqP p q ρ ls)) : GoS K W w B D0 Hd { D with nx := US K W q D } (p ρ ls) := by
  unfold seqP at h
  cases e : p ρ ls with
  | nx ρ' ls' => rw [e] at h; exact fun σ' Hd' H' E s => ⟨w, B, D0, Hd', ρ', ls', E, GoS.sub s h⟩
  | bk ρ' ls' => rw [e] at h; exact h
  | ct ρ' ls' => rw [e] at h; exact h
  | rt d ls' => rw [e] at h; exact h
  | rtN l ls' => rw [e] at h; exact h
  | rs x ls' => rw [e] at h; exact h
  | no => rw [e] at h; exact h
theorem us_nil : PSs X [] (US K W skip) := pss_imp pss_nil fun D σ H h => by
  obtain ⟨w, B, D0, Hd, ρ, ls, E, h⟩ := h
  exact h σ Hd H E (Sub.refl _)
theorem us_cons {st : Stmt} {rest : List Stmt} (h1 : PS X st (US K W p)) (h2 : PSs X rest (US K W q)) : PSs X (st :: rest) (US K W (seqP p q)) := pss_imp (pss_cons h1 h2) fun D σ H h => by
  obtain ⟨w, B, D0, Hd, ρ, ls, E, h⟩ := h
  exact ⟨w, B, D0, Hd, ρ, ls, E, h.seq⟩
theorem us_one {st : Stmt} (h : PS X st (US K W p)) : PSs X [st] (US K W p) := pss_one h
theorem us_never {st : Stmt} : PS X st (US K W never) := ps_imp ps_never fun D σ H ⟨_, _, _, _, _, _, _, h⟩ => h
theorem us_pass : PS X (.Pass pos) (US K W skip) := ps_imp ps_pass fun D σ H h => by
  obtain ⟨w, B, D0, Hd, ρ, ls, E, h⟩ := h
  exact h σ Hd H E (Sub.refl _)
def brk : PM := fun ρ ls => .bk ρ ls
def cnt : PM := fun ρ ls => .ct ρ ls
theorem us_break : PS X (.Break pos) (US K W brk) := ps_imp ps_break fun D σ H h => by
  obtain ⟨w, B, D0, Hd, ρ, ls, E, h⟩ := h
  exact h σ Hd H E (Sub.refl _)
theorem us_continue : PS X (.Continue pos) (US K W cnt) := ps_imp ps_continue fun D σ H h => by
  obtain ⟨w, B, D0, Hd, ρ, ls, E, h⟩ := h
  exact h σ Hd H E (Sub.refl _)

/-! ### stores -/
/-- name i := d -/
def sto (i : Nat) (d : Pd.D) : PM := fun ρ ls => if i < ρ.length then .nx (ρ.set i (.dat d)) ls else .no
def stoN (i : Nat) (l : List Pd.D) : PM := fun ρ ls => if i < ρ.length then .nx (ρ.set i (.own l)) ls else .no
theorem GoS.sto {i : Nat} {d : Pd.D} {v : V} (h : GoS K W w B D0 Hd D (sto i d ρ ls)) (E : EOk K w B D0 Hd H σ ρ ls) (r : Rp K Hd v d) : D.nx (σ.set i (some v)) H := by
  unfold Pd.sto at h
  split at h
  · rename_i hi
    exact h _ Hd H (E.store hi r) (Sub.refl _)
  · exact h.elim
def setV (i : Nat) (f : M Pd.D) : PM := lift f (sto i)
def setN (i : Nat) (f : M (List Pd.D)) : PM := lift f (stoN i)
variable {e : Expr} {te : TE} {f : M Pd.D} {fl : M (List Pd.D)} {i : Nat}
theorem read_set (ht : ∀ Q, UV K W f σ H Q → te σ H Q) (h : US K W (setV i f) D σ H) : tAsg te (gName i) D σ H :=
  ht _ (Ru.imp (US.lift h) fun w B D0 Hd' H' ρ' ls' d E q v r => q.sto E r)
theorem read_setN (ht : ∀ Q, UN K W fl σ H Q → te σ H Q) (h : US K W (setN i fl) D σ H) : tAsg te (gName i) D σ H :=
  ht _ (Ru.imp (US.lift h) fun w B D0 Hd' H' ρ' ls' d E q p xs F r => by
    unfold stoN at q
    split at q
    · rename_i hi
      exact q _ Hd' H' (E.storeOwn hi F r) (Sub.refl _)
    · exact q.elim)
theorem us_set {x : Str} {pos' : Pos} (i : Nat) (hN : X.N.Nodup) (he : PE X e (UV K W f)) (hi : X.N[i]? = some x := by rfl) (hx : Loc X.env.scope x := by first | exact Or.inl rfl | exact Or.inr rfl) (hs : swapsWith e (some (.Name x pos')) pos.line X.env = pure false := by rfl) (hf : X.fn x = true ∨ X.env.scope.names.lookup x = some .local := by first | exact .inl rfl | exact .inr rfl | assumption) :
    PS X (.Assign [.Name x pos'] e pos) (US K W (setV i f)) := ps_imp (ps_set hN hi hx he hs hf) fun D σ H h => read_set (fun _ q => q) h
theorem us_setN {x : Str} {pos' : Pos} (i : Nat) (hN : X.N.Nodup) (he : PE X e (UN K W fl)) (hi : X.N[i]? = some x := by rfl) (hx : Loc X.env.scope x := by first | exact Or.inl rfl | exact Or.inr rfl) (hs : swapsWith e (some (.Name x pos')) pos.line X.env = pure false := by rfl) (hf : X.fn x = true ∨ X.env.scope.names.lookup x = some .local := by first | exact .inl rfl | exact .inr rfl | assumption) :
    PS X (.Assign [.Name x pos'] e pos) (US K W (setN i fl)) := ps_imp (ps_set hN hi hx he hs hf) fun D σ H h => read_setN (fun _ q => q) h
/-- return e -/
def retP (f : M Pd.D) : PM := lift f fun d _ ls => .rt d ls
theorem us_ret (he : PE X e (UV K W f)) : PS X (.Return (some e) pos) (US K W (retP f)) := ps_imp (ps_ret he) fun D σ H h =>
  Ru.imp (US.lift h) fun w B D0 Hd' H' ρ' ls' d E q v r => q v σ Hd' H' ρ' E (Sub.refl _) r
/-- return e, a list that nobody knows -/
def retN (f : M (List Pd.D)) : PM := lift f fun l _ ls => .rtN l ls
theorem us_retN {f : M (List Pd.D)} (he : PE X e (UN K W f)) : PS X (.Return (some e) pos) (US K W (retN f)) := ps_imp (ps_ret he) fun D σ H h =>
  Ru.imp (US.lift h) fun w B D0 Hd' H' ρ' ls' l E q p xs F r => q p xs σ Hd' H' ρ' E (Sub.refl _) F r
/-- a name's list, given out of hand -/
def takeS (i : Nat) (ρ : Rho) (ls : LS) : Option Sl → Out (List Pd.D)
  | some (.own ds) => .ok ds (ρ.set i .un) ls
  | _ => .no
def takeM (i : Nat) : M (List Pd.D) := fun ρ ls => takeS i ρ ls ρ[i]?
theorem EOk.drop1 {i : Nat} (E : EOk K w B D0 Hd H σ ρ ls) : EOk K w B D0 Hd H σ (ρ.set i .un) ls := by
  have old : ∀ (j : Nat) (s : Sl), s ≠ .un → (ρ.set i .un)[j]? = some s → j ≠ i ∧ ρ[j]? = some s := fun j s ns h => by
    rcases getSet h with ⟨_, _, z⟩ | z
    · exact absurd z ns
    · exact z
  refine ⟨E.base, E.dom, E.sub, E.sub0, E.noz, E.nt, E.fr, E.st, by simpa using E.len, fun j d h => E.dat j d (old j _ (by simp) h).2, fun j ds h => E.own j ds (old j _ (by simp) h).2, fun j k q as bs ne e1 e2 => E.apart j k q as bs ne (old j _ (by simp) e1).2 (old k _ (by simp) e2).2⟩
theorem u_take {e : Expr} (i : Nat) (h : PE X e (tVar i)) : PE X e (UN K W (takeM i)) := pe_imp h fun σ H Q q => by
  obtain ⟨w, B, D0, Hd, ρ, ls, E, q⟩ := q
  have q : Go K W w B D0 σ Hd (takeS i ρ ls ρ[i]?) fun Hd' H' ρ' _ ds => ∀ p xs, Fresh w B Hd' H' σ ρ' p xs → RpL K Hd' xs ds → Q (.ref p) H' := q
  cases e : ρ[i]? with
  | none => rw [e] at q; exact False.elim q
  | some s =>
    rw [e] at q
    cases s with
    | un => exact False.elim q
    | dat x => exact False.elim q
    | own ds =>
      obtain ⟨p, xs, h1, h2, h3, h4, h5, h6⟩ := E.own i _ e
      refine ⟨.ref p, h1, q Hd H E.drop1 (Sub.refl _) p xs ⟨h2, h4, h5, h6, fun j es hj z => ?_⟩ h3⟩
      rcases getSet hj with ⟨_, _, y⟩ | ⟨ne, hj⟩
      · cases y
      · exact E.apart j i p es ds ne hj e z h1
/-- an expression alone -/
def drop (f : M Pd.D) : PM := lift f fun _ => skip
theorem us_expr (he : PE X e (UV K W f)) (hs : swapsWith e none pos.line X.env = pure false := by rfl) : PS X (.Expr e pos) (US K W (drop f)) := ps_imp (ps_expr he hs) fun D σ H h =>
  Ru.imp (US.lift h) fun w B D0 Hd' H' ρ' ls' d E q v r => q σ Hd' H' E (Sub.refl _)
def ifP (c : M Bool) (p q : PM) : PM := lift c fun b => if b = true then p else q
theorem us_if {c : Expr} {tc : M Bool} {a b : List Stmt} (hc : PT X c (UT K W tc)) (ha : PSs X a (US K W p)) (hb : PSs X b (US K W q)) : PS X (.If c a b pos) (US K W (ifP tc p q)) := ps_imp (ps_if hc ha hb) fun D σ H h =>
  Ru.imp (US.lift h) fun w B D0 Hd' H' ρ' ls' t E r => by
    cases t with
    | true => exact ⟨w, B, D0, Hd', ρ', ls', E, r⟩
    | false => exact ⟨w, B, D0, Hd', ρ', ls', E, r⟩
/-! ### targets -/
/-- σ' is σ but at some places -/
structure Sames (is : List Nat) (σ σ' : L2.St) : Prop where
  len : σ'.length = σ.length
  out : ∀ (j : Nat), j ∉ is → σ'[j]? = σ[j]?
theorem Sames.trans {is js : List Nat} {a b c : L2.St} (h : Sames is a b) (h' : Sames js b c) : Sames (is ++ js) a c := ⟨h'.len.trans h.len, fun j hj => (h'.out j fun q => hj (List.mem_append_right _ q)).trans (h.out j fun q => hj (List.mem_append_left _ q))⟩
structure TgOk (K : PySem.W.Frag) (g : TG) (t : Pd.D → Rho → Option Rho) (is : List Nat) : Prop where
  run : ∀ {w : Wd} {B D0 Hd H : Hp} {σ : L2.St} {ρ ρ' : Rho} {ls : LS} {v : V} {d : Pd.D}, EOk K w B D0 Hd H σ ρ ls → Rp K Hd v d → t d ρ = some ρ' → ∀ Q : L2.St → Hp → Prop, (∀ σ', EOk K w B D0 Hd H σ' ρ' ls → Sames is σ σ' → Q σ' H) → g v σ H Q
structure TgsOk (K : PySem.W.Frag) (g : TGs) (t : List Pd.D → Rho → Option Rho) (is : List Nat) : Prop where
  run : ∀ {w : Wd} {B D0 Hd H : Hp} {σ : L2.St} {ρ ρ' : Rho} {ls : LS} {vs : List V} {ds : List Pd.D}, EOk K w B D0 Hd H σ ρ ls → RpL K Hd vs ds → t ds ρ = some ρ' → ∀ Q : L2.St → Hp → Prop, (∀ σ', EOk K w B D0 Hd H σ' ρ' ls → Sames is σ σ' → Q σ' H) → g vs σ H Q
def tgName (i : Nat) : Pd.D → Rho → Option Rho := fun d ρ => if i < ρ.length then some (ρ.set i (.dat d)) else none
theorem tg_name {i : Nat} : TgOk K (gName i) (tgName i) [i] := ⟨fun {w B D0 Hd H σ ρ ρ' ls v d} E r e Q q => by
  unfold tgName at e
  split at e
  · rename_i hi
    cases e
    exact q _ (E.store hi r) ⟨List.length_set, fun j hj => List.getElem?_set_ne (fun z => hj (by rw [z]; exact List.mem_cons_self))⟩
  · cases e⟩
def tgNil : List Pd.D → Rho → Option Rho
  | [], ρ => some ρ
  | _, _ => none
def tgCons (t : Pd.D → Rho → Option Rho) (u : List Pd.D → Rho → Option Rho) : List Pd.D → Rho → Option Rho
  | d :: ds, ρ => (t d ρ).bind (u ds)
  | _, _ => none
theorem tg_nil : TgsOk K gNil tgNil [] := ⟨fun {w B D0 Hd H σ ρ ρ' ls vs ds} E r e Q q => by
  cases r with
  | nil => cases e; exact ⟨rfl, q _ E ⟨rfl, fun _ _ => rfl⟩⟩
  | cons _ _ => exact noneE e⟩
theorem tg_cons {g : TG} {gs : TGs} {t : Pd.D → Rho → Option Rho} {u : List Pd.D → Rho → Option Rho} {is js : List Nat} (h1 : TgOk K g t is) (h2 : TgsOk K gs u js) : TgsOk K (gCons g gs) (tgCons t u) (is ++ js) := ⟨fun {w B D0 Hd H σ ρ ρ' ls vs ds} E r e Q q => by
  cases r with
  | nil => exact noneE e
  | @cons v vs d ds a r =>
    have e : (t d ρ).bind (u ds) = some ρ' := e
    cases e1 : t d ρ with
    | none => rw [e1] at e; exact noneE e
    | some ρ1 =>
      rw [e1] at e
      exact ⟨_, _, rfl, h1.run E a e1 _ fun σ1 E1 s1 => h2.run E1 r e Q fun σ2 E2 s2 => q σ2 E2 (s1.trans s2)⟩⟩
def tgTup (u : List Pd.D → Rho → Option Rho) : Pd.D → Rho → Option Rho
  | .tup ds, ρ => u ds ρ
  | _, _ => none
theorem tgs_len {u : List Pd.D → Rho → Option Rho} {n : Nat} (hn : ∀ ds ρ ρ', u ds ρ = some ρ' → ds.length = n) {gs : TGs} {is : List Nat} (h : TgsOk K gs u is) : TgOk K (gTup K n gs) (tgTup u) is := ⟨fun {w B D0 Hd H σ ρ ρ' ls v d} E r e Q q => by
  cases r with
  | tup hs r =>
    rename_i a xs ds
    have e : u ds ρ = some ρ' := e
    exact ⟨a, xs, rfl, E.sub.sqT hs.sq, by rw [r.length]; exact hn _ _ _ e, h.run E r e Q q⟩
  | _ => exact noneE e⟩
theorem tgn0 : ∀ (ds : List Pd.D) (ρ ρ' : Rho), tgNil ds ρ = some ρ' → ds.length = 0
  | [], _, _, _ => rfl
  | _ :: _, _, _, e => noneE e
theorem tgnS {t : Pd.D → Rho → Option Rho} {u : List Pd.D → Rho → Option Rho} {n : Nat} (h : ∀ (ds : List Pd.D) (ρ ρ' : Rho), u ds ρ = some ρ' → ds.length = n) : ∀ (ds : List Pd.D) (ρ ρ' : Rho), tgCons t u ds ρ = some ρ' → ds.length = n + 1
  | [], _, _, e => noneE e
  | d :: ds, ρ, ρ', e => by
    have e : (t d ρ).bind (u ds) = some ρ' := e
    cases e1 : t d ρ with
    | none => rw [e1] at e; exact noneE e
    | some ρ1 => rw [e1] at e; rw [List.length_cons, h _ _ _ e]
/-- target = e -/
def asgP (t : Pd.D → Rho → Option Rho) (d : Pd.D) : PM := fun ρ ls => match t d ρ with
  | some ρ' => .nx ρ' ls
  | none => .no
theorem us_asg {tg : Expr} {g : TG} {t : Pd.D → Rho → Option Rho} (he : PE X e (UV K W f)) {is : List Nat} (hg : PG X tg g) (h : TgOk K g t is) (hs : swapsWithSole [tg] e pos.line X.env = pure false := by rfl) (hw : swappedStores [tg] e X.env = pure none := by rfl)
    (h1 : (assignEach [tg] X.env).map (·.2) = [assign tg X.env] := by rfl) : PS X (.Assign [tg] e pos) (US K W (lift f (asgP t))) := ps_imp (ps_asg he hg hs hw h1) fun D σ H q =>
  Ru.imp (US.lift q) fun w B D0 Hd' H' ρ' ls' d E q v r => by
    unfold asgP at q
    cases e1 : t d ρ' with
    | none => rw [e1] at q; exact q.elim
    | some ρ2 => rw [e1] at q; exact h.run E r e1 _ fun σ' E' _ => q σ' Hd' H' E' (Sub.refl _)
/-- a, b = x, y: two plain local names -/
def par2 (i j : Nat) (ga : M (List Pd.D)) : PM := lift ga fun ds => match ds with
  | [x, y] => seqP (sto i x) (sto j y)
  | _ => never
theorem us_par {x y : Str} {a b : Expr} {ga : M (List Pd.D)} {px py pt : Pos} {kt k2 pt2} (i j : Nat) (hc : X.calm = true) (hN : X.N.Nodup) (ha : PA X [a, b] (UA K W ga)) (hi : X.N[i]? = some x := by rfl) (hj : X.N[j]? = some y := by rfl) (hij : i ≠ j := by decide)
    (hx : X.env.scope.names.lookup x = some .local := by rfl) (hy : X.env.scope.names.lookup y = some .local := by rfl)
    (hw : swappedStores [.Tuple [.Name x px, .Name y py] kt pt] (.Tuple [a, b] k2 pt2) X.env = pure (some [x, y]) := by rfl)
    (hs : swapsWithSole [.Tuple [.Name x px, .Name y py] kt pt] (.Tuple [a, b] k2 pt2) pos.line X.env = pure false := by rfl) :
    PS X (.Assign [.Tuple [.Name x px, .Name y py] kt pt] (.Tuple [a, b] k2 pt2) pos) (US K W (par2 i j ga)) := ps_imp (ps_par hc hN hi hj hij hx hy ha hw hs) fun D σ H h =>
  Ru.imp (US.lift h) fun w B D0 Hd' H' ρ' ls' ds E q vs r => by
    cases r with
    | nil => exact q.elim
    | cons a r =>
      cases r with
      | nil => exact q.elim
      | cons b r =>
        cases r with
        | nil =>
          refine ⟨_, _, rfl, ?_⟩
          have q : GoS K W w B D0 Hd' D (seqP (sto i _) (sto j _) ρ' ls') := q
          unfold seqP at q
          by_cases hi : i < ρ'.length
          · have e1 : ∀ d, sto i d ρ' ls' = .nx (ρ'.set i (.dat d)) ls' := fun d => if_pos hi
            rw [e1] at q
            exact GoS.sto q (E.store hi a) b
          · have e1 : ∀ d, sto i d ρ' ls' = .no := fun d => if_neg hi
            rw [e1] at q
            exact q.elim
        | cons _ _ => exact q.elim
/-- x += e, ints -/
def augM (i : Nat) (op : Pd.D → Pd.D → Option Pd.D) (f : M Rf) : PM := lift (bin op (nam i) f) (sto i)
end
end Pd

set_option Elab.async false
set_option linter.all false
set_option maxRecDepth 100000
set_option maxHeartbeats 4000000
/-! Pd4: lists that change, loops. -/
namespace Pd
open PySem PySem.Spec PyProof.Rows L2

section
variable {X : Cx} {K : PySem.W.Frag} {W : WX} {α : Type} {w : Wd} {B D0 Hd Hd1 H : Hp} {σ : L2.St} {ρ : Rho} {ls : LS} {D : Ends} {p q : PM} {pos : Pos} {e : Expr} {te : TE} {f : M Pd.D} {i : Nat}

/-! ### x += e -/
def augK (i : Nat) (g : Int → Int → Int) (a : Int) : Pd.D → PM
  | .int b => sto i (.int (g a b))
  | _ => never
def augS (i : Nat) (g : Int → Int → Int) (f : M Pd.D) (ρ : Rho) (ls : LS) : Option Sl → PO
  | some (.dat (.int a)) => lift f (augK i g a) ρ ls
  | _ => .no
def augP (i : Nat) (g : Int → Int → Int) (f : M Pd.D) : PM := fun ρ ls => augS i g f ρ ls ρ[i]?
theorem us_aug {x : Str} {op : Operator} {g : Int → Int → Int} {pos' : Pos} (i : Nat) (ho : PIp X op (ipI g)) (hN : X.N.Nodup) (he : PE X e (UV K W f)) (hi : X.N[i]? = some x := by rfl) (hx : Loc X.env.scope x := by first | exact Or.inl rfl | exact Or.inr rfl)
    (hf : X.fn x = true ∨ X.env.scope.names.lookup x = some .local := by first | exact .inl rfl | exact .inr rfl | assumption) : PS X (.AugAssign (.Name x pos') op e pos) (US K W (augP i g f)) := ps_imp (ps_aug hN hi hx he ho hf) fun D σ H h => by
  obtain ⟨w, B, D0, Hd, ρ, ls, E, h⟩ := h
  have h : GoS K W w B D0 Hd D (augS i g f ρ ls ρ[i]?) := h
  cases e1 : ρ[i]? with
  | none => rw [e1] at h; exact h.elim
  | some s =>
    rw [e1] at h
    cases s with
    | un => exact h.elim
    | own _ => exact h.elim
    | dat d =>
      cases d with
      | int a =>
        have h : GoS K W w B D0 Hd D (lift f (augK i g a) ρ ls) := h
        obtain ⟨v, h1, h2⟩ := E.dat i _ e1
        cases h2
        refine ⟨.int a, h1, w, B, D0, Hd, ρ, ls, E, h.lift.imp fun Hd' H' ρ' ls' d E' _ q u r => ?_⟩
        cases r with
        | int b => exact ⟨a, b, rfl, rfl, GoS.sto q E' (.int _)⟩
        | _ => exact q.elim
      | _ => exact h.elim

/-! ### xs.append(e), xs.pop(), xs.pop(k), xs[i] = e, xs.extend(e) -/
def ownAt {α : Type} (k : List Pd.D → α) (n : α) : Option Sl → α
  | some (.own ds) => k ds
  | _ => n
theorem ownAt_some {α : Type} {k : List Pd.D → α} {n : α} {o : Option Sl} {P : α → Prop} (hn : ¬ P n) (h : P (ownAt k n o)) : ∃ ds, o = some (.own ds) ∧ P (k ds) := by
  cases o with
  | none => exact absurd h hn
  | some s =>
    cases s with
    | un => exact absurd h hn
    | dat _ => exact absurd h hn
    | own ds => exact ⟨ds, rfl, h⟩

/-- a method of a list that changes it: data in, what comes back, what the list is then -/
structure MutD (K : PySem.W.Frag) (r : V → List V → Hp → VK → Prop) (op : List Pd.D → Pd.D → Option (Pd.D × List Pd.D)) : Prop where
  run : ∀ {Hd H : Hp} {p : Addr} {xs : List V} {ds es : List Pd.D} {v : V} {d z : Pd.D}, Sub Hd H → H p = some (.lst xs) → RpL K Hd xs ds → Rp K Hd v d → op ds d = some (z, es) →
    ∀ Q : VK, (∀ ys t, RpL K Hd ys es → Rp K Hd t z → Q t (upd H p (.lst ys))) → r (.ref p) [v] H Q
structure Mut0 (K : PySem.W.Frag) (r : V → List V → Hp → VK → Prop) (op : List Pd.D → Option (Pd.D × List Pd.D)) : Prop where
  run : ∀ {Hd H : Hp} {p : Addr} {xs : List V} {ds es : List Pd.D} {z : Pd.D}, Sub Hd H → H p = some (.lst xs) → RpL K Hd xs ds → op ds = some (z, es) →
    ∀ Q : VK, (∀ ys t, RpL K Hd ys es → Rp K Hd t z → Q t (upd H p (.lst ys))) → r (.ref p) [] H Q
def mutE (i : Nat) : Option (Pd.D × List Pd.D) → M Pd.D
  | some (z, es) => fun ρ ls => .ok z (ρ.set i (.own es)) ls
  | none => fun _ _ => .no
def mut1 (i : Nat) (op : List Pd.D → Pd.D → Option (Pd.D × List Pd.D)) (d : Pd.D) : M Pd.D := fun ρ ls => ownAt (fun ds => mutE i (op ds d) ρ ls) .no ρ[i]?
def methM (i : Nat) (op : List Pd.D → Pd.D → Option (Pd.D × List Pd.D)) (f : M Pd.D) : M Pd.D := fun ρ ls => ownAt (fun _ => bnd f (mut1 i op) ρ ls) .no ρ[i]?
def meth0M (i : Nat) (op : List Pd.D → Option (Pd.D × List Pd.D)) : M Pd.D := fun ρ ls => ownAt (fun ds => mutE i (op ds) ρ ls) .no ρ[i]?
theorem goNo {α : Type} {P : Hp → Hp → Rho → LS → α → Prop} : ¬ Go K W w B D0 σ Hd (.no : Out α) P := id
theorem Go.xOwn {α : Type} {k : List Pd.D → Out α} {o : Option Sl} {P : Hp → Hp → Rho → LS → α → Prop} (h : Go K W w B D0 σ Hd (ownAt k .no o) P) : ∃ ds, o = some (.own ds) ∧ Go K W w B D0 σ Hd (k ds) P :=
  ownAt_some (P := fun a => Go K W w B D0 σ Hd a P) goNo h
theorem Go.xMut {o : Option (Pd.D × List Pd.D)} {P : Hp → Hp → Rho → LS → Pd.D → Prop} (h : Go K W w B D0 σ Hd (mutE i o ρ ls) P) : ∃ z es, o = some (z, es) ∧ ∀ Hd' H', EOk K w B D0 Hd' H' σ (ρ.set i (.own es)) ls → Sub Hd Hd' → P Hd' H' (ρ.set i (.own es)) ls z := by
  cases o with
  | none => exact h.elim
  | some a => obtain ⟨z, es⟩ := a; exact ⟨z, es, rfl, h⟩
theorem read_meth {r : V → List V → Hp → VK → Prop} {op : List Pd.D → Pd.D → Option (Pd.D × List Pd.D)} (h : MutD K r op) {Q : VK} (q : UV K W (methM i op f) σ H Q) : tBM K "list" r (tVar i) (tCons (UV K W f) tNil) σ H Q := by
  obtain ⟨w, B, D0, Hd, ρ, ls, E, q⟩ := q
  obtain ⟨ds, e1, q⟩ := Go.xOwn q
  obtain ⟨p, xs, h1, h2, _⟩ := E.own i _ e1
  refine ⟨.ref p, h1, .inl ⟨rfl, _, SqL.of h2⟩, w, B, D0, Hd, ρ, ls, E, ?_⟩
  refine Go.imp q.xBnd fun Hd' H' ρ' ls' d E' s' q2 v hv => ?_
  obtain ⟨ds', e2, q3⟩ := Go.xOwn q2
  obtain ⟨z, es, e3, q4⟩ := q3.xMut
  obtain ⟨p', xs', g1, g2, g3, _⟩ := E'.own i _ e2
  rw [h1] at g1; cases g1
  exact h.run E'.sub g2 g3 hv e3 Q fun ys t ry rt => q4 Hd' _ (E'.change e2 h1 ry) (Sub.refl _) t rt
theorem read_meth0 {r : V → List V → Hp → VK → Prop} {op : List Pd.D → Option (Pd.D × List Pd.D)} (h : Mut0 K r op) {Q : VK} (q : UV K W (meth0M i op) σ H Q) : tBM0 K "list" r (tVar i) σ H Q := by
  obtain ⟨w, B, D0, Hd, ρ, ls, E, q⟩ := q
  obtain ⟨ds, e1, q⟩ := Go.xOwn q
  obtain ⟨p, xs, h1, h2, h3, _⟩ := E.own i _ e1
  obtain ⟨z, es, e3, q4⟩ := q.xMut
  exact ⟨.ref p, h1, .inl ⟨rfl, _, SqL.of h2⟩, h.run E.sub h2 h3 e3 Q fun ys t ry rt => q4 Hd _ (E.change e1 h1 ry) (Sub.refl _) t rt⟩
def appD (ds : List Pd.D) (d : Pd.D) : Option (Pd.D × List Pd.D) := if ds.length < top then some (.non, ds ++ [d]) else none
theorem md_append : MutD K rAppend appD := ⟨fun {Hd H p xs ds es v d z} s h r a e Q q => by
  unfold appD at e
  split at e
  · rename_i hl
    cases e
    exact ⟨p, xs, v, rfl, rfl, h, by rw [r.length]; exact top_lt hl, q _ _ (r.append (.cons a .nil)) .non⟩
  · cases e⟩
def extD (ds : List Pd.D) : Pd.D → Option (Pd.D × List Pd.D)
  | .lst es => if ds.length + es.length ≤ top then some (.non, ds ++ es) else none
  | _ => none
theorem md_extend : MutD K rExtend extD := ⟨fun {Hd H p xs ds es v d z} s h r a e Q q => by
  cases a with
  | @lst b zs l hb rb =>
    have e : (if ds.length + l.length ≤ top then some (Pd.D.non, ds ++ l) else none) = some (z, es) := e
    split at e
    · rename_i hl
      cases e
      exact ⟨p, b, xs, zs, rfl, rfl, h, s _ _ hb, by rw [r.length, rb.length]; exact top_le hl, q _ _ (r.append rb) .non⟩
    · cases e
  | _ => exact noneE e⟩
def popD (ds : List Pd.D) : Option (Pd.D × List Pd.D) := match ds[ds.length - 1]? with
  | some d => some (d, ds.dropLast)
  | none => none
theorem RpL.dropLast {H : Hp} {vs : List V} {ds : List Pd.D} (r : RpL K H vs ds) : RpL K H vs.dropLast ds.dropLast := by
  rw [List.dropLast_eq_take, List.dropLast_eq_take, r.length]
  exact r.take _
theorem md_pop : Mut0 K rPop popD := ⟨fun {Hd H p xs ds es z} s h r e Q q => by
  unfold popD at e
  cases e1 : ds[ds.length - 1]? with
  | none => rw [e1] at e; cases e
  | some d =>
    rw [e1] at e
    cases e
    obtain ⟨t, h1, h2⟩ := r.get e1
    exact ⟨p, xs, t, rfl, rfl, h, by rw [r.length]; exact h1, q _ _ r.dropLast h2⟩⟩
def popAtD (ds : List Pd.D) : Pd.D → Option (Pd.D × List Pd.D)
  | .int k => if decide (0 ≤ k) && decide (k < 1000000) then match ds[k.toNat]? with
    | some d => some (d, ds.eraseIdx k.toNat)
    | none => none
    else none
  | _ => none
theorem md_popAt : MutD K rPopAt popAtD := ⟨fun {Hd H p xs ds es v d z} s h r a e Q q => by
  cases a with
  | int k =>
    have e : (if decide (0 ≤ k) && decide (k < 1000000) then match ds[k.toNat]? with
      | some d => some (d, ds.eraseIdx k.toNat)
      | none => none
      else none) = some (z, es) := e
    split at e
    · rename_i hk
      rw [Bool.and_eq_true] at hk
      have k0 := of_decide_eq_true hk.1
      have k1 := of_decide_eq_true hk.2
      cases e1 : ds[k.toNat]? with
      | none => rw [e1] at e; cases e
      | some d =>
        rw [e1] at e
        cases e
        obtain ⟨t, h1, h2⟩ := r.get e1
        have hlt : k.toNat < xs.length := (List.getElem?_eq_some_iff.mp h1).1
        have hx : seqIndex? k xs.length = some k.toNat := (ixN_seq (by unfold ixN; rw [if_pos k0, if_pos (by omega)])).1
        exact ⟨p, xs, k, k.toNat, t, rfl, rfl, h, by omega, by omega, hx, h1, q _ _ (r.eraseIdx _) h2⟩
    · cases e
  | _ => exact noneE e⟩
variable {o : Expr} {apos cpos epos : Pos}
theorem u_append (i : Nat) (hv : PE X o (tVar i)) (he : PE X e (UV X.K W f)) (hbase : attributeBase o "append" X.env (eval o X.env) = eval o X.env := by rfl)
    (hfew : ((backTo cpos (starEach [e] X.env)).all (fun x => !x.1) && (backToKw cpos (keywordEach [] X.env)).all (fun x => x.1.isSome) && decide ([e].length + ([] : List Keyword).length + (if ([] : List Keyword).isEmpty then 0 else 1) < 30)) = true := by rfl)
    (hline : (apos.endLine == cpos.line) = true := by rfl) (hs : starEach [e] X.env = (false, eval e X.env) :: starEach [] X.env := by rfl) (hplain : (backTo cpos (starEach [] X.env)).any (·.1) = false := by rfl) :
    PE X (.Call (.Attribute o "append" apos) [e] [] cpos) (UV X.K W (methM i appD f)) := pe_imp (pe_bm PySem.F.plainAttrs_list PySem.F.slot_list_append PySem.F.type_list_append mt_append hv (pa_cons he pa_nil hs) hbase hfew hline hs hplain) fun _ _ _ q => read_meth md_append q
theorem u_extend (i : Nat) (hv : PE X o (tVar i)) (he : PE X e (UV X.K W f)) (hbase : attributeBase o "extend" X.env (eval o X.env) = eval o X.env := by rfl)
    (hfew : ((backTo cpos (starEach [e] X.env)).all (fun x => !x.1) && (backToKw cpos (keywordEach [] X.env)).all (fun x => x.1.isSome) && decide ([e].length + ([] : List Keyword).length + (if ([] : List Keyword).isEmpty then 0 else 1) < 30)) = true := by rfl)
    (hline : (apos.endLine == cpos.line) = true := by rfl) (hs : starEach [e] X.env = (false, eval e X.env) :: starEach [] X.env := by rfl) (hplain : (backTo cpos (starEach [] X.env)).any (·.1) = false := by rfl) :
    PE X (.Call (.Attribute o "extend" apos) [e] [] cpos) (UV X.K W (methM i extD f)) := pe_imp (pe_bm PySem.F.plainAttrs_list PySem.F.slot_list_extend PySem.F.type_list_extend mt_extend hv (pa_cons he pa_nil hs) hbase hfew hline hs hplain) fun _ _ _ q => read_meth md_extend q
theorem u_popAt (i : Nat) (hv : PE X o (tVar i)) (he : PE X e (UV X.K W f)) (hbase : attributeBase o "pop" X.env (eval o X.env) = eval o X.env := by rfl)
    (hfew : ((backTo cpos (starEach [e] X.env)).all (fun x => !x.1) && (backToKw cpos (keywordEach [] X.env)).all (fun x => x.1.isSome) && decide ([e].length + ([] : List Keyword).length + (if ([] : List Keyword).isEmpty then 0 else 1) < 30)) = true := by rfl)
    (hline : (apos.endLine == cpos.line) = true := by rfl) (hs : starEach [e] X.env = (false, eval e X.env) :: starEach [] X.env := by rfl) (hplain : (backTo cpos (starEach [] X.env)).any (·.1) = false := by rfl) :
    PE X (.Call (.Attribute o "pop" apos) [e] [] cpos) (UV X.K W (methM i popAtD f)) := pe_imp (pe_bm PySem.F.plainAttrs_list PySem.F.slot_list_pop PySem.F.type_list_pop mt_popAt hv (pa_cons he pa_nil hs) hbase hfew hline hs hplain) fun _ _ _ q => read_meth md_popAt q
theorem u_pop (i : Nat) (hv : PE X o (tVar i)) (hbase : attributeBase o "pop" X.env (eval o X.env) = eval o X.env := by rfl) (hline : (apos.endLine == cpos.line) = true := by rfl) :
    PE X (.Call (.Attribute o "pop" apos) [] [] cpos) (UV X.K W (meth0M i popD)) := pe_imp (pe_bm0 PySem.F.plainAttrs_list PySem.F.slot_list_pop PySem.F.type_list_pop mt_pop hv hbase hline) fun _ _ _ q => read_meth0 md_pop q
/-- xs[k] = e -/
def setAtD (ds : List Pd.D) (k : Int) (d : Pd.D) : Option (List Pd.D) := (ixN ds.length k).map fun j => ds.set j d
def setE (i : Nat) : Option (List Pd.D) → PM
  | some es => fun ρ ls => .nx (ρ.set i (.own es)) ls
  | none => never
def set2 (i : Nat) (d : Pd.D) : Pd.D → PM
  | .int k => fun ρ ls => ownAt (fun ds => setE i (setAtD ds k d) ρ ls) .no ρ[i]?
  | _ => never
def setAtP (i : Nat) (f g : M Pd.D) : PM := lift f fun d => fun ρ ls => ownAt (fun _ => lift g (set2 i d) ρ ls) .no ρ[i]?
theorem gosNo : ¬ GoS K W w B D0 Hd D .no := id
theorem GoS.xOwn {k : List Pd.D → PO} {o : Option Sl} (h : GoS K W w B D0 Hd D (ownAt k .no o)) : ∃ ds, o = some (.own ds) ∧ GoS K W w B D0 Hd D (k ds) := ownAt_some (P := fun a => GoS K W w B D0 Hd D a) gosNo h
theorem us_setAt {ix : Expr} {g : M Pd.D} {spos : Pos} (i : Nat) (hv : PE X o (tVar i)) (he : PE X e (UV X.K W f)) (hi : PE X ix (UV X.K W g))
    (ha : ∀ v, assign (.Subscript o ix spos) X.env v = (do
      let ov ← holding [v] (eval o X.env)
      let iv ← holding [v, ov] (eval ix X.env)
      standAt spos
      holding [v, ov, iv] (setItem ov iv v)
      release [v, ov, iv] []) := by intro _; rfl)
    (hs : swapsWithSole [.Subscript o ix spos] e pos.line X.env = pure false := by rfl) (hw : swappedStores [.Subscript o ix spos] e X.env = pure none := by rfl)
    (h1 : (assignEach [.Subscript o ix spos] X.env).map (·.2) = [assign (.Subscript o ix spos) X.env] := by rfl) :
    PS X (.Assign [.Subscript o ix spos] e pos) (US X.K W (setAtP i f g)) := ps_imp (ps_asg he (pg_sub hv hi set_list ha) hs hw h1) fun D σ H h => by
  refine Ru.imp (US.lift h) fun w B D0 Hd' H' ρ' ls' d E q v r => ?_
  obtain ⟨ds, e1, q⟩ := GoS.xOwn q
  obtain ⟨p, xs, h1, h2, h3, _⟩ := E.own i _ e1
  refine ⟨.ref p, h1, w, B, D0, Hd', ρ', ls', E, q.lift.imp fun Hd2 H2 ρ2 ls2 k E2 s2 q2 u ru => ?_⟩
  cases ru with
  | int n =>
    obtain ⟨ds2, e2, q3⟩ := GoS.xOwn q2
    obtain ⟨p', xs', g1, g2, g3, _⟩ := E2.own i _ e2
    rw [h1] at g1; cases g1
    unfold setAtD at q3
    cases e3 : ixN ds2.length n with
    | none => rw [e3] at q3; exact q3.elim
    | some j =>
      rw [e3] at q3
      exact ⟨p, xs', n, j, rfl, rfl, g2, by rw [g3.length]; exact e3, q3 σ Hd2 _ (E2.change e2 h1 (g3.set (r.mono s2) j)) (Sub.refl _)⟩
  | _ => exact q2.elim

/-! ### what is walked -/
structure ItOk (K : PySem.W.Frag) (J : It) (Hd : Hp) (ds : List Pd.D) : Prop where
  go : ∀ (i : Nat) H, i < ds.length → Sub Hd H → J.go i H
  stop : ∀ (i : Nat) H, ds.length ≤ i → Sub Hd H → J.stop i H
  yld : ∀ {w : Wd} {B D0 Hd1 H : Hp} {σ : L2.St} {ρ : Rho} {ls : LS} (i : Nat) (x : V) (H' : Hp) (d : Pd.D), EOk K w B D0 Hd1 H σ ρ ls → Sub Hd Hd1 → J.yld i H x H' → ds[i]? = some d → ∃ Hd2, EOk K w B D0 Hd2 H' σ ρ ls ∧ Sub Hd1 Hd2 ∧ Rp K Hd2 x d ∧ (∀ p o, H p = some o → H' p = some o)
def UI (K : PySem.W.Frag) (W : WX) (f : M (List Pd.D)) : TI := fun σ H R => Ru K W f σ H fun _ _ _ Hd' H' _ _ ds => ∀ J, ItOk K J Hd' ds → R J H'
theorem pi_imp {tg e : Expr} {t t' : TI} (h : PI X tg e t) (i : ∀ σ H R, t' σ H R → t σ H R) : PI X tg e t' := ⟨fun pins s σ H R I q => h.run pins s σ H R I (i σ H R q)⟩
theorem pi_or {tg e : Expr} {t t' : TI} (h : PI X tg e t) (h' : PI X tg e t') : PI X tg e (fun σ H R => t σ H R ∨ t' σ H R) := ⟨fun pins s σ H R I q => q.elim (h.run pins s σ H R I) (h'.run pins s σ H R I)⟩
theorem it_list {a : Addr} {xs : List V} {ds : List Pd.D} (h : SqL K Hd a xs) (r : RpL K Hd xs ds) : ItOk K (Itl K a) Hd ds where
  go := fun i H hi s => by
    have hx : i < xs.length := by rw [r.length]; exact hi
    exact ⟨xs, xs[i], s.sqL h, List.getElem?_eq_getElem hx⟩
  stop := fun i H hi s => ⟨xs, s.sqL h, by rw [r.length]; exact hi⟩
  yld := fun i x H' d E s y e => by
    obtain ⟨rfl, hx⟩ := y
    obtain ⟨v, h1, h2⟩ := r.get e
    have := hx xs (E.sub.sqL (s.sqL h))
    rw [h1] at this; cases this
    exact ⟨_, E, Sub.refl _, h2.mono s, fun _ _ q => q⟩
theorem it_tup {a : Addr} {xs : List V} {ds : List Pd.D} (h : SqT K Hd a xs) (r : RpL K Hd xs ds) : ItOk K (Itt K a) Hd ds where
  go := fun i H hi s => by
    have hx : i < xs.length := by rw [r.length]; exact hi
    exact ⟨xs, xs[i], s.sqT h, List.getElem?_eq_getElem hx⟩
  stop := fun i H hi s => ⟨xs, s.sqT h, by rw [r.length]; exact hi⟩
  yld := fun i x H' d E s y e => by
    obtain ⟨rfl, hx⟩ := y
    obtain ⟨v, h1, h2⟩ := r.get e
    have := hx xs (E.sub.sqT (s.sqT h))
    rw [h1] at this; cases this
    exact ⟨_, E, Sub.refl _, h2.mono s, fun _ _ q => q⟩
def rangeL (lo : Int) (n : Nat) : List Pd.D := (List.range n).map fun (i : Nat) => Pd.D.int (lo + i)
theorem rangeL_len (lo : Int) (n : Nat) : (rangeL lo n).length = n := by unfold rangeL; rw [List.length_map, List.length_range]
theorem it_range (lo : Int) (n : Nat) : ItOk K (Itr lo n) Hd (rangeL lo n) where
  go := fun i H hi s => by rw [rangeL_len] at hi; exact hi
  stop := fun i H hi s => by rw [rangeL_len] at hi; exact hi
  yld := fun i x H' d E s y e => by
    obtain ⟨rfl, rfl⟩ := y
    unfold rangeL at e
    rw [List.getElem?_map] at e
    cases e1 : (List.range n)[i]? with
    | none => rw [e1] at e; cases e
    | some j =>
      rw [e1] at e
      cases e
      have : j = i := by
        obtain ⟨_, h⟩ := List.getElem?_eq_some_iff.mp e1
        rw [List.getElem_range] at h; exact h.symm
      subst this
      exact ⟨_, E, Sub.refl _, .int _, fun _ _ q => q⟩
def itemsD : Pd.D → Option (List Pd.D)
  | .tup l => some l
  | .lst l => some l
  | .lsk l => some l
  | _ => none
def itemsM (f : M Pd.D) : M (List Pd.D) := bnd f fun d => opt (itemsD d)
theorem ui_seq {tg : Expr} (h : PE X e (UV X.K W f)) : PI X tg e (UI X.K W (itemsM f)) := pi_imp (pi_or (pi_list h) (pi_tup h)) fun σ H R q => by
  obtain ⟨w, B, D0, Hd, ρ, ls, E, q⟩ := q
  have q := q.xBnd
  cases e1 : f ρ ls with
  | no => rw [e1] at q; exact q.elim
  | rs x ls' => rw [e1] at q; exact .inl ⟨w, B, D0, Hd, ρ, ls, E, by rw [e1]; exact q⟩
  | ok d ρ' ls' =>
    rw [e1] at q
    cases d with
    | tup l =>
      refine .inr ⟨w, B, D0, Hd, ρ, ls, E, by
        rw [e1]
        intro Hd' H' E' s' v hv
        cases hv with
        | tup a r => exact ⟨_, rfl, ⟨_, E'.sub.sqT a.sq⟩, by
            obtain ⟨l', e2, q2⟩ := (q Hd' H' E' s').xOpt1
            cases e2
            exact q2 Hd' H' E' (Sub.refl _) _ (it_tup a.sq r)⟩⟩
    | lst l =>
      refine .inl ⟨w, B, D0, Hd, ρ, ls, E, by
        rw [e1]
        intro Hd' H' E' s' v hv
        cases hv with
        | lst a r => exact ⟨_, rfl, ⟨_, SqL.of (E'.sub _ _ a)⟩, by
            obtain ⟨l', e2, q2⟩ := (q Hd' H' E' s').xOpt1
            cases e2
            exact q2 Hd' H' E' (Sub.refl _) _ (it_list (SqL.of a) r)⟩⟩
    | lsk l =>
      refine .inl ⟨w, B, D0, Hd, ρ, ls, E, by
        rw [e1]
        intro Hd' H' E' s' v hv
        cases hv with
        | lsk a r => exact ⟨_, rfl, ⟨_, E'.sub.sqL a⟩, by
            obtain ⟨l', e2, q2⟩ := (q Hd' H' E' s').xOpt1
            cases e2
            exact q2 Hd' H' E' (Sub.refl _) _ (it_list a r)⟩⟩
    | _ =>
      refine .inl ⟨w, B, D0, Hd, ρ, ls, E, by
        rw [e1]
        intro Hd' H' E' s' v hv
        obtain ⟨l', e2, _⟩ := (q Hd' H' E' s').xOpt1
        cases e2⟩
/-- range(n), range(a, b) -/
def rng1D : List Pd.D → Option (List Pd.D)
  | [.int n] => if decide (n < 1000000) && decide (0 - 1000000 < n) then some (rangeL 0 n.toNat) else none
  | _ => none
def rng2D : List Pd.D → Option (List Pd.D)
  | [.int a, .int b] => if (decide (a < 1000000) && decide (0 - 1000000 < a)) && (decide (b < 1000000) && decide (0 - 1000000 < b)) then some (rangeL a (b - a).toNat) else none
  | _ => none
theorem rng1_inv {ds l : List Pd.D} (h : rng1D ds = some l) : ∃ n : Int, ds = [.int n] ∧ n < 1000000 ∧ 0 - 1000000 < n ∧ l = rangeL 0 n.toNat := by
  unfold rng1D at h
  split at h
  · split at h
    · rename_i n hc
      rw [Bool.and_eq_true] at hc
      cases h
      exact ⟨n, rfl, of_decide_eq_true hc.1, of_decide_eq_true hc.2, rfl⟩
    · cases h
  · cases h
theorem rng2_inv {ds l : List Pd.D} (h : rng2D ds = some l) : ∃ a b : Int, ds = [.int a, .int b] ∧ (a < 1000000 ∧ 0 - 1000000 < a) ∧ (b < 1000000 ∧ 0 - 1000000 < b) ∧ l = rangeL a (b - a).toNat := by
  unfold rng2D at h
  split at h
  · split at h
    · rename_i a b hc
      rw [Bool.and_eq_true, Bool.and_eq_true, Bool.and_eq_true] at hc
      cases h
      exact ⟨a, b, rfl, ⟨of_decide_eq_true hc.1.1, of_decide_eq_true hc.1.2⟩, ⟨of_decide_eq_true hc.2.1, of_decide_eq_true hc.2.2⟩, rfl⟩
    · cases h
  · cases h
variable {a b : Expr} {ga : M (List Pd.D)} {p : Pos}
theorem ui_range1 {tg : Expr} (hm : X.mg "range" = none) (ha : PA X [a] (UA X.K W ga)) (hg : Gl X "range" := by rfl) (hs : starEach [a] X.env = [(false, eval a X.env)] := by rfl) : PI X tg (.Call (.Name "range" p) [a] [] pos) (UI X.K W (bnd ga fun ds => opt (rng1D ds))) := pi_imp (pi_range1 hg hm ha hs) fun σ H R q => by
  refine Ru.imp q.xBnd fun w B D0 Hd' H' ρ' ls' ds E q vs r => ?_
  obtain ⟨l, e1, q2⟩ := q.xOpt1
  obtain ⟨n, rfl, h1, h2, rfl⟩ := rng1_inv e1
  cases r with
  | cons rd r =>
    cases rd; cases r
    exact ⟨n, rfl, by omega, by omega, q2 Hd' H' E (Sub.refl _) _ (it_range 0 n.toNat)⟩
theorem ui_range2 {tg : Expr} (hm : X.mg "range" = none) (ha : PA X [a, b] (UA X.K W ga)) (hg : Gl X "range" := by rfl) (hs : starEach [a, b] X.env = [(false, eval a X.env), (false, eval b X.env)] := by rfl) (hs2 : starEach [b] X.env = [(false, eval b X.env)] := by rfl) :
    PI X tg (.Call (.Name "range" p) [a, b] [] pos) (UI X.K W (bnd ga fun ds => opt (rng2D ds))) := pi_imp (pi_range2 hg hm ha hs hs2) fun σ H R q => by
  refine Ru.imp q.xBnd fun w B D0 Hd' H' ρ' ls' ds E q vs r => ?_
  obtain ⟨l, e1, q2⟩ := q.xOpt1
  obtain ⟨a, b, rfl, h1, h2, rfl⟩ := rng2_inv e1
  cases r with
  | cons ra r =>
    cases r with
    | cons rb r =>
      cases ra; cases rb; cases r
      exact ⟨a, b, rfl, ⟨by omega, by omega, by omega, by omega⟩, q2 Hd' H' E (Sub.refl _) _ (it_range a (b - a).toNat)⟩
/-- list(range(a, b)) -/
theorem rgV_rp (a b : Int) : RpL K Hd (rgV a b) (rangeL a (b - a).toNat) := by
  unfold rgV rangeL
  have go : ∀ l : List Nat, RpL K Hd (l.map fun i => V.int (a + (i : Nat))) (l.map fun (i : Nat) => Pd.D.int (a + i)) := by
    intro l
    induction l with
    | nil => exact .nil
    | cons i l ih => exact .cons (.int _) ih
  exact go _
def lr2D : Pd.D → Pd.D → Option (List Pd.D)
  | .int a, .int b => if (decide (a < 1000000) && decide (0 - 1000000 < a)) && (decide (b < 1000000) && decide (0 - 1000000 < b)) then some (rangeL a (b - a).toNat) else none
  | _, _ => none
def lr1D : Pd.D → Option (List Pd.D)
  | .int b => if (decide (b < 1000000) && decide (0 - 1000000 < b)) then some (rangeL 0 b.toNat) else none
  | _ => none
theorem ofb {c : Bool} {α : Type} {x : α} {y : Option α} (h : (if c = true then y else none) = some x) : c = true ∧ y = some x := by
  cases c with
  | true => exact ⟨rfl, h⟩
  | false => exact noneE h
variable {fa fb : M Rf} {p2 : Pos}
theorem u_listRange2 (hc : X.calm = true) (hm : X.mg "list" = none) (hm2 : X.mg "range" = none) (ha : PE X a (U X.K W fa)) (hb : PE X b (U X.K W fb)) (hg : Gl X "list" := by rfl) (hg2 : Gl X "range" := by rfl)
    (na : starEach [a, b] X.env = (false, eval a X.env) :: starEach [b] X.env := by rfl) (nb : starEach [b] X.env = (false, eval b X.env) :: starEach [] X.env := by rfl)
    (nc : starEach [.Call (.Name "range" p2) [a, b] [] pos] X.env = (false, eval (.Call (.Name "range" p2) [a, b] [] pos) X.env) :: starEach [] X.env := by rfl) (hpl : (backTo pos (starEach [b] X.env)).any (·.1) = false := by rfl) :
    PE X (.Call (.Name "list" p) [.Call (.Name "range" p2) [a, b] [] pos] [] epos) (UN X.K W (bin lr2D fa fb)) := pe_imp (pe_listRg hc hg hm (prg_2 hg2 hm2 ha hb na nb hpl) nc) fun σ H Q q => by
  refine Ru.imp q.xBnd fun w B D0 Hd1 H1 ρ1 ls1 r1 E1 q1 v hv => ?_
  refine Go.ru (P := fun _ _ _ Hd' H' _ _ r => ∀ v_1, RfOk X.K Hd' σ v_1 r → _) E1 ?_
  refine q1.xBnd.imp fun Hd2 H2 ρ2 ls2 r2 E2 s2 q2 u hu => ?_
  obtain ⟨x, hx, q3⟩ := q2.xLookB E2 (hv.mono s2)
  obtain ⟨y, hy, q4⟩ := q3.xLookB E2 hu
  obtain ⟨z, hz, q5⟩ := q4.xOpt1
  cases x <;> cases y <;> try (exact noneE hz)
  rename_i i j
  cases hx.int_inv; cases hy.int_inv
  obtain ⟨hcc, e⟩ := ofb hz
  cases e
  rw [Bool.and_eq_true, Bool.and_eq_true, Bool.and_eq_true] at hcc
  have c1 := of_decide_eq_true hcc.1.1
  have c2 := of_decide_eq_true hcc.1.2
  have c3 := of_decide_eq_true hcc.2.1
  have c4 := of_decide_eq_true hcc.2.2
  refine ⟨i, j, rfl, rfl, ⟨by omega, by omega, by omega, by omega, by omega⟩, fun l hl => ?_⟩
  obtain ⟨E3, F⟩ := E2.newList (xs := rgV i j) hl
  exact q5 _ _ E3 (Sub.refl _) l _ F (rgV_rp i j)
end
end Pd

set_option Elab.async false
set_option linter.all false
set_option maxRecDepth 100000
set_option maxHeartbeats 4000000
/-! Pd5: for, while, calls, defs. -/
namespace Pd
open PySem PySem.Spec PyProof.Rows L2

section
variable {X : Cx} {K : PySem.W.Frag} {W : WX} {α : Type} {w : Wd} {B D0 Hd Hd1 H : Hp} {σ : L2.St} {ρ : Rho} {ls : LS} {De : Ends} {p q : PM} {pos : Pos} {e : Expr} {te : TE} {f : M D} {i : Nat}

/-! ### for -/
def forL (t : D → Rho → Option Rho) (b : PM) : List D → PM
  | [] => skip
  | d :: ds => fun ρ ls => match seqP (asgP t d) b ρ ls with
    | .nx ρ' ls' => forL t b ds ρ' ls'
    | .ct ρ' ls' => forL t b ds ρ' ls'
    | .bk ρ' ls' => .nx ρ' ls'
    | o => o
def forP (t : D → Rho → Option Rho) (f : M (List D)) (b : PM) : PM := lift f (forL t b)
theorem forL_cons {t : D → Rho → Option Rho} {b : PM} {d : D} {ds : List D} {ρ1 : Rho} (e : t d ρ = some ρ1) : forL t b (d :: ds) ρ ls = match b ρ1 ls with
    | .nx ρ' ls' => forL t b ds ρ' ls'
    | .ct ρ' ls' => forL t b ds ρ' ls'
    | .bk ρ' ls' => .nx ρ' ls'
    | o => o := by
  have h : seqP (asgP t d) b ρ ls = b ρ1 ls := by
    unfold seqP asgP
    rw [e]
  show (match seqP (asgP t d) b ρ ls with
    | .nx ρ' ls' => forL t b ds ρ' ls'
    | .ct ρ' ls' => forL t b ds ρ' ls'
    | .bk ρ' ls' => .nx ρ' ls'
    | o => o) = _
  rw [h]
theorem forL_none {t : D → Rho → Option Rho} {b : PM} {d : D} {ds : List D} (e : t d ρ = none) : forL t b (d :: ds) ρ ls = .no := by
  have h : seqP (asgP t d) b ρ ls = .no := by
    unfold seqP asgP
    rw [e]
  show (match seqP (asgP t d) b ρ ls with
    | .nx ρ' ls' => forL t b ds ρ' ls'
    | .ct ρ' ls' => forL t b ds ρ' ls'
    | .bk ρ' ls' => .nx ρ' ls'
    | o => o) = _
  rw [h]
/-- a body of a loop -/
theorem body_go {N : L2.St → Hp → Prop} {k : Rho → LS → PO} {o : PO} (h : GoS K W w B D0 Hd De (match o with
    | .nx ρ' ls' => k ρ' ls'
    | .ct ρ' ls' => k ρ' ls'
    | .bk ρ' ls' => .nx ρ' ls'
    | o => o)) (hN : ∀ ρ' ls', o = .nx ρ' ls' ∨ o = .ct ρ' ls' → ∀ σ' Hd' H', EOk K w B D0 Hd' H' σ' ρ' ls' → Sub Hd Hd' → GoS K W w B D0 Hd' De (k ρ' ls') → N σ' H') : GoS K W w B D0 Hd { De with nx := N, ct := N, bk := De.nx } o := by
  cases o with
  | nx ρ' ls' => exact fun σ' Hd' H' E s => hN ρ' ls' (.inl rfl) σ' Hd' H' E s (GoS.sub s h)
  | ct ρ' ls' => exact fun σ' Hd' H' E s => hN ρ' ls' (.inr rfl) σ' Hd' H' E s (GoS.sub s h)
  | bk ρ' ls' => exact h
  | rt d ls' => exact h
  | rtN l ls' => exact h
  | rs x ls' => exact h
  | no => exact h
theorem read_for {wi : TI} {g : TG} {t : D → Rho → Option Rho} {fl : M (List D)} {b : PM} (hi : ∀ R, UI K W fl σ H R → wi σ H R) {is : List Nat} (hg : TgOk K g t is) (h : US K W (forP t fl b) De σ H) : tFor wi g (US K W b) De σ H := by
  refine hi _ (Ru.imp (US.lift h) fun w B D0 Hd1 H1 ρ1 ls1 ds E1 q J ok => ?_)
  refine ⟨fun i m σ' H' => i + m = ds.length ∧ ∃ Hd' ρ' ls', EOk K w B D0 Hd' H' σ' ρ' ls' ∧ Sub Hd1 Hd' ∧ GoS K W w B D0 Hd' De (forL t b (ds.drop i) ρ' ls'), ⟨ds.length, Nat.zero_add _, Hd1, ρ1, ls1, E1, Sub.refl _, q⟩, ?_⟩
  rintro i m σ' H' ⟨hm, Hd', ρ', ls', E, s, q⟩
  by_cases hlt : i < ds.length
  · have ed : ds.drop i = ds[i] :: ds.drop (i + 1) := List.drop_eq_getElem_cons hlt
    have e1 : ds[i]? = some ds[i] := List.getElem?_eq_getElem hlt
    refine .inr ⟨ok.go i H' hlt (s.trans E.sub), fun σ2 H2 => ∃ m', m' < m ∧ i + 1 + m' = ds.length ∧ ∃ Hd' ρ' ls', EOk K w B D0 Hd' H2 σ2 ρ' ls' ∧ Sub Hd1 Hd' ∧ GoS K W w B D0 Hd' De (forL t b (ds.drop (i + 1)) ρ' ls'), fun σ2 H2 ⟨m', h1, h2, h3⟩ => ⟨m', h1, h2, h3⟩, fun x H2 y => ?_⟩
    obtain ⟨Hd2, E2, s2, r2, _⟩ := ok.yld i x H2 ds[i] E s y e1
    rw [ed] at q
    cases et : t ds[i] ρ' with
    | none => rw [forL_none et] at q; exact q.elim
    | some ρ2 =>
      rw [forL_cons et] at q
      refine hg.run E2 r2 et _ fun σ3 E3 _ => ⟨w, B, D0, Hd2, ρ2, ls', E3, ?_⟩
      exact body_go (GoS.sub s2 q) fun ρ4 ls4 _ σ4 Hd4 H4 E4 s4 q4 => ⟨m - 1, by omega, by omega, Hd4, ρ4, ls4, E4, (s.trans s2).trans s4, q4⟩
  · refine .inl ⟨ok.stop i H' (by omega) (s.trans E.sub), ?_⟩
    have ed : ds.drop i = [] := List.drop_eq_nil_of_le (by omega)
    rw [ed] at q
    exact q σ' Hd' H' E (Sub.refl _)
theorem us_for {tg iter : Expr} {body : List Stmt} {g : TG} {t : D → Rho → Option Rho} {fl : M (List D)} {b : PM} (hp : PassesOwn (model X.prog X.w) X.A X.env X.xe) (hc : X.calm = true) (hi : PI X tg iter (UI K W fl)) {is : List Nat} (hg : PG X tg g) (ht : TgOk K g t is) (hb : PSs X body (US K W b))
    (hs : ∀ x, foldedSetIterable iter X.env x = pure x := by intro _; rfl) : PS X (.For tg iter body [] pos) (US K W (forP t fl b)) := ps_imp (ps_for hp hc hi hg hb hs) fun D σ H h => read_for (fun _ q => q) ht h

/-! ### while -/
def whileP (c : M Bool) (b : PM) : Nat → PM
  | 0 => never
  | n + 1 => lift c fun t => if t = true then fun ρ ls => match b ρ ls with
      | .nx ρ' ls' => whileP c b n ρ' ls'
      | .ct ρ' ls' => whileP c b n ρ' ls'
      | .bk ρ' ls' => .nx ρ' ls'
      | o => o
    else skip
theorem us_while {c : Expr} {body : List Stmt} {tc : M Bool} {b : PM} (n : Nat) (hp : PassesOwn (model X.prog X.w) X.A X.env X.xe) (hc : PT X c (UT K W tc)) (hb : PSs X body (US K W b)) : PS X (.While c body [] pos) (US K W (whileP tc b n)) := ps_imp (ps_while hp hc hb) fun De σ H h => by
  obtain ⟨w, B, D0, Hd, ρ, ls, E, h⟩ := h
  refine ⟨fun m σ' H' => ∃ Hd' ρ' ls', EOk K w B D0 Hd' H' σ' ρ' ls' ∧ Sub Hd Hd' ∧ GoS K W w B D0 Hd' De (whileP tc b m ρ' ls'), ⟨n, Hd, ρ, ls, E, Sub.refl _, h⟩, ?_⟩
  rintro m σ' H' ⟨Hd', ρ', ls', E', s', q⟩
  cases m with
  | zero => exact q.elim
  | succ m =>
    refine ⟨w, B, D0, Hd', ρ', ls', E', (GoS.lift q).imp fun Hd2 H2 ρ2 ls2 t E2 s2 q2 => ?_⟩
    cases t with
    | false => exact q2 σ' Hd2 H2 E2 (Sub.refl _)
    | true =>
      refine ⟨fun σ3 H3 => ∃ m', m' < m + 1 ∧ ∃ Hd' ρ' ls', EOk K w B D0 Hd' H3 σ3 ρ' ls' ∧ Sub Hd Hd' ∧ GoS K W w B D0 Hd' De (whileP tc b m' ρ' ls'), fun σ3 H3 h => h, w, B, D0, Hd2, ρ2, ls2, E2, ?_⟩
      exact body_go (k := whileP tc b m) q2 fun ρ4 ls4 _ σ4 Hd4 H4 E4 s4 q4 => ⟨m, Nat.lt_succ_self m, Hd4, ρ4, ls4, E4, (s'.trans s2).trans s4, q4⟩

/-! ### defs and their calls -/
inductive FO where
  | ok (d : D) (ls : LS) | okN (l : List D) (ls : LS) | rs (x : XV) (ls : LS) | no
abbrev FS := List D → LS → FO
/-- behind a call -/
structure Post (K : PySem.W.Frag) (w : Wd) (Hd H Hd' H' : Hp) (ls' : LS) : Prop where
  ext : ∀ b o, H b = some o → ¬ w.Z b → NT o → H' b = some o
  dom : ∀ b, H' b = none → NB H b
  mono : Sub Hd Hd'
  sub : Sub Hd' H'
  new : ∀ b o, Hd' b = some o → Hd b = some o ∨ NB H b
  noz : ∀ b, w.Z b → Hd' b = none
  nt : ∀ b o, Hd' b = some o → NT o
  st : SOk w ls' H'
/-- a list at p that nobody knew -/
structure NewL (w : Wd) (H Hd' H' : Hp) (p : Addr) (xs : List V) : Prop where
  at_ : H' p = some (.lst xs)
  nd : Hd' p = none
  nb : NB H p
  nz : ¬ w.Z p
def GoF (K : PySem.W.Frag) (w : Wd) (Hd H : Hp) (Q : VK) (E : XK) : FO → Prop
  | .ok d ls' => ∀ v Hd' H', Post K w Hd H Hd' H' ls' → Rp K Hd' v d → Q v H'
  | .okN l ls' => ∀ p xs Hd' H', Post K w Hd H Hd' H' ls' → NewL w H Hd' H' p xs → RpL K Hd' xs l → Q (.ref p) H'
  | .rs x ls' => ∀ H' cls dd, XOk w H H' ls' x cls dd → E cls dd H'
  | .no => False
def spD (K : PySem.W.Frag) (n : Nat) (F : FS) : Sp := fun vs H Q E => ∃ w Hd ds ls, Sub Hd H ∧ (∀ b, w.Z b → Hd b = none) ∧ (∀ b o, Hd b = some o → NT o) ∧ SOk w ls H ∧ RpL K Hd vs ds ∧ ds.length = n ∧ GoF K w Hd H Q E (F ds ls)
theorem Post.eok {Hd' H' : Hp} {ls' : LS} (P : Post K w Hd H Hd' H' ls') (E : EOk K w B D0 Hd H σ ρ ls) : EOk K w B D0 Hd' H' σ ρ ls' := by
  have nbh : ∀ b, ¬ w.Z b → NB H b → NB B b := fun b z h o e t => h o (E.base b o e z t) t
  refine ⟨fun b o e z t => P.ext b o (E.base b o e z t) z t, fun b e => nbh b (fun z => by obtain ⟨o, q⟩ := P.st.inH z; rw [e] at q; cases q) (P.dom b e), P.sub, E.sub0.trans P.mono, P.noz, P.nt, fun b o e => ?_, P.st, E.len, fun i d e => ?_, fun i ds e => ?_, E.apart⟩
  · rcases P.new b o e with h | h
    · exact E.fr b o h
    · exact .inr (nbh b (fun z => by rw [P.noz b z] at e; cases e) h)
  · obtain ⟨v, h1, h2⟩ := E.dat i d e
    exact ⟨v, h1, h2.mono P.mono⟩
  · obtain ⟨p, xs, h1, h2, h3, h4, h5, h6⟩ := E.own i ds e
    refine ⟨p, xs, h1, P.ext p _ h2 h6 NT.lst, h3.mono P.mono, ?_, h5, h6⟩
    cases e2 : Hd' p with
    | none => rfl
    | some o =>
      rcases P.new p o e2 with h | h
      · rw [h4] at h; cases h
      · exact (h.lst h2).elim
theorem Post.fresh {Hd' H' : Hp} {ls' : LS} {p : Addr} {xs : List V} (E : EOk K w B D0 Hd H σ ρ ls) (N : NewL w H Hd' H' p xs) : Fresh w B Hd' H' σ ρ p xs := by
  refine ⟨N.at_, N.nd, fun o e t => N.nb o (E.base p o e N.nz t) t, N.nz, fun i ds e z => ?_⟩
  obtain ⟨q, ys, h1, h2, _⟩ := E.own i ds e
  rw [h1] at z
  cases z
  exact N.nb.lst h2
def callF (o : FO) : M D := fun ρ ls => match o with
  | .ok d ls' => .ok d ρ ls'
  | .rs x ls' => .rs x ls'
  | _ => .no
def callM (n : Nat) (F : FS) (ga : M (List D)) : M D := bnd ga fun ds ρ ls => if ds.length = n then callF (F ds ls) ρ ls else .no
theorem read_call {n : Nat} {F : FS} {ga : M (List D)} {ta : TA} (ht : ∀ R, UA K W ga σ H R → ta σ H R) {Q : VK} (h : UV K W (callM n F ga) σ H Q) : tCallS (spD K n F) (WE W) ta σ H Q := by
  refine ht _ (Ru.imp h.xBnd fun w B D0 Hd1 H1 ρ1 ls1 ds E1 q vs r => ?_)
  have q : Go K W w B D0 σ Hd1 (if ds.length = n then callF (F ds ls1) ρ1 ls1 else .no) fun Hd' H' _ _ d => ∀ v, Rp K Hd' v d → Q v H' := q
  by_cases hn : ds.length = n
  · rw [if_pos hn] at q
    refine ⟨w, Hd1, ds, ls1, E1.sub, E1.noz, E1.nt, E1.st, r, hn, ?_⟩
    unfold callF at q
    cases e : F ds ls1 with
    | ok d ls' =>
      rw [e] at q
      exact fun v Hd' H' P rv => q Hd' H' (P.eok E1) P.mono v rv
    | okN l ls' => rw [e] at q; exact q.elim
    | rs x ls' =>
      rw [e] at q
      exact fun H' cls dd xo => q H' cls dd ⟨fun b o eb z t => xo.base b o (E1.base b o eb z t) z t, xo.st, xo.cls, xo.non, xo.fld⟩
    | no => rw [e] at q; exact q
  · rw [if_neg hn] at q
    exact q.elim
/-- a call that gives a new list -/
def callFN (o : FO) : M (List D) := fun ρ ls => match o with
  | .okN l ls' => .ok l ρ ls'
  | .rs x ls' => .rs x ls'
  | _ => .no
def callN (n : Nat) (F : FS) (ga : M (List D)) : M (List D) := bnd ga fun ds ρ ls => if ds.length = n then callFN (F ds ls) ρ ls else .no
theorem read_callN {n : Nat} {F : FS} {ga : M (List D)} {ta : TA} (ht : ∀ R, UA K W ga σ H R → ta σ H R) {Q : VK} (h : UN K W (callN n F ga) σ H Q) : tCallS (spD K n F) (WE W) ta σ H Q := by
  refine ht _ (Ru.imp h.xBnd fun w B D0 Hd1 H1 ρ1 ls1 ds E1 q vs r => ?_)
  have q : Go K W w B D0 σ Hd1 (if ds.length = n then callFN (F ds ls1) ρ1 ls1 else .no) fun Hd' H' ρ' _ l => ∀ p xs, Fresh w B Hd' H' σ ρ' p xs → RpL K Hd' xs l → Q (.ref p) H' := q
  by_cases hn : ds.length = n
  · rw [if_pos hn] at q
    refine ⟨w, Hd1, ds, ls1, E1.sub, E1.noz, E1.nt, E1.st, r, hn, ?_⟩
    unfold callFN at q
    cases e : F ds ls1 with
    | ok d ls' => rw [e] at q; exact q.elim
    | okN l ls' =>
      rw [e] at q
      exact fun p xs Hd' H' P N r' => q Hd' H' (P.eok E1) P.mono p xs (Post.fresh (ls' := ls') E1 N) r'
    | rs x ls' =>
      rw [e] at q
      exact fun H' cls dd xo => q H' cls dd ⟨fun b o eb z t => xo.base b o (E1.base b o eb z t) z t, xo.st, xo.cls, xo.non, xo.fld⟩
    | no => rw [e] at q; exact q
  · rw [if_neg hn] at q
    exact q.elim
theorem u_call {k : Nat} {fa : Addr} {fd : FuncData} {ps : List Str} {x : Str} {n : Nat} {F : FS} {ga : M (List D)} {pp : Pos} {es : List Expr} (G : FnOk X.prog X.w X.K X.mg X.base (L2.CX X.prog X.w) k fa fd ps (spD X.K n F)) (hr : Room k X.A) (hm : X.mg x = some (.ref fa)) (hk : PySem.W.keepIn X.K (.ref fa) = true)
    (hb : Binds X.K fd ps []) (tk : Takes X W) (ha : PA X (e :: es) (UA X.K W ga)) (hg : Gl X x := by rfl) (hdb : (x == ("__debug__" : Str)) = false := by decide) (he : starEach (e :: es) X.env = (false, eval e X.env) :: starEach es X.env := by rfl) (hpl : (backTo pos (starEach es X.env)).any (·.1) = false := by rfl) :
    PE X (.Call (.Name x pp) (e :: es) [] pos) (UV X.K W (callM n F ga)) := pe_imp (pe_callS G hr hg hm hk hb (fun σ => passAt tk σ) ha hdb he hpl) fun σ H Q h => read_call (fun _ q => q) h
/-- a def keeps its promise: its body is a program, and the program gives what F tells -/
def ini (N : Nat) (ds : List D) : Rho := ds.map Sl.dat ++ List.replicate (N - ds.length) Sl.un
theorem EOk.start {N : List Str} {vs : List V} {ds : List D} (s : Sub Hd H) (z : ∀ b, w.Z b → Hd b = none) (t : ∀ b o, Hd b = some o → NT o) (st : SOk w ls H) (r : RpL K Hd vs ds) : EOk K w H Hd Hd H (L2.start N vs) (ini N.length ds) ls := by
  have hl := r.length
  have noOwn : ∀ (i : Nat) (l : List D), (ini N.length ds)[i]? ≠ some (.own l) := fun i l e => by
    unfold ini at e
    by_cases hi : i < ds.length
    · rw [List.getElem?_append_left (by simpa using hi), List.getElem?_map] at e
      cases e1 : ds[i]? with
      | none => rw [e1] at e; cases e
      | some d => rw [e1] at e; cases e
    · rw [List.getElem?_append_right (by simpa using hi), List.getElem?_replicate] at e
      split at e <;> cases e
  refine ⟨fun b o e _ _ => e, fun b e => .of e, s, Sub.refl _, z, t, fun b o e => .inl e, st, ?_, fun i d e => ?_, fun i l e => absurd e (noOwn i l), fun i j p l l' ne e _ => absurd e (noOwn i l)⟩
  · unfold L2.start ini
    simp [hl]
  · unfold ini at e
    by_cases hi : i < ds.length
    · rw [List.getElem?_append_left (by simpa using hi), List.getElem?_map] at e
      cases e1 : ds[i]? with
      | none => rw [e1] at e; cases e
      | some d' =>
        rw [e1] at e
        cases e
        obtain ⟨v, h1, h2⟩ := r.get e1
        refine ⟨v, ?_, h2⟩
        unfold L2.start
        rw [List.getElem?_append_left (by rw [List.length_map, hl]; exact hi), List.getElem?_map, h1]
        rfl
    · rw [List.getElem?_append_right (by simpa using hi), List.getElem?_replicate] at e
      split at e <;> cases e
/-- what a program's end is for a caller -/
def endF : PO → FO
  | .nx _ ls => .ok .non ls
  | .rt d ls => .ok d ls
  | .rtN l ls => .okN l ls
  | .rs x ls => .rs x ls
  | _ => .no
def Does (N n : Nat) (p : PM) (F : FS) : Prop := ∀ ds ls, ds.length = n → F ds ls = .no ∨ endF (p (ini N ds) ls) = F ds ls
theorem fn_does {N ps : List Str} {vs : List V} {Q : VK} {E : XK} {p : PM} {F : FS} {n : Nat} (hd : Does N.length n p F) (h : spD K n F vs H Q E) : US K (fun cls d _ H => E cls d H) p { nx := fun _ H' => Q .non H', rt := Q } (L2.start N vs) H := by
  obtain ⟨w, Hd, ds, ls, s, z, t, st, r, hn, g⟩ := h
  refine ⟨w, H, Hd, Hd, _, ls, EOk.start s z t st r, ?_⟩
  have post : ∀ {σ' Hd' H' ρ' ls'}, EOk K w H Hd Hd' H' σ' ρ' ls' → Sub Hd Hd' → Post K w Hd H Hd' H' ls' := fun E s => ⟨fun b o e z t => E.base b o e z t, E.dom, s, E.sub, E.fr, E.noz, E.nt, E.st⟩
  rcases hd ds ls hn with h | h
  · rw [h] at g; exact g.elim
  · rw [← h] at g
    cases e : p (ini N.length ds) ls with
    | nx ρ' ls' => rw [e] at g; exact fun σ' Hd' H' E s => g .non Hd' H' (post E s) .non
    | rt d ls' => rw [e] at g; exact fun v σ' Hd' H' ρ' E s rv => g v Hd' H' (post E s) rv
    | rtN l ls' => rw [e] at g; exact fun p xs σ' Hd' H' ρ' E s F r => g p xs Hd' H' (post E s) ⟨F.at_, F.nd, F.nb, F.nz⟩ r
    | rs x ls' => rw [e] at g; exact fun H' cls dd σ' xo => g H' cls dd xo
    | bk ρ' ls' => rw [e] at g; exact g.elim
    | ct ρ' ls' => rw [e] at g; exact g.elim
    | no => rw [e] at g; exact g.elim
theorem fn_ok {P : Program} {w : World} {mg : Str → Option Value} {base : Heap} {x : Str} {st : Stmt} {fa : Addr} {fd : FuncData} {N ps : List Str} {k n : Nat} {F : FS} {p : PM} (T : Fun K x x st fa fd) (S : FnScope N ps (defScope st)) (hn : ps.length = n)
    (body : ∀ (cdv : Value) (A : Around) (outer : List Env) (s : Shared) (H : Hp) (E : XK), Room k (A.deeper (envOfC x (defScope st) s.heap.objs.size fa cdv)) → PSs (cxOf (L2.CX P w) P w K mg base N x (defScope st) fa cdv A outer s H E) (defBody st) (US K (fun cls d _ H => E cls d H) p))
    (hd : Does N.length n p F) : FnOk P w K mg base (L2.CX P w) (k + 1) fa fd ps (spD K n F) := by
  refine T.okX S (fun vs H Q E h => ?_) (fun cdv A outer s H vs Q E hr h => ⟨_, body cdv A outer s H E hr, fn_does (ps := ps) hd h⟩)
  obtain ⟨w, Hd, ds, ls, _, _, _, _, r, h2, _⟩ := h
  rw [r.length, h2, hn]
end
end Pd

set_option Elab.async false
set_option linter.all false
set_option maxRecDepth 100000
set_option maxHeartbeats 4000000
/-! Pd6: list comprehensions. -/
namespace Pd
open PySem PySem.Spec PyProof.Rows L2

/-- no exception is wished -/
abbrev W0 : WX := fun _ _ _ _ => False
/-- the slots of a block forgotten -/
def wipeR (ρ : Rho) : List Nat → Rho
  | [] => ρ
  | v :: vs => (wipeR ρ vs).set v .un
def isOwn : Option Sl → Bool
  | some (.own _) => true
  | _ => false
def noOwn (ρ : Rho) (vs : List Nat) : Bool := vs.all fun v => !isOwn ρ[v]?
/-- the slots of the block as before, the others as they are -/
def unwipe (ρ0 : Rho) (ρ : Rho) : List Nat → Rho
  | [] => ρ
  | v :: vs => match ρ0[v]? with
    | some s => (unwipe ρ0 ρ vs).set v s
    | none => unwipe ρ0 ρ vs
theorem wipeR_len (ρ : Rho) : ∀ vs, (wipeR ρ vs).length = ρ.length
  | [] => rfl
  | v :: vs => by unfold wipeR; rw [List.length_set, wipeR_len ρ vs]
theorem wipeR_in {ρ : Rho} {i : Nat} {s : Sl} : ∀ {vs : List Nat}, (wipeR ρ vs)[i]? = some s → i ∈ vs → s = .un
  | [], _, h => by simp at h
  | v :: vs, h, hm => by
    unfold wipeR at h
    rcases getSet h with ⟨_, _, rfl⟩ | ⟨ne, h⟩
    · rfl
    · rcases List.mem_cons.mp hm with e | hm
      · exact absurd e ne
      · exact wipeR_in h hm
theorem wipeR_out {ρ : Rho} {i : Nat} : ∀ {vs : List Nat}, i ∉ vs → (wipeR ρ vs)[i]? = ρ[i]?
  | [], _ => rfl
  | v :: vs, h => by
    unfold wipeR
    rw [List.getElem?_set_ne (fun e => h (by rw [e]; exact List.mem_cons_self))]
    exact wipeR_out fun q => h (List.mem_cons_of_mem _ q)
theorem wipe_outS {σ : L2.St} {i : Nat} : ∀ {vs : List Nat}, i ∉ vs → (wipe σ vs)[i]? = σ[i]?
  | [], _ => rfl
  | v :: vs, h => by
    unfold wipe
    rw [List.getElem?_set_ne (fun e => h (by rw [e]; exact List.mem_cons_self))]
    exact wipe_outS fun q => h (List.mem_cons_of_mem _ q)
theorem unwipe_len (ρ0 ρ : Rho) : ∀ vs, (unwipe ρ0 ρ vs).length = ρ.length
  | [] => rfl
  | v :: vs => by
    unfold unwipe
    split
    · rw [List.length_set]; exact unwipe_len ρ0 ρ vs
    · exact unwipe_len ρ0 ρ vs
theorem unwipe_get {ρ0 ρ : Rho} {i : Nat} {s : Sl} : ∀ {vs : List Nat}, (unwipe ρ0 ρ vs)[i]? = some s → (i ∈ vs ∧ ρ0[i]? = some s) ∨ (ρ[i]? = some s ∧ (i ∈ vs → ρ0[i]? = none))
  | [], h => .inr ⟨h, fun q => nomatch q⟩
  | v :: vs, h => by
    unfold unwipe at h
    cases e : ρ0[v]? with
    | some s' =>
      simp only [e] at h
      rcases getSet h with ⟨hi, _, e3⟩ | ⟨ne, h⟩
      · exact .inl ⟨by rw [hi]; exact List.mem_cons_self, by rw [hi, e3]; exact e⟩
      · rcases unwipe_get h with ⟨h1, h2⟩ | ⟨h1, h2⟩
        · exact .inl ⟨List.mem_cons_of_mem _ h1, h2⟩
        · exact .inr ⟨h1, fun q => (List.mem_cons.mp q).elim (fun q => absurd q ne) h2⟩
    | none =>
      simp only [e] at h
      rcases unwipe_get h with ⟨h1, h2⟩ | ⟨h1, h2⟩
      · exact .inl ⟨List.mem_cons_of_mem _ h1, h2⟩
      · exact .inr ⟨h1, fun q => (List.mem_cons.mp q).elim (fun q => by rw [q]; exact e) h2⟩

section
variable {X : Cx} {K : PySem.W.Frag} {W : WX} {w : Wd} {B D0 Hd Hd1 H H1 : Hp} {σ : L2.St} {ρ ρ1 : Rho} {ls : LS} {xs : List V} {Dl : Addr} {vs : List Nat}

/-- slots forgotten -/
theorem EOk.wipe (E : EOk K w B D0 Hd H σ ρ ls) (vs : List Nat) : EOk K w B D0 Hd H (L2.wipe σ vs) (wipeR ρ vs) ls := by
  have out : ∀ (i : Nat) s, (wipeR ρ vs)[i]? = some s → s ≠ .un → i ∉ vs ∧ ρ[i]? = some s := fun i s h ne => by
    have hn : i ∉ vs := fun q => ne (wipeR_in h q)
    exact ⟨hn, by rw [← wipeR_out hn]; exact h⟩
  refine ⟨E.base, E.dom, E.sub, E.sub0, E.noz, E.nt, E.fr, E.st, by rw [wipe_length, wipeR_len]; exact E.len, fun i d e => ?_, fun i ds e => ?_, fun i j p ds es ne e1 e2 s1 s2 => ?_⟩
  · obtain ⟨hn, e⟩ := out i _ e (by intro h; cases h)
    obtain ⟨v, h1, h2⟩ := E.dat i d e
    exact ⟨v, by rw [wipe_outS hn]; exact h1, h2⟩
  · obtain ⟨hn, e⟩ := out i _ e (by intro h; cases h)
    obtain ⟨p, xs, h1, h2⟩ := E.own i ds e
    exact ⟨p, xs, by rw [wipe_outS hn]; exact h1, h2⟩
  · obtain ⟨hn, e1⟩ := out i _ e1 (by intro h; cases h)
    obtain ⟨hm, e2⟩ := out j _ e2 (by intro h; cases h)
    rw [wipe_outS hn] at s1
    rw [wipe_outS hm] at s2
    exact E.apart i j p ds es ne e1 e2 s1 s2
/-- a new list at Dl that is to be filled: it stands in what the caller knows -/
theorem EOk.under (E : EOk K w B D0 Hd H σ ρ ls) (h : H Dl = none) : EOk K w (upd B Dl (.lst [])) D0 Hd (upd H Dl (.lst [])) σ ρ ls := by
  have hd := E.nd_new h
  have nz := E.nz_new h
  have nb := E.dom _ h
  have E2 := (E.newList (xs := []) h).1
  refine ⟨fun b o e z t => ?_, fun b e => ?_, E2.sub, E.sub0, E.noz, E.nt, fun b o e => ?_, E2.st, E.len, E.dat, fun i ds e => ?_, E.apart⟩
  · by_cases hb : b = Dl
    · subst hb; rw [upd_same] at e ⊢; exact e
    · rw [upd_ne hb] at e; exact E2.base b o e z t
  · by_cases hb : b = Dl
    · subst hb; rw [upd_same] at e; cases e
    · rw [upd_ne hb] at e; exact (NB.up hb).mpr (E.dom b e)
  · rcases E.fr b o e with q | q
    · exact .inl q
    · exact .inr ((NB.up (fun z => by rw [z, hd] at e; cases e)).mpr q)
  · obtain ⟨p, xs, h1, h2, h3, h4, h5, h6⟩ := E2.own i ds e
    have hp : p ≠ Dl := fun z => by
      obtain ⟨p', xs', g1, g2, _⟩ := E.own i ds e
      rw [h1] at g1; cases g1
      rw [z, h] at g2; cases g2
    exact ⟨p, xs, h1, h2, h3, h4, (NB.up hp).mpr h5, h6⟩
structure UnderOk (w : Wd) (B D0 : Hp) (Dl : Addr) : Prop where
  nz : ¬ w.Z Dl
  nb : NB B Dl
  n0 : D0 Dl = none
theorem EOk.under_nd (E : EOk K w (upd B Dl (.lst xs)) D0 Hd H σ ρ ls) (u : UnderOk w B D0 Dl) : Hd Dl = none := by
  cases e : Hd Dl with
  | none => rfl
  | some o =>
    rcases E.fr _ _ e with h | h
    · rw [u.n0] at h; cases h
    · exact (h.atL rfl).elim
theorem EOk.under_at (E : EOk K w (upd B Dl (.lst xs)) D0 Hd H σ ρ ls) (u : UnderOk w B D0 Dl) : H Dl = some (.lst xs) := E.base _ _ upd_same u.nz NT.lst
/-- .. it grows -/
theorem EOk.under_set {ys : List V} (E : EOk K w (upd B Dl (.lst xs)) D0 Hd H σ ρ ls) (u : UnderOk w B D0 Dl) : EOk K w (upd B Dl (.lst ys)) D0 Hd (upd H Dl (.lst ys)) σ ρ ls := by
  have hd := E.under_nd u
  have ha := E.under_at u
  refine ⟨fun b o e z t => ?_, fun b e => ?_, fun b o e => ?_, E.sub0, E.noz, E.nt, fun b o e => ?_, E.st.keep (fun b z => upd_ne fun q => u.nz (q ▸ z)) (tabs_upd E.st.tabs (lo_lst ha)), E.len, E.dat, fun i ds e => ?_, E.apart⟩
  · by_cases hb : b = Dl
    · subst hb; rw [upd_same] at e ⊢; exact e
    · rw [upd_ne hb] at e ⊢; exact E.base b o (by rw [upd_ne hb]; exact e) z t
  · by_cases hb : b = Dl
    · subst hb; rw [upd_same] at e; cases e
    · rw [upd_ne hb] at e
      exact (NB.up hb).mpr ((NB.up hb).mp (E.dom b e))
  · rw [upd_ne (fun z => by rw [z, hd] at e; cases e)]; exact E.sub b o e
  · rcases E.fr b o e with q | q
    · exact .inl q
    · refine .inr ?_
      exact (NB.up q.atL).mpr ((NB.up q.atL).mp q)
  · obtain ⟨p, zs, h1, h2, h3, h4, h5, h6⟩ := E.own i ds e
    have hp : p ≠ Dl := h5.atL
    exact ⟨p, zs, h1, by rw [upd_ne hp]; exact h2, h3, h4, (NB.up hp).mpr ((NB.up hp).mp h5), h6⟩
/-- .. it is done -/
theorem EOk.under_end (E0 : EOk K w B D0 Hd1 H1 σ ρ1 ls) {ls' : LS} (s : Sub Hd1 Hd) (no : noOwn ρ1 vs = true) (E : EOk K w (upd B Dl (.lst xs)) D0 Hd H (L2.wipe σ vs) ρ ls') (u : UnderOk w B D0 Dl) :
    EOk K w B D0 Hd H σ (unwipe ρ1 ρ vs) ls' ∧ Fresh w B Hd H σ (unwipe ρ1 ρ vs) Dl xs := by
  have hd := E.under_nd u
  have ha := E.under_at u
  have lenρ : ρ.length = ρ1.length := by rw [← E.len, wipe_length, E0.len]
  have none_of : ∀ {i : Nat} {s : Sl}, ρ[i]? = some s → ρ1[i]? ≠ none := fun {i s} h q => by
    have h1 := (List.getElem?_eq_some_iff.mp h).1
    have h2 := List.getElem?_eq_none_iff.mp q
    omega
  have inner : ∀ {i : Nat} {s : Sl}, (unwipe ρ1 ρ vs)[i]? = some s → (i ∈ vs ∧ ρ1[i]? = some s) ∨ (i ∉ vs ∧ ρ[i]? = some s) := fun {i s} h => by
    rcases unwipe_get h with h | ⟨h1, h2⟩
    · exact .inl h
    · exact .inr ⟨fun q => none_of h1 (h2 q), h1⟩
  have ownOut : ∀ {i : Nat} {ds : List D}, (unwipe ρ1 ρ vs)[i]? = some (.own ds) → i ∉ vs ∧ ρ[i]? = some (.own ds) := fun {i ds} h => by
    rcases inner h with ⟨h1, h2⟩ | h
    · have := List.all_eq_true.mp no i h1
      rw [h2] at this; simp [isOwn] at this
    · exact h
  refine ⟨⟨fun b o e z t => E.base b o ?_ z t, fun b e => ?_, E.sub, E.sub0, E.noz, E.nt, fun b o e => ?_, E.st, ?_, fun i d e => ?_, fun i ds e => ?_, fun i j p ds es ne e1 e2 s1 s2 => ?_⟩, ⟨ha, hd, u.nb, u.nz, fun i ds e q => ?_⟩⟩
  · rw [upd_ne (u.nb.ne e t)]; exact e
  · have := E.dom b e
    exact (NB.up this.atL).mp this
  · rcases E.fr b o e with q | q
    · exact .inl q
    · exact .inr ((NB.up q.atL).mp q)
  · rw [unwipe_len, lenρ, E0.len]
  · rcases inner e with ⟨_, h⟩ | ⟨hn, h⟩
    · obtain ⟨v, g1, g2⟩ := E0.dat i d h
      exact ⟨v, g1, g2.mono s⟩
    · obtain ⟨v, g1, g2⟩ := E.dat i d h
      rw [wipe_outS hn] at g1
      exact ⟨v, g1, g2⟩
  · obtain ⟨hn, h⟩ := ownOut e
    obtain ⟨p, zs, h1, h2, h3, h4, h5, h6⟩ := E.own i ds h
    rw [wipe_outS hn] at h1
    exact ⟨p, zs, h1, h2, h3, h4, (NB.up h5.atL).mp h5, h6⟩
  · obtain ⟨hn, e1⟩ := ownOut e1
    obtain ⟨hm, e2⟩ := ownOut e2
    exact E.apart i j p ds es ne e1 e2 (by rw [wipe_outS hn]; exact s1) (by rw [wipe_outS hm]; exact s2)
  · obtain ⟨hn, h⟩ := ownOut e
    obtain ⟨p, zs, h1, h2, h3, h4, h5, h6⟩ := E.own i ds h
    rw [wipe_outS hn] at h1
    rw [q] at h1; cases h1
    exact (h5.atL rfl).elim

/-! ### the loop of a comprehension -/
def lcE (k : List D → Rho → LS → Out (List D)) (e : M D) (acc : List D) (ρ : Rho) (ls : LS) : Out (List D) := match e ρ ls with
  | .ok x ρ' ls' => if acc.length < top then k (acc ++ [x]) ρ' ls' else .no
  | _ => .no
def lcC (k : List D → Rho → LS → Out (List D)) (c : M Bool) (e : M D) (acc : List D) (ρ : Rho) (ls : LS) : Out (List D) := match c ρ ls with
  | .ok true ρ' ls' => lcE k e acc ρ' ls'
  | .ok false ρ' ls' => k acc ρ' ls'
  | _ => .no
def lcT (k : List D → Rho → LS → Out (List D)) (c : M Bool) (e : M D) (acc : List D) (ls : LS) : Option Rho → Out (List D)
  | some ρ => lcC k c e acc ρ ls
  | none => .no
def lcL (t : D → Rho → Option Rho) (c : M Bool) (e : M D) (vs : List Nat) : List D → List D → Rho → LS → Out (List D)
  | [], acc, ρ, ls => .ok acc ρ ls
  | d :: ds, acc, ρ, ls => lcT (fun acc ρ ls => lcL t c e vs ds acc (wipeR ρ vs) ls) c e acc ls (t d ρ)
def lcEnd (ρ0 : Rho) (vs : List Nat) : Out (List D) → Out (List D)
  | .ok l ρ ls => .ok l (unwipe ρ0 ρ vs) ls
  | _ => .no
def lcM (src : M (List D)) (t : D → Rho → Option Rho) (c : M Bool) (e : M D) (vs : List Nat) : M (List D) := bnd src fun ds ρ ls => if noOwn ρ vs = true then lcEnd ρ vs (lcL t c e vs ds [] (wipeR ρ vs) ls) else .no

theorem wipe_inS {σ : L2.St} {i : Nat} (hl : i < σ.length) : ∀ {vs : List Nat}, i ∈ vs → (wipe σ vs)[i]? = some none
  | [], h => nomatch h
  | v :: vs, h => by
    unfold wipe
    by_cases e : v = i
    · rw [e, List.getElem?_set_self (by rw [wipe_length]; exact hl)]
    · rw [List.getElem?_set_ne e]
      exact wipe_inS hl ((List.mem_cons.mp h).elim (fun q => absurd q.symm e) id)
theorem wipe_same {a b : L2.St} {vs : List Nat} (hl : a.length = b.length) (h : ∀ (j : Nat), j ∉ vs → a[j]? = b[j]?) : wipe a vs = wipe b vs := by
  refine List.ext_getElem? fun j => ?_
  by_cases hj : j ∈ vs
  · by_cases h2 : j < a.length
    · rw [wipe_inS h2 hj, wipe_inS (by omega) hj]
    · rw [List.getElem?_eq_none (by rw [wipe_length]; omega), List.getElem?_eq_none (by rw [wipe_length]; omega)]
  · rw [wipe_outS hj, wipe_outS hj, h j hj]
theorem wipe_wipe {σ : L2.St} {vs : List Nat} : wipe (wipe σ vs) vs = wipe σ vs := wipe_same (wipe_length _ _) fun j hj => wipe_outS hj
theorem wipe_sames {is : List Nat} {σ σ2 : L2.St} (h : Sames is (wipe σ vs) σ2) (hi : ∀ i ∈ is, i ∈ vs) : wipe σ2 vs = wipe σ vs :=
  (wipe_same h.len fun j hj => h.out j fun q => hj (hi j q)).trans wipe_wipe

theorem read_lc {wi : TI} {g : TG} {t : D → Rho → Option Rho} {src : M (List D)} {c : M Bool} {e : M D} {is : List Nat} (hi : ∀ R, UI K W src σ H R → wi σ H R) (hg : TgOk K g t is) (hv : ∀ i ∈ is, i ∈ vs) {Q : VK} (h : UN K W (lcM src t c e vs) σ H Q) :
    tLc wi g (UT K W0 c) (UV K W0 e) vs σ H Q := by
  refine hi _ (Ru.imp h.xBnd fun w B D0 Hd1 H1 ρ1 ls1 ds E1 q J ok Dl hD => ?_)
  have q : Go K W w B D0 σ Hd1 (if noOwn ρ1 vs = true then lcEnd ρ1 vs (lcL t c e vs ds [] (wipeR ρ1 vs) ls1) else .no) fun Hd' H' ρ' ls' ds => ∀ p xs, Fresh w B Hd' H' σ ρ' p xs → RpL K Hd' xs ds → Q (.ref p) H' := q
  by_cases no : noOwn ρ1 vs = true
  · rw [if_pos no] at q
    have u : UnderOk w B D0 Dl := ⟨E1.nz_new hD, E1.dom _ hD, by
      cases e0 : D0 Dl with
      | none => rfl
      | some o => rw [E1.sub _ _ (E1.sub0 _ _ e0)] at hD; cases hD⟩
    refine ⟨fun i m H' => i + m = ds.length ∧ ∃ Hd' ρ' ls' acc xs, EOk K w (upd B Dl (.lst xs)) D0 Hd' H' (wipe σ vs) (wipeR ρ' vs) ls' ∧ Sub Hd1 Hd' ∧ RpL K Hd' xs acc ∧
      Go K W w B D0 σ Hd1 (lcEnd ρ1 vs (lcL t c e vs (ds.drop i) acc (wipeR ρ' vs) ls')) fun Hd' H' ρ' ls' ds => ∀ p xs, Fresh w B Hd' H' σ ρ' p xs → RpL K Hd' xs ds → Q (.ref p) H',
      ⟨ds.length, Nat.zero_add _, Hd1, ρ1, ls1, [], [], (E1.under hD).wipe vs, Sub.refl _, .nil, q⟩, ?_⟩
    rintro i m H' ⟨hm, Hd', ρ', ls', acc, xs, E, s, ra, q⟩
    by_cases hlt : i < ds.length
    · have ed : ds.drop i = ds[i] :: ds.drop (i + 1) := List.drop_eq_getElem_cons hlt
      have e1 : ds[i]? = some ds[i] := List.getElem?_eq_getElem hlt
      refine .inr ⟨ok.go i H' hlt (s.trans E.sub), fun H2 => ∃ m', m' < m ∧ i + 1 + m' = ds.length ∧ ∃ Hd' ρ' ls' acc xs, EOk K w (upd B Dl (.lst xs)) D0 Hd' H2 (wipe σ vs) (wipeR ρ' vs) ls' ∧ Sub Hd1 Hd' ∧ RpL K Hd' xs acc ∧
        Go K W w B D0 σ Hd1 (lcEnd ρ1 vs (lcL t c e vs (ds.drop (i + 1)) acc (wipeR ρ' vs) ls')) fun Hd' H' ρ' ls' ds => ∀ p xs, Fresh w B Hd' H' σ ρ' p xs → RpL K Hd' xs ds → Q (.ref p) H', fun H2 ⟨m', h1, h2, h3⟩ => ⟨m', h1, h2, h3⟩, fun x H2 y => ?_⟩
      obtain ⟨Hd2, E2, s2, r2, _⟩ := ok.yld i x H2 ds[i] E s y e1
      rw [ed] at q
      have q : Go K W w B D0 σ Hd1 (lcEnd ρ1 vs (lcT (fun acc ρ ls => lcL t c e vs (ds.drop (i + 1)) acc (wipeR ρ vs) ls) c e acc ls' (t ds[i] (wipeR ρ' vs)))) _ := q
      cases et : t ds[i] (wipeR ρ' vs) with
      | none => rw [et] at q; exact q.elim
      | some ρ2 =>
        rw [et] at q
        have q : Go K W w B D0 σ Hd1 (lcEnd ρ1 vs (lcC (fun acc ρ ls => lcL t c e vs (ds.drop (i + 1)) acc (wipeR ρ vs) ls) c e acc ρ2 ls')) _ := q
        refine hg.run E2 r2 et _ fun σ3 E3 sm => ⟨wipe_sames sm hv, w, upd B Dl (.lst xs), D0, Hd2, ρ2, ls', E3, ?_⟩
        unfold lcC at q
        cases ec : c ρ2 ls' with
        | no => rw [ec] at q; exact q.elim
        | rs x ls2 => rw [ec] at q; exact q.elim
        | ok b ρ3 ls3 =>
          rw [ec] at q
          intro Hd4 H4 E4 s4
          cases b with
          | false =>
            have q : Go K W w B D0 σ Hd1 (lcEnd ρ1 vs (lcL t c e vs (ds.drop (i + 1)) acc (wipeR ρ3 vs) ls3)) _ := q
            have E5 := E4.wipe vs
            rw [wipe_sames sm hv] at E5
            exact ⟨m - 1, by omega, by omega, Hd4, ρ3, ls3, acc, xs, E5, (s.trans s2).trans s4, ra.mono (s2.trans s4), q⟩
          | true =>
            have q : Go K W w B D0 σ Hd1 (lcEnd ρ1 vs (lcE (fun acc ρ ls => lcL t c e vs (ds.drop (i + 1)) acc (wipeR ρ vs) ls) e acc ρ3 ls3)) _ := q
            refine ⟨w, upd B Dl (.lst xs), D0, Hd4, ρ3, ls3, E4, ?_⟩
            unfold lcE at q
            cases ee : e ρ3 ls3 with
            | no => rw [ee] at q; exact q.elim
            | rs x ls2 => rw [ee] at q; exact q.elim
            | ok d ρ5 ls5 =>
              rw [ee] at q
              intro Hd6 H6 E6 s6 v rv
              have q : Go K W w B D0 σ Hd1 (lcEnd ρ1 vs (if acc.length < top then lcL t c e vs (ds.drop (i + 1)) (acc ++ [d]) (wipeR ρ5 vs) ls5 else .no)) _ := q
              by_cases hz : acc.length < top
              · rw [if_pos hz] at q
                have ra6 := ra.mono ((s2.trans s4).trans s6)
                refine ⟨xs, E6.under_at u, by rw [ra6.length]; exact top_lt hz, m - 1, by omega, by omega, Hd6, ρ5, ls5, acc ++ [d], xs ++ [v], ?_, ((s.trans s2).trans s4).trans s6, ra6.append (.cons rv .nil), q⟩
                have E7 := (E6.under_set (ys := xs ++ [v]) u).wipe vs
                rw [wipe_sames sm hv] at E7
                exact E7
              · rw [if_neg hz] at q; exact q.elim
    · refine .inl ⟨ok.stop i H' (by omega) (s.trans E.sub), ?_⟩
      have ed : ds.drop i = [] := List.drop_eq_nil_of_le (by omega)
      rw [ed] at q
      obtain ⟨E8, F⟩ := E1.under_end s no E u
      exact q Hd' H' E8 s Dl xs F ra
  · rw [if_neg no] at q; exact q.elim
theorem uts_nil : PTs X [] (UT K W0 (ret true)) := ⟨fun pins s σ H Q I h => pts_nil.run pins s σ H Q I (by
  obtain ⟨w, B, D0, Hd, ρ, ls, E, q⟩ := h
  exact q Hd H E (Sub.refl _))⟩
theorem uts_one {cx : Expr} {c : M Bool} (h : PT X cx (UT K W0 c)) : PTs X [cx] (UT K W0 c) := pts_one h
variable {elt tg iter : Expr} {ifs : List Expr} {scope : Scope} {own : List (Str × Nat)} {pos : Pos} {g : TG} {t : D → Rho → Option Rho} {src : M (List D)} {c : M Bool} {e : M D} {is : List Nat}
/-- [e for x in xs if c] -/
theorem u_lc (hc : X.calm = true) (hN : X.N.Nodup) (hi : PI X tg iter (UI K W src)) (ok : BlkOk X.N X.env.scope scope own) (ht : TgOk K g t is) (hv : ∀ i ∈ is, i ∈ own.map (·.2))
    (hg : ∀ (s : Shared) (H : Hp) (C : Addr) (cl : List (Str × Addr)) (fp : List Addr), PG (X.blk s H scope (compEnvC scope cl C X.env) fp) tg g) (hts : ∀ (s : Shared) (H : Hp) (C : Addr) (cl : List (Str × Addr)) (fp : List Addr), PTs (X.blk s H scope (compEnvC scope cl C X.env) fp) ifs (UT K W0 c))
    (he : ∀ (s : Shared) (H : Hp) (C : Addr) (cl : List (Str × Addr)) (fp : List Addr), PE (X.blk s H scope (compEnvC scope cl C X.env) fp) elt (UV K W0 e)) (hs : ∀ x, foldedSetIterable iter X.env x = pure x := by intro _; rfl) :
    PE X (.ListComp elt [⟨tg, iter, ifs, 0⟩] scope pos) (UN K W (lcM src t c e (own.map (·.2)))) := pe_imp (pe_lc hc hN hi ok hg hts he hs) fun _ _ _ q => read_lc (fun _ q => q) ht hv q
/-- x = [e for ..], the list as x's own or as data -/
theorem us_setLc {i : Nat} {y : Str} {py spos : Pos} (hc : X.calm = true) (hN : X.N.Nodup) (hi : PI X tg iter (UI K W src)) (ok : BlkOk X.N X.env.scope scope own) (ht : TgOk K g t is) (hv : ∀ i ∈ is, i ∈ own.map (·.2))
    (hg : ∀ (s : Shared) (H : Hp) (C : Addr) (cl : List (Str × Addr)) (fp : List Addr), PG (X.blk s H scope (compEnvC scope cl C X.env) fp) tg g) (hts : ∀ (s : Shared) (H : Hp) (C : Addr) (cl : List (Str × Addr)) (fp : List Addr), PTs (X.blk s H scope (compEnvC scope cl C X.env) fp) ifs (UT K W0 c))
    (he : ∀ (s : Shared) (H : Hp) (C : Addr) (cl : List (Str × Addr)) (fp : List Addr), PE (X.blk s H scope (compEnvC scope cl C X.env) fp) elt (UV K W0 e))
    (hsw : swapsWith (.ListComp elt [⟨tg, iter, ifs, 0⟩] scope pos) (some (.Name y py)) spos.line X.env = pure true) (hy : X.N[i]? = some y := by rfl) (hyl : X.env.scope.names.lookup y = some .local := by rfl) (hs : ∀ x, foldedSetIterable iter X.env x = pure x := by intro _; rfl) :
    PS X (.Assign [.Name y py] (.ListComp elt [⟨tg, iter, ifs, 0⟩] scope pos) spos) (US K W (setN i (lcM src t c e (own.map (·.2))))) :=
  ps_imp (ps_setLc hc hN hy hyl hsw hi ok hg hts he hs) fun D σ H h => read_setN (fun _ q => read_lc (fun _ q => q) ht hv q) h
theorem us_setLcV {i : Nat} {y : Str} {py spos : Pos} (hc : X.calm = true) (hN : X.N.Nodup) (hi : PI X tg iter (UI K W src)) (ok : BlkOk X.N X.env.scope scope own) (ht : TgOk K g t is) (hv : ∀ i ∈ is, i ∈ own.map (·.2))
    (hg : ∀ (s : Shared) (H : Hp) (C : Addr) (cl : List (Str × Addr)) (fp : List Addr), PG (X.blk s H scope (compEnvC scope cl C X.env) fp) tg g) (hts : ∀ (s : Shared) (H : Hp) (C : Addr) (cl : List (Str × Addr)) (fp : List Addr), PTs (X.blk s H scope (compEnvC scope cl C X.env) fp) ifs (UT K W0 c))
    (he : ∀ (s : Shared) (H : Hp) (C : Addr) (cl : List (Str × Addr)) (fp : List Addr), PE (X.blk s H scope (compEnvC scope cl C X.env) fp) elt (UV K W0 e))
    (hsw : swapsWith (.ListComp elt [⟨tg, iter, ifs, 0⟩] scope pos) (some (.Name y py)) spos.line X.env = pure true) (hy : X.N[i]? = some y := by rfl) (hyl : X.env.scope.names.lookup y = some .local := by rfl) (hs : ∀ x, foldedSetIterable iter X.env x = pure x := by intro _; rfl) :
    PS X (.Assign [.Name y py] (.ListComp elt [⟨tg, iter, ifs, 0⟩] scope pos) spos) (US K W (setV i (ls1 (lcM src t c e (own.map (·.2)))))) :=
  ps_imp (ps_setLc hc hN hy hyl hsw hi ok hg hts he hs) fun D σ H h => read_set (fun Q q => by
    refine read_lc (fun _ q => q) ht hv ?_
    refine Ru.imp q.xBnd fun w B D0 Hd' H' ρ' ls' ds E q p xs F r => ?_
    have sd : Sub Hd' (upd Hd' p (.lst xs)) := .upd F.nd
    exact q _ H' (E.freeze F) sd (.ref p) (.lst upd_same (r.mono sd))) h
end
end Pd

set_option Elab.async false
set_option linter.all false
set_option maxRecDepth 100000
set_option maxHeartbeats 4000000
/-! Pd7a: t * k and t[::-1] of tuples. -/
namespace Pd
open PySem PySem.Spec PyProof.Rows L2
theorem tuple_mul_same (l : Addr) (items : Array Value) (n : Nat) (dd : Option Addr) (sl : Array (Option Value)) (x : Int) (u : Tok) (c0 : (decide (x < -(2 ^ 63)) || decide (x ≥ 2 ^ 63)) = false) (c1 : (items.isEmpty || x == 1) = true) :
    Meets (Builtin.«tuple.__mul__» ⟨[.ref l, .int x u], []⟩) (fun _ R s => s.heap.get? l = some { cls := .type "tuple", dict := dd, data := .seq items n, slots := sl } ∧
      R (.ok (.ret (Value.ref l))) s) :=
  .of_wp fun prog w A R s h => by
    obtain ⟨hp, g, d, tk, os⟩ := s
    obtain ⟨hl, h⟩ := h
    have f1 := AutoSeq1.idx_int
    wp_walk using wpAny_loadPart' hl
    repeat (first
      | (refine wpAny_ite_false (decide_eq_false (by rw [c0]; exact Bool.false_ne_true)) ?_; wp_walk using wpAny_loadPart' hl)
      | (refine wpAny_ite_true (decide_eq_true c1) ?_; wp_walk using wpAny_loadPart' hl))
    exact ⟨_, rfl, h⟩
theorem tuple_mul_none (l : Addr) (items : Array Value) (n : Nat) (dd : Option Addr) (sl : Array (Option Value)) (x : Int) (u : Tok) (c0 : (decide (x < -(2 ^ 63)) || decide (x ≥ 2 ^ 63)) = false) (c1 : (items.isEmpty || x == 1) = false) (c2 : (decide (x ≤ 0) || items.isEmpty) = true) :
    Meets (Builtin.«tuple.__mul__» ⟨[.ref l, .int x u], []⟩) (fun _ R s => s.heap.get? l = some { cls := .type "tuple", dict := dd, data := .seq items n, slots := sl } ∧
      R (.ok (.ret (Value.ref s.heap.objs.size))) { s with heap := s.heap.push { cls := Value.type "tuple", data := Data.seq #[] }, toks := s.toks }) :=
  .of_wp fun prog w A R s h => by
    obtain ⟨hp, g, d, tk, os⟩ := s
    obtain ⟨hl, h⟩ := h
    have f1 := AutoSeq1.idx_int
    wp_walk using wpAny_loadPart' hl
    repeat (first
      | (refine wpAny_ite_false (decide_eq_false (by rw [c0]; exact Bool.false_ne_true)) ?_; wp_walk using wpAny_loadPart' hl)
      | (refine wpAny_ite_false (decide_eq_false (by rw [c1]; exact Bool.false_ne_true)) ?_; wp_walk using wpAny_loadPart' hl)
      | (refine wpAny_ite_true (decide_eq_true c2) ?_; wp_walk using wpAny_loadPart' hl))
    exact ⟨_, rfl, h⟩

/-- t * k -/
def mulT : D → D → Option D
  | .tup a, .int k => if (decide (k ≤ 1000) && decide (0 - 1000 ≤ k)) && decide (a.length ≤ 1000) then some (.tup (List.replicate k.toNat a).flatten) else none
  | _, _ => none
def rRepA (K : PySem.W.Frag) : R2 := fun x y H Q => ∃ l k xs, x = .ref l ∧ y = .int k ∧ SqT K H l xs ∧ k ≤ 1000 ∧ 0 - 1000 ≤ k ∧ xs.length ≤ 1000 ∧
  ((xs = [] ∨ k = 1) → Q (.ref l) H) ∧ (¬ (xs = [] ∨ k = 1) → NewT H (List.replicate k.toNat xs).flatten Q)
section
variable {X : Cx} {K : PySem.W.Frag}
theorem op_repA : OpR X (binaryOp .Mult) (rRepA X.K) := by
  intro pins s σ H x y v u Q I rx ry h
  obtain ⟨l, k, xs, rfl, rfl, hT, h2, h1, hz, q0, q⟩ := h
  by_cases hc : xs = [] ∨ k = 1
  · cases rx
    obtain ⟨t, rfl⟩ := ry
    obtain ⟨its, r, ⟨⟨cls, dd, data, sl⟩, ho, hcl, n, hd⟩, hs⟩ := I.tuple hT
    simp only at hcl hd
    subst hcl hd
    have c0 : (decide (k < -(2 ^ 63)) || decide (k ≥ 2 ^ 63)) = false := by
      rw [decide_eq_false (by omega), decide_eq_false (by omega)] <;> rfl
    have c1 : (its.toArray.isEmpty || k == 1) = true := by
      rcases hc with e | e
      · subst e
        cases r
        rfl
      · subst e
        rw [Bool.or_eq_true]
        exact .inr rfl
    exact wpAny_binaryOp_repeat_ref (T := "tuple") (U := "int") (by decide) ⟨_, ho, rfl⟩ (fun s' => typeIs_int s' k t) noFill_tuple_mul F.fills_int_mul F.slot_int_rmul repeat_tuple F.slot_int_index.lookup
      (call_meets F.slot_int_rmul (typeIs_int s k t) F.entry_int_rmul (F.args_int_rmul_2 _ _) (int_rmul_tuple k t l its.toArray n dd sl)
        ⟨ho, rfl, ⟨_, ho, rfl⟩, call_meets F.slot_tuple_mul ⟨_, ho, rfl⟩ F.entry_tuple_mul (F.args_tuple_mul_2 _ _) (tuple_mul_same l its.toArray n dd sl k t c0 c1) ⟨ho, ⟨.ref l, H, I, rfl, q0 hc⟩⟩⟩)
  · by_cases hk : k ≤ 0
    · cases rx
      obtain ⟨t, rfl⟩ := ry
      obtain ⟨its, r, ⟨⟨cls, dd, data, sl⟩, ho, hcl, n, hd⟩, hs⟩ := I.tuple hT
      simp only at hcl hd
      subst hcl hd
      have c0 : (decide (k < -(2 ^ 63)) || decide (k ≥ 2 ^ 63)) = false := by
        rw [decide_eq_false (by omega), decide_eq_false (by omega)] <;> rfl
      have hn : its ≠ [] := fun e => hc (.inl (by subst e; cases r; rfl))
      have hi : its.toArray.isEmpty = false := by
        cases its with
        | nil => exact absurd rfl hn
        | cons a b => rfl
      have c1 : (its.toArray.isEmpty || k == 1) = false := by
        rw [hi, Bool.false_or]
        exact beq_eq_false_iff_ne.mpr (by omega)
      have c2 : (decide (k ≤ 0) || its.toArray.isEmpty) = true := by
        rw [decide_eq_true hk] <;> rfl
      refine wpAny_binaryOp_repeat_ref (T := "tuple") (U := "int") (by decide) ⟨_, ho, rfl⟩ (fun s' => typeIs_int s' k t) noFill_tuple_mul F.fills_int_mul F.slot_int_rmul repeat_tuple F.slot_int_index.lookup
        (call_meets F.slot_int_rmul (typeIs_int s k t) F.entry_int_rmul (F.args_int_rmul_2 _ _) (int_rmul_tuple k t l its.toArray n dd sl)
          ⟨ho, rfl, ⟨_, ho, rfl⟩, call_meets F.slot_tuple_mul ⟨_, ho, rfl⟩ F.entry_tuple_mul (F.args_tuple_mul_2 _ _) (tuple_mul_none l its.toArray n dd sl k t c0 c1 c2) ⟨ho, ?_⟩⟩)
      have e0 : k.toNat = 0 := by omega
      have q := q hc
      rw [e0] at q
      exact Inv.newT I (Nat.zero_le _) .nil q
    · have hne : xs ≠ [] := fun e => hc (.inl e)
      have h3 : 2 ≤ k := by
        have : k ≠ 1 := fun e => hc (.inr e)
        omega
      cases rx
      obtain ⟨t, rfl⟩ := ry
      obtain ⟨its, r, ⟨⟨cls, dd, data, sl⟩, ho, hcl, n, hd⟩, hs⟩ := I.tuple hT
      simp only at hcl hd
      subst hcl hd
      have len : its.length = xs.length := r.length.symm
      have sz : its.toArray.size = xs.length := by rw [List.size_toArray, len]
      have ie : its.toArray.isEmpty = false := by
        cases its with
        | nil => cases r; exact absurd rfl hne
        | cons a b => rfl
      have big : k.toNat * xs.length ≤ 1000 * 1000 := Nat.mul_le_mul (by omega) hz
      have many : ((its.toArray.size : Nat) : Int) * k ≤ 1000000 := by
        rw [sz]
        have := Int.mul_le_mul_of_nonneg_right (a := ((xs.length : Nat) : Int)) (b := 1000) (c := k) (by omega) (by omega)
        omega
      have c0 : (decide (k < -(2 ^ 63)) || decide (k ≥ 2 ^ 63)) = false := by
        rw [decide_eq_false (by omega), decide_eq_false (by omega)] <;> rfl
      have c1 : (its.toArray.isEmpty || k == 1) = false := by
        rw [ie, Bool.false_or]; exact beq_eq_false_iff_ne.mpr (by omega)
      have c2 : (decide (k ≤ 0) || its.toArray.isEmpty) = false := by
        rw [ie, Bool.or_false]; exact decide_eq_false (by omega)
      have c4 : Builtin.Tuple.tupleTooMany (((its.toArray.size : Nat) : Int) * k) = false := by
        unfold Builtin.Tuple.tupleTooMany
        rw [sizeLine_eq]; exact decide_eq_false (by omega)
      have fl : (List.replicate k.toNat its).flatten.length ≤ sizeLine := by
        rw [PyProof.Rows.lm_len_rep_flat, len, sizeLine_eq]; omega
      refine wpAny_binaryOp_repeat_ref (T := "tuple") (U := "int") (by decide) ⟨_, ho, rfl⟩ (fun s' => typeIs_int s' k t) noFill_tuple_mul F.fills_int_mul F.slot_int_rmul repeat_tuple F.slot_int_index.lookup
        (call_meets F.slot_int_rmul (typeIs_int s k t) F.entry_int_rmul (F.args_int_rmul_2 _ _) (int_rmul_tuple k t l its.toArray n dd sl)
          ⟨ho, rfl, ⟨_, ho, rfl⟩, call_meets F.slot_tuple_mul ⟨_, ho, rfl⟩ F.entry_tuple_mul (F.args_tuple_mul_2 _ _) (tuple_mulW l its.toArray n dd sl k t c0 c1 c2 (by omega) c4 (by rw [size_rep, List.size_toArray]; exact fl)) ⟨ho, ?_⟩⟩)
      rw [size_rep]
      exact Inv.newT I (by rw [PyProof.Rows.lm_len_rep_flat, sizeLine_eq]; omega) (r.rep k.toNat) (q hc)
theorem od_mulT : OpD K (rRepA K) mulT := by
  refine ⟨?_⟩
  intro w B D0 Hd H σ ρ ls v u x y z E hx hy e Q q
  cases x <;> cases y <;> try (exact noneE e)
  rename_i da k
  obtain ⟨a, xs, rfl, ha, ra⟩ := hx.tup_inv
  cases hy.int_inv
  have e : (if ((decide (k ≤ 1000) && decide (0 - 1000 ≤ k)) && decide (da.length ≤ 1000)) = true then some (D.tup (List.replicate k.toNat da).flatten) else none) = some z := e
  obtain ⟨hl, e⟩ := ofb e
  cases e
  rw [Bool.and_eq_true, Bool.and_eq_true] at hl
  refine ⟨a, k, xs, rfl, rfl, (E.sub.tk ha).sq, of_decide_eq_true hl.1.1, of_decide_eq_true hl.1.2, by rw [ra.length]; exact of_decide_eq_true hl.2, fun hc => ?_, fun hc p o hp h1 h2 => ?_⟩
  · have ez : (List.replicate k.toNat da).flatten = da := by
      rcases hc with e | e
      · subst e
        cases ra
        simp
      · subst e
        simp
    rw [ez] at q
    exact q _ Hd H E (Sub.refl _) (.tup ha ra)
  · have sd : Sub Hd (upd Hd p (.frz o (.tup (List.replicate k.toNat xs).flatten))) := .upd (E.nd_new hp)
    exact q _ _ _ (E.newDat hp NT.tup) sd (.tup ⟨o, upd_same, h1, h2⟩ ((ra.flatRep _).mono sd))
def mulD : D → D → Option D := fun x y => (mulI x y).or ((mulT x y).or (asL mulL x y))
theorem od_mul : OpD K (fun x y H Q => rI CMul (fun i j => .int (i * j)) x y H Q ∨ rRepA K x y H Q ∨ rRep x y H Q) mulD := od_mulI.or (od_mulT.or on_mulL.data)
theorem op_mulU : OpR X (binaryOp .Mult) (fun x y H Q => rI CMul (fun i j => .int (i * j)) x y H Q ∨ rRepA X.K x y H Q ∨ rRep x y H Q) := op_mul.or (op_repA.or op_rep)
end

/-! ### t[::-1] -/
theorem sliceApplied_rev {prog : Program} {w : World} {A : Around} {E : Value → Shared → Prop} {s : Shared} {sl : Addr} {vs : Value} {n : Nat} {Q : Int × Int × Nat → Shared → Prop} (hs : s.heap.IsSliceOf sl .none .none vs) (ps : IsPart vs (some (-1)))
    (h : Q ((n : Int) - 1, -1, n) s) : wpAny (model prog w) A (Builtin.Slice.sliceApplied (.ref sl) (pure (n : Int))) Q E s := by
  obtain ⟨os, hos, hcs, hds⟩ := id hs
  unfold Builtin.Slice.sliceApplied Builtin.Slice.sliceFields
  refine wpAny_bind (wpAny_bind (wpAny_field hos hds (x := .none) rfl (wpAny_bind (wpAny_field hos hds (x := .none) rfl (wpAny_bind (wpAny_field hos hds (x := vs) rfl (wpAny_pure ?_)))))))
  refine wpAny_bind (HT.slicePart_ ps ?_)
  show wpAny _ _ (if ((-1 : Int) == 0) = true then _ else _) _ _ s
  rw [if_neg (by decide)]
  refine wpAny_bind (HT.slicePart_ .none (wpAny_bind (HT.slicePart_ .none (wpAny_bind (wpAny_pure ?_)))))
  show wpAny _ _ (match Builtin.Slice.sliceAdjust none none (-1) (n : Int) with | (lo, hi) => pure (lo, (-1 : Int), Builtin.Slice.slicePlaces lo hi (-1))) _ _ s
  have e1 : Builtin.Slice.sliceAdjust none none (-1) (n : Int) = ((n : Int) - 1, -1) := rfl
  rw [e1]
  show wpAny _ _ (pure ((n : Int) - 1, (-1 : Int), Builtin.Slice.slicePlaces ((n : Int) - 1) (-1) (-1))) _ _ s
  have e2 : Builtin.Slice.slicePlaces ((n : Int) - 1) (-1) (-1) = n := by
    unfold Builtin.Slice.slicePlaces
    rw [if_neg (by decide)]
    split
    · have : ((n : Int) - 1 - (-1) - 1) / (- -1) = n - 1 := by
        rw [Int.neg_neg, Int.ediv_one]; omega
      rw [this]; omega
    · omega
  rw [e2]
  exact wpAny_pure h
theorem fm_congr {α β : Type} {f g : α → Option β} : ∀ {l : List α}, (∀ a ∈ l, f a = g a) → l.filterMap f = l.filterMap g
  | [], _ => rfl
  | a :: l, h => by
    rw [List.filterMap_cons, List.filterMap_cons, h a List.mem_cons_self, fm_congr fun b hb => h b (List.mem_cons_of_mem _ hb)]
theorem pick_rev (xs : Array Value) : ((List.range xs.size).filterMap fun (m : Nat) => xs[(((xs.size : Int) - 1) + (m : Int) * -1).toNat]?).toArray = xs.toList.reverse.toArray := by
  congr 1
  have e : (List.range xs.size).filterMap (fun (m : Nat) => xs[(((xs.size : Int) - 1) + (m : Int) * -1).toNat]?) = (List.range xs.size).filterMap (fun m => xs.toList.reverse[m]?) := by
    refine fm_congr fun m hm => ?_
    have hlt : m < xs.size := List.mem_range.mp hm
    rw [List.getElem?_reverse (by simpa using hlt), ← Array.getElem?_toList]
    congr 1
    rw [Array.length_toList]
    omega
  rw [e]
  refine List.ext_getElem? fun i => ?_
  have : ∀ (l : List Value) (k : Nat), k ≤ l.length → (List.range k).filterMap (fun m => l[m]?) = l.take k := by
    intro l k
    induction k with
    | zero => intro _; simp
    | succ k ih =>
      intro hk
      rw [List.range_succ, List.filterMap_append, ih (by omega), List.take_add_one]
      simp only [List.filterMap_cons, List.filterMap_nil]
      rw [List.getElem?_eq_getElem (by omega)]
      rfl
  rw [this _ _ (by simp), List.take_of_length_le (by simp)]
theorem getItem_tuple_rev {prog : Program} {w : World} {A : Around} {E : Value → Shared → Prop} {s : Shared} {t sl : Addr} {items : Array Value} {vs : Value} {Q : Value → Shared → Prop} (ht : IsTup s.heap t items) (hs : s.heap.IsSliceOf sl .none .none vs) (ps : IsPart vs (some (-1)))
    (h : Q (.ref s.heap.objs.size) { s with heap := s.heap.push { cls := .type "tuple", data := .seq items.toList.reverse.toArray } }) (hsz : items.size ≤ sizeLine) : wpAny (model prog w) A (getItem (.ref t) (.ref sl)) Q E s := by
  have htake : sizeOk (.seq items.toList.reverse.toArray) := by
    show items.toList.reverse.toArray.size ≤ sizeLine
    rw [List.size_toArray, List.length_reverse, Array.length_toList]
    exact hsz
  obtain ⟨os, hos, hcs, hds⟩ := id hs
  have hTs : s.TypeIs (.ref sl) "slice" := ⟨os, hos, hcs⟩
  unfold getItem
  try with_reducible refine wpAny_holding ?_
  first | refine wpAny_bind (wpAny_pure ?_) | skip
  refine wpAny_bind (wpAny_sequenceKey ht.typeIs (by decide) ?_)
  refine wpAny_bind (wpAny_callSpecial?_slot (name := Str.ofString "__getitem__") ht.typeIs PyProof.Rows.slot_tuple_getitem
    (wpAny_call_entry PyProof.Rows.slot_tuple_getitem ht.typeIs entry_tuple_getitem ?_ (args_tuple_getitem _ _)))
  show wpAny _ _ (Builtin.Tuple.tupleItemsOf (.ref t) >>= _) _ _ s
  refine wpAny_bind (tupleItemsOf_ ht ?_)
  refine wpAny_bind (wpAny_typeOf hTs ?_)
  rw [if_pos (by decide)]
  refine wpAny_bind (sliceApplied_rev hs ps ?_)
  have hno : ¬ ((((items.size : Int) - 1) == 0 && (-1 : Int) == 1 && items.size == items.size) = true) := by
    intro q
    rw [Bool.and_eq_true, Bool.and_eq_true] at q
    exact absurd q.1.2 (by decide)
  show wpAny _ _ (if (((items.size : Int) - 1) == 0 && (-1 : Int) == 1 && items.size == items.size) = true then _ else _) _ _ s
  rw [if_neg hno, pick_rev]
  first
    | exact wpAny_bind (m := Builtin.Tuple.tupleExact _) (wpAny_newObj_type (wpAny_pure ⟨_, rfl, wpAny_pure h⟩) htake)
    | exact wpAny_bind (m := Builtin.Tuple.tupleExact _) (wpAny_newObj_type (wpAny_bind (wpAny_pure (wpAny_pure ⟨_, rfl, wpAny_pure h⟩))) htake)
    | exact wpAny_bind (wpAny_bind (m := Builtin.Tuple.tupleExact _) (wpAny_newObj_type (wpAny_pure (wpAny_pure ⟨_, rfl, wpAny_pure h⟩)) htake))
    | exact wpAny_bind (wpAny_bind (m := Builtin.Tuple.tupleExact _) (wpAny_newObj_type (wpAny_pure ⟨_, rfl, wpAny_pure h⟩) htake))
def tRevT (K : PySem.W.Frag) (te : TE) : TE := fun σ H Q => te σ H fun x H1 => (∃ a xs, x = .ref a ∧ SqT K H1 a xs ∧ NewT H1 xs.reverse Q) ∨ (∃ a xs, x = .ref a ∧ SqL K H1 a xs ∧ ∀ p, H1 p = none → Q (.ref p) (upd H1 p (.lst xs.reverse)))
theorem pe_revA {X : Cx} {e : Expr} {te : TE} {k : Nat} {p1 p2 p3 pos : Pos} (he : PE X e te) : PE X (.Subscript e (.Slice none none (some (.UnaryOp .USub (.Constant (.int 1) k p1) p2)) p3) pos) (tRevT X.K te) := by
  refine ⟨fun pins s σ H Q I h => ?_⟩
  refine Subscript_ (thn (he.run pins s σ H _ I h) fun v s1 ⟨x, H1, I1, r1, q1⟩ => ?_)
  have hst : L2.PO X (some (.UnaryOp .USub (.Constant (.int 1) k p1) p2)) (tPart (tUn (rU fun i => .int (-i)) (tC (.int 1)))) := po_some (pe_un un_neg pe_int)
  refine wpAny_Slice (thn (po_none.run pins s1 σ H1 (fun o H2 => o = none ∧ H2 = H1) I1 ⟨rfl, rfl⟩) fun vl s2 ⟨l, H2, I2, pl, el, e2⟩ => ?_)
  subst el e2
  refine thn (po_none.run pins s2 σ H2 (fun o H3 => o = none ∧ H3 = H2) I2 ⟨rfl, rfl⟩) fun vu s3 ⟨u, H3, I3, pu, eu, e3⟩ => ?_
  subst eu e3
  refine thn (hst.run pins s3 σ H3 (fun o H4 => o = some (-1) ∧ H4 = H3) I3 ⟨1, rfl, -1, rfl, rfl, rfl⟩) fun vs s4 ⟨o, H4, I4, ps, eo, e4⟩ => ?_
  subst eo e4
  have I5 : Inv X pins σ H4 { s4 with heap := s4.heap.push { cls := .type "slice", data := .fields #[vl, vu, vs] } } := I4.kept (t' := s4.toks) fun b ob q => Heap.get?_push_of_some _ q
  rcases q1 with ⟨a, xs, ex, hx, q⟩ | ⟨a, xs, ex, hx, q⟩
  · subst ex
    cases r1
    cases pl
    cases pu
    obtain ⟨its, r, ht, hz⟩ := I5.tuple hx
    have hlen := r.length
    show wpAny (model X.prog X.w) X.A (subscriptTail e (.Slice none none (some (.UnaryOp .USub (.Constant (.int 1) k p1) p2)) p3) (.ref a) (.ref s4.heap.objs.size)) (EP X pins σ Q) X.xe { s4 with heap := s4.heap.push { cls := .type "slice", data := .fields #[.none, .none, vs] } }
    refine tail_any (ops := [.ref a, .ref s4.heap.objs.size]) ht.typeIs (PyProof.Rows.slot_tuple_getitem.lookup) ?_ (by with_unfolding_all rfl)
    refine getItem_tuple_rev ht (Heap.IsSliceOf.new _ _ _ vs) ps ?_ (by rw [List.size_toArray]; omega)
    exact Inv.newT I5 (by rw [List.length_reverse]; exact hz) r.reverse q
  · subst ex
    cases r1
    obtain ⟨its, r, ht, hz⟩ := I5.list hx
    have hlen := r.length
    show wpAny (model X.prog X.w) X.A (subscriptTail e (.Slice none none (some (.UnaryOp .USub (.Constant (.int 1) k p1) p2)) p3) (.ref a) (.ref s4.heap.objs.size)) (EP X pins σ Q) X.xe { s4 with heap := s4.heap.push { cls := .type "slice", data := .fields #[vl, vu, vs] } }
    refine tail_any (ops := [.ref a, .ref s4.heap.objs.size]) ht.isList.typeIs (PySem.slot_list_getitem.lookup) ?_ (by with_unfolding_all rfl)
    refine wpAny_getItem_list_slice ht.isList (Heap.IsSliceOf.new _ vl vu vs) pl pu ps (by decide) ?_ (by rw [List.size_toArray]; omega)
    rw [PySem.W.krv_pick]
    refine ⟨.ref _, _, I5.laid (t' := s4.toks) (o := .lst xs.reverse) (fun b ob q => Heap.get?_push_of_some _ q) (Nat.le_refl _) ?_, rfl, q _ (I5.hok.fresh (Nat.le_refl _))⟩
    exact ⟨by rw [List.length_reverse]; exact hz, _, 0, r.reverse, Heap.get?_push_size _ rfl⟩
def revD : D → Option D
  | .tup l => some (.tup l.reverse)
  | .lst l => some (.lst l.reverse)
  | _ => none
theorem u_rev {X : Cx} {W : WX} {e : Expr} {f : M Rf} {k : Nat} {p1 p2 p3 pos : Pos} (he : PE X e (U X.K W f)) : PE X (.Subscript e (.Slice none none (some (.UnaryOp .USub (.Constant (.int 1) k p1) p2)) p3) pos) (UV X.K W (uno revD f)) := pe_imp (pe_revA he) fun σ H Q q =>
  read_uno (r := fun x H1 Q => (∃ a xs, x = .ref a ∧ SqT X.K H1 a xs ∧ NewT H1 xs.reverse Q) ∨ (∃ a xs, x = .ref a ∧ SqL X.K H1 a xs ∧ ∀ p, H1 p = none → Q (.ref p) (upd H1 p (.lst xs.reverse)))) (by
    refine ⟨?_⟩
    intro w B D0 Hd H σ ρ ls v x z E hx e Q q
    cases x <;> try (exact noneE e)
    · cases e
      obtain ⟨a, xs, rfl, ha, r⟩ := hx.tup_inv
      refine .inl ⟨a, xs, rfl, (E.sub.tk ha).sq, fun p o hp h1 h2 => ?_⟩
      have sd : Sub Hd (upd Hd p (.frz o (.tup xs.reverse))) := .upd (E.nd_new hp)
      exact q _ _ _ (E.newDat hp NT.tup) sd (.tup ⟨o, upd_same, h1, h2⟩ (r.reverse.mono sd))
    · cases e
      obtain ⟨a, xs, rfl, ha, r⟩ := hx.lst_inv
      refine .inr ⟨a, xs, rfl, SqL.of ha, fun p hp => ?_⟩
      have sd : Sub Hd (upd Hd p (.lst xs.reverse)) := .upd (E.nd_new hp)
      exact q _ _ _ (E.newDat hp NT.lst) sd (.lst upd_same (r.reverse.mono sd))) q
end Pd

set_option Elab.async false
set_option linter.all false
set_option maxRecDepth 100000
set_option maxHeartbeats 4000000
/-! Pd7b: isinstance, slices, is, int(), keywords, reversed, chains, two fors. -/
namespace Pd
open PySem PySem.Spec PyProof.Rows L2

section
variable {X : Cx} {K : PySem.W.Frag} {W : WX} {w : Wd} {B D0 Hd H : Hp} {σ : L2.St} {ρ : Rho} {ls : LS} {a b c : Expr} {f g h : M Rf} {pos p p2 : Pos}

/-! ### isinstance -/
inductive Ty where
  | int | bool | tuple | list | str | dict
def Ty.nm : Ty → String
  | .int => "int" | .bool => "bool" | .tuple => "tuple" | .list => "list" | .str => "str" | .dict => "dict"
def tyS : D → Option String
  | .non => some "NoneType" | .bl _ => some "bool" | .int _ => some "int" | .str _ => some "str" | .tup _ => some "tuple" | .lst _ => some "list" | .lsk _ => some "list" | .ref _ => none | .exn _ => none | .dct _ _ => some "dict"
def isi : Ty → D → Option Bool
  | _, .ref _ => none
  | _, .exn _ => none
  | .int, .int _ => some true | .int, .bl _ => some true
  | .bool, .bl _ => some true
  | .tuple, .tup _ => some true
  | .list, .lst _ => some true | .list, .lsk _ => some true
  | .str, .str _ => some true
  | .dict, .dct _ _ => some true
  | _, _ => some false
theorem isi_kit : ∀ (t : Ty) (d : D) (b : Bool), isi t d = some b → ∃ s, tyS d = some s ∧ kitB s t.nm = some b := by
  intro t d b e
  cases d <;> cases t <;> first | exact noneE e | (cases e; exact ⟨_, rfl, by decide +kernel⟩)
theorem tyX_of {v : V} {d : D} {s : String} (r : RpS K Hd H v d) (sub : Sub Hd H) (e : tyS d = some s) : TyX K H v (.type s) := by
  cases d with
  | non => cases r.non_inv; cases e; exact .base .non
  | bl b => cases r.bl_inv; cases e; exact .base (.bl b)
  | int i => cases r.int_inv; cases e; exact .base (.int i)
  | str x => cases r.str_inv; cases e; exact .base (.str x)
  | ref a => exact noneE e
  | exn a => exact noneE e
  | tup l =>
    obtain ⟨a, xs, rfl, h, _⟩ := r.tup_inv
    cases e
    rcases (sub.tk h).sq (K := K) with (h | ⟨o, h⟩) | ⟨o, its, n, h1, h2, _⟩
    · exact .base (.tup h)
    · exact .fTuple h
    · exact .kTuple h1 h2
  | lst l =>
    obtain ⟨a, xs, rfl, h, _⟩ := r.lst_inv
    cases e
    exact .base (.lst h)
  | lsk l =>
    obtain ⟨a, xs, rfl, h, _⟩ := r.lsk_inv
    cases e
    rcases sub.sqL h with (h | ⟨o, h⟩) | ⟨o, its, n, h1, h2, _⟩
    · exact .base (.lst h)
    · exact .base (.frz h)
    · exact .kList h1 h2
  | dct ks es =>
    cases e
    have r : Rp K Hd v (.dct ks es) := r
    cases r with
    | dK h _ _ _ => exact .base (.dK (sub _ _ h))
    | dT h _ _ _ => exact .base (.dT (sub _ _ h))
def isiD (t : Ty) (d : D) : Option D := (isi t d).map .bl
theorem one_isi (t : Ty) : One K (fun v H Q => rIsi K [v, .ty t.nm] H Q) (isiD t) := by
  refine ⟨?_⟩
  intro w B D0 Hd H σ ρ ls v x z E hx e Q q
  unfold isiD at e
  cases e1 : isi t x with
  | none => rw [e1] at e; exact noneE e
  | some b =>
    rw [e1] at e
    cases e
    obtain ⟨s, h1, h2⟩ := isi_kit t x b e1
    exact ⟨v, .ty t.nm, .type s, .type t.nm, b, rfl, .ty _, tyX_of hx E.sub h1, kit_ty h2, q _ Hd H E (Sub.refl _) (.bl b)⟩
theorem u_isi (t : Ty) (hm : X.mg "isinstance" = none) (ha : PE X a (U X.K W f)) (hb : PE X b (tC (.ty t.nm))) (hg : Gl X "isinstance" := by rfl) (he : starEach [a, b] X.env = (false, eval a X.env) :: starEach [b] X.env := by rfl) (he2 : starEach [b] X.env = (false, eval b X.env) :: starEach [] X.env := by rfl) (hpl : (backTo pos (starEach [b] X.env)).any (·.1) = false := by rfl) :
    PE X (.Call (.Name "isinstance" p) [a, b] [] pos) (UV X.K W (uno (isiD t) f)) :=
  pe_imp (pe_callB call_isi hg hm (by decide +kernel) (pa_cons ha (pa_cons hb pa_nil he2) he) (by decide) (by decide) he hpl) fun σ H Q q => read_uno (one_isi t) q
/-- isinstance(x, (list, tuple)) -/
def isi2D (t u : Ty) (d : D) : Option D := (isi t d).bind fun b => (isi u d).map fun c => .bl (b || c)
theorem one_isi2 (t u : Ty) : One K (fun v H Q => 2 ≤ sizeLine ∧ ∀ p, H p = none → rIsiT K [v, .ref p] (upd H p (.tup [.ty t.nm, .ty u.nm])) Q) (isi2D t u) := by
  refine ⟨?_⟩
  intro w B D0 Hd H σ ρ ls v x z E hx e Q q
  unfold isi2D at e
  cases e1 : isi t x with
  | none => rw [e1] at e; exact noneE e
  | some b =>
    rw [e1] at e
    have e : ((isi u x).map fun c => D.bl (b || c)) = some z := e
    cases e2 : isi u x with
    | none => rw [e2] at e; exact noneE e
    | some c =>
      rw [e2] at e
      cases e
      obtain ⟨s, h1, h2⟩ := isi_kit t x b e1
      obtain ⟨s', h3, h4⟩ := isi_kit u x c e2
      rw [h1] at h3; cases h3
      refine ⟨by decide, fun p hp => ?_⟩
      have sd : Sub Hd (upd Hd p (.tup [.ty t.nm, .ty u.nm])) := .upd (E.nd_new hp)
      have sH : Sub H (upd H p (.tup [.ty t.nm, .ty u.nm])) := .upd hp
      have hx2 : TyX K (upd H p (.tup [.ty t.nm, .ty u.nm])) v (.type s) := tyX_of (RpS.of (Sub.refl _) ((hx.rp E.sub).mono sH)) (Sub.refl _) h1
      refine ⟨v, p, [.ty t.nm, .ty u.nm], .type s, [.type t.nm, .type u.nm], b || c, rfl, upd_same, .cons (.ty _) (.cons (.ty _) .nil), hx2, ?_, q _ _ _ (E.newDat hp (fun _ h => nomatch h)) sd (.bl _)⟩
      refine kitAny_cons (kit_ty h2) (fun hb => ?_) (fun hb => by rw [hb]; rfl)
      subst hb
      refine kitAny_cons (kit_ty h4) (fun hc => by subst hc; exact kitAny_nil) (fun hc => by rw [hc]; rfl)

theorem u_isi2 (t u : Ty) {kk : Nat} {p3 : Pos} (hm : X.mg "isinstance" = none) (ha : PE X a (U X.K W f)) (hb : PE X b (tC (.ty t.nm))) (hc : PE X c (tC (.ty u.nm))) (hg : Gl X "isinstance" := by rfl)
    (he : starEach [a, .Tuple [b, c] kk p3] X.env = (false, eval a X.env) :: starEach [.Tuple [b, c] kk p3] X.env := by rfl) (he2 : starEach [.Tuple [b, c] kk p3] X.env = (false, eval (.Tuple [b, c] kk p3) X.env) :: starEach [] X.env := by rfl)
    (he3 : starEach [b, c] X.env = (false, eval b X.env) :: starEach [c] X.env := by rfl) (he4 : starEach [c] X.env = (false, eval c X.env) :: starEach [] X.env := by rfl) (hpl : (backTo pos (starEach [.Tuple [b, c] kk p3] X.env)).any (·.1) = false := by rfl) :
    PE X (.Call (.Name "isinstance" p) [a, .Tuple [b, c] kk p3] [] pos) (UV X.K W (uno (isi2D t u) f)) :=
  pe_imp (pe_callB call_isiT hg hm (by decide +kernel) (pa_cons ha (pa_cons (pe_tup (pa_cons hb (pa_cons hc pa_nil he4) he3)) pa_nil he2) he) (by decide) (by decide) he hpl) fun σ H Q q => read_uno (one_isi2 t u) q

/-! ### slices -/
def cutG {α : Type} (xs : List α) (lo hi : Option Int) : List α := (xs.drop (HT.sIx xs.length 0 lo)).take (HT.sIx xs.length xs.length hi - HT.sIx xs.length 0 lo)
theorem RpL.cut {xs : List V} {ds : List D} (r : RpL K H xs ds) (lo hi : Option Int) : RpL K H (cutV xs lo hi) (cutG ds lo hi) := by
  unfold cutV cutG
  rw [r.length]
  exact (r.drop _).take _
def cutD (lo hi : Option Int) : D → Option D
  | .tup l => some (.tup (cutG l lo hi))
  | .lst l => some (.lst (cutG l lo hi))
  | _ => none
def cutN (lo hi : Option Int) : D → Option (List D)
  | .lst l => some (cutG l lo hi)
  | _ => none
theorem one_cut (lo hi : Option Int) : One K (fun v H Q => rSlL K v lo hi H Q ∨ rSlK K v lo hi H Q) (cutD lo hi) := by
  refine ⟨?_⟩
  intro w B D0 Hd H σ ρ ls v x z E hx e Q q
  cases x <;> try (exact noneE e)
  · rename_i l
    cases e
    obtain ⟨a, xs, rfl, ha, r⟩ := hx.tup_inv
    refine .inr ⟨a, xs, rfl, (E.sub.tk ha).sq, fun hc => ?_, fun hc p o hp h1 h2 => ?_⟩
    · have ez : cutG l lo hi = l := by
        unfold cutG
        rw [← r.length, hc.1, hc.2, List.drop_zero, Nat.sub_zero, r.length, List.take_length]
      rw [ez] at q
      exact q _ Hd H E (Sub.refl _) (.tup ha r)
    · have sd : Sub Hd (upd Hd p (.frz o (.tup (cutV xs lo hi)))) := .upd (E.nd_new hp)
      exact q _ _ _ (E.newDat hp NT.tup) sd (.tup ⟨o, upd_same, h1, h2⟩ ((r.cut lo hi).mono sd))
  · cases e
    obtain ⟨a, xs, rfl, ha, r⟩ := hx.lst_inv
    refine .inl ⟨a, xs, rfl, SqL.of ha, fun p hp => ?_⟩
    have sd : Sub Hd (upd Hd p (.lst (cutV xs lo hi))) := .upd (E.nd_new hp)
    exact q _ _ _ (E.newDat hp NT.lst) sd (.lst upd_same ((r.cut lo hi).mono sd))
theorem one_cutN (lo hi : Option Int) : OneN K (fun v H Q => rSlL K v lo hi H Q ∨ rSlK K v lo hi H Q) (cutN lo hi) := by
  refine ⟨?_⟩
  intro w B D0 Hd H σ ρ ls v x z E hx e Q q
  cases x <;> try (exact noneE e)
  cases e
  obtain ⟨a, xs, rfl, ha, r⟩ := hx.lst_inv
  refine .inl ⟨a, xs, rfl, SqL.of ha, fun p hp => ?_⟩
  obtain ⟨E2, F⟩ := E.newList (xs := cutV xs lo hi) hp
  exact q _ _ _ E2 F (r.cut lo hi)
/-- a slice's parts -/
def UO (K : PySem.W.Frag) (W : WX) (f : M (Option Int)) : TO := fun σ H Q => Ru K W f σ H fun _ _ _ _ H' _ _ o => Q o H'
def D.int? : D → Option Int
  | .int i => some i
  | _ => none
theorem uo_none : L2.PO X none (UO K W (ret none)) := ⟨fun pins s σ H Q I q => po_none.run pins s σ H Q I (by
  obtain ⟨w, B, D0, Hd, ρ, ls, E, q⟩ := q
  exact q Hd H E (Sub.refl _))⟩
def partM (f : M D) : M (Option Int) := bnd f fun d => bnd (opt d.int?) fun i => ret (some i)
theorem uo_some {fv : M D} (ha : PE X a (UV K W fv)) : L2.PO X (some a) (UO K W (partM fv)) := ⟨fun pins s σ H Q I q => (po_some ha).run pins s σ H Q I (by
  refine Ru.imp q.xBnd fun w B D0 Hd' H' ρ' ls' d E q v r => ?_
  obtain ⟨i, e, q2⟩ := q.xOpt
  cases r with
  | int j => cases e; exact ⟨_, rfl, q2 Hd' H' E (Sub.refl _)⟩
  | _ => exact noneE e)⟩
def cutM {α : Type} (op : Option Int → Option Int → D → Option α) (f : M Rf) (l h : M (Option Int)) : M α := bnd f fun r => bnd l fun lo => bnd h fun hi => bnd (look r) fun x => opt (op lo hi x)
variable {lo hi : Option Expr} {l u : M (Option Int)}
theorem read_cut {Q : VK} (q : UV K W (cutM cutD f l u) σ H Q) : tSl (fun v lo hi H Q => rSlL K v lo hi H Q ∨ rSlK K v lo hi H Q) (U K W f) (UO K W l) (UO K W u) σ H Q := by
  refine Ru.imp q.xBnd fun w B D0 Hd1 H1 ρ1 ls1 r1 E1 q1 v hv => ?_
  refine Go.ru (P := fun _ _ _ _ H' _ _ o => _) E1 ?_
  refine q1.xBnd.imp fun Hd2 H2 ρ2 ls2 lo E2 s2 q2 => ?_
  refine Go.ru (P := fun _ _ _ _ H' _ _ o => _) E2 ?_
  refine q2.xBnd.imp fun Hd3 H3 ρ3 ls3 hi E3 s3 q3 => ?_
  obtain ⟨x, hx, q4⟩ := q3.xLookB E3 (hv.mono (s2.trans s3))
  obtain ⟨z, hz, q5⟩ := q4.xOpt1
  exact (one_cut lo hi).run E3 hx hz Q fun t Hd' H' E' s' r' => q5 Hd' H' E' s' t r'
theorem read_cutN {Q : VK} (q : UN K W (cutM cutN f l u) σ H Q) : tSl (fun v lo hi H Q => rSlL K v lo hi H Q ∨ rSlK K v lo hi H Q) (U K W f) (UO K W l) (UO K W u) σ H Q := by
  refine Ru.imp q.xBnd fun w B D0 Hd1 H1 ρ1 ls1 r1 E1 q1 v hv => ?_
  refine Go.ru (P := fun _ _ _ _ H' _ _ o => _) E1 ?_
  refine q1.xBnd.imp fun Hd2 H2 ρ2 ls2 lo E2 s2 q2 => ?_
  refine Go.ru (P := fun _ _ _ _ H' _ _ o => _) E2 ?_
  refine q2.xBnd.imp fun Hd3 H3 ρ3 ls3 hi E3 s3 q3 => ?_
  obtain ⟨x, hx, q4⟩ := q3.xLookB E3 (hv.mono (s2.trans s3))
  obtain ⟨z, hz, q5⟩ := q4.xOpt1
  exact (one_cutN lo hi).run E3 hx hz Q fun p xs H' E' F r' => q5 Hd3 H' E' (Sub.refl _) p xs F r'
theorem u_cut (ha : PE X a (U X.K W f)) (hl : L2.PO X lo (UO X.K W l)) (hu : L2.PO X hi (UO X.K W u)) : PE X (.Subscript a (.Slice lo hi none p2) pos) (UV X.K W (cutM cutD f l u)) := pe_imp (pe_slice (sl_list.or sl_tupK) ha hl hu) fun σ H Q q => read_cut q
theorem u_cutN (ha : PE X a (U X.K W f)) (hl : L2.PO X lo (UO X.K W l)) (hu : L2.PO X hi (UO X.K W u)) : PE X (.Subscript a (.Slice lo hi none p2) pos) (UN X.K W (cutM cutN f l u)) := pe_imp (pe_slice (sl_list.or sl_tupK) ha hl hu) fun σ H Q q => read_cutN q

/-! ### is, is not -/
def isNone : D → Option Bool
  | .non => some true
  | .ref _ => none
  | _ => some false
theorem isNone_ok {v : V} {x : D} {b : Bool} (r : RpS K Hd H v x) (e : isNone x = some b) : decide (v = .non) = b := by
  cases x with
  | non => cases r.non_inv; cases e; rfl
  | bl _ => cases r.bl_inv; cases e; rfl
  | int _ => cases r.int_inv; cases e; rfl
  | str _ => cases r.str_inv; cases e; rfl
  | ref _ => exact noneE e
  | tup _ => obtain ⟨a, xs, rfl, _⟩ := r.tup_inv; cases e; rfl
  | lst _ => obtain ⟨a, xs, rfl, _⟩ := r.lst_inv; cases e; rfl
  | lsk _ => obtain ⟨a, xs, rfl, _⟩ := r.lsk_inv; cases e; rfl
  | exn _ => cases (show Rp K Hd v (.exn _) from r); cases e; rfl
  | dct _ _ => cases (show Rp K Hd v (.dct _ _) from r) <;> (cases e; rfl)
def isD : D → D → Option D
  | x, .non => (isNone x).map .bl
  | .bl a, .bl b => some (.bl (decide (a = b)))
  | _, _ => none
def isntD (x y : D) : Option D := match isD x y with
  | some (.bl b) => some (.bl (!b))
  | _ => none
theorem isD_inv {x y z : D} (e : isD x y = some z) : (y = .non ∧ ∃ b, isNone x = some b ∧ z = .bl b) ∨ (∃ a b, x = .bl a ∧ y = .bl b ∧ z = .bl (decide (a = b))) := by
  unfold isD at e
  split at e
  · cases e1 : isNone x with
    | none => rw [e1] at e; exact noneE e
    | some b => rw [e1] at e; cases e; exact .inl ⟨rfl, b, rfl, rfl⟩
  · cases e; exact .inr ⟨_, _, rfl, rfl, rfl⟩
  · exact noneE e
def rIsU : R2 := fun x y H Q => (y = .non ∧ Q (.bl (decide (x = .non))) H) ∨ rIsB x y H Q
def rIsntU : R2 := fun x y H Q => (y = .non ∧ Q (.bl (!decide (x = .non))) H) ∨ rNotB x y H Q
theorem op_isU : OpR X (compareOp .Is) rIsU := op_isN.or op_isBl
theorem op_isntU : OpR X (compareOp .IsNot) rIsntU := op_notN.or op_notBl
theorem od_is : OpD K rIsU isD := by
  refine ⟨?_⟩
  intro w B D0 Hd H σ ρ ls v u x y z E hx hy e Q q
  rcases isD_inv e with ⟨rfl, b, h1, rfl⟩ | ⟨a, b, rfl, rfl, rfl⟩
  · exact .inl ⟨hy.non_inv, by rw [isNone_ok hx h1]; exact q _ Hd H E (Sub.refl _) (.bl _)⟩
  · cases hx.bl_inv; cases hy.bl_inv
    exact .inr ⟨a, b, rfl, rfl, q _ Hd H E (Sub.refl _) (.bl _)⟩
theorem od_isnt : OpD K rIsntU isntD := by
  refine ⟨?_⟩
  intro w B D0 Hd H σ ρ ls v u x y z E hx hy e Q q
  unfold isntD at e
  cases e1 : isD x y with
  | none => rw [e1] at e; exact noneE e
  | some d =>
    rw [e1] at e
    rcases isD_inv e1 with ⟨rfl, b, h1, rfl⟩ | ⟨a, b, rfl, rfl, rfl⟩
    · cases e
      exact .inl ⟨hy.non_inv, by rw [isNone_ok hx h1]; exact q _ Hd H E (Sub.refl _) (.bl _)⟩
    · cases e
      cases hx.bl_inv; cases hy.bl_inv
      exact .inr ⟨a, b, rfl, rfl, q _ Hd H E (Sub.refl _) (.bl _)⟩

/-! ### int(x) -/
def intD : D → Option D
  | .int i => some (.int i)
  | .bl b => some (.int (if b then 1 else 0))
  | _ => none
theorem one_int : One K (fun v H Q => (∃ i, [v] = [V.int i] ∧ Q (.int i) H) ∨ ∃ k, [v] = [V.bl k] ∧ Q (.int (if k then 1 else 0)) H) intD := by
  refine ⟨?_⟩
  intro w B D0 Hd H σ ρ ls v x z E hx e Q q
  cases x <;> try (exact noneE e)
  · cases hx.bl_inv; cases e
    exact .inr ⟨_, rfl, q _ Hd H E (Sub.refl _) (.int _)⟩
  · cases hx.int_inv; cases e
    exact .inl ⟨_, rfl, q _ Hd H E (Sub.refl _) (.int _)⟩
theorem u_intc (hm : X.mg "int" = none) (ha : PE X a (U X.K W f)) (hg : Gl X "int" := by rfl) (he : starEach [a] X.env = (false, eval a X.env) :: starEach [] X.env := by rfl) (hpl : (backTo pos (starEach [] X.env)).any (·.1) = false := by rfl) : PE X (.Call (.Name "int" p) [a] [] pos) (UV X.K W (uno intD f)) :=
  u_callT call_int1 one_int hm (by decide +kernel) ha hg (by decide) (by decide) he hpl

/-! ### a < b < c -/
theorem GoX.sub {α : Type} {Hd1 : Hp} {o : Out α} {P : Hp → Hp → Rho → LS → α → Prop} (s : Sub Hd Hd1) (h : Go K W w B D0 σ Hd o P) : Go K W w B D0 σ Hd1 o P := by
  cases o with
  | ok a ρ' ls' => exact fun Hd' H' E s' => h Hd' H' E (s.trans s')
  | rs x ls' => exact h
  | no => exact h
def chainM (op op' : D → D → Option D) (f g h : M Rf) : M D := bnd f fun r => bnd g fun s => bnd (look r) fun x => bnd (look s) fun y => bnd (opt (op x y)) fun t => bnd (isB t) fun b => if b = true then bnd h fun u => bnd (look s) fun y' => bnd (look u) fun z => opt (op' y' z) else ret (.bl false)
theorem u_chain {o o' : CmpOp} {r r' : R2} {op op' : D → D → Option D} (ho : OpR X (compareOp o) r) (ho' : OpR X (compareOp o') r') (hd : OpD K r op) (hd' : OpD K r' op') (ha : PE X a (U K W f)) (hb : PE X b (U K W g)) (hc : PE X c (U K W h))
    (hm : lastMarks [o, o'] [b, c] = false := by with_unfolding_all rfl) : PE X (.Compare a [o, o'] [b, c] pos) (UV K W (chainM op op' f g h)) := pe_imp (pe_chain ho ho' ha hb hc hm) fun σ H Q q => by
  refine Ru.imp q.xBnd fun w B D0 Hd1 H1 ρ1 ls1 r1 E1 q1 v hv => ?_
  refine Go.ru (P := fun _ _ _ Hd' H' _ _ r => ∀ v_1, RfOk K Hd' σ v_1 r → _) E1 ?_
  refine q1.xBnd.imp fun Hd2 H2 ρ2 ls2 r2 E2 s2 q2 u hu => ?_
  obtain ⟨x, hx, q3⟩ := q2.xLookB E2 (hv.mono s2)
  obtain ⟨y, hy, q4⟩ := q3.xLookB E2 hu
  obtain ⟨t, ht, q5⟩ := q4.xOpt
  refine hd.run E2 hx hy ht _ fun tv Hd3 H3 E3 s3 rt => ?_
  have q5 := GoX.sub s3 q5
  obtain ⟨b, rfl, q6⟩ := q5.xBnd.xB E3 rt
  refine ⟨b, rfl, ?_⟩
  cases b with
  | false => exact q6 _ _ E3 (Sub.refl _) _ (.bl false)
  | true =>
    refine Go.ru (P := fun _ _ _ Hd' H' _ _ r => ∀ v_1, RfOk K Hd' σ v_1 r → _) E3 ?_
    refine Go.imp (Go.xBnd q6) fun Hd4 H4 ρ4 ls4 r4 E4 s4 q7 u4 hu4 => ?_
    obtain ⟨y', hy', q8⟩ := q7.xLookB E4 (hu.mono (s3.trans s4))
    obtain ⟨z, hz, q9⟩ := q8.xLookB E4 hu4
    obtain ⟨o, ho, q10⟩ := q9.xOpt1
    exact hd'.run E4 hy' hz ho Q fun t Hd' H' E' s' r' => q10 Hd' H' E' s' t r'
end
end Pd

set_option Elab.async false
set_option linter.all false
set_option maxRecDepth 100000
set_option maxHeartbeats 4000000
/-! Pd7c: reversed, comprehensions with two fors, keyword calls. -/
namespace Pd
open PySem PySem.Spec PyProof.Rows L2

section
variable {X : Cx} {K : PySem.W.Frag} {W : WX} {w : Wd} {B D0 Hd Hd1 H : Hp} {σ : L2.St} {ρ : Rho} {ls : LS} {a b c : Expr} {f g h : M Rf} {pos p p2 : Pos} {vs : List Nat}

/-! ### for x in reversed(xs) -/
theorem it_revL {a : Addr} {xs : List V} {ds : List D} (h : SqL K Hd a xs) (r : RpL K Hd xs ds) : ItOk K (Itv K a xs.length) Hd ds.reverse where
  go := fun i H hi s => by
    rw [List.length_reverse, ← r.length] at hi
    have hx : xs.length - 1 - i < xs.length := by omega
    exact ⟨hi, xs, xs[xs.length - 1 - i], s.sqL h, List.getElem?_eq_getElem hx⟩
  stop := fun i H hi s => by rw [List.length_reverse, ← r.length] at hi; exact hi
  yld := fun i x H' d E s y e => by
    obtain ⟨rfl, hx⟩ := y
    have hi : i < ds.length := by
      have := (List.getElem?_eq_some_iff.mp e).1
      rw [List.length_reverse] at this; exact this
    rw [List.getElem?_reverse hi, ← r.length] at e
    obtain ⟨v, h1, h2⟩ := r.get e
    have := hx xs (E.sub.sqL (s.sqL h))
    rw [h1] at this; cases this
    exact ⟨_, E, Sub.refl _, h2.mono s, fun _ _ q => q⟩
theorem it_revT {a : Addr} {xs : List V} {ds : List D} (h : SqT K Hd a xs) (r : RpL K Hd xs ds) : ItOk K (RT.ItvT K a xs.length) Hd ds.reverse where
  go := fun i H hi s => by
    rw [List.length_reverse, ← r.length] at hi
    have hx : xs.length - 1 - i < xs.length := by omega
    exact ⟨hi, xs, xs[xs.length - 1 - i], s.sqT h, List.getElem?_eq_getElem hx⟩
  stop := fun i H hi s => by rw [List.length_reverse, ← r.length] at hi; exact hi
  yld := fun i x H' d E s y e => by
    obtain ⟨rfl, hx⟩ := y
    have hi : i < ds.length := by
      have := (List.getElem?_eq_some_iff.mp e).1
      rw [List.length_reverse] at this; exact this
    rw [List.getElem?_reverse hi, ← r.length] at e
    obtain ⟨v, h1, h2⟩ := r.get e
    have := hx xs (E.sub.sqT (s.sqT h))
    rw [h1] at this; cases this
    exact ⟨_, E, Sub.refl _, h2.mono s, fun _ _ q => q⟩
def ritemsD : D → Option (List D)
  | .tup l => some l.reverse
  | .lst l => some l.reverse
  | .lsk l => some l.reverse
  | _ => none
def ritemsM (f : M D) : M (List D) := bnd f fun d => opt (ritemsD d)
variable {fv : M D} {tg e : Expr}
theorem ui_rev (hm : X.mg "reversed" = none) (he : PE X e (UV X.K W fv)) (hg : Gl X "reversed" := by rfl) (hs : starEach [e] X.env = (false, eval e X.env) :: starEach [] X.env := by rfl) : PI X tg (.Call (.Name "reversed" p) [e] [] pos) (UI X.K W (ritemsM fv)) := pi_imp (RT.pi_revA hg hm he hs) fun σ H R q => by
  refine Ru.imp q.xBnd fun w B D0 Hd' H' ρ' ls' d E q v r => ?_
  obtain ⟨l, e1, q2⟩ := q.xOpt1
  cases r with
  | tup h r =>
    cases e1
    exact ⟨_, _, rfl, .inr ⟨E.sub.sqT h.sq, q2 Hd' H' E (Sub.refl _) _ (it_revT h.sq r)⟩⟩
  | lst h r =>
    cases e1
    exact ⟨_, _, rfl, .inl ⟨SqL.of (E.sub _ _ h), q2 Hd' H' E (Sub.refl _) _ (it_revL (SqL.of h) r)⟩⟩
  | lsk h r =>
    cases e1
    exact ⟨_, _, rfl, .inl ⟨E.sub.sqL h, q2 Hd' H' E (Sub.refl _) _ (it_revL h r)⟩⟩
  | _ => exact noneE e1

/-! ### keyword calls -/
variable {x : Str} {n : Nat} {F : FS} {ga gk : M (List D)} {es : List Expr} {kws : List Keyword} {ks : List Str} {nm : Option Str} {kpos : Pos}
def UK (K : PySem.W.Frag) (W : WX) (f : M (List D)) : TA := UA K W f
theorem uk_nil : PK X [] (UA K W (ret [])) := ⟨fun pos pins s σ H Q I h => pk_nil.run pos pins s σ H Q I (by
  obtain ⟨w, B, D0, Hd, ρ, ls, E, q⟩ := h
  exact q Hd H E (Sub.refl _) [] .nil)⟩
theorem uk_cons (ha : PE X a (UV K W fv)) (hr : PK X kws (UA K W gk)) : PK X (⟨nm, a, kpos⟩ :: kws) (UA K W (consM fv gk)) := ⟨fun pos pins s σ H Q I h => (pk_cons ha hr).run pos pins s σ H Q I (by
  refine Ru.imp h.xBnd fun w B D0 Hd1 H1 ρ1 ls1 d E1 q1 v hv => ?_
  refine Go.ru (P := fun _ _ _ Hd' H' _ _ ds => ∀ vs, RpL K Hd' vs ds → Q (v :: vs) H') E1 ?_
  exact q1.xBnd.imp fun Hd2 H2 ρ2 ls2 ds E2 s2 q2 vs hvs => q2 _ _ E2 (Sub.refl _) _ (.cons (hv.mono s2) hvs))⟩
end

/-! ### [e for x in xs for y in ys] -/
section
variable {X : Cx} {K : PySem.W.Frag} {W : WX} {w : Wd} {B D0 Hd Hd1 H : Hp} {σ : L2.St} {ρ : Rho} {ls : LS} {vs vs1 : List Nat}
def lc2K (k : List D → Rho → LS → Out (List D)) : Out (List D) → Out (List D)
  | .ok acc ρ ls => k acc ρ ls
  | _ => .no
def lc2S (k : List D → Rho → LS → Out (List D)) (src1 : M (List D)) (t1 : D → Rho → Option Rho) (c1 : M Bool) (e : M D) (vs1 : List Nat) (acc : List D) (ρ : Rho) (ls : LS) : Out (List D) := match src1 ρ ls with
  | .ok es ρ' ls' => lc2K k (lcL t1 c1 e vs1 es acc (wipeR ρ' vs1) ls')
  | _ => .no
def lc2C (k : List D → Rho → LS → Out (List D)) (c : M Bool) (src1 : M (List D)) (t1 : D → Rho → Option Rho) (c1 : M Bool) (e : M D) (vs1 : List Nat) (acc : List D) (ρ : Rho) (ls : LS) : Out (List D) := match c ρ ls with
  | .ok true ρ' ls' => lc2S k src1 t1 c1 e vs1 acc ρ' ls'
  | .ok false ρ' ls' => k acc ρ' ls'
  | _ => .no
def lc2T (k : List D → Rho → LS → Out (List D)) (c : M Bool) (src1 : M (List D)) (t1 : D → Rho → Option Rho) (c1 : M Bool) (e : M D) (vs1 : List Nat) (acc : List D) (ls : LS) : Option Rho → Out (List D)
  | some ρ => lc2C k c src1 t1 c1 e vs1 acc ρ ls
  | none => .no
def lc2L (t : D → Rho → Option Rho) (c : M Bool) (src1 : M (List D)) (t1 : D → Rho → Option Rho) (c1 : M Bool) (e : M D) (vs vs1 : List Nat) : List D → List D → Rho → LS → Out (List D)
  | [], acc, ρ, ls => .ok acc ρ ls
  | d :: ds, acc, ρ, ls => lc2T (fun acc ρ ls => lc2L t c src1 t1 c1 e vs vs1 ds acc (wipeR ρ vs) ls) c src1 t1 c1 e vs1 acc ls (t d ρ)
def lc2M (src : M (List D)) (t : D → Rho → Option Rho) (c : M Bool) (src1 : M (List D)) (t1 : D → Rho → Option Rho) (c1 : M Bool) (e : M D) (vs vs1 : List Nat) : M (List D) := bnd src fun ds ρ ls => if noOwn ρ vs = true then lcEnd ρ vs (lc2L t c src1 t1 c1 e vs vs1 ds [] (wipeR ρ vs) ls) else .no
/-- the end of a loop of a comprehension -/
def LcP (P : List D → Rho → LS → Prop) : Out (List D) → Prop
  | .ok l ρ ls => P l ρ ls
  | _ => False
theorem read_lc2 {wi wi1 : TI} {g g1 : TG} {t t1 : D → Rho → Option Rho} {src src1 : M (List D)} {c c1 : M Bool} {e : M D} {is is1 : List Nat} (hi : ∀ R, UI K W src σ H R → wi σ H R) (hi1 : ∀ σ H R, UI K W0 src1 σ H R → wi1 σ H R) (hg : TgOk K g t is) (hg1 : TgOk K g1 t1 is1) (hv : ∀ i ∈ is, i ∈ vs) (hv1 : ∀ i ∈ is1, i ∈ vs1) (hvv : ∀ i ∈ vs1, i ∈ vs)
    {Q : VK} (h : UN K W (lc2M src t c src1 t1 c1 e vs vs1) σ H Q) : tLc2 wi g (UT K W0 c) wi1 g1 (UT K W0 c1) (UV K W0 e) vs vs1 σ H Q := by
  refine hi _ (Ru.imp h.xBnd fun w B D0 Hd1 H1 ρ1 ls1 ds E1 q J ok Dl hD => ?_)
  have q : Go K W w B D0 σ Hd1 (if noOwn ρ1 vs = true then lcEnd ρ1 vs (lc2L t c src1 t1 c1 e vs vs1 ds [] (wipeR ρ1 vs) ls1) else .no) fun Hd' H' ρ' ls' ds => ∀ p xs, Fresh w B Hd' H' σ ρ' p xs → RpL K Hd' xs ds → Q (.ref p) H' := q
  by_cases no : noOwn ρ1 vs = true
  · rw [if_pos no] at q
    have u : UnderOk w B D0 Dl := ⟨E1.nz_new hD, E1.dom _ hD, by
      cases e0 : D0 Dl with
      | none => rfl
      | some o => rw [E1.sub _ _ (E1.sub0 _ _ e0)] at hD; cases hD⟩
    -- what is left to do, at the outer loop's turn
    let Left : Nat → Hp → Hp → Prop := fun i Hd0 H' => ∃ Hd' ρ' ls' acc xs, EOk K w (upd B Dl (.lst xs)) D0 Hd' H' (wipe σ vs) (wipeR ρ' vs) ls' ∧ Sub Hd0 Hd' ∧ RpL K Hd' xs acc ∧
      Go K W w B D0 σ Hd1 (lcEnd ρ1 vs (lc2L t c src1 t1 c1 e vs vs1 (ds.drop i) acc (wipeR ρ' vs) ls')) fun Hd' H' ρ' ls' ds => ∀ p xs, Fresh w B Hd' H' σ ρ' p xs → RpL K Hd' xs ds → Q (.ref p) H'
    refine ⟨fun i m H' => i + m = ds.length ∧ Left i Hd1 H', ⟨ds.length, Nat.zero_add _, Hd1, ρ1, ls1, [], [], (E1.under hD).wipe vs, Sub.refl _, .nil, q⟩, ?_⟩
    rintro i m H' ⟨hm, Hd', ρ', ls', acc, xs, E, s, ra, q⟩
    by_cases hlt : i < ds.length
    · have ed : ds.drop i = ds[i] :: ds.drop (i + 1) := List.drop_eq_getElem_cons hlt
      have e1 : ds[i]? = some ds[i] := List.getElem?_eq_getElem hlt
      refine .inr ⟨ok.go i H' hlt (s.trans E.sub), fun H2 => ∃ m', m' < m ∧ i + 1 + m' = ds.length ∧ Left (i + 1) Hd1 H2, fun H2 ⟨m', h1, h2, h3⟩ => ⟨m', h1, h2, h3⟩, fun x H2 y => ?_⟩
      obtain ⟨Hd2, E2, s2, r2, _⟩ := ok.yld i x H2 ds[i] E s y e1
      rw [ed] at q
      have q : Go K W w B D0 σ Hd1 (lcEnd ρ1 vs (lc2T (fun acc ρ ls => lc2L t c src1 t1 c1 e vs vs1 (ds.drop (i + 1)) acc (wipeR ρ vs) ls) c src1 t1 c1 e vs1 acc ls' (t ds[i] (wipeR ρ' vs)))) _ := q
      cases et : t ds[i] (wipeR ρ' vs) with
      | none => rw [et] at q; exact q.elim
      | some ρ2 =>
        rw [et] at q
        have q : Go K W w B D0 σ Hd1 (lcEnd ρ1 vs (lc2C (fun acc ρ ls => lc2L t c src1 t1 c1 e vs vs1 (ds.drop (i + 1)) acc (wipeR ρ vs) ls) c src1 t1 c1 e vs1 acc ρ2 ls')) _ := q
        refine hg.run E2 r2 et _ fun σ3 E3 sm => ⟨wipe_sames sm hv, w, upd B Dl (.lst xs), D0, Hd2, ρ2, ls', E3, ?_⟩
        unfold lc2C at q
        cases ec : c ρ2 ls' with
        | no => rw [ec] at q; exact q.elim
        | rs x ls2 => rw [ec] at q; exact q.elim
        | ok b ρ3 ls3 =>
          rw [ec] at q
          intro Hd4 H4 E4 s4
          cases b with
          | false =>
            have q : Go K W w B D0 σ Hd1 (lcEnd ρ1 vs (lc2L t c src1 t1 c1 e vs vs1 (ds.drop (i + 1)) acc (wipeR ρ3 vs) ls3)) _ := q
            have E5 := E4.wipe vs
            rw [wipe_sames sm hv] at E5
            exact ⟨m - 1, by omega, by omega, Hd4, ρ3, ls3, acc, xs, E5, (s.trans s2).trans s4, ra.mono (s2.trans s4), q⟩
          | true =>
            have q : Go K W w B D0 σ Hd1 (lcEnd ρ1 vs (lc2S (fun acc ρ ls => lc2L t c src1 t1 c1 e vs vs1 (ds.drop (i + 1)) acc (wipeR ρ vs) ls) src1 t1 c1 e vs1 acc ρ3 ls3)) _ := q
            unfold lc2S at q
            refine hi1 _ _ _ ⟨w, upd B Dl (.lst xs), D0, Hd4, ρ3, ls3, E4, ?_⟩
            cases es1 : src1 ρ3 ls3 with
            | no => rw [es1] at q; exact q.elim
            | rs x ls2 => rw [es1] at q; exact q.elim
            | ok es ρ5 ls5 =>
              rw [es1] at q
              intro Hd6 H6 E6 s6 J1 ok1
              -- the inner loop
              let Fin : List D → Rho → LS → Prop := fun acc' ρ' ls' => Go K W w B D0 σ Hd1 (lcEnd ρ1 vs (lc2L t c src1 t1 c1 e vs vs1 (ds.drop (i + 1)) acc' (wipeR ρ' vs) ls')) fun Hd' H' ρ' ls' ds => ∀ p xs, Fresh w B Hd' H' σ ρ' p xs → RpL K Hd' xs ds → Q (.ref p) H'
              have q : LcP Fin (lcL t1 c1 e vs1 es acc (wipeR ρ5 vs1) ls5) := by
                have q : Go K W w B D0 σ Hd1 (lcEnd ρ1 vs (lc2K (fun acc ρ ls => lc2L t c src1 t1 c1 e vs vs1 (ds.drop (i + 1)) acc (wipeR ρ vs) ls) (lcL t1 c1 e vs1 es acc (wipeR ρ5 vs1) ls5))) _ := q
                cases el : lcL t1 c1 e vs1 es acc (wipeR ρ5 vs1) ls5 with
                | no => rw [el] at q; exact q.elim
                | rs x ls2 => rw [el] at q; exact q.elim
                | ok a' ρ' ls' => rw [el] at q; exact q
              have sAll : Sub Hd1 Hd6 := ((s.trans s2).trans s4).trans s6
              refine ⟨fun j k H' => j + k = es.length ∧ ∃ Hd' ρ' ls' acc xs, EOk K w (upd B Dl (.lst xs)) D0 Hd' H' (wipe σ3 vs1) (wipeR ρ' vs1) ls' ∧ Sub Hd6 Hd' ∧ RpL K Hd' xs acc ∧ LcP Fin (lcL t1 c1 e vs1 (es.drop j) acc (wipeR ρ' vs1) ls'),
                ⟨es.length, Nat.zero_add _, Hd6, ρ5, ls5, acc, xs, E6.wipe vs1, Sub.refl _, ra.mono ((s2.trans s4).trans s6), q⟩, ?_⟩
              rintro j k H' ⟨hk, Hd7, ρ7, ls7, acc7, xs7, E7, s7, ra7, q7⟩
              by_cases hlt1 : j < es.length
              · have ed1 : es.drop j = es[j] :: es.drop (j + 1) := List.drop_eq_getElem_cons hlt1
                have e11 : es[j]? = some es[j] := List.getElem?_eq_getElem hlt1
                refine .inr ⟨ok1.go j H' hlt1 (s7.trans E7.sub), fun H2 => ∃ k', k' < k ∧ j + 1 + k' = es.length ∧ ∃ Hd' ρ' ls' acc xs, EOk K w (upd B Dl (.lst xs)) D0 Hd' H2 (wipe σ3 vs1) (wipeR ρ' vs1) ls' ∧ Sub Hd6 Hd' ∧ RpL K Hd' xs acc ∧ LcP Fin (lcL t1 c1 e vs1 (es.drop (j + 1)) acc (wipeR ρ' vs1) ls'), fun H2 ⟨m', h1, h2, h3⟩ => ⟨m', h1, h2, h3⟩, fun x H2 y => ?_⟩
                obtain ⟨Hd8, E8, s8, r8, _⟩ := ok1.yld j x H2 es[j] E7 s7 y e11
                rw [ed1] at q7
                have q7 : LcP Fin (lcT (fun acc ρ ls => lcL t1 c1 e vs1 (es.drop (j + 1)) acc (wipeR ρ vs1) ls) c1 e acc7 ls7 (t1 es[j] (wipeR ρ7 vs1))) := q7
                cases et1 : t1 es[j] (wipeR ρ7 vs1) with
                | none => rw [et1] at q7; exact q7.elim
                | some ρ8 =>
                  rw [et1] at q7
                  have q7 : LcP Fin (lcC (fun acc ρ ls => lcL t1 c1 e vs1 (es.drop (j + 1)) acc (wipeR ρ vs1) ls) c1 e acc7 ρ8 ls7) := q7
                  refine hg1.run E8 r8 et1 _ fun σ9 E9 sm1 => ⟨wipe_sames sm1 hv1, w, upd B Dl (.lst xs7), D0, Hd8, ρ8, ls7, E9, ?_⟩
                  unfold lcC at q7
                  cases ec1 : c1 ρ8 ls7 with
                  | no => rw [ec1] at q7; exact q7.elim
                  | rs x ls2 => rw [ec1] at q7; exact q7.elim
                  | ok b ρ9 ls9 =>
                    rw [ec1] at q7
                    intro Hd10 H10 E10 s10
                    cases b with
                    | false =>
                      have q7 : LcP Fin (lcL t1 c1 e vs1 (es.drop (j + 1)) acc7 (wipeR ρ9 vs1) ls9) := q7
                      have E11 := E10.wipe vs1
                      rw [wipe_sames sm1 hv1] at E11
                      exact ⟨k - 1, by omega, by omega, Hd10, ρ9, ls9, acc7, xs7, E11, (s7.trans s8).trans s10, ra7.mono (s8.trans s10), q7⟩
                    | true =>
                      have q7 : LcP Fin (lcE (fun acc ρ ls => lcL t1 c1 e vs1 (es.drop (j + 1)) acc (wipeR ρ vs1) ls) e acc7 ρ9 ls9) := q7
                      refine ⟨w, upd B Dl (.lst xs7), D0, Hd10, ρ9, ls9, E10, ?_⟩
                      unfold lcE at q7
                      cases ee : e ρ9 ls9 with
                      | no => rw [ee] at q7; exact q7.elim
                      | rs x ls2 => rw [ee] at q7; exact q7.elim
                      | ok d ρ11 ls11 =>
                        rw [ee] at q7
                        intro Hd12 H12 E12 s12 v rv
                        have q7 : LcP Fin (if acc7.length < top then lcL t1 c1 e vs1 (es.drop (j + 1)) (acc7 ++ [d]) (wipeR ρ11 vs1) ls11 else .no) := q7
                        by_cases hz : acc7.length < top
                        · rw [if_pos hz] at q7
                          have ra12 := ra7.mono ((s8.trans s10).trans s12)
                          refine ⟨xs7, E12.under_at u, by rw [ra12.length]; exact top_lt hz, k - 1, by omega, by omega, Hd12, ρ11, ls11, acc7 ++ [d], xs7 ++ [v], ?_, ((s7.trans s8).trans s10).trans s12, ra12.append (.cons rv .nil), q7⟩
                          have E13 := (E12.under_set (ys := xs7 ++ [v]) u).wipe vs1
                          rw [wipe_sames sm1 hv1] at E13
                          exact E13
                        · rw [if_neg hz] at q7; exact q7.elim
              · refine .inl ⟨ok1.stop j H' (by omega) (s7.trans E7.sub), m - 1, by omega, by omega, ?_⟩
                have ed1 : es.drop j = [] := List.drop_eq_nil_of_le (by omega)
                rw [ed1] at q7
                have q7 : Fin acc7 (wipeR ρ7 vs1) ls7 := q7
                have E8 := E7.wipe vs
                have ew : wipe (wipe σ3 vs1) vs = wipe σ vs := (wipe_same (wipe_length _ _) fun i hi => wipe_outS fun q => hi (hvv i q)).trans (wipe_sames sm hv)
                rw [ew] at E8
                exact ⟨Hd7, wipeR ρ7 vs1, ls7, acc7, xs7, E8, sAll.trans s7, ra7, q7⟩
    · refine .inl ⟨ok.stop i H' (by omega) (s.trans E.sub), ?_⟩
      have ed : ds.drop i = [] := List.drop_eq_nil_of_le (by omega)
      rw [ed] at q
      obtain ⟨E8, F⟩ := E1.under_end s no E u
      exact q Hd' H' E8 s Dl xs F ra
  · rw [if_neg no] at q; exact q.elim
variable {elt tg iter tg1 iter1 : Expr} {ifs ifs1 : List Expr} {scope : Scope} {own : List (Str × Nat)} {pos : Pos} {g g1 : TG} {t t1 : D → Rho → Option Rho} {src src1 : M (List D)} {c c1 : M Bool} {e : M D} {is is1 : List Nat}
theorem u_lc2 (hc : X.calm = true) (hN : X.N.Nodup) (hi : PI X tg iter (UI K W src)) (ok : BlkOk X.N X.env.scope scope own) (ht : TgOk K g t is) (hv : ∀ i ∈ is, i ∈ own.map (·.2)) (ht1 : TgOk K g1 t1 is1) (hv1 : ∀ i ∈ is1, i ∈ vs1) (hvv : ∀ i ∈ vs1, i ∈ own.map (·.2))
    (hg : ∀ (s : Shared) (H : Hp) (C : Addr) (cl : List (Str × Addr)) (fp : List Addr), PG (X.blk s H scope (compEnvC scope cl C X.env) fp) tg g) (hts : ∀ (s : Shared) (H : Hp) (C : Addr) (cl : List (Str × Addr)) (fp : List Addr), PTs (X.blk s H scope (compEnvC scope cl C X.env) fp) ifs (UT K W0 c))
    (hi1 : ∀ (s : Shared) (H : Hp) (C : Addr) (cl : List (Str × Addr)) (fp : List Addr), PI (X.blk s H scope (compEnvC scope cl C X.env) fp) tg1 iter1 (UI K W0 src1))
    (hg1 : ∀ (s : Shared) (H : Hp) (C : Addr) (cl : List (Str × Addr)) (fp : List Addr), PG (X.blk s H scope (compEnvC scope cl C X.env) fp) tg1 g1) (hts1 : ∀ (s : Shared) (H : Hp) (C : Addr) (cl : List (Str × Addr)) (fp : List Addr), PTs (X.blk s H scope (compEnvC scope cl C X.env) fp) ifs1 (UT K W0 c1))
    (he : ∀ (s : Shared) (H : Hp) (C : Addr) (cl : List (Str × Addr)) (fp : List Addr), PE (X.blk s H scope (compEnvC scope cl C X.env) fp) elt (UV K W0 e)) (hs : ∀ x, foldedSetIterable iter X.env x = pure x := by intro _; rfl) (hs1 : ∀ env x, foldedSetIterable iter1 env x = pure x := by intro _ _; rfl) :
    PE X (.ListComp elt [⟨tg, iter, ifs, 0⟩, ⟨tg1, iter1, ifs1, 0⟩] scope pos) (UN K W (lc2M src t c src1 t1 c1 e (own.map (·.2)) vs1)) := pe_imp (pe_lc2 hc hN hi ok hvv hg hts hi1 hg1 hts1 he hs hs1) fun _ _ _ q => read_lc2 (fun _ q => q) (fun _ _ _ q => q) ht ht1 hv hv1 hvv q
end
end Pd

set_option Elab.async false
set_option linter.all false
set_option maxRecDepth 100000
set_option maxHeartbeats 4000000
/-! Pd8: equality of data, computed. -/
namespace Pd
open PySem PySem.Spec PyProof.Rows L2

/-- plain data of depth at most n, strings good -/
def dq : Nat → D → Bool
  | _, .non => true
  | _, .bl _ => true
  | _, .int _ => true
  | _, .str x => x.cps.size == x.cps.size && PyData.canLay0 (.str x)
  | 0, _ => false
  | n + 1, .tup l => l.all (dq n)
  | n + 1, .lst l => l.all (dq n)
  | n + 1, .lsk l => l.all (dq n)
  | _, .ref _ => false
  | _, .exn _ => false
  | _, .dct _ _ => false
theorem dq_facts : ∀ (n : Nat) (d : D), dq n d = true → d.pure = true ∧ PyData.canLay0 d.py = true ∧ PyData.depth d.py ≤ n := by
  intro n
  induction n with
  | zero =>
    intro d h
    cases d with
    | non => exact ⟨rfl, rfl, Nat.le_refl _⟩
    | bl b => exact ⟨rfl, rfl, Nat.le_refl _⟩
    | int i => exact ⟨rfl, rfl, Nat.le_refl _⟩
    | str x => exact ⟨rfl, by unfold dq at h; rw [Bool.and_eq_true] at h; exact h.2, Nat.le_refl _⟩
    | tup l => simp [dq] at h
    | lst l => simp [dq] at h
    | lsk l => simp [dq] at h
    | ref a => simp [dq] at h
    | exn a => simp [dq] at h
    | dct a b => simp [dq] at h
  | succ n ih =>
    intro d h
    have L : ∀ l : List D, l.all (dq n) = true → D.pureL l = true ∧ PyData.canLayAll0 (D.pyL l) = true ∧ PyData.depthAll (D.pyL l) ≤ n := by
      intro l
      induction l with
      | nil => intro _; exact ⟨rfl, rfl, Nat.zero_le _⟩
      | cons x l ihl =>
        intro h
        rw [List.all_cons, Bool.and_eq_true] at h
        obtain ⟨a1, a2, a3⟩ := ih x h.1
        obtain ⟨b1, b2, b3⟩ := ihl h.2
        refine ⟨?_, ?_, ?_⟩
        · show (D.pure x && D.pureL l) = true
          rw [a1, b1]; rfl
        · show (PyData.canLay0 x.py && PyData.canLayAll0 (D.pyL l)) = true
          rw [a2, b2]; rfl
        · show max (PyData.depth x.py) (PyData.depthAll (D.pyL l)) ≤ n
          omega
    cases d with
    | non => exact ⟨rfl, rfl, Nat.zero_le _⟩
    | bl b => exact ⟨rfl, rfl, Nat.zero_le _⟩
    | int i => exact ⟨rfl, rfl, Nat.zero_le _⟩
    | str x => exact ⟨rfl, by unfold dq at h; rw [Bool.and_eq_true] at h; exact h.2, Nat.zero_le _⟩
    | tup l => obtain ⟨a, b, c⟩ := L l (by unfold dq at h; exact h); exact ⟨a, b, Nat.succ_le_succ c⟩
    | lst l => obtain ⟨a, b, c⟩ := L l (by unfold dq at h; exact h); exact ⟨a, b, Nat.succ_le_succ c⟩
    | lsk l => obtain ⟨a, b, c⟩ := L l (by unfold dq at h; exact h); exact ⟨a, b, Nat.succ_le_succ c⟩
    | ref a => simp [dq] at h
    | exn a => simp [dq] at h
    | dct a b => simp [dq] at h
theorem okq_dq {d : D} (h : dq 8 d = true) : d.okq = true := by
  obtain ⟨a, b, c⟩ := dq_facts 8 d h
  unfold D.okq SeqAt.shaped
  rw [a, b]
  simp only [Bool.true_and, decide_eq_true_eq]
  omega
/-- rows -/
def zs (l : List Int) : List D := l.map D.int
def row (l : List Int) : D := .tup (zs l)
theorem dq_int {n : Nat} {i : Int} : dq n (.int i) = true := by cases n <;> rfl
theorem dq_ints {n : Nat} {l : List Int} : (zs l).all (dq n) = true := by
  unfold zs
  rw [List.all_map, List.all_eq_true]
  intro i _
  exact dq_int
theorem dq_row {n : Nat} {l : List Int} : dq (n + 1) (row l) = true := dq_ints
theorem dq_rows {n : Nat} {ls : List (List Int)} : (ls.map row).all (dq (n + 1)) = true := by
  rw [List.all_map, List.all_eq_true]
  intro i _
  exact dq_row
theorem okq_row {l : List Int} : (row l).okq = true := okq_dq dq_row
theorem okq_ints {l : List Int} : (D.lst (zs l)).okq = true := okq_dq (show (zs l).all (dq 7) = true from dq_ints)
theorem okq_int {i : Int} : (D.int i).okq = true := okq_dq dq_int
theorem eqL_ints : ∀ (l m : List Int), PyData.eqvAll (D.pyL (zs l)) (D.pyL (zs m)) = decide (l = m)
  | [], [] => rfl
  | [], _ :: _ => rfl
  | _ :: _, [] => rfl
  | a :: l, b :: m => by
    show ((a == b) && PyData.eqvAll (D.pyL (zs l)) (D.pyL (zs m))) = _
    rw [eqL_ints l m]
    by_cases h1 : a = b
    · by_cases h2 : l = m <;> simp [h1, h2]
    · simp [h1]
theorem eqb_row {l m : List Int} : eqb (row l) (row m) = decide (l = m) := eqL_ints l m
theorem eqb_ints {l m : List Int} : eqb (.lst (zs l)) (.lst (zs m)) = decide (l = m) := eqL_ints l m
theorem eqb_int {i j : Int} : eqb (.int i) (.int j) = decide (i = j) := by
  show (i == j) = _
  by_cases h : i = j <;> simp [h]
theorem eqL_rows : ∀ (l m : List (List Int)), PyData.eqvAll (D.pyL (l.map row)) (D.pyL (m.map row)) = decide (l = m)
  | [], [] => rfl
  | [], _ :: _ => rfl
  | _ :: _, [] => rfl
  | a :: l, b :: m => by
    show (eqb (row a) (row b) && PyData.eqvAll (D.pyL (l.map row)) (D.pyL (m.map row))) = _
    rw [eqb_row, eqL_rows l m]
    by_cases h1 : a = b
    · by_cases h2 : l = m <;> simp [h1, h2]
    · simp [h1]
theorem eqD_of {x y : D} (hx : x.okq = true) (hy : y.okq = true) : eqD x y = some (.bl (eqb x y)) := by
  unfold eqD
  rw [hx, hy]; rfl
theorem neD_of {x y : D} (hx : x.okq = true) (hy : y.okq = true) : neD x y = some (.bl (!eqb x y)) := by
  unfold neD
  rw [hx, hy]; rfl
end Pd

set_option Elab.async false
set_option linter.all false
set_option maxRecDepth 100000
set_option maxHeartbeats 4000000
/-! Pd9: what is known of a def that others call. -/
namespace Pd
open PySem PySem.Spec PyProof.Rows L2
/-- the def x keeps its promise F at every level from k on -/
def Has (P : Program) (w : World) (K : PySem.W.Frag) (mg : Str → Option Value) (base : Heap) (x : Str) (ps : List Str) (k n : Nat) (F : FS) : Prop :=
  ∃ f fd, mg x = some (.ref f) ∧ PySem.W.keepIn K (.ref f) = true ∧ L2.Binds K fd ps [] ∧ FnOk P w K mg base (L2.CX P w) k f fd ps (spD K n F)
section
variable {X : Cx} {W : WX} {ga : M (List D)} {e : Expr} {es : List Expr} {pos pp : Pos}
theorem u_callH {k k2 : Nat} {ps : List Str} {x : Str} {n : Nat} {F : FS} (G : Has X.prog X.w X.K X.mg X.base x ps k n F) (hr : Room k2 X.A) (tk : Takes X W) (ha : PA X (e :: es) (UA X.K W ga)) (hk : k ≤ k2 := by decide) (hg : Gl X x := by rfl) (hdb : (x == ("__debug__" : Str)) = false := by decide) (he : starEach (e :: es) X.env = (false, eval e X.env) :: starEach es X.env := by rfl) (hpl : (backTo pos (starEach es X.env)).any (·.1) = false := by rfl) :
    PE X (.Call (.Name x pp) (e :: es) [] pos) (UV X.K W (callM n F ga)) := by
  obtain ⟨f, fd, h1, h2, h3, h4⟩ := G
  exact u_call h4 (hr.mono hk) h1 h2 h3 tk ha hg hdb he hpl
theorem u_callHN {k k2 : Nat} {ps : List Str} {x : Str} {n : Nat} {F : FS} (G : Has X.prog X.w X.K X.mg X.base x ps k n F) (hr : Room k2 X.A) (tk : Takes X W) (ha : PA X (e :: es) (UA X.K W ga)) (hk : k ≤ k2 := by decide) (hg : Gl X x := by rfl) (hdb : (x == ("__debug__" : Str)) = false := by decide) (he : starEach (e :: es) X.env = (false, eval e X.env) :: starEach es X.env := by rfl) (hpl : (backTo pos (starEach es X.env)).any (·.1) = false := by rfl) :
    PE X (.Call (.Name x pp) (e :: es) [] pos) (UN X.K W (callN n F ga)) := by
  obtain ⟨f, fd, h1, h2, h3, h4⟩ := G
  exact pe_imp (pe_callS h4 (hr.mono hk) hg h1 h2 h3 (fun σ => passAt tk σ) ha hdb he hpl) fun σ H Q h => read_callN (fun _ q => q) h
end
end Pd

set_option Elab.async false
set_option linter.all false
set_option maxRecDepth 100000
set_option maxHeartbeats 4000000
/-! Pd10: errors raised, caught, kept, asked for their class. -/
namespace Pd
open PySem PySem.Spec PyProof.Rows L2

/-! ### raise -/
def rsP (C : Addr) : PM := fun _ ls => .rs ⟨C, none⟩ ls
/-- what is known of an own class of errors -/
structure ECl (K : PySem.W.Frag) (mg : Str → Option Value) (x : Str) (C : Addr) : Prop where
  gC : mg x = some (.ref C)
  kC : PySem.W.keepIn K (.ref C) = true
  xC : PySem.W.excIn K C [.type "ValueError", .type "Exception", .type "BaseException", .type "object"] "ValueError.__new__" = true
  bC : PySem.W.subIn K (.ref C) (.type "BaseException") = some true
  tC : PySem.W.typeIn K (.ref C) = some (.type "type")
section
variable {X : Cx} {K : PySem.W.Frag} {W : WX} {w : Wd} {B D0 Hd H : Hp} {σ : L2.St} {ρ : Rho} {ls : LS} {pos pos2 p p2 : Pos}
theorem us_raise {C : Addr} {x m : Str} {j : Nat} (h : ECl X.K X.mg x C) (hc : X.calm = true) (tk : Takes X W) (hg : Gl X x := by rfl) (hdb : (x == ("__debug__" : Str)) = false := by decide) :
    PS X (.Raise (some (.Call (.Name x p) [.Constant (.str m) j p2] [] pos)) none pos2) (US X.K W (rsP C)) := ps_imp (ps_raise hc tk (pmk_own PySem.F.excBase_ValueError h.xC h.gC h.kC (raises_own h.bC h.tC) hg hdb)) fun De σ H h => by
  obtain ⟨w, B, D0, Hd, ρ, ls, E, q⟩ := h
  exact q H (.ref C) none σ ⟨E.base, E.st, rfl, fun _ => rfl, fun n i z => by cases z⟩

/-! ### a caught error is kept -/
theorem exi_ok {P : Program} {wo : World} {H : Hp} {h : Heap} {a C : Addr} {oe : Obj} {vs : Array Value} (e : h.get? a = some oe) (z : Zc (.ref C) none oe) (d : oe.data = .fields vs) : ObjOk P wo H h a (ExI C a) :=
  ⟨⟨oe, vs, e, z, d⟩, ⟨oe, e⟩, fun _ _ ⟨o, v, q, r⟩ k => ⟨o, v, k o q, r⟩⟩
/-- what the clause wishes: the error at a, of the class C, is held by name j when the clause is done -/
def wKeep (K : PySem.W.Frag) (c : Value) (i j m : Nat) (De : Ends) : WX := fun cls d σ H =>
  ∃ C : Addr, cls = .ref C ∧ d = none ∧ PySem.W.exmOne K cls c = some true ∧ (σ.length = m → ∀ a, H a = none → De.nx (((σ.set i (some (.ref a))).set j (some (.ref a))).set i none) (upd H a (ExI C a)))
def onCatch (X : Cx) (hs : List ExceptHandler) (P : Flow → Shared → Prop) : Value → Shared → Prop := fun u t =>
  wpAny (model X.prog X.w) X.A (noteFrame u X.env) (fun _ t2 => wpAny (model X.prog X.w) X.A (setFlight u none) (fun _ t3 => wpAny (model X.prog X.w) X.A (handleBy u X.env hs) P X.xe t3) X.xe t2) X.xe t
theorem Inv.inSuite {pins : List (Addr × Obj)} {s : Shared} (I : Inv X pins σ H s) (a : Addr) : Inv (X.suite a (X.pn ++ pins)) [] σ H s :=
  ⟨I.ok.suite _ _, I.os, I.bare, I.base, I.loc, I.cell, I.free, I.freeC, fun q hq => I.pin q (by simpa using hq), I.hok, I.len⟩
theorem Inv.outSuite {pins : List (Addr × Obj)} {s : Shared} {a : Addr} (I : Inv (X.suite a (X.pn ++ pins)) [] σ H s) (ok : X.Ok) : Inv X pins σ H s :=
  ⟨ok, I.os, I.bare, I.base, I.loc, I.cell, I.free, I.freeC, fun q hq => I.pin q (by simpa using hq), I.hok, I.len⟩
/-- the error that has landed is a thing of ours -/
theorem Inv.keepErr {pins : List (Addr × Obj)} {t sI : Shared} {a C : Addr} {oe : Obj} {vs : Array Value} {G0 : Heap} (J : Inv X pins σ H sI) (gr : ∀ b o, sI.heap.get? b = some o → b ∉ frs X.stack → G0.get? b = some o) (st : G0.StaysIn t.heap) (g0 : G0.get? a = none) (nfr : a ∉ frs X.stack)
    (up : sI.heap.UpToSlots t.heap) (os : t.os = sI.os) (ag : AllBare t.gens) (na : H a = none) (ea : t.heap.get? a = some oe) (z : Zc (.ref C) none oe) (dd : oe.data = .fields vs) : Inv X pins σ (upd H a (ExI C a)) t := by
  obtain ⟨G, g1, g2⟩ := restrict t.heap fun b => decide (b ≠ a)
  have gk : ∀ b, b ≠ a → G.get? b = t.heap.get? b := fun b hb => g1 b (decide_eq_true hb)
  have ga : G.get? a = none := g2 a (by simp)
  have nI : ∀ b o, sI.heap.get? b = some o → b ≠ a := fun b o e q => by
    subst q
    rw [gr _ _ e nfr] at g0
    cases g0
  obtain ⟨hp, gg, dr, tk, oz⟩ := t
  have J2 : Inv X pins σ H ⟨G, gg, dr, tk, oz⟩ := J.landed (s' := ⟨G, gg, dr, tk, oz⟩) gr (fun b o e => by
    have hb : b ≠ a := fun q => by rw [q, g0] at e; cases e
    exact (gk b hb).trans (st b o e)) (fun b o e nf => by
    obtain ⟨sl, q⟩ := up b o e nf
    exact ⟨sl, (gk b (nI b o e)).trans q⟩) os ag
  refine J2.laidN (t' := tk) (h' := hp) (fun b o e => ?_) ga na (exi_ok ea z dd)
  have hb : b ≠ a := fun q => by
    have e : G.get? b = some o := e
    rw [q, ga] at e; cases e
  exact (gk b hb).symm.trans e
theorem ps_keep {x n y : Str} {c : Value} {i j : Nat} {body : List Stmt} {np pa pb pc pd : Pos} {tb : WX → TS} (hs : X.stack = X.env :: X.outer) (hf : X.env.frame = some X.env.locals) (hN : X.N.Nodup) (hi : X.N[i]? = some n) (hj : X.N[j]? = some y) (hln : X.env.kindOf n = some .local) (hly : X.env.kindOf y = some .local) (hc : Names X x c) (hnd : (n == ("__debug__" : Str)) = false) (hnc : (n == ("__classdict__" : Str)) = false)
    (hsw : ∀ a pn, swapsWith (.Name n pb) (some (.Name y pa)) pc.line (X.suite a pn).env = pure false)
    (tk : Takes X (fun _ _ _ _ => False)) (hb : ∀ (W : WX) (pn : List (Addr × Obj)) (xe : Value → Shared → Prop), Takes (X.tr pn xe) W → PassesOwn (model X.prog X.w) X.A X.env xe → PSs (X.tr pn xe) body (tb W)) (hil : i < X.N.length) :
    PS X (.Try body [.ExceptHandler (some (.Name x np)) (some n) [.Assign [.Name y pa] (.Name n pb) pc] pd] [] [] pos) (fun De σ H => tb (wKeep X.K c i j X.N.length De) De σ H) := by
  refine ⟨fun pins s σ H De I h => wpAny_Try_except ?_⟩
  have ok := I.ok
  have hfr : X.A.frames = some (X.env :: X.outer) := ok.frames.trans (by rw [hs])
  refine wpAny_mono ((hb (wKeep X.K c i j X.N.length De) (X.pn ++ pins) (onCatch X [.ExceptHandler (some (.Name x np)) (some n) [.Assign [.Name y pa] (.Name n pb) pc] pd] (SP X pins De)) (fun u t xx => ?_) PassesOwn.looking).run [] s σ H De (I.toTry _) h) (fun f t q => ?_) fun _ _ z => z
  · obtain ⟨a, G0, sI, ps2, σ1, H1, cls, d, rfl, J1, gr, up, sky, na, os, ag, C, rfl, rfl, hm, hy⟩ := xx
    have J : Inv X pins σ1 H1 sI := J1.ofTry ok
    unfold onCatch
    refine Sky.land Zc.steady hfr hf (by rw [← hs]; exact sky) fun h3 fl up3 => ?_
    obtain ⟨oe3, vs3, e3, z3, d3⟩ := fl.there
    have nfr : ∀ {h : Heap} {o : Obj} {vs : Array Value}, h.FunFrames G0 (X.env :: X.outer) → h.get? a = some o → o.data = .fields vs → a ∉ frs X.stack := fun {h o vs} ff e dd hm => by
      rw [hs] at hm
      obtain ⟨_, o', e', hnf⟩ := ff.mem hm
      cases e.symm.trans e'
      exact hnf _ dd
    have n3 := nfr fl.2.2.1 e3 d3
    have K3 : Inv X pins σ1 (upd H1 a (ExI C a)) { t with heap := h3 } := Inv.keepErr J gr fl.1 fl.2.1 n3 (up.trans up3) os ag na e3 z3 d3
    have S3 := Inv.inSuite K3 a
    refine wpAny_handleBy_cons (codeAny_handlers_test ?_) (by intro q; cases q)
    have LT : PySem.W.Looks (model X.prog X.w) h3 (typeOf (.ref a)) (.ref C) := fun A Q E s k q => wpAny_typeOf_ref (k _ _ e3) (by rw [z3.1]; exact q)
    have LM := PySem.W.exm_one (M := model X.prog X.w) K3.kIn LT hm
    have test : ∀ {Q : Value → Shared → Prop} {E : Value → Shared → Prop}, Q c { t with heap := h3 } → wpAny (model X.prog X.w) (X.A.mark (some (.ref a))) (eval (.Name x np) X.env) Q E { t with heap := h3 } := fun {Q E} q => by
      obtain ⟨hg, hdbg, hm | ⟨hm, hv, hnn⟩⟩ := hc
      · exact ld_glob (X := X.suite a (X.pn ++ pins)) S3 hg hm q hdbg
      · exact ld_blt (X := X.suite a (X.pn ++ pins)) S3 hg hm hv q hnn hdbg
    refine test (LM.here (codeAny_handlers_suite_as (HandSPX.lands_againZ fl fun h4 fl4 up4 => ?_)))
    obtain ⟨oe4, vs4, e4, z4, d4⟩ := fl4.there
    have K4 : Inv X pins σ1 (upd H1 a (ExI C a)) { t with heap := h4 } := Inv.keepErr J gr fl4.1 fl4.2.1 n3 ((up.trans up3).trans up4) os ag na e4 z4 d4
    have S4 := Inv.inSuite K4 a
    refine store_ok (X := X.suite a (X.pn ++ pins)) (v := .ref a) S4 hN hi (.inl hln) rfl (fun s5 S5 => ?_) (.inr hln)
    have hset : PS (X.suite a (X.pn ++ pins)) (.Assign [.Name y pa] (.Name n pb) pc) (tAsg (tVar i) (gName j)) := ps_set hN hj (.inl hly) (pe_var hi (.inl hln) hnd hnc) (hsw a _) (.inr hly)
    refine wpAny_mono ((pss_one hset).run [] s5 _ (upd H1 a (ExI C a)) { nx := fun σ2 H2 => De.nx (σ2.set i none) H2, rt := De.rt, bk := fun σ2 H2 => De.bk (σ2.set i none) H2, ct := fun σ2 H2 => De.ct (σ2.set i none) H2 } S5 ⟨.ref a, List.getElem?_set_self (by rw [J.len]; exact hil), hy J.len a na⟩) (fun f s6 q6 => ?_) fun _ _ z => z.elim
    cases f with
    | next =>
      obtain ⟨σ6, H6, S6, q6⟩ := q6
      exact gone_ok (Inv.outSuite S6 ok) hN hi hln fun s7 J7 => ⟨_, _, J7, q6⟩
    | brk =>
      obtain ⟨σ6, H6, S6, q6⟩ := q6
      exact gone_ok (Inv.outSuite S6 ok) hN hi hln fun s7 J7 => ⟨_, _, J7, q6⟩
    | cont =>
      obtain ⟨σ6, H6, S6, q6⟩ := q6
      exact gone_ok (Inv.outSuite S6 ok) hN hi hln fun s7 J7 => ⟨_, _, J7, q6⟩
    | ret u =>
      obtain ⟨v6, σ6, H6, S6, r6, q6⟩ := q6
      exact gone_ok (Inv.outSuite S6 ok) hN hi hln fun s7 J7 => ⟨_, _, _, J7, r6, q6⟩
  · cases f with
    | next =>
      obtain ⟨σ1, H1, J1, q⟩ := q
      exact wpAny_execs_nil ⟨_, _, Inv.ofTry J1 ok, q⟩
    | brk =>
      obtain ⟨σ1, H1, J1, q⟩ := q
      exact ⟨_, _, Inv.ofTry J1 ok, q⟩
    | cont =>
      obtain ⟨σ1, H1, J1, q⟩ := q
      exact ⟨_, _, Inv.ofTry J1 ok, q⟩
    | ret u =>
      obtain ⟨v1, σ1, H1, J1, r, q⟩ := q
      exact ⟨_, _, _, Inv.ofTry J1 ok, r, q⟩
end
end Pd
namespace Pd
open PySem PySem.Spec PyProof.Rows L2
/-! ### x(lambda: body), x the def that hands a caught error back -/
def TTc (K : PySem.W.Frag) (CS : Addr) : (XK → Hp → VK → Prop) → Hp → VK → Prop := fun tl H Q =>
  tl (fun cls d H' => ∃ C : Addr, cls = .ref C ∧ d = none ∧ PySem.W.exmOne K cls (.ref CS) = some true ∧ ∀ a, H' a = none → Q (.ref a) (upd H' a (ExI C a))) H (fun _ H' => Q .non H')
end Pd

namespace Pd
open PySem PySem.Spec PyProof.Rows L2
section
variable {X : Cx} {K : PySem.W.Frag} {W : WX} {w : Wd} {B D0 Hd H : Hp} {σ : L2.St} {ρ : Rho} {ls : LS}
/-- own lists out of sight -/
def hideS : Sl → Sl
  | .own _ => .un
  | s => s
def hide (ρ : Rho) : Rho := ρ.map hideS
theorem hide_get {i : Nat} {s : Sl} (h : (hide ρ)[i]? = some s) (n : s ≠ .un) : ρ[i]? = some s := by
  unfold hide at h
  rw [List.getElem?_map] at h
  cases e : ρ[i]? with
  | none => rw [e] at h; cases h
  | some t =>
    rw [e] at h
    cases t with
    | own l => cases h; exact absurd rfl n
    | dat d => exact h
    | un => exact h
/-- the same heap as a new entry -/
theorem EOk.hide (E : EOk K w B D0 Hd H σ ρ ls) : EOk K w H Hd Hd H σ (hide ρ) ls := by
  have noOwn : ∀ (i : Nat) (l : List D), (Pd.hide ρ)[i]? ≠ some (.own l) := fun i l e => by
    have := hide_get e (by intro h; cases h)
    unfold Pd.hide at e
    rw [List.getElem?_map, this] at e
    cases e
  refine ⟨fun b o e _ _ => e, fun b e => .of e, E.sub, Sub.refl _, E.noz, E.nt, fun b o e => .inl e, E.st, by unfold Pd.hide; rw [List.length_map]; exact E.len, fun i d e => E.dat i d (hide_get e (by intro h; cases h)), fun i l e => absurd e (noOwn i l), fun i j p l l' ne e _ => absurd e (noOwn i l)⟩
/-- all but the tables may change -/
theorem EOk.extN {H1 : Hp} (E : EOk K w B D0 Hd H σ ρ ls) (x : LamX.ExtN H H1) (t : LamX.Tabs ls.tb H1) : EOk K w B D0 Hd H1 σ ρ ls := by
  have kz : ∀ {b o}, H b = some o → NT o → H1 b = some o := fun e n => x _ _ e n
  refine ⟨fun b o e z n => kz (E.base b o e z n) n, fun b e o e2 n => ?_, fun b o e => kz (E.sub b o e) (E.nt b o e), E.sub0, E.noz, E.nt, E.fr, ⟨E.st.hs, kz E.st.ha (fun _ h => nomatch h), kz E.st.hg (fun _ h => nomatch h), kz E.st.hc (fun _ h => nomatch h), E.st.hcg, t⟩, E.len, E.dat, fun i ds e => ?_, E.apart⟩
  · by_cases z : w.Z b
    · obtain ⟨u, hu⟩ := E.st.inH z
      have hn : NT u := by
        rcases z with rfl | rfl | rfl
        · rw [E.st.ha] at hu; cases hu; exact fun _ h => nomatch h
        · rw [E.st.hg] at hu; cases hu; exact fun _ h => nomatch h
        · rw [E.st.hc] at hu; cases hu; exact fun _ h => nomatch h
      rw [kz hu hn] at e; cases e
    · rw [kz (E.base b o e2 z n) n] at e; cases e
  · obtain ⟨p, xs, h1, h2, h3, h4, h5, h6⟩ := E.own i ds e
    exact ⟨p, xs, h1, kz h2 NT.lst, h3, h4, h5, h6⟩
/-- the lambda's body run by the one that hands a caught error back -/
def caughtM (T : List (Addr × Str)) (cs : List Addr) (f : M D) : M D := fun ρ ls => if ls.tb = T then match f (hide ρ) ls with
  | .ok _ _ ls' => .ok .non ρ ls'
  | .rs x ls' => if x.fld = none ∧ x.cls ∈ cs then .ok (.exn x.cls) ρ ls' else .no
  | .no => .no
  else .no
theorem read_caught {T : List (Addr × Str)} {cs : List Addr} {f : M D} {CS : Addr} {t : XK → TE} (hcs : ∀ C ∈ cs, PySem.W.exmOne K (.ref C) (.ref CS) = some true) (ht : ∀ E σ H Q, UV K (fun cls d _ H => E cls d H) f σ H Q → t E σ H Q) {Q : VK} (h : UV K W (caughtM T cs f) σ H Q) :
    LamX.tLam T (TTc K CS) t σ H Q := by
  obtain ⟨w, B, D0, Hd, ρ, ls, E, q⟩ := h
  unfold caughtM at q
  by_cases hT : ls.tb = T
  · rw [if_pos hT] at q
    refine ⟨hT ▸ E.st.tabs, fun H1 x t1 => ?_⟩
    have E1 := E.extN x (hT ▸ t1)
    refine ht _ _ _ _ ⟨w, H1, Hd, Hd, _, ls, E1.hide, ?_⟩
    cases e : f (hide ρ) ls with
    | no => rw [e] at q; exact q.elim
    | ok d ρ2 ls' =>
      rw [e] at q
      refine fun Hd' H' E2 s2 v rv => ?_
      have P : Post K w Hd H1 Hd' H' ls' := ⟨E2.base, E2.dom, s2, E2.sub, E2.fr, E2.noz, E2.nt, E2.st⟩
      exact q Hd' H' (P.eok E1) s2 .non .non
    | rs y ls' =>
      rw [e] at q
      have q : Go K W w B D0 σ Hd (if y.fld = none ∧ y.cls ∈ cs then .ok (.exn y.cls) ρ ls' else .no) fun Hd' H' _ _ d => ∀ v, Rp K Hd' v d → Q v H' := q
      by_cases hy : y.fld = none ∧ y.cls ∈ cs
      · rw [if_pos hy] at q
        intro H' cls dd xo
        refine ⟨y.cls, xo.cls, xo.non hy.1, by rw [xo.cls]; exact hcs _ hy.2, fun a ha => ?_⟩
        have P : Post K w Hd H1 Hd H' ls' := by
          refine ⟨xo.base, fun b e o e2 n => ?_, Sub.refl _, fun b o e => xo.base b o (E1.sub b o e) (fun z => by rw [E1.noz b z] at e; cases e) (E1.nt b o e), fun b o e => .inl e, E1.noz, E1.nt, xo.st⟩
          by_cases z : w.Z b
          · obtain ⟨u, hu⟩ := xo.st.inH z
            rw [hu] at e; cases e
          · rw [xo.base b o e2 z n] at e; cases e
        have E2 := (P.eok E1).newDat (o := ExI y.cls a) ha (fun _ h => nomatch h)
        exact q _ _ E2 (.upd ((P.eok E1).nd_new ha)) _ (.exn upd_same)
      · rw [if_neg hy] at q; exact q.elim
  · rw [if_neg hT] at q; exact q.elim
/-- a def whose code object is known -/
theorem fn_okC {P : Program} {wo : World} {mg : Str → Option Value} {base : Heap} {x : Str} {st : Stmt} {fa : Addr} {N ps : List Str} {k n : Nat} {F : FS} {p : PM} {c : Addr} {oc kV doc pm ct : Value} {od an : Option Addr} {osl : Array (Option Value)}
    (lk : K.lookup fa = some ⟨oc, od, .func (PySem.W.fnOf x x (defArgs st) (defBody st) (defScope st) .none kV doc pm an (.ref c) ct), osl⟩) (hcd : PySem.W.codeIn K (.ref c) x = true) (S : FnScope N ps (defScope st)) (hn : ps.length = n)
    (body : ∀ (A : Around) (outer : List Env) (s : Shared) (H : Hp) (E : XK), Room k (A.deeper (envOfC x (defScope st) s.heap.objs.size fa (.ref c))) → PSs (cxOf (L2.CX P wo) P wo K mg base N x (defScope st) fa (.ref c) A outer s H E) (defBody st) (US K (fun cls d _ H => E cls d H) p))
    (hd : Does N.length n p F) : FnOk P wo K mg base (L2.CX P wo) (k + 1) fa (PySem.W.fnOf x x (defArgs st) (defBody st) (defScope st) .none kV doc pm an (.ref c) ct) ps (spD K n F) := by
  refine fn_of lk hcd S (fun vs H Q E h => ?_) fun A outer s H vs Q E hr h => ⟨_, body A outer s H E hr, fn_does (ps := ps) hd h⟩
  obtain ⟨w, Hd, ds, ls, _, _, _, _, r, h2, _⟩ := h
  rw [r.length, h2, hn]

/-! ### isinstance of a kept error -/
def isiE (tb : List (Addr × Bool)) : D → Option D
  | .exn c => (tb.lookup c).map .bl
  | _ => none
def rIsT (K : PySem.W.Frag) (C' : Addr) : List V → Hp → VK → Prop := fun xs H Q => ∃ (a C : Addr) (b : Bool), xs = [.ref a, .ref C'] ∧ H a = some (ExI C a) ∧ ExcC K C ∧ PySem.W.kitOne K (.ref C) (.ref C') = some b ∧ Q (.bl b) H
theorem call_isT {C' : Addr} : CallR X (.builtin "isinstance") (rIsT X.K C') := by
  intro pins s σ H xs us Q I r h
  obtain ⟨a, C, b, rfl, ha, ec, e, q⟩ := h
  obtain ⟨⟨oe, vs, hget, hz, hv⟩, _, _⟩ := I.hok a _ ha
  cases r with
  | cons rx rr =>
    cases rr with
    | cons rt rr =>
      cases rr
      cases rx
      cases rt
      have J : PySem.W.InstAt s.heap a oe C none := by
        obtain ⟨oc, od, oda, osl⟩ := oe
        obtain ⟨h1, h2⟩ := hz
        dsimp only at h1 h2 hv
        subst h1 h2 hv
        exact ⟨hget, rfl, rfl, trivial⟩
      refine PySem.W.kia_one (PySem.W.handS_kitx_exc ec.hg ec.hk ec.hs ec.hd ec.ha ec.hn ec.ht ec.hm) I.kIn J e (fun z => nomatch z) fun tk => ?_
      exact ⟨.bl b, H, I.kept (t' := tk) fun _ _ z => z, rfl, q⟩
theorem lookup_mem {c : Addr} {b : Bool} : ∀ {tb : List (Addr × Bool)}, tb.lookup c = some b → (c, b) ∈ tb
  | [], h => nomatch h
  | (x, y) :: r, h => by
    rw [List.lookup_cons] at h
    by_cases e : c = x
    · subst e
      simp at h
      subst h
      exact List.mem_cons_self
    · have e2 : (c == x) = false := by simpa using e
      rw [e2] at h
      exact List.mem_cons_of_mem _ (lookup_mem h)
theorem one_isE {tb : List (Addr × Bool)} {C' : Addr} (h : ∀ p ∈ tb, ExcC K p.1 ∧ PySem.W.kitOne K (.ref p.1) (.ref C') = some p.2) : One K (fun v H Q => rIsT K C' [v, .ref C'] H Q) (isiE tb) := by
  refine ⟨?_⟩
  intro w B D0 Hd H σ ρ ls v x z E hx e Q q
  cases x with
  | exn c =>
    cases (show Rp K Hd v (.exn c) from hx) with
    | exn ha =>
      have e : (tb.lookup c).map D.bl = some z := e
      cases e1 : tb.lookup c with
      | none => rw [e1] at e; cases e
      | some b =>
        rw [e1] at e
        cases e
        have m : (c, b) ∈ tb := lookup_mem e1
        obtain ⟨h1, h2⟩ := h _ m
        exact ⟨_, c, b, rfl, E.sub _ _ ha, h1, h2, q _ Hd H E (Sub.refl _) (.bl b)⟩
  | _ => exact noneE e
theorem u_isE {a : Expr} {f : M Rf} {tb : List (Addr × Bool)} {C' : Addr} {x : Str} {p p2 pos : Pos} (h : ∀ p ∈ tb, ExcC X.K p.1 ∧ PySem.W.kitOne X.K (.ref p.1) (.ref C') = some p.2) (hm : X.mg "isinstance" = none) (ha : PE X a (U X.K W f)) (hx : X.mg x = some (.ref C')) (hgx : Gl X x := by rfl) (hdx : (x == ("__debug__" : Str)) = false := by decide) (hg : Gl X "isinstance" := by rfl)
    (he : starEach [a, .Name x p2] X.env = (false, eval a X.env) :: starEach [.Name x p2] X.env := by rfl) (he2 : starEach [.Name x p2] X.env = (false, eval (.Name x p2) X.env) :: starEach [] X.env := by rfl) (hpl : (backTo pos (starEach [.Name x p2] X.env)).any (·.1) = false := by rfl) :
    PE X (.Call (.Name "isinstance" p) [a, .Name x p2] [] pos) (UV X.K W (uno (isiE tb) f)) :=
  pe_imp (pe_callB call_isT hg hm (by decide +kernel) (pa_cons ha (pa_cons (pe_glob (v := .ref C') hgx hx rfl hdx) pa_nil he2) he) (by decide) (by decide) he hpl) fun σ H Q q => read_uno (one_isE h) q
end
end Pd

set_option Elab.async false
set_option linter.all false
set_option maxRecDepth 100000
set_option maxHeartbeats 4000000
/-! Pd11: calls with keywords, t.count, t.index. -/
namespace Pd
open PySem PySem.Spec PyProof.Rows L2

/-! ### f(e, .., k = v, ..) -/
def ordL {α : Type} (o : List Nat) (l : List α) : List α := o.filterMap fun i => l[i]?
structure KBo (K : PySem.W.Frag) (fd : FuncData) (ps : List Str) (np : Nat) (ks : List Str) (o : List Nat) : Prop where
  to : ∀ (s : Shared) (us ws : List Value), us.length = np → ws.length = ks.length → BindsTo s fd ⟨us, ks.zip ws⟩ (ps.zip (ordL o (us ++ ws)))
def HasK (P : Program) (w : World) (K : PySem.W.Frag) (mg : Str → Option Value) (base : Heap) (x : Str) (ps : List Str) (k n : Nat) (F : FS) (np : Nat) (ks : List Str) (o : List Nat) : Prop :=
  ∃ f fd, mg x = some (.ref f) ∧ PySem.W.keepIn K (.ref f) = true ∧ KBo K fd ps np ks o ∧ FnOk P w K mg base (L2.CX P w) k f fd ps (spD K n F)
theorem vals_append : ∀ {vs zs : List V} {us ws : List Value}, Vals vs us → Vals zs ws → Vals (vs ++ zs) (us ++ ws)
  | _, _, _, _, .nil, h => h
  | _, _, _, _, .cons a r, h => .cons a (vals_append r h)
theorem vals_get : ∀ {vs : List V} {us : List Value} (i : Nat), Vals vs us → (vs[i]? = none ∧ us[i]? = none) ∨ ∃ v u, vs[i]? = some v ∧ us[i]? = some u ∧ RelV v u
  | _, _, i, .nil => .inl ⟨by simp, by simp⟩
  | v :: _, u :: _, 0, .cons a r => .inr ⟨v, u, by simp, by simp, a⟩
  | _, _, i + 1, .cons a r => by simpa using vals_get i r
theorem vals_ord {vs : List V} {us : List Value} (r : Vals vs us) : ∀ o : List Nat, Vals (ordL o vs) (ordL o us)
  | [] => .nil
  | i :: o => by
    unfold ordL
    rcases vals_get i r with ⟨h1, h2⟩ | ⟨v, u, h1, h2, h3⟩
    · rw [List.filterMap_cons_none h1, List.filterMap_cons_none h2]
      exact vals_ord r o
    · rw [List.filterMap_cons_some h1, List.filterMap_cons_some h2]
      exact .cons h3 (vals_ord r o)
section
variable {X : Cx} {K : PySem.W.Frag} {W : WX} {w : Wd} {B D0 Hd H : Hp} {σ : L2.St} {ρ : Rho} {ls : LS} {ga gk : M (List D)} {e : Expr} {es : List Expr} {kws : List Keyword} {pos pp : Pos}
theorem rpl_ord {vs : List V} {ds : List D} (r : RpL K H vs ds) : ∀ o : List Nat, RpL K H (ordL o vs) (ordL o ds)
  | [] => .nil
  | i :: o => by
    unfold ordL
    cases h : ds[i]? with
    | none =>
      have h1 : vs[i]? = none := List.getElem?_eq_none (by rw [r.length]; exact List.getElem?_eq_none_iff.mp h)
      rw [List.filterMap_cons_none h1, List.filterMap_cons_none h]
      exact rpl_ord r o
    | some d =>
      obtain ⟨v, h1, h2⟩ := r.get h
      rw [List.filterMap_cons_some h1, List.filterMap_cons_some h]
      exact .cons h2 (rpl_ord r o)
def keyM (n : Nat) (F : FS) (np nk : Nat) (o : List Nat) (ga gk : M (List D)) : M D := bnd ga fun ds => bnd gk fun es ρ ls => if ds.length = np ∧ es.length = nk ∧ (ordL o (ds ++ es)).length = n then callF (F (ordL o (ds ++ es)) ls) ρ ls else .no
def tCallKS (sp : Sp) (np nk : Nat) (o : List Nat) (E : L2.St → XK) (t tk : TA) : TE := fun σ H Q => t σ H fun vs H1 => tk σ H1 fun zs H2 => vs.length = np ∧ zs.length = nk ∧ sp (ordL o (vs ++ zs)) H2 Q (E σ)
theorem run_key {k : Nat} {f : Addr} {fd : FuncData} {ps ks : List Str} {np : Nat} {o : List Nat} {sp : Sp} {E : L2.St → XK} {pins : List (Addr × Obj)} {s : Shared} {Q : VK} {us ws : List Value} {vs zs : List V} (F : FnOk X.prog X.w X.K X.mg X.base (L2.CX X.prog X.w) k f fd ps sp) (hr : Room k X.A) (hb : KBo X.K fd ps np ks o) (hx : PassesAt (L2.CX X.prog X.w) X σ (E σ))
    (I : Inv X pins σ H s) (r : Vals vs us) (rz : Vals zs ws) (l1 : vs.length = np) (l2 : zs.length = ks.length) (h : sp (ordL o (vs ++ zs)) H Q (E σ)) : wpAny (model X.prog X.w) X.A (call (.ref f) us (ks.zip ws)) (EP X pins σ Q) X.xe s := by
  refine wpAny_call (codeAny_mono (F.run X.A X.stack s H ⟨us, ks.zip ws⟩ (ordL o (us ++ ws)) (ordL o (vs ++ zs)) Q (E σ) hr I.env0 (hb.to s us ws (r.length.symm.trans l1) (rz.length.symm.trans l2)) (vals_ord (vals_append r rz) o) h) fun out s' hq => ?_)
  cases out with
  | error e => exact hx pins H s e s' I hq
  | ok fl =>
    cases fl with
    | ret u => exact I.after hq
    | next => exact hq.elim
    | brk => exact hq.elim
    | cont => exact hq.elim
theorem pe_keys {k : Nat} {f : Addr} {fd : FuncData} {ps ks : List Str} {np : Nat} {o : List Nat} {sp : Sp} {E : L2.St → XK} {x : Str} {t tk : TA} (F : FnOk X.prog X.w X.K X.mg X.base (L2.CX X.prog X.w) k f fd ps sp) (hr : Room k X.A) (hg : Gl X x) (hm : X.mg x = some (.ref f)) (hk : PySem.W.keepIn X.K (.ref f) = true) (hb : KBo X.K fd ps np ks o) (hx : ∀ σ, PassesAt (L2.CX X.prog X.w) X σ (E σ))
    (ha : PA X (e :: es) t) (hkw : PK X kws tk) (hall : (backToKw pos (keywordEach kws X.env)).all (·.1.isSome) = true) (hks : (backToKw pos (keywordEach kws X.env)).filterMap (·.1) = ks)
    (hdb : (x == ("__debug__" : Str)) = false) (he : starEach (e :: es) X.env = (false, eval e X.env) :: starEach es X.env) (hpl : ((backTo pos (starEach (e :: es) X.env)).any (·.1) || (backToKw pos (keywordEach kws X.env)).any (·.1.isNone)) = false) :
    PE X (.Call (.Name x pp) (e :: es) kws pos) (tCallKS sp np ks.length o E t tk) := ⟨fun pins s σ H Q I h => by
  refine wpAny_Call_Name_kw (ld_glob I hg hm ?_ hdb)
  refine PySem.W.callWith_KW (h₀ := X.base) I.ok.mod.kin hk hall (thn (ha.run pos pins s σ H _ I h) fun us s1 q => ?_) hpl he
  obtain ⟨vs, H1, I1, r, q⟩ := q
  refine thn (hkw.run pos pins s1 σ H1 _ I1 q) fun ws s2 q2 => ?_
  obtain ⟨zs, H2, I2, rz, l1, l2, q2⟩ := q2
  refine ⟨I2.kIn, ?_⟩
  rw [hks]
  exact run_key F hr hb (hx σ) I2 r rz l1 l2 q2⟩
theorem pe_keys0 {k : Nat} {f : Addr} {fd : FuncData} {ps ks : List Str} {o : List Nat} {sp : Sp} {E : L2.St → XK} {x : Str} {tk : TA} (F : FnOk X.prog X.w X.K X.mg X.base (L2.CX X.prog X.w) k f fd ps sp) (hr : Room k X.A) (hg : Gl X x) (hm : X.mg x = some (.ref f)) (hk : PySem.W.keepIn X.K (.ref f) = true) (hb : KBo X.K fd ps 0 ks o) (hx : ∀ σ, PassesAt (L2.CX X.prog X.w) X σ (E σ))
    (hkw : PK X kws tk) (hall : (backToKw pos (keywordEach kws X.env)).all (·.1.isSome) = true) (hks : (backToKw pos (keywordEach kws X.env)).filterMap (·.1) = ks) (hdb : (x == ("__debug__" : Str)) = false) (hpl : ((backTo pos (starEach [] X.env)).any (·.1) || (backToKw pos (keywordEach kws X.env)).any (·.1.isNone)) = false) :
    PE X (.Call (.Name x pp) [] kws pos) (tCallKS sp 0 ks.length o E tNil tk) := ⟨fun pins s σ H Q I h => by
  refine wpAny_Call_Name_kw (ld_glob I hg hm ?_ hdb)
  refine PySem.W.callWith_KW0 (h₀ := X.base) I.ok.mod.kin hk hall (thn (hkw.run pos pins s σ H _ I h) fun ws s2 q2 => ?_) hpl
  obtain ⟨zs, H2, I2, rz, l1, l2, q2⟩ := q2
  refine ⟨I2.kIn, ?_⟩
  rw [hks]
  exact run_key F hr hb (hx σ) I2 .nil rz l1 l2 q2⟩
theorem read_keys {n np nk : Nat} {o : List Nat} {F : FS} {t : TA} (ht : ∀ R, UA K W ga σ H R → t σ H R) {Q : VK} (h : UV K W (keyM n F np nk o ga gk) σ H Q) : tCallKS (spD K n F) np nk o (WE W) t (UA K W gk) σ H Q := by
  refine ht _ (Ru.imp h.xBnd fun w B D0 Hd1 H1 ρ1 ls1 ds E1 q1 vs r1 => ?_)
  refine Go.ru (P := fun _ _ _ Hd' H' _ _ es => ∀ zs, RpL K Hd' zs es → vs.length = np ∧ zs.length = nk ∧ spD K n F (ordL o (vs ++ zs)) H' Q (WE W σ)) E1 ?_
  refine Go.imp q1.xBnd fun Hd2 H2 ρ2 ls2 es E2 s2 q zs r2 => ?_
  have q : Go K W w B D0 σ Hd2 (if ds.length = np ∧ es.length = nk ∧ (ordL o (ds ++ es)).length = n then callF (F (ordL o (ds ++ es)) ls2) ρ2 ls2 else .no) fun Hd' H' _ _ d => ∀ v, Rp K Hd' v d → Q v H' := q
  by_cases hn : ds.length = np ∧ es.length = nk ∧ (ordL o (ds ++ es)).length = n
  · rw [if_pos hn] at q
    refine ⟨r1.length.trans hn.1, r2.length.trans hn.2.1, w, Hd2, _, ls2, E2.sub, E2.noz, E2.nt, E2.st, rpl_ord ((RpL.mono s2 r1).append r2) o, hn.2.2, ?_⟩
    unfold callF at q
    cases e : F (ordL o (ds ++ es)) ls2 with
    | ok d ls' =>
      rw [e] at q
      exact fun v Hd' H' P rv => q Hd' H' (P.eok E2) P.mono v rv
    | okN l ls' => rw [e] at q; exact q.elim
    | rs x ls' =>
      rw [e] at q
      exact fun H' cls dd xo => q H' cls dd ⟨fun b o eb z t => xo.base b o (E2.base b o eb z t) z t, xo.st, xo.cls, xo.non, xo.fld⟩
    | no => rw [e] at q; exact q
  · rw [if_neg hn] at q
    exact q.elim
def keyN (n : Nat) (F : FS) (np nk : Nat) (o : List Nat) (ga gk : M (List D)) : M (List D) := bnd ga fun ds => bnd gk fun es ρ ls => if ds.length = np ∧ es.length = nk ∧ (ordL o (ds ++ es)).length = n then callFN (F (ordL o (ds ++ es)) ls) ρ ls else .no
theorem read_keysN {n np nk : Nat} {o : List Nat} {F : FS} {t : TA} (ht : ∀ R, UA K W ga σ H R → t σ H R) {Q : VK} (h : UN K W (keyN n F np nk o ga gk) σ H Q) : tCallKS (spD K n F) np nk o (WE W) t (UA K W gk) σ H Q := by
  refine ht _ (Ru.imp h.xBnd fun w B D0 Hd1 H1 ρ1 ls1 ds E1 q1 vs r1 => ?_)
  refine Go.ru (P := fun _ _ _ Hd' H' _ _ es => ∀ zs, RpL K Hd' zs es → vs.length = np ∧ zs.length = nk ∧ spD K n F (ordL o (vs ++ zs)) H' Q (WE W σ)) E1 ?_
  refine Go.imp q1.xBnd fun Hd2 H2 ρ2 ls2 es E2 s2 q zs r2 => ?_
  have q : Go K W w B D0 σ Hd2 (if ds.length = np ∧ es.length = nk ∧ (ordL o (ds ++ es)).length = n then callFN (F (ordL o (ds ++ es)) ls2) ρ2 ls2 else .no) fun Hd' H' ρ' _ l => ∀ p xs, Fresh w B Hd' H' σ ρ' p xs → RpL K Hd' xs l → Q (.ref p) H' := q
  by_cases hn : ds.length = np ∧ es.length = nk ∧ (ordL o (ds ++ es)).length = n
  · rw [if_pos hn] at q
    refine ⟨r1.length.trans hn.1, r2.length.trans hn.2.1, w, Hd2, _, ls2, E2.sub, E2.noz, E2.nt, E2.st, rpl_ord ((RpL.mono s2 r1).append r2) o, hn.2.2, ?_⟩
    unfold callFN at q
    cases e : F (ordL o (ds ++ es)) ls2 with
    | ok d ls' => rw [e] at q; exact q.elim
    | okN l ls' =>
      rw [e] at q
      exact fun p xs Hd' H' P N r' => q Hd' H' (P.eok E2) P.mono p xs (Post.fresh (ls' := ls') E2 N) r'
    | rs x ls' =>
      rw [e] at q
      exact fun H' cls dd xo => q H' cls dd ⟨fun b o eb z t => xo.base b o (E2.base b o eb z t) z t, xo.st, xo.cls, xo.non, xo.fld⟩
    | no => rw [e] at q; exact q
  · rw [if_neg hn] at q
    exact q.elim
theorem u_callK {k k2 np nk : Nat} {ps ks : List Str} {o : List Nat} {x : Str} {n : Nat} {F : FS} (G : HasK X.prog X.w X.K X.mg X.base x ps k n F np ks o) (hr : Room k2 X.A) (tk : Takes X W) (ha : PA X (e :: es) (UA X.K W ga)) (hkw : PK X kws (UA X.K W gk)) (hk : k ≤ k2 := by decide) (hg : Gl X x := by rfl) (hall : (backToKw pos (keywordEach kws X.env)).all (·.1.isSome) = true := by rfl) (hks : (backToKw pos (keywordEach kws X.env)).filterMap (·.1) = ks := by rfl)
    (hdb : (x == ("__debug__" : Str)) = false := by decide) (he : starEach (e :: es) X.env = (false, eval e X.env) :: starEach es X.env := by rfl) (hpl : ((backTo pos (starEach (e :: es) X.env)).any (·.1) || (backToKw pos (keywordEach kws X.env)).any (·.1.isNone)) = false := by rfl) (hnk : ks.length = nk := by rfl) :
    PE X (.Call (.Name x pp) (e :: es) kws pos) (UV X.K W (keyM n F np nk o ga gk)) := by
  subst hnk
  obtain ⟨f, fd, h1, h2, h3, h4⟩ := G
  exact pe_imp (pe_keys h4 (hr.mono hk) hg h1 h2 h3 (fun σ => passAt tk σ) ha hkw hall hks hdb he hpl) fun σ H Q h => read_keys (fun _ q => q) h
theorem u_callK0 {k k2 nk : Nat} {ps ks : List Str} {o : List Nat} {x : Str} {n : Nat} {F : FS} (G : HasK X.prog X.w X.K X.mg X.base x ps k n F 0 ks o) (hr : Room k2 X.A) (tk : Takes X W) (hkw : PK X kws (UA X.K W gk)) (hk : k ≤ k2 := by decide) (hg : Gl X x := by rfl) (hall : (backToKw pos (keywordEach kws X.env)).all (·.1.isSome) = true := by rfl) (hks : (backToKw pos (keywordEach kws X.env)).filterMap (·.1) = ks := by rfl)
    (hdb : (x == ("__debug__" : Str)) = false := by decide) (hpl : ((backTo pos (starEach [] X.env)).any (·.1) || (backToKw pos (keywordEach kws X.env)).any (·.1.isNone)) = false := by rfl) (hnk : ks.length = nk := by rfl) :
    PE X (.Call (.Name x pp) [] kws pos) (UV X.K W (keyM n F 0 nk o (ret []) gk)) := by
  subst hnk
  obtain ⟨f, fd, h1, h2, h3, h4⟩ := G
  exact pe_imp (pe_keys0 h4 (hr.mono hk) hg h1 h2 h3 (fun σ => passAt tk σ) hkw hall hks hdb hpl) fun σ H Q h => read_keys (t := tNil) (fun R q => by
    obtain ⟨w, B, D0, Hd, ρ, ls, E, q⟩ := q
    exact q Hd H E (Sub.refl _) [] .nil) h
theorem u_callKN {k k2 np nk : Nat} {ps ks : List Str} {o : List Nat} {x : Str} {n : Nat} {F : FS} (G : HasK X.prog X.w X.K X.mg X.base x ps k n F np ks o) (hr : Room k2 X.A) (tk : Takes X W) (ha : PA X (e :: es) (UA X.K W ga)) (hkw : PK X kws (UA X.K W gk)) (hk : k ≤ k2 := by decide) (hg : Gl X x := by rfl) (hall : (backToKw pos (keywordEach kws X.env)).all (·.1.isSome) = true := by rfl) (hks : (backToKw pos (keywordEach kws X.env)).filterMap (·.1) = ks := by rfl)
    (hdb : (x == ("__debug__" : Str)) = false := by decide) (he : starEach (e :: es) X.env = (false, eval e X.env) :: starEach es X.env := by rfl) (hpl : ((backTo pos (starEach (e :: es) X.env)).any (·.1) || (backToKw pos (keywordEach kws X.env)).any (·.1.isNone)) = false := by rfl) (hnk : ks.length = nk := by rfl) :
    PE X (.Call (.Name x pp) (e :: es) kws pos) (UN X.K W (keyN n F np nk o ga gk)) := by
  subst hnk
  obtain ⟨f, fd, h1, h2, h3, h4⟩ := G
  exact pe_imp (pe_keys h4 (hr.mono hk) hg h1 h2 h3 (fun σ => passAt tk σ) ha hkw hall hks hdb he hpl) fun σ H Q h => read_keysN (fun _ q => q) h
theorem u_callKN0 {k k2 nk : Nat} {ps ks : List Str} {o : List Nat} {x : Str} {n : Nat} {F : FS} (G : HasK X.prog X.w X.K X.mg X.base x ps k n F 0 ks o) (hr : Room k2 X.A) (tk : Takes X W) (hkw : PK X kws (UA X.K W gk)) (hk : k ≤ k2 := by decide) (hg : Gl X x := by rfl) (hall : (backToKw pos (keywordEach kws X.env)).all (·.1.isSome) = true := by rfl) (hks : (backToKw pos (keywordEach kws X.env)).filterMap (·.1) = ks := by rfl)
    (hdb : (x == ("__debug__" : Str)) = false := by decide) (hpl : ((backTo pos (starEach [] X.env)).any (·.1) || (backToKw pos (keywordEach kws X.env)).any (·.1.isNone)) = false := by rfl) (hnk : ks.length = nk := by rfl) :
    PE X (.Call (.Name x pp) [] kws pos) (UN X.K W (keyN n F 0 nk o (ret []) gk)) := by
  subst hnk
  obtain ⟨f, fd, h1, h2, h3, h4⟩ := G
  exact pe_imp (pe_keys0 h4 (hr.mono hk) hg h1 h2 h3 (fun σ => passAt tk σ) hkw hall hks hdb hpl) fun σ H Q h => read_keysN (t := tNil) (fun R q => by
    obtain ⟨w, B, D0, Hd, ρ, ls, E, q⟩ := q
    exact q Hd H E (Sub.refl _) [] .nil) h

/-! ### t.count(k), t.index(k), t of ints -/
def intsOf : List D → Option (List Int)
  | [] => some []
  | .int i :: r => (intsOf r).map (i :: ·)
  | _ => none
theorem intsOf_zs : ∀ l : List Int, intsOf (zs l) = some l
  | [] => rfl
  | i :: l => by
    show (intsOf (zs l)).map (i :: ·) = _
    rw [intsOf_zs l]; rfl
theorem intsOf_eq : ∀ {ds : List D} {l : List Int}, intsOf ds = some l → ds = zs l
  | [], _, h => by cases h; rfl
  | .int i :: r, l, h => by
    have h : (intsOf r).map (i :: ·) = some l := h
    cases e : intsOf r with
    | none => rw [e] at h; cases h
    | some m => rw [e] at h; cases h; rw [intsOf_eq e]; rfl
  | .non :: _, _, h | .bl _ :: _, _, h | .str _ :: _, _, h | .tup _ :: _, _, h | .lst _ :: _, _, h | .lsk _ :: _, _, h | .ref _ :: _, _, h | .exn _ :: _, _, h => nomatch h
def rCntT (K : PySem.W.Frag) : V → List V → Hp → VK → Prop := fun x xs H Q => ∃ (p : Addr) (ns : List Int) (k : Int), x = .ref p ∧ xs = [.int k] ∧ SqT K H p (ns.map V.int) ∧ Q (.int (ns.count k : Nat)) H
theorem mt_tcount : MtR X "tuple.count" (rCntT X.K) := by
  intro pins s σ H x xs v us Q I rx rxs h
  obtain ⟨p, ns, k, rfl, rfl, hs, q⟩ := h
  cases rx
  obtain ⟨u, rfl, ru⟩ := rxs.one
  obtain ⟨t, rfl⟩ := ru
  obtain ⟨its, rv, pl, hz⟩ := I.tuple hs
  obtain ⟨⟨cls, dd, dt, sl⟩, ho, hc, n, hd⟩ := pl
  simp only at hc hd
  subst hc
  subst hd
  have hi := ints_of_vals rv
  refine call_meets PySem.F.slot_tuple_count ⟨_, ho, rfl⟩ PySem.F.entry_tuple_count (PySem.F.args_tuple_count_2 _ _) (SeqAt.tuple_countAt p its.toArray n dd sl (.int k t) (eqk k)) ⟨ho, fun y hy => (eqk_gives hi y (by simpa using hy)).at _ _, ⟨.int (ns.count k : Nat), H, I.tok _, ⟨s.toks, ?_⟩, q⟩⟩
  have ec : its.toArray.toList.countP (eqk k) = ns.count k := eqk_count hi
  show Value.int ((its.toArray.toList.countP (eqk k) : Nat) : Int) s.toks = _
  rw [ec]
def rIdxT (K : PySem.W.Frag) : V → List V → Hp → VK → Prop := fun x xs H Q => ∃ (p : Addr) (ns : List Int) (k : Int) (j : Nat), x = .ref p ∧ xs = [.int k] ∧ SqT K H p (ns.map V.int) ∧ ns[j]? = some k ∧ (∀ m : Nat, m < j → ns[m]? ≠ some k) ∧ Q (.int (j : Nat)) H
theorem mt_tindex : MtR X "tuple.index" (rIdxT X.K) := by
  intro pins s σ H x xs v us Q I rx rxs h
  obtain ⟨p, ns, k, j, rfl, rfl, hs, hj, hno, q⟩ := h
  cases rx
  obtain ⟨u, rfl, ru⟩ := rxs.one
  obtain ⟨t, rfl⟩ := ru
  obtain ⟨its, rv, pl, hz⟩ := I.tuple hs
  obtain ⟨⟨cls, dd, dt, sl⟩, ho, hc, n, hd⟩ := pl
  simp only at hc hd
  subst hc
  subst hd
  have hi := ints_of_vals rv
  have hl : its.toArray.size = ns.length := by rw [List.size_toArray, ← rv.length, List.length_map]
  have at' : ∀ (m : Nat) (hm : m < its.toArray.size), ∃ tm, ∃ hn : m < ns.length, its.toArray[m] = .int ns[m] tm := fun m hm => by
    have hmn : m < ns.length := by omega
    obtain ⟨tm, hmt⟩ := hi.get m _ (List.getElem?_eq_getElem hmn)
    obtain ⟨h1, h2⟩ := List.getElem?_eq_some_iff.mp hmt
    exact ⟨tm, hmn, by simpa using h2⟩
  have hjn : j < ns.length := (List.getElem?_eq_some_iff.mp hj).1
  refine call_meets PySem.F.slot_tuple_index ⟨_, ho, rfl⟩ PySem.F.entry_tuple_index (PySem.F.args_tuple_index_2 _ _) (TI.tuple_indexAt p its.toArray n dd sl (.int k t) (eqk k) j (by omega) ?_ ?_)
    ⟨ho, fun y hy => (eqk_gives hi y (by simpa using hy)).at _ _, ⟨.int (j : Nat), H, I.tok _, ⟨_, rfl⟩, q⟩⟩
  · obtain ⟨tm, hn, e⟩ := at' j (by omega)
    rw [e]
    show (ns[j] == k) = true
    rw [List.getElem?_eq_getElem hn] at hj
    cases hj
    exact beq_self_eq_true _
  · intro m hm hmj
    obtain ⟨tm, hn, e⟩ := at' m hm
    rw [e]
    refine beq_eq_false_iff_ne.mpr fun e2 => hno m hmj ?_
    rw [List.getElem?_eq_getElem hn, e2]
def cntD : D → D → Option D
  | .tup l, .int k => (intsOf l).map fun ns => .int (ns.count k : Nat)
  | _, _ => none
def idxD : D → D → Option D
  | .tup l, .int k => (intsOf l).bind fun ns => (ns.findIdx? (· == k)).map fun j => .int (j : Nat)
  | _, _ => none
/-- a method of a value that changes nothing -/
structure MtD (K : PySem.W.Frag) (r : V → List V → Hp → VK → Prop) (op : D → D → Option D) : Prop where
  run : ∀ {Hd H : Hp} {v u : V} {x y z : D}, Sub Hd H → Rp K Hd v x → Rp K Hd u y → op x y = some z → ∀ Q : VK, (∀ t, Rp K Hd t z → Q t H) → r v [u] H Q
theorem md_count : MtD K (rCntT K) cntD := ⟨fun {Hd H v u x y z} s rx ry e Q q => by
  cases x <;> cases y <;> try (exact noneE e)
  cases rx with
  | tup h r =>
    cases ry
    rename_i l k a xs
    have e : ((intsOf l).map fun ns => D.int (ns.count k : Nat)) = some z := e
    cases e1 : intsOf l with
    | none => rw [e1] at e; cases e
    | some ns =>
      rw [e1] at e
      cases e
      cases intsOf_eq e1
      have ex := RpL.ofInts ns r
      subst ex
      exact ⟨_, ns, k, rfl, rfl, (s.tk h).sq, q _ (.int _)⟩⟩
theorem md_index : MtD K (rIdxT K) idxD := ⟨fun {Hd H v u x y z} s rx ry e Q q => by
  cases x <;> cases y <;> try (exact noneE e)
  cases rx with
  | tup h r =>
    cases ry
    rename_i l k a xs
    have e : ((intsOf l).bind fun ns => (ns.findIdx? (· == k)).map fun j => D.int (j : Nat)) = some z := e
    cases e1 : intsOf l with
    | none => rw [e1] at e; cases e
    | some ns =>
      rw [e1] at e
      have e : ((ns.findIdx? (· == k)).map fun j => D.int (j : Nat)) = some z := e
      cases e2 : ns.findIdx? (· == k) with
      | none => rw [e2] at e; cases e
      | some j =>
        rw [e2] at e
        cases e
        cases intsOf_eq e1
        have ex := RpL.ofInts ns r
        subst ex
        obtain ⟨hj, h1, h2⟩ := List.findIdx?_eq_some_iff_getElem.mp e2
        refine ⟨_, ns, k, j, rfl, rfl, (s.tk h).sq, ?_, fun m hm => ?_, q _ (.int _)⟩
        · rw [List.getElem?_eq_getElem hj]
          exact congrArg some (eq_of_beq h1)
        · rw [List.getElem?_eq_getElem (by omega)]
          intro e3
          have := h2 m hm
          simp [Option.some.inj e3] at this⟩
def isTup : D → Bool
  | .tup _ => true
  | _ => false
def mthM (op : D → D → Option D) (f g : M D) : M D := bnd f fun x => if isTup x = true then bnd g fun y => opt (op x y) else fun _ _ => .no
theorem read_mth {r : V → List V → Hp → VK → Prop} {op : D → D → Option D} (h : MtD K r op) {f g : M D} {Q : VK} (q : UV K W (mthM op f g) σ H Q) : tMt r (UV K W f) (tCons (UV K W g) tNil) σ H Q := by
  refine Ru.imp q.xBnd fun w B D0 Hd1 H1 ρ1 ls1 x E1 q1 v hv => ?_
  by_cases hx : isTup x = true
  · rw [if_pos hx] at q1
    refine ⟨?_, ?_⟩
    · cases x with
      | tup l =>
        cases hv with
        | tup ha _ => exact ⟨_, _, rfl, E1.sub.tk ha⟩
      | _ => cases hx
    · refine Go.ru (P := fun _ _ _ Hd' H' _ _ y => ∀ u, Rp K Hd' u y → r v [u] H' Q) E1 ?_
      refine Go.imp q1.xBnd fun Hd2 H2 ρ2 ls2 y E2 s2 q2 u hu => ?_
      obtain ⟨z, hz, q3⟩ := q2.xOpt1
      exact h.run E2.sub (hv.mono s2) hu hz Q fun t rt => q3 Hd2 H2 E2 (Sub.refl _) t rt
  · rw [if_neg hx] at q1; exact q1.elim
variable {o : Expr} {apos cpos : Pos} {f g : M D}
theorem u_count (ho : PE X o (UV X.K W f)) (he : PE X e (UV X.K W g)) (hbase : attributeBase o "count" X.env (eval o X.env) = eval o X.env := by rfl)
    (hfew : ((backTo cpos (starEach [e] X.env)).all (fun x => !x.1) && (backToKw cpos (keywordEach [] X.env)).all (fun x => x.1.isSome) && decide ([e].length + ([] : List Keyword).length + (if ([] : List Keyword).isEmpty then 0 else 1) < 30)) = true := by rfl)
    (hline : (apos.endLine == cpos.line) = true := by rfl) (hs : starEach [e] X.env = (false, eval e X.env) :: starEach [] X.env := by rfl) (hplain : (backTo cpos (starEach [] X.env)).any (·.1) = false := by rfl) :
    PE X (.Call (.Attribute o "count" apos) [e] [] cpos) (UV X.K W (mthM cntD f g)) := pe_imp (pe_mt PySem.F.slot_tuple_count PySem.F.type_tuple_count mt_tcount ho (pa_cons he pa_nil hs) hbase hfew hline hs hplain) fun _ _ _ q => read_mth md_count q
theorem u_index (ho : PE X o (UV X.K W f)) (he : PE X e (UV X.K W g)) (hbase : attributeBase o "index" X.env (eval o X.env) = eval o X.env := by rfl)
    (hfew : ((backTo cpos (starEach [e] X.env)).all (fun x => !x.1) && (backToKw cpos (keywordEach [] X.env)).all (fun x => x.1.isSome) && decide ([e].length + ([] : List Keyword).length + (if ([] : List Keyword).isEmpty then 0 else 1) < 30)) = true := by rfl)
    (hline : (apos.endLine == cpos.line) = true := by rfl) (hs : starEach [e] X.env = (false, eval e X.env) :: starEach [] X.env := by rfl) (hplain : (backTo cpos (starEach [] X.env)).any (·.1) = false := by rfl) :
    PE X (.Call (.Attribute o "index" apos) [e] [] cpos) (UV X.K W (mthM idxD f g)) := pe_imp (pe_mt PySem.F.slot_tuple_index PySem.F.type_tuple_index mt_tindex ho (pa_cons he pa_nil hs) hbase hfew hline hs hplain) fun _ _ _ q => read_mth md_index q
end
end Pd

set_option Elab.async false
set_option linter.all false
set_option maxRecDepth 100000
set_option maxHeartbeats 4000000
/-! Pd12: a constant of the module, three names at once; what a program ends with. -/
namespace Pd
open PySem PySem.Spec PyProof.Rows L2
section
variable {X : Cx} {K : PySem.W.Frag} {W : WX} {w : Wd} {B D0 Hd H : Hp} {σ : L2.St} {ρ : Rho} {ls : LS} {pos pos2 p p2 : Pos}
theorem u_gint {x : Str} {i : Int} (h : ∃ t, X.mg x = some (.int i t)) (hg : Gl X x := by rfl) (hdb : (x == ("__debug__" : Str)) = false := by decide) : PE X (.Name x pos) (UV K W (ret (.int i))) := by
  obtain ⟨t, h⟩ := h
  exact u_con (pe_glob (v := .int i) hg h ⟨t, rfl⟩ hdb) fun _ => .int i
theorem pe_ty {x : Str} {n : String} (hm : X.mg x = none) (hb : bootBuiltins x = some (.type n) := by decide +kernel) (hg : Gl X x := by rfl) (hn : x ≠ "__name__" := by decide) (hdb : (x == ("__debug__" : Str)) = false := by decide) : PE X (.Name x pos) (tC (.ty n)) :=
  ⟨fun pins s σ H Q I h => ld_blt I hg hm hb ⟨.ty n, H, I, rfl, h⟩ hn hdb⟩
/-- a if c else b, as a test -/
theorem ut_if {c a b : Expr} {tc ta tb : M Bool} (hc : PT X c (UT K W tc)) (ha : PT X a (UT K W ta)) (hb : PT X b (UT K W tb)) : PT X (.IfExp c a b pos) (UT K W (ifM tc ta tb)) := ⟨fun pins s σ H Q I h => by
  have h1 : UT K W tc σ H fun z Hz => (z = true → UT K W ta σ Hz Q) ∧ (z = false → UT K W tb σ Hz Q) := Ru.imp h.xBnd fun w B D0 Hd1 H1 ρ1 ls1 k E1 q1 => by
    have q1 : Go K W w B D0 σ Hd1 ((if k = true then ta else tb) ρ1 ls1) fun _ H' _ _ b => Q b H' := q1
    cases k with
    | true => exact ⟨fun _ => ⟨w, B, D0, Hd1, ρ1, ls1, E1, q1⟩, fun z => nomatch z⟩
    | false => exact ⟨fun z => (nomatch z), fun _ => ⟨w, B, D0, Hd1, ρ1, ls1, E1, q1⟩⟩
  refine PyProof.Rows.isTrue_IfExp (thn (hc.run pins s σ H _ I h1) fun k s1 hh => ?_)
  · obtain ⟨H1, I1, q1, q2⟩ := hh
    cases k with
    | true => exact ha.run pins s1 σ H1 Q I1 (q1 rfl)
    | false => exact hb.run pins s1 σ H1 Q I1 (q2 rfl)⟩
/-- a, b, .. = a list -/
def tgLst (u : List Pd.D → Rho → Option Rho) : Pd.D → Rho → Option Rho
  | .lst ds, ρ => u ds ρ
  | _, _ => none
theorem tgl_len {u : List Pd.D → Rho → Option Rho} {n : Nat} (hn : ∀ ds ρ ρ', u ds ρ = some ρ' → ds.length = n) {gs : TGs} {is : List Nat} (h : TgsOk K gs u is) : TgOk K (gLst K n gs) (tgLst u) is := ⟨fun {w B D0 Hd H σ ρ ρ' ls v d} E r e Q q => by
  cases d with
  | lst ds =>
    cases r with
    | lst ha rl =>
      have e : u ds ρ = some ρ' := e
      exact ⟨_, _, rfl, SqL.of (E.sub _ _ ha), by rw [rl.length]; exact hn _ _ _ e, h.run E rl e Q q⟩
  | _ => exact noneE e⟩
def par3 (i j k : Nat) (ga : M (List Pd.D)) : PM := lift ga fun ds => match ds with
  | [x, y, z] => seqP (sto i x) (seqP (sto j y) (sto k z))
  | _ => never
theorem us_par3 {x y z : Str} {a b c : Expr} {ga : M (List Pd.D)} {px py pz pt : Pos} {kt k2 pt2} (i j k : Nat) (hc : X.calm = true) (hN : X.N.Nodup) (ha : PA X [a, b, c] (UA K W ga)) (hi : X.N[i]? = some x := by rfl) (hj : X.N[j]? = some y := by rfl) (hk : X.N[k]? = some z := by rfl) (hij : i ≠ j := by decide) (hik : i ≠ k := by decide) (hjk : j ≠ k := by decide)
    (hx : X.env.scope.names.lookup x = some .local := by rfl) (hy : X.env.scope.names.lookup y = some .local := by rfl) (hz : X.env.scope.names.lookup z = some .local := by rfl)
    (hw : swappedStores [.Tuple [.Name x px, .Name y py, .Name z pz] kt pt] (.Tuple [a, b, c] k2 pt2) X.env = pure (some [x, y, z]) := by rfl)
    (hs : swapsWithSole [.Tuple [.Name x px, .Name y py, .Name z pz] kt pt] (.Tuple [a, b, c] k2 pt2) pos.line X.env = pure false := by rfl) :
    PS X (.Assign [.Tuple [.Name x px, .Name y py, .Name z pz] kt pt] (.Tuple [a, b, c] k2 pt2) pos) (US K W (par3 i j k ga)) := ps_imp (ps_par3 hc hN hi hj hk hij hik hjk hx hy hz ha hw hs) fun D σ H h =>
  Ru.imp (US.lift h) fun w B D0 Hd' H' ρ' ls' ds E q vs r => by
    match ds, vs, r, q with
    | [d1, d2, d3], [v1, v2, v3], .cons r1 (.cons r2 (.cons r3 .nil)), q =>
      refine ⟨_, _, _, rfl, ?_⟩
      have q : GoS K W w B D0 Hd' D (seqP (sto i d1) (seqP (sto j d2) (sto k d3)) ρ' ls') := q
      unfold seqP sto at q
      by_cases h1 : i < ρ'.length
      · rw [if_pos h1] at q
        dsimp only at q
        have E1 := E.store h1 r1
        by_cases h2 : j < (ρ'.set i (.dat d1)).length
        · rw [if_pos h2] at q
          dsimp only at q
          have E2 := E1.store h2 r2
          by_cases h3 : k < ((ρ'.set i (.dat d1)).set j (.dat d2)).length
          · rw [if_pos h3] at q
            exact q _ Hd' H' (E2.store h3 r3) (Sub.refl _)
          · rw [if_neg h3] at q; exact q.elim
        · rw [if_neg h2] at q; exact q.elim
      · rw [if_neg h1] at q; exact q.elim
    | [], _, _, q => exact q.elim
    | [_], _, _, q => exact q.elim
    | [_, _], _, _, q => exact q.elim
    | _ :: _ :: _ :: _ :: _, _, _, q => exact q.elim
end
end Pd

set_option Elab.async false
set_option linter.all false
set_option maxRecDepth 100000
set_option maxHeartbeats 4000000
/-! Pd13: sorted, clear, ranges as lists and tuples, the empty dict. -/
namespace Pd
open PySem PySem.Spec PyProof.Rows L2
/-! ### ints in order -/
def insI (a : Int) : List Int → List Int
  | [] => [a]
  | b :: l => if a ≤ b then a :: b :: l else b :: insI a l
def srtI : List Int → List Int
  | [] => []
  | a :: l => insI a (srtI l)
theorem insI_perm (a : Int) : ∀ l, (insI a l).Perm (a :: l)
  | [] => .refl _
  | b :: l => by
    unfold insI
    split
    · exact .refl _
    · exact ((insI_perm a l).cons b).trans (.swap a b l)
theorem srtI_perm : ∀ l, (srtI l).Perm l
  | [] => .refl _
  | a :: l => (insI_perm a _).trans ((srtI_perm l).cons a)
theorem insI_pw (a : Int) : ∀ l, l.Pairwise (· ≤ ·) → (insI a l).Pairwise (· ≤ ·)
  | [], _ => by simp [insI]
  | b :: l, h => by
    unfold insI
    rw [List.pairwise_cons] at h
    split
    · rename_i hab
      refine List.pairwise_cons.mpr ⟨fun c hc => ?_, List.pairwise_cons.mpr h⟩
      rcases List.mem_cons.mp hc with rfl | hc
      · exact hab
      · have := h.1 c hc; omega
    · rename_i hab
      refine List.pairwise_cons.mpr ⟨fun c hc => ?_, insI_pw a l h.2⟩
      rcases List.mem_cons.mp ((insI_perm a l).mem_iff.mp hc) with rfl | hc
      · omega
      · exact h.1 c hc
theorem srtI_pw : ∀ l, (srtI l).Pairwise (· ≤ ·)
  | [] => .nil
  | a :: l => insI_pw a _ (srtI_pw l)
theorem srt_one : ∀ {l m : List Int}, l.Perm m → l.Pairwise (· ≤ ·) → m.Pairwise (· ≤ ·) → l = m
  | [], m, p, _, _ => (List.nil_perm.mp p).symm
  | a :: l, [], p, _, _ => (List.perm_nil.mp p)
  | a :: l, b :: m, p, h1, h2 => by
    rw [List.pairwise_cons] at h1 h2
    have e : a = b := by
      have x : a ∈ b :: m := p.mem_iff.mp List.mem_cons_self
      have y : b ∈ a :: l := p.mem_iff.mpr List.mem_cons_self
      rcases List.mem_cons.mp x with x | x
      · exact x
      · rcases List.mem_cons.mp y with y | y
        · exact y.symm
        · have := h1.1 b y; have := h2.1 a x; omega
    subst e
    rw [srt_one (List.Perm.cons_inv p) h1.2 h2.2]
/-! ### sorted(t), t a tuple of ints -/
section
variable {prog : Program} {w : World} {A : Around} {E : Value → Shared → Prop} {s : Shared}
theorem collect_tp {l : Addr} {vs : List Value} {Q : List Value → Shared → Prop} (hl : IsTup s.heap l vs.toArray) (hz : vs.length ≤ sizeLine)
    (q : Q vs { s with heap := (s.heap.push (seqObj "list" #[] 0)).update s.heap.objs.size (Obj.mapSeq (· ++ vs.toArray)) }) : wpAny (model prog w) A (collect (.ref l)) Q E s := by
  obtain ⟨ob, h1, h2, m, h3⟩ := hl
  unfold collect
  refine wpAny_bind (wpAny_runValue (codeAny_builtin entry_proto_collect' ?_))
  refine wpAny_bind (m := newList []) (wpAny_newList (wpAny_pure ⟨Code.quiet_builtin _ (by decide +kernel), codeAny_builtin entry_list_iadd' ?_⟩))
  show wpAny _ _ (Builtin.List.listExtendWith (.ref s.heap.objs.size) (.ref l) (.ref s.heap.objs.size)) _ _ { s with heap := s.heap.push (seqObj "list" #[] 0) }
  unfold Builtin.List.listExtendWith
  have h1' : (s.heap.push (seqObj "list" #[] 0)).get? l = some ob := Heap.get?_push_of_some _ h1
  have hn : (s.heap.push (seqObj "list" #[] 0)).get? s.heap.objs.size = some (seqObj "list" #[] 0) := Heap.get?_push_size _ rfl
  refine wpAny_bind (wpAny_typeOf (T := "tuple") ⟨ob, h1', h2⟩ ?_)
  rw [if_pos (by rw [show (Value.type "tuple" == Value.type "tuple") = true from rfl]; simp)]
  refine wpAny_bind (listItems_at h1' h3 ?_)
  refine wpAny_bind (listItems_at (xs := #[]) (n := 0) hn rfl ?_)
  rw [if_neg (by simp)]
  refine wpAny_bind (listUpdate_at (xs := #[]) (n := 0) hn rfl ?_ (Nat.zero_le _) (by show (#[] ++ vs.toArray).size ≤ sizeLine + 1; simp; omega))
  refine wpAny_pure ?_
  refine wpAny_bind (m := load s.heap.objs.size) (wpAny_load (get?_update_seq hn _) ?_)
  show wpAny (model prog w) A (pure ((#[] : Array Value) ++ vs.toArray).toList) Q E _
  have ev : ((#[] : Array Value) ++ vs.toArray).toList = vs := by simp
  rw [ev]
  exact wpAny_pure q
theorem sorted_tp {l : Addr} {vs : List Value} {lt : Value → Value → Bool} {Q : Value → Shared → Prop} (O : SrtO.Swo lt) (hl : IsTup s.heap l vs.toArray) (hz : vs.length ≤ sizeLine)
    (hS : 2 ≤ vs.length → ∀ (h1 : Heap) (a : Addr), h1.get? a = some (seqObj "list" vs.toArray 0) → SrtO.SortableO prog w A.in1.in1 { s with heap := h1 } a vs lt)
    (q : ∀ out : List Value, SrtO.Srtd lt out → SrtO.Stb lt out vs → Q (.ref (s.heap.objs.size + 1)) { s with heap := sortedAll s.heap vs out.toArray }) : wpAny (model prog w) A (call (.builtin "sorted") [.ref l]) Q E s := by
  refine Calls.call_function_entry kind_sorted plain_sorted entry_sorted (args_sorted1 _) ?_
  unfold Builtin.«sorted»
  refine wpAny_bind (m := checkCount "sorted" 1 1 _) (wpAny_pure ?_)
  refine wpAny_bind (collect_tp hl hz (wpAny_bind (wpAny_newList ?_ hz)))
  have z1 : ((s.heap.push (seqObj "list" #[] 0)).update s.heap.objs.size (Obj.mapSeq (· ++ vs.toArray))).objs.size = s.heap.objs.size + 1 := by
    rw [Heap.size_update, size_push']
  show wpAny _ _ _ _ _ { s with heap := ((s.heap.push (seqObj "list" #[] 0)).update s.heap.objs.size (Obj.mapSeq (· ++ vs.toArray))).push (seqObj "list" vs.toArray 0) }
  unfold sortedAll at q
  generalize hg : (s.heap.push (seqObj "list" #[] 0)).update s.heap.objs.size (Obj.mapSeq (· ++ vs.toArray)) = hh at z1 q ⊢
  have at1 : (hh.push (seqObj "list" vs.toArray 0)).get? (s.heap.objs.size + 1) = some (seqObj "list" vs.toArray 0) := by
    rw [← z1]; exact Heap.get?_push_size _ rfl
  rw [z1]
  refine wpAny_bind (wpAny_holding (wpAny_call_entry slot_list_sort ⟨_, at1, rfl⟩ entry_list_sort (SrtO.list_sort_ord O at1 hz (fun h2 => hS h2 _ _ at1) fun out k1 k2 => ⟨_, rfl, ?_⟩) (args_list_sort _)))
  exact wpAny_pure ⟨_, rfl, q out k1 k2⟩
end
section
variable {X : Cx}
def rSortT (K : PySem.W.Frag) : List V → Hp → VK → Prop := fun vs H Q => ∃ (a : Addr) (ns : List Int), vs = [V.ref a] ∧ SqT K H a (ns.map V.int) ∧
  ∀ (ms : List Int) (p : Addr), ms.Perm ns → ms.Pairwise (· ≤ ·) → H p = none → Q (.ref p) (upd H p (.lst (ms.map V.int)))
theorem cr_sortT : CallR X (.builtin "sorted") (rSortT X.K) := by
  intro pins s σ H vs us Q I r h
  obtain ⟨a, ns, rfl, hs, q⟩ := h
  obtain ⟨its, rv, hl, hz⟩ := I.tuple hs
  rw [Vals.ref1 r]
  have hi := rv.ints
  refine sorted_tp SrtO.swo_int hl (by rw [← rv.length]; exact hz) (fun h2 _ _ _ => SrtO.ints_sortable hi h2) fun out h1 h2 => ?_
  obtain ⟨k1, k2, k3⟩ := SrtO.ints_out hi h1 h2
  obtain ⟨ep, at2⟩ := sortedAll_at s.heap its out.toArray
  rw [List.length_map] at hz
  have hb : ((out.map SrtO.iv).map V.int).length ≤ sizeLine := by rw [List.length_map, k2.length_eq]; exact hz
  exact ⟨.ref _, upd H (s.heap.objs.size + 1) (.lst ((out.map SrtO.iv).map V.int)), I.laid (t' := s.toks) (fun _ _ => sortedAll_old) (Nat.le_succ _) ⟨hb, out, ep, vals_of_ints k1, at2⟩, rfl, q _ _ k2 k3 (I.hok.fresh (Nat.le_succ _))⟩
end
section
variable {X : Cx} {K : PySem.W.Frag} {W : WX} {α : Type} {w : Wd} {B D0 Hd Hd1 H : Hp} {σ : L2.St} {ρ : Rho} {ls : LS} {a b : Expr} {f : M Rf} {p pos p2 epos apos cpos : Pos} {fa : M Rf} {o : Expr}
def sortedD : D → Option (List D)
  | .tup l => (intsOf l).map fun ns => zs (srtI ns)
  | .lst l => (intsOf l).map fun ns => zs (srtI ns)
  | .lsk l => (intsOf l).map fun ns => zs (srtI ns)
  | _ => none
theorem rp_zs (l : List Int) : RpL K Hd (l.map V.int) (zs l) := RpL.ints l
theorem map_some {α β : Type} {f : α → β} {o : Option α} {y : β} (h : o.map f = some y) : ∃ x, o = some x ∧ y = f x := by
  cases o with
  | none => cases h
  | some x => cases h; exact ⟨x, rfl, rfl⟩
theorem one_sorted : OneN K (fun v H Q => rSortedI K [v] H Q ∨ rSortT K [v] H Q) sortedD := by
  refine ⟨?_⟩
  intro w B D0 Hd H σ ρ ls v x z E hx e Q q
  have fin : ∀ (ns ms : List Int) (p : Addr), ms.Perm ns → ms.Pairwise (· ≤ ·) → H p = none → z = zs (srtI ns) → Q (.ref p) (upd H p (.lst (ms.map V.int))) := fun ns ms p h1 h2 h3 ez => by
    obtain ⟨E2, F⟩ := E.newList (xs := ms.map V.int) h3
    refine q p _ _ E2 F ?_
    rw [ez, ← srt_one (h1.trans (srtI_perm ns).symm) h2 (srtI_pw ns)]
    exact rp_zs ms
  cases x <;> try (exact noneE e)
  · obtain ⟨ns, h1, h2⟩ := map_some e
    obtain ⟨a, xs, rfl, ha, r⟩ := hx.tup_inv
    rw [intsOf_eq h1] at r
    have ex := RpL.ofInts ns r
    subst ex
    exact .inr ⟨a, ns, rfl, (E.sub.tk ha).sq, fun ms p k1 k2 k3 => fin ns ms p k1 k2 k3 h2⟩
  · obtain ⟨ns, h1, h2⟩ := map_some e
    obtain ⟨a, xs, rfl, ha, r⟩ := hx.lst_inv
    rw [intsOf_eq h1] at r
    have ex := RpL.ofInts ns r
    subst ex
    exact .inl ⟨a, ns, rfl, SqL.of ha, fun ms p k1 k2 k3 => fin ns ms p k1 k2 k3 h2⟩
  · obtain ⟨ns, h1, h2⟩ := map_some e
    obtain ⟨a, xs, rfl, ha, r⟩ := hx.lsk_inv
    rw [intsOf_eq h1] at r
    have ex := RpL.ofInts ns r
    subst ex
    exact .inl ⟨a, ns, rfl, E.sub.sqL ha, fun ms p k1 k2 k3 => fin ns ms p k1 k2 k3 h2⟩
theorem u_sorted (hm : X.mg "sorted" = none) (ha : PE X a (U X.K W f)) (hg : Gl X "sorted" := by rfl) (he : starEach [a] X.env = (false, eval a X.env) :: starEach [] X.env := by rfl) (hpl : (backTo pos (starEach [] X.env)).any (·.1) = false := by rfl) : PE X (.Call (.Name "sorted" p) [a] [] pos) (UN X.K W (uno sortedD f)) :=
  pe_imp (pe_callB (cr_sortedI.or cr_sortT) hg hm (by decide +kernel) (pa_cons ha pa_nil he) (by decide) (by decide) he hpl) fun _ _ _ q => read_unoN one_sorted q
/-! ### xs.clear() -/
def clrD (_ : List D) : Option (D × List D) := some (.non, [])
theorem md_clear : Mut0 K rClear clrD := ⟨fun {Hd H p xs ds es z} s h r e Q q => by
  cases e
  exact ⟨p, xs, rfl, rfl, h, q _ _ .nil .non⟩⟩
theorem u_clear (i : Nat) (hv : PE X o (tVar i)) (hbase : attributeBase o "clear" X.env (eval o X.env) = eval o X.env := by rfl) (hline : (apos.endLine == cpos.line) = true := by rfl) :
    PE X (.Call (.Attribute o "clear" apos) [] [] cpos) (UV X.K W (meth0M i clrD)) := pe_imp (pe_bm0 PySem.F.plainAttrs_list PySem.F.slot_list_clear PySem.F.type_list_clear mt_clear hv hbase hline) fun _ _ _ q => read_meth0 md_clear q
/-! ### {} -/
theorem u_dct0 : PE X (.Dict [] [] pos) (UV X.K W (ret (.dct [] []))) := pe_imp pe_dnewK fun σ H Q q => by
  obtain ⟨w, B, D0, Hd, ρ, ls, E, q⟩ := q
  intro p hp
  have nt : NT (.dK ([] : List (Key × V))) := fun _ h => by cases h
  exact q _ _ (E.newDat hp nt) (.upd (E.nd_new hp)) (.ref p) (.dK upd_same rfl rfl .nil)
/-! ### list(range(n)), tuple(range(n)) -/
theorem lr1_rp (j : Int) : RpL K Hd (rgV 0 j) (rangeL 0 j.toNat) := by
  have h := rgV_rp (K := K) (Hd := Hd) 0 j
  rwa [Int.sub_zero] at h
theorem u_listRange1 (hc : X.calm = true) (hm : X.mg "list" = none) (hm2 : X.mg "range" = none) (ha : PE X a (U X.K W fa)) (hg : Gl X "list" := by rfl) (hg2 : Gl X "range" := by rfl)
    (na : starEach [a] X.env = (false, eval a X.env) :: starEach [] X.env := by rfl)
    (nc : starEach [.Call (.Name "range" p2) [a] [] pos] X.env = (false, eval (.Call (.Name "range" p2) [a] [] pos) X.env) :: starEach [] X.env := by rfl) :
    PE X (.Call (.Name "list" p) [.Call (.Name "range" p2) [a] [] pos] [] epos) (UN X.K W (uno lr1D fa)) := pe_imp (pe_listRg hc hg hm (prg_1 hg2 hm2 ha na) nc) fun σ H Q q => by
  refine Ru.imp q.xBnd fun w B D0 Hd1 H1 ρ1 ls1 r1 E1 q1 v hv => ?_
  obtain ⟨x, hx, q2⟩ := q1.xLookB E1 hv
  obtain ⟨z, hz, q3⟩ := q2.xOpt1
  cases x <;> try (exact noneE hz)
  rename_i j
  cases hx.int_inv
  obtain ⟨hcc, e⟩ := ofb hz
  cases e
  rw [Bool.and_eq_true] at hcc
  have c1 := of_decide_eq_true hcc.1
  have c2 := of_decide_eq_true hcc.2
  refine ⟨j, rfl, ⟨by omega, by omega, by omega, by omega, by omega⟩, fun l hl => ?_⟩
  obtain ⟨E3, F⟩ := E1.newList (xs := rgV 0 j) hl
  exact q3 _ _ E3 (Sub.refl _) l _ F (lr1_rp j)
def tTupRgK (te : L2.St → Hp → (Int → Int → Hp → Prop) → Prop) : TE := fun σ H Q => te σ H fun a b H1 => RgOk a b ∧ NewT H1 (rgV a b) Q
theorem pe_tupRgK {e : Expr} {te : L2.St → Hp → (Int → Int → Hp → Prop) → Prop} (hc : X.calm = true) (hg : Gl X "tuple") (hm : X.mg "tuple" = none) (he : PRg X e te) (na : starEach [e] X.env = (false, eval e X.env) :: starEach [] X.env := by rfl) : PE X (.Call (.Name "tuple" p) [e] [] pos) (tTupRgK te) := ⟨fun pins s σ H Q I h => by
  refine Call_ (ld_blt I hg hm boot_tuple (PyProof.Rows.callWith_type1 (args_cons (thn (he pins s σ H _ I h) fun x s1 hh => ?_) na) na))
  obtain ⟨r, i, j, t, u, v, H1, rfl, hr, I1, ⟨b1, b2, b3, b4, b5⟩, q⟩ := hh
  refine args_nil (call_tuple_range (n := (j - i).toNat) (I1.ok.hd hc) hr (small_one b1 b2 b3 b4) (rangeSize_nat i j) b5 fun h' tk acc hk hi => ?_)
  have I2 : Inv X pins σ H1 { s1 with heap := h', toks := tk } := I1.kept hk
  have := Inv.newT I2 (its := acc.toList) (by rw [rgV_length, sizeLine_eq]; omega) (vals_rg hi) q
  simpa using this⟩
def tr1D (d : D) : Option D := (lr1D d).map .tup
theorem u_tupRange1 (hc : X.calm = true) (hm : X.mg "tuple" = none) (hm2 : X.mg "range" = none) (ha : PE X a (U X.K W fa)) (hg : Gl X "tuple" := by rfl) (hg2 : Gl X "range" := by rfl)
    (na : starEach [a] X.env = (false, eval a X.env) :: starEach [] X.env := by rfl)
    (nc : starEach [.Call (.Name "range" p2) [a] [] pos] X.env = (false, eval (.Call (.Name "range" p2) [a] [] pos) X.env) :: starEach [] X.env := by rfl) :
    PE X (.Call (.Name "tuple" p) [.Call (.Name "range" p2) [a] [] pos] [] epos) (UV X.K W (uno tr1D fa)) := pe_imp (pe_tupRgK hc hg hm (prg_1 hg2 hm2 ha na) nc) fun σ H Q q => by
  refine Ru.imp q.xBnd fun w B D0 Hd1 H1 ρ1 ls1 r1 E1 q1 v hv => ?_
  obtain ⟨x, hx, q2⟩ := q1.xLookB E1 hv
  obtain ⟨z, hz, q3⟩ := q2.xOpt1
  obtain ⟨l, hy, rfl⟩ := map_some hz
  clear hz
  cases x <;> try (exact noneE hy)
  rename_i j
  cases hx.int_inv
  obtain ⟨hcc, e⟩ := ofb hy
  cases e
  rw [Bool.and_eq_true] at hcc
  have c1 := of_decide_eq_true hcc.1
  have c2 := of_decide_eq_true hcc.2
  refine ⟨j, rfl, ⟨by omega, by omega, by omega, by omega, by omega⟩, fun t ob ht k1 k2 => ?_⟩
  have sd : Sub Hd1 (upd Hd1 t (.frz ob (.tup (rgV 0 j)))) := .upd (E1.nd_new ht)
  exact q3 _ _ (E1.newDat ht NT.tup) sd _ (.tup ⟨ob, upd_same, k1, k2⟩ (lr1_rp j))
end
end Pd

set_option Elab.async false
set_option linter.all false
set_option maxRecDepth 100000
set_option maxHeartbeats 4000000
/-! Pd14: a, b = x, y where some of the values are new lists. -/
namespace Pd
open PySem PySem.Spec PyProof.Rows L2
inductive It where
  | d (x : D) | n (l : List D)
section
variable {X : Cx} {K : PySem.W.Frag} {W : WX} {α β : Type} {w : Wd} {B D0 Hd H : Hp} {σ : L2.St} {ρ : Rho} {ls : LS} {a b : Expr} {es : List Expr} {De : Ends}
/-- what the items are -/
def RpI (K : PySem.W.Frag) (w : Wd) (B Hd H : Hp) (σ : L2.St) (ρ : Rho) : List V → List It → Prop
  | [], [] => True
  | v :: vs, .d x :: is => Rp K Hd v x ∧ RpI K w B Hd H σ ρ vs is
  | v :: vs, .n l :: is => (∃ p xs, v = .ref p ∧ Fresh w B Hd H σ ρ p xs ∧ RpL K Hd xs l ∧ ∀ u ∈ vs.zip is, ∀ m, u.2 = .n m → u.1 ≠ .ref p) ∧ RpI K w B Hd H σ ρ vs is
  | _, _ => False
def UI2 (K : PySem.W.Frag) (W : WX) (f : M (List It)) : TA := fun σ H Q => Ru K W f σ H fun w B _ Hd' H' ρ' _ is => ∀ vs, RpI K w B Hd' H' σ ρ' vs is → Q vs H'
/-- held beside: the list at p stands in the base -/
theorem EOk.hold {p : Addr} {xs : List V} (E : EOk K w B D0 Hd H σ ρ ls) (F : Fresh w B Hd H σ ρ p xs) : EOk K w (upd B p (.lst xs)) D0 Hd H σ ρ ls := by
  refine ⟨fun b o e z t => ?_, fun b e => ?_, E.sub, E.sub0, E.noz, E.nt, fun b o e => ?_, E.st, E.len, E.dat, fun i ds e => ?_, E.apart⟩
  · by_cases hb : b = p
    · subst hb; rw [upd_same] at e; cases e; exact F.at_
    · rw [upd_ne hb] at e; exact E.base b o e z t
  · have hb : b ≠ p := fun z => by subst z; rw [F.at_] at e; cases e
    exact (NB.up hb).mpr (E.dom b e)
  · have hb : b ≠ p := fun z => by subst z; rw [F.nd] at e; cases e
    rcases E.fr b o e with h | h
    · exact .inl h
    · exact .inr ((NB.up hb).mpr h)
  · obtain ⟨q, ys, h1, h2, h3, h4, h5, h6⟩ := E.own i ds e
    have hb : q ≠ p := fun z => F.ns i ds e (z ▸ h1)
    exact ⟨q, ys, h1, h2, h3, h4, (NB.up hb).mpr h5, h6⟩
theorem NB.upL {p b : Addr} {xs : List V} (h : NB (upd B p (.lst xs)) b) : NB B b := (NB.up h.atL).mp h
theorem EOk.unhold {p : Addr} {xs : List V} (nb : NB B p) (E : EOk K w (upd B p (.lst xs)) D0 Hd H σ ρ ls) : EOk K w B D0 Hd H σ ρ ls := by
  refine ⟨fun b o e z t => ?_, fun b e => (E.dom b e).upL, E.sub, E.sub0, E.noz, E.nt, fun b o e => (E.fr b o e).imp id NB.upL, E.st, E.len, E.dat, fun i ds e => ?_, E.apart⟩
  · exact E.base b o (by rw [upd_ne (nb.ne e t)]; exact e) z t
  · obtain ⟨q, ys, h1, h2, h3, h4, h5, h6⟩ := E.own i ds e
    exact ⟨q, ys, h1, h2, h3, h4, h5.upL, h6⟩
theorem Fresh.held {p : Addr} {xs : List V} {Hd1 H1 : Hp} {ρ1 : Rho} {ls1 : LS} (F : Fresh w B Hd H σ ρ p xs) (d0 : D0 p = none) (E : EOk K w (upd B p (.lst xs)) D0 Hd1 H1 σ ρ1 ls1) : Fresh w B Hd1 H1 σ ρ1 p xs := by
  refine ⟨E.base p _ upd_same F.nz NT.lst, ?_, F.nb, F.nz, fun i ds e z => ?_⟩
  · cases e : Hd1 p with
    | none => rfl
    | some o =>
      rcases E.fr p o e with h | h
      · rw [d0] at h; cases h
      · exact absurd rfl h.atL
  · obtain ⟨q, ys, h1, _, _, _, h5, _⟩ := E.own i ds e
    rw [h1] at z; cases z
    exact absurd rfl h5.atL
theorem Fresh.unhold {p q : Addr} {xs ys : List V} (F : Fresh w (upd B p (.lst xs)) Hd H σ ρ q ys) : Fresh w B Hd H σ ρ q ys ∧ q ≠ p := ⟨⟨F.at_, F.nd, F.nb.upL, F.nz, F.ns⟩, F.nb.atL⟩
theorem RpI.unhold {p : Addr} {xs : List V} : ∀ {vs : List V} {is : List It}, RpI K w (upd B p (.lst xs)) Hd H σ ρ vs is → RpI K w B Hd H σ ρ vs is ∧ ∀ u ∈ vs.zip is, ∀ m, u.2 = .n m → u.1 ≠ .ref p
  | [], [], _ => ⟨trivial, fun u hu => by cases hu⟩
  | v :: vs, .d x :: is, h => by
    obtain ⟨a, r⟩ := h
    obtain ⟨r1, r2⟩ := RpI.unhold r
    refine ⟨⟨a, r1⟩, fun u hu m e => ?_⟩
    rcases List.mem_cons.mp hu with rfl | hu
    · cases e
    · exact r2 u hu m e
  | v :: vs, .n l :: is, h => by
    obtain ⟨⟨q, ys, rfl, F, r, ne⟩, t⟩ := h
    obtain ⟨r1, r2⟩ := RpI.unhold t
    refine ⟨⟨⟨q, ys, rfl, F.unhold.1, r, ne⟩, r1⟩, fun u hu m e => ?_⟩
    rcases List.mem_cons.mp hu with rfl | hu
    · intro z; cases z; exact F.unhold.2 rfl
    · exact r2 u hu m e
  | [], _ :: _, h => h.elim
  | _ :: _, [], h => h.elim
theorem ui2_nil : PA X [] (UI2 K W (ret [])) := pa_imp pa_nil fun σ H Q h => by
  obtain ⟨w, B, D0, Hd, ρ, ls, E, q⟩ := h
  exact q Hd H E (Sub.refl _) [] trivial
def consD (f : M D) (g : M (List It)) : M (List It) := bnd f fun x => bnd g fun is => ret (.d x :: is)
def consL (f : M (List D)) (g : M (List It)) : M (List It) := bnd f fun l => bnd g fun is => ret (.n l :: is)
theorem ui2_d {f : M D} {g : M (List It)} (ha : PE X a (UV K W f)) (hr : PA X es (UI2 K W g)) (hs : starEach (a :: es) X.env = (false, eval a X.env) :: starEach es X.env := by rfl) : PA X (a :: es) (UI2 K W (consD f g)) := pa_imp (pa_cons ha hr hs) fun σ H Q h => by
  refine Ru.imp h.xBnd fun w B D0 Hd1 H1 ρ1 ls1 d E1 q1 v hv => ?_
  refine ⟨w, B, D0, Hd1, ρ1, ls1, E1, ?_⟩
  exact q1.xBnd.imp fun Hd2 H2 ρ2 ls2 is E2 s2 q2 vs hvs => q2 _ _ E2 (Sub.refl _) _ ⟨hv.mono s2, hvs⟩
theorem ui2_n {f : M (List D)} {g : M (List It)} (ha : PE X a (UN K W f)) (hr : PA X es (UI2 K W g)) (hs : starEach (a :: es) X.env = (false, eval a X.env) :: starEach es X.env := by rfl) : PA X (a :: es) (UI2 K W (consL f g)) := pa_imp (pa_cons ha hr hs) fun σ H Q h => by
  refine Ru.imp h.xBnd fun w B D0 Hd1 H1 ρ1 ls1 l E1 q1 p xs F r => ?_
  have d0 : D0 p = none := by
    cases e : D0 p with
    | none => rfl
    | some o => have := E1.sub0 _ _ e; rw [F.nd] at this; cases this
  have q2 := q1.xBnd
  refine ⟨w, upd B p (.lst xs), D0, Hd1, ρ1, ls1, E1.hold F, ?_⟩
  cases e : g ρ1 ls1 with
  | no => rw [e] at q2; exact q2
  | rs x ls2 =>
    rw [e] at q2
    exact fun H' cls dd xo => q2 H' cls dd ⟨fun b o eb z t => xo.base b o (by rw [upd_ne (F.nb.ne eb t)]; exact eb) z t, xo.st, xo.cls, xo.non, xo.fld⟩
  | ok is ρ2 ls2 =>
    rw [e] at q2
    intro Hd2 H2 E2 s2 vs hvs
    obtain ⟨r1, r2⟩ := RpI.unhold hvs
    have E3 := EOk.unhold F.nb E2
    exact q2 Hd2 H2 E3 s2 _ _ E3 (Sub.refl _) _ ⟨⟨p, xs, rfl, F.held d0 E2, r.mono s2, r2⟩, r1⟩
/-! ### the stores -/
def stoI (i : Nat) : It → PM
  | .d x => sto i x
  | .n l => stoN i l
theorem RpI.stored {i : Nat} {v : V} {s : Sl} : ∀ {vs : List V} {is : List It}, RpI K w B Hd H σ ρ vs is → (∀ u ∈ vs.zip is, ∀ m, u.2 = .n m → ∀ ds, s = .own ds → u.1 ≠ v) → i < ρ.length → σ.length = ρ.length → RpI K w B Hd H (σ.set i (some v)) (ρ.set i s) vs is
  | [], [], _, _, _, _ => trivial
  | _ :: vs, .d x :: is, h, k, hi, hl => ⟨h.1, RpI.stored h.2 (fun u hu => k u (List.mem_cons_of_mem _ hu)) hi hl⟩
  | _ :: vs, .n l :: is, h, k, hi, hl => by
    obtain ⟨⟨q, ys, rfl, F, r, ne⟩, t⟩ := h
    refine ⟨⟨q, ys, rfl, ⟨F.at_, F.nd, F.nb, F.nz, fun j ds e z => ?_⟩, r, ne⟩, RpI.stored t (fun u hu => k u (List.mem_cons_of_mem _ hu)) hi hl⟩
    rcases getSet e with ⟨rfl, _, y⟩ | ⟨nj, e⟩
    · rw [List.getElem?_set_self (by rw [hl]; exact hi)] at z
      cases z
      exact k (.ref q, .n l) (by simp) l rfl ds y.symm rfl
    · rw [List.getElem?_set_ne (Ne.symm nj)] at z
      exact F.ns j ds e z
  | [], _ :: _, h, _, _, _ => h.elim
  | _ :: _, [], h, _, _, _ => h.elim
theorem GoS.stoI {i : Nat} {v : V} {vs : List V} {it : It} {is : List It} {q : PM} (h : GoS K W w B D0 Hd De (seqP (Pd.stoI i it) q ρ ls)) (E : EOk K w B D0 Hd H σ ρ ls) (r : RpI K w B Hd H σ ρ (v :: vs) (it :: is)) :
    ∃ ρ', EOk K w B D0 Hd H (σ.set i (some v)) ρ' ls ∧ RpI K w B Hd H (σ.set i (some v)) ρ' vs is ∧ GoS K W w B D0 Hd De (q ρ' ls) := by
  unfold seqP at h
  by_cases hi : i < ρ.length
  · cases it with
    | d x =>
      have e1 : Pd.stoI i (.d x) ρ ls = .nx (ρ.set i (.dat x)) ls := if_pos hi
      rw [e1] at h
      exact ⟨_, E.store hi r.1, RpI.stored r.2 (fun u hu m e ds y => by cases y) hi E.len, h⟩
    | n l =>
      have e1 : Pd.stoI i (.n l) ρ ls = .nx (ρ.set i (.own l)) ls := if_pos hi
      rw [e1] at h
      obtain ⟨⟨p, xs, rfl, F, r1, ne⟩, t⟩ := r
      exact ⟨_, E.storeOwn hi F r1, RpI.stored t (fun u hu m e ds y => ne u hu m e) hi E.len, h⟩
  · cases it with
    | d x =>
      have e1 : Pd.stoI i (.d x) ρ ls = .no := if_neg hi
      rw [e1] at h
      exact h.elim
    | n l =>
      have e1 : Pd.stoI i (.n l) ρ ls = .no := if_neg hi
      rw [e1] at h
      exact h.elim
def par2I (i j : Nat) (ga : M (List It)) : PM := lift ga fun ds => match ds with
  | [x, y] => seqP (stoI i x) (seqP (stoI j y) skip)
  | _ => never
def par3I (i j k : Nat) (ga : M (List It)) : PM := lift ga fun ds => match ds with
  | [x, y, z] => seqP (stoI i x) (seqP (stoI j y) (seqP (stoI k z) skip))
  | _ => never
theorem us_parI {x y : Str} {ga : M (List It)} {px py pt pos : Pos} {kt k2 pt2} (i j : Nat) (hc : X.calm = true) (hN : X.N.Nodup) (ha : PA X [a, b] (UI2 K W ga)) (hi : X.N[i]? = some x := by rfl) (hj : X.N[j]? = some y := by rfl) (hij : i ≠ j := by decide)
    (hx : X.env.scope.names.lookup x = some .local := by rfl) (hy : X.env.scope.names.lookup y = some .local := by rfl)
    (hw : swappedStores [.Tuple [.Name x px, .Name y py] kt pt] (.Tuple [a, b] k2 pt2) X.env = pure (some [x, y]) := by rfl)
    (hs : swapsWithSole [.Tuple [.Name x px, .Name y py] kt pt] (.Tuple [a, b] k2 pt2) pos.line X.env = pure false := by rfl) :
    PS X (.Assign [.Tuple [.Name x px, .Name y py] kt pt] (.Tuple [a, b] k2 pt2) pos) (US K W (par2I i j ga)) := ps_imp (ps_par hc hN hi hj hij hx hy ha hw hs) fun D σ H h =>
  Ru.imp (US.lift h) fun w B D0 Hd' H' ρ' ls' ds E q vs r => by
    match ds, vs, r, q with
    | [d1, d2], [v1, v2], r, q =>
      refine ⟨_, _, rfl, ?_⟩
      obtain ⟨ρ1, E1, r1, q1⟩ := GoS.stoI q E r
      obtain ⟨ρ2, E2, r2, q2⟩ := GoS.stoI q1 E1 r1
      exact q2 _ Hd' H' E2 (Sub.refl _)
    | [], _, _, q => exact q.elim
    | [_], _, _, q => exact q.elim
    | [_, _], [], r, q => exact r.elim
    | [.d _, _], [_], r, q => exact r.2.elim
    | [.n _, _], [_], r, q => exact r.2.elim
    | [.d _, .d _], _ :: _ :: _ :: _, r, q => exact r.2.2.elim
    | [.d _, .n _], _ :: _ :: _ :: _, r, q => exact r.2.2.elim
    | [.n _, .d _], _ :: _ :: _ :: _, r, q => exact r.2.2.elim
    | [.n _, .n _], _ :: _ :: _ :: _, r, q => exact r.2.2.elim
    | _ :: _ :: _ :: _, _, _, q => exact q.elim
end
end Pd

set_option Elab.async false
set_option linter.all false
set_option maxRecDepth 100000
set_option maxHeartbeats 4000000
/-! Pd15: the least of a list of rows. -/
namespace Pd
open PySem PySem.Spec PySem.SeqAt PySem.W PyProof.Rows L2
def minR : List (List Int) → List Int
  | [] => []
  | x :: xs => xs.foldl (fun a y => if y < a then y else a) x
def rowP (l : List Int) : PyData := .tuple (l.map .int)
theorem rowP_inj : ∀ {a b : List Int}, rowP a = rowP b → a = b := fun {a b} h => by
  injection h with h
  exact List.map_inj_right (fun x y e => by injection e) |>.mp h
theorem alike_row (a b : List Int) : alike (rowP a) (rowP b) = true := alike_ints a b
theorem lt_row (a b : List Int) : dataLt (rowP a) (rowP b) = decide (a < b) := (dataLt_tuple _ _).trans (dataLt_ints a b)
theorem min_fold : ∀ (xs : List (List Int)) (x : List Int), (xs.map rowP).foldl (fun a y => if dataLt y a = true then y else a) (rowP x) = rowP (xs.foldl (fun a y => if y < a then y else a) x)
  | [], _ => rfl
  | y :: xs, x => by
    rw [List.map_cons, List.foldl_cons, List.foldl_cons, lt_row]
    by_cases h : y < x
    · rw [if_pos h, if_pos (decide_eq_true h), min_fold xs y]
    · rw [if_neg h, if_neg (by simpa using h), min_fold xs x]
theorem depth_rows : ∀ ns : List (List Int), PyData.depthAll (ns.map rowP) ≤ 1
  | [] => Nat.zero_le _
  | n :: ns => by
    have h1 : (rowP n).depth = PyData.depthAll (n.map .int) + 1 := by
      unfold rowP; rw [PyData.depth]
    rw [depth_ints] at h1
    show max (rowP n).depth (PyData.depthAll (ns.map rowP)) ≤ 1
    have := depth_rows ns
    omega
section
variable {prog : Program} {w : World} {A : Around} {E : Value → Shared → Prop} {s : Shared}
theorem min_rows {l : Addr} {vs : Array Value} {ns : List (List Int)} {as : List Addr} {Q : Value → Shared → Prop} (hh : A.handled = none) (hl : s.heap.IsList l vs) (hr : ReadsAll s.heap vs.toList (ns.map rowP) as) (hn : ns ≠ []) (hu : A.units + 2 < cLine)
    (h : ∀ (i : Nat) v h' tk, vs[i]? = some v → ns[i]? = some (minR ns) → (∀ b o, s.heap.get? b = some o → h'.get? b = some o) → Q v { s with heap := h', toks := tk }) :
    wpAny (model prog w) A (call (.builtin "min") [.ref l]) Q E s := by
  cases ns with
  | nil => exact absurd rfl hn
  | cons x xs =>
    have hl2 : vs.size = xs.length + 1 := by
      have := readsAll_len hr
      rw [List.length_map] at this
      exact this
    have ha : AlikeAll ((x :: xs).map rowP) := ⟨fun a h1 b h2 => by
      obtain ⟨p, _, rfl⟩ := List.mem_map.mp h1
      obtain ⟨q, _, rfl⟩ := List.mem_map.mp h2
      exact alike_row p q, fun a h1 e => by
      obtain ⟨p, _, rfl⟩ := List.mem_map.mp h1
      cases e⟩
    refine call_min_walkH (iter_listW (A := A.in1) hh hl fun s₂ e W st hfp hw hk => ?_)
    have hd := depth_rows (x :: xs)
    refine ⟨_, _, _, _, _, _, _, s.heap, _, rfl, W, st, hfp, by omega, hw, hk, cmpIn_lt (A := A.in1) hr ha (by show A.units + 1 + _ < _; omega), fun v s' hP m => ?_⟩
    obtain ⟨h', tk, rfl, hk'⟩ := moved_old e rfl m
    obtain ⟨e1, e2⟩ := argBest_fold dataLt PyData.none (rowP x) (xs.map rowP) (xs.map rowP).length (Nat.le_refl _)
    rw [List.take_length, min_fold] at e2
    rw [List.length_map] at e1 e2
    rw [show vs.size - 1 = xs.length by omega] at hP
    refine h _ v h' tk hP ?_ hk'
    have hi : argBest (fun i j => dataLt ((rowP x :: xs.map rowP).getD i .none) ((rowP x :: xs.map rowP).getD j .none)) xs.length < (x :: xs).length := by
      rw [List.length_cons]; omega
    have e3 : ∀ j, j < (x :: xs).length → (rowP x :: xs.map rowP).getD j PyData.none = rowP (minR (x :: xs)) → (x :: xs)[j]? = some (minR (x :: xs)) := fun j hj ej => by
      rw [← List.map_cons, List.getD_eq_getElem?_getD, List.getElem?_map, List.getElem?_eq_getElem hj] at ej
      rw [List.getElem?_eq_getElem hj]
      exact congrArg some (rowP_inj ej)
    exact e3 _ hi e2
end
section
variable {X : Cx}
def rMinR (K : PySem.W.Frag) : List V → Hp → VK → Prop := fun vs H Q => ∃ (a : Addr) (xs : List V) (ns : List (List Int)), vs = [V.ref a] ∧ SqL K H a xs ∧ DpAll K H xs (ns.map rowP) ∧ ns ≠ [] ∧ ∀ (i : Nat) (x : V), xs[i]? = some x → ns[i]? = some (minR ns) → Q x H
theorem cr_minR (hc : X.calm = true) (hu : X.A.units + 64 < cLine) : CallR X (.builtin "min") (rMinR X.K) := by
  intro pins s σ H vs us Q I r h
  obtain ⟨a, xs, ns, rfl, hs, hd, hn, q⟩ := h
  obtain ⟨its, rv, hl, _⟩ := I.list hs
  rw [Vals.ref1 r]
  obtain ⟨as, hr⟩ := Dp.readsAll I _ _ _ hd rv
  refine min_rows (I.ok.hd hc) hl.isList hr hn (by omega) fun i v h' tk hv hi hk => ?_
  have hv : its[i]? = some v := by simpa using hv
  have hx : i < xs.length := by
    rw [rv.length]
    exact (List.getElem?_eq_some_iff.mp hv).1
  obtain ⟨u, e1, e2⟩ := rv.get (List.getElem?_eq_getElem hx)
  cases e1.symm.trans hv
  exact ⟨_, H, I.kept hk, e2, q i _ (List.getElem?_eq_getElem hx) hi⟩
end
section
variable {X : Cx} {K : PySem.W.Frag} {W : WX} {α : Type} {w : Wd} {B D0 Hd Hd1 H : Hp} {σ : L2.St} {ρ : Rho} {ls : LS} {a b : Expr} {f : M Rf} {p pos p2 epos apos cpos : Pos} {fa : M Rf} {o : Expr}
/-- the rows of data -/
def rowsOf : List D → Option (List (List Int))
  | [] => some []
  | .tup l :: ds => match intsOf l, rowsOf ds with
    | some a, some b => some (a :: b)
    | _, _ => none
  | _ => none
theorem rowsOf_eq : ∀ {ds : List D} {ns : List (List Int)}, rowsOf ds = some ns → ds = ns.map row
  | [], ns, h => by
    cases h; rfl
  | d :: ds, ns, h => by
    unfold rowsOf at h
    cases d <;> try (cases h)
    rename_i l
    have h : (match intsOf l, rowsOf ds with
      | some a, some b => some (a :: b)
      | _, _ => none) = some ns := h
    cases e1 : intsOf l with
    | none => rw [e1] at h; cases h
    | some a =>
      cases e2 : rowsOf ds with
      | none => rw [e1, e2] at h; cases h
      | some b =>
        rw [e1, e2] at h
        cases h
        rw [List.map_cons, ← rowsOf_eq e2, intsOf_eq e1]; rfl
theorem rowsOf_map : ∀ ns : List (List Int), rowsOf (ns.map row) = some ns
  | [] => rfl
  | n :: ns => by
    show (match intsOf (zs n), rowsOf (ns.map row) with
      | some a, some b => some (a :: b)
      | _, _ => none) = _
    rw [rowsOf_map ns, intsOf_zs]
/-- min of a list of rows -/
def minLD : D → Option D
  | .lst l => (rowsOf l).bind fun ns => if ns = [] then none else some (row (minR ns))
  | _ => none
theorem py_rows : ∀ ns : List (List Int), D.pyL (ns.map row) = ns.map rowP
  | [] => rfl
  | n :: ns => by
    show (row n).py :: D.pyL (ns.map row) = _
    rw [py_rows ns]
    have : D.pyL (zs n) = n.map .int := by
      unfold zs
      induction n with
      | nil => rfl
      | cons x n ih => show _ :: D.pyL _ = _; rw [ih]; rfl
    show PyData.tuple (D.pyL (zs n)) :: _ = _
    rw [this]; rfl
theorem pure_rows : ∀ ns : List (List Int), D.pureL (ns.map row) = true
  | [] => rfl
  | n :: ns => by
    show ((row n).pure && D.pureL (ns.map row)) = true
    rw [pure_rows ns, Bool.and_true]
    show D.pureL (zs n) = true
    unfold zs
    induction n with
    | nil => rfl
    | cons x n ih => show (true && D.pureL _) = true; rw [ih]; rfl
theorem one_minL : One K (fun v => rMinR K [v]) minLD := by
  refine ⟨?_⟩
  intro w B D0 Hd H σ ρ ls v x z E hx e Q q
  cases x <;> try (exact noneE e)
  rename_i l
  obtain ⟨a, xs, rfl, ha, r⟩ := hx.lst_inv
  have e : (rowsOf l).bind (fun ns => if ns = [] then none else some (row (minR ns))) = some z := e
  cases e1 : rowsOf l with
  | none => rw [e1] at e; cases e
  | some ns =>
    rw [e1] at e
    have e : (if ns = [] then none else some (row (minR ns))) = some z := e
    by_cases hn : ns = []
    · rw [if_pos hn] at e; cases e
    · rw [if_neg hn] at e
      cases e
      have el := rowsOf_eq e1
      subst el
      have hd := (r.mono E.sub).dp (pure_rows ns)
      rw [py_rows] at hd
      refine ⟨a, xs, ns, rfl, SqL.of ha, hd, hn, fun i v hv hi => ?_⟩
      obtain ⟨d, h1, h2⟩ := r.getV hv
      rw [List.getElem?_map, hi] at h1
      cases h1
      exact q _ Hd H E (Sub.refl _) h2
theorem u_minL (hm : X.mg "min" = none) (hu : X.A.units + 64 < cLine) (hc : X.calm = true) (ha : PE X a (U X.K W f)) (hg : Gl X "min" := by rfl) (he : starEach [a] X.env = (false, eval a X.env) :: starEach [] X.env := by rfl) (hpl : (backTo pos (starEach [] X.env)).any (·.1) = false := by rfl) : PE X (.Call (.Name "min" p) [a] [] pos) (UV X.K W (uno minLD f)) :=
  u_callB (cr_minR hc hu) one_minL hm (by decide +kernel) ha hg (by decide) (by decide) he hpl
end
end Pd

set_option Elab.async false
set_option linter.all false
set_option maxRecDepth 100000
set_option maxHeartbeats 4000000
/-! St: the state of the draws. -/
namespace Pd
open PySem PySem.Spec PyProof.Rows L2
def topS (i : Nat) : Stmt := PySem.Challenge.pw_meankept_k01_rings_and_turned_rows.main.body.getD i (.Pass ⟨0, 0, 0, 0⟩)
abbrev s_law_begun : Stmt := topS 26
abbrev s_law_blended : Stmt := topS 27
abbrev s_law_draw : Stmt := topS 28
theorem sc_begun : FnScope ["_law_script", "_law_great", "_law_cell"] ["_law_script"] (defScope s_law_begun) := ⟨rfl, rfl, rfl, by decide +kernel, rfl, by decide +kernel, by decide +kernel⟩
theorem sc_blended : FnScope ["_law_state", "_law_turn", "_law_found", "_law_prime", "_law_blend", "_law_cell"] ["_law_state"] (defScope s_law_blended) := ⟨rfl, rfl, rfl, by decide +kernel, rfl, by decide +kernel, by decide +kernel⟩
theorem sc_draw : FnScope ["_law_state", "_law_room", "_law_found"] ["_law_state", "_law_room"] (defScope s_law_draw) := ⟨rfl, rfl, rfl, by decide +kernel, rfl, by decide +kernel, by decide +kernel⟩

/-! ### the mathematics of the draws -/
def blendIn (p turn : Int) (cells : List Int) : Int := cells.foldl (fun b c => (b * 69621 + c + turn) % p) (48271 * turn + p / 53)
def blendStep (turn : Int) (cells : List Int) (f p : Int) : Int := f * 2147483647 + (blendIn p turn cells) ^ 5 % p
def primes : List Int := [2147483579, 2147483629, 2147483563]
def blendF (turn : Int) (cells : List Int) : Int := primes.foldl (blendStep turn cells) 0
structure LSok (n : Int) (ls : LS) : Prop where
  great : ∀ x ∈ ls.great, 0 ≤ x
  cells : ∀ x ∈ ls.cells, 0 ≤ x
  rest : 0 ≤ ls.rest
  t0 : 0 ≤ ls.turn
  t1 : ls.turn ≤ n
  l0 : ls.great.length ≤ 63
theorem blendIn_nn {p turn : Int} (hp : 0 < p) (ht : 0 ≤ turn) : ∀ cells : List Int, 0 ≤ blendIn p turn cells := by
  have go : ∀ (cells : List Int) (b : Int), 0 ≤ b → 0 ≤ cells.foldl (fun b c => (b * 69621 + c + turn) % p) b := by
    intro cells
    induction cells with
    | nil => intro b h; exact h
    | cons c cells ih => intro b _; exact ih _ (Int.emod_nonneg _ (by omega))
  intro cells
  refine go cells _ ?_
  have : 0 ≤ p / 53 := Int.ediv_nonneg (by omega) (by omega)
  omega
theorem blendIn_lt {p turn : Int} (hp : 0 < p) (hp2 : p < 2147483648) (ht : 0 ≤ turn) (ht2 : turn ≤ 1000000000000) : ∀ cells : List Int, (blendIn p turn cells).natAbs < 2 ^ 64 := by
  have go : ∀ (cells : List Int) (b : Int), 0 ≤ b → b < 100000000000000000 → (cells.foldl (fun b c => (b * 69621 + c + turn) % p) b) < 100000000000000000 := by
    intro cells
    induction cells with
    | nil => intro b _ h; exact h
    | cons c cells ih => intro b _ _; exact ih _ (Int.emod_nonneg _ (by omega)) (by have := Int.emod_lt_of_pos (b * 69621 + c + turn) hp; show (b * 69621 + c + turn) % p < _; omega)
  intro cells
  have h1 : 0 ≤ p / 53 := Int.ediv_nonneg (by omega) (by omega)
  have h2 : p / 53 < 2147483648 := by omega
  have := go cells (48271 * turn + p / 53) (by omega) (by omega)
  have h3 := blendIn_nn hp ht cells
  unfold blendIn at h3 ⊢
  omega
theorem blendF_nn {turn : Int} (ht : 0 ≤ turn) (cells : List Int) : 0 ≤ blendF turn cells := by
  have st : ∀ (f p : Int), 0 ≤ f → 0 < p → 0 ≤ blendStep turn cells f p := fun f p hf hp => by
    unfold blendStep
    have : 0 ≤ (blendIn p turn cells) ^ 5 % p := Int.emod_nonneg _ (by omega)
    omega
  unfold blendF primes
  exact st _ _ (st _ _ (st _ _ (by omega) (by omega)) (by omega)) (by omega)

section
variable {P : Program} {w : World} {K : PySem.W.Frag} {mg : Str → Option Value} {base : Heap}
theorem same_upd {H : Hp} {p : Addr} {o : HO} (h : H p = none) : Same H (upd H p o) := fun b x e => by
  rw [upd_ne (ne_of_none e h)]
  exact e
theorem same_upd2 {H H' : Hp} {p : Addr} {o : HO} (s : Same H H') (h : H p = none) : Same H (upd H' p o) := fun b x e => by
  rw [upd_ne (ne_of_none e h)]
  exact s b x e
/-- _law_begun -/
def spBegun (K : PySem.W.Frag) (T : List (Addr × Str)) : Sp := fun vs H Q _ => ∃ (a : Addr) (ns : List Int), vs = [.ref a] ∧ SqL K H a (ns.map V.int) ∧ ns.length ≤ 63 ∧ LamX.Tabs T H ∧
  ∀ (w : Wd) (ls : LS) (H' : Hp), ls.tb = T → SOk w ls H' → Same H H' → H w.a = none → H w.g = none → H w.c = none → LSok 0 ls → Q (.ref w.a) H'
/-- a list of ints taken item by item -/
theorem map_get {ns : List Int} {i : Nat} {x : V} (h : (ns.map V.int)[i]? = some x) : ∃ n, ns[i]? = some n ∧ x = .int n := by
  rw [List.getElem?_map] at h
  cases e : ns[i]? with
  | none => rw [e] at h; cases h
  | some n => rw [e] at h; exact ⟨n, rfl, (Option.some.inj h).symm⟩
theorem ok_begun {T : List (Addr × Str)} {f : Addr} {fd : FuncData} (F : Fun K "_law_begun" "_law_begun" s_law_begun f fd) (ma : mg "abs" = none) : FnOk P w K mg base (L2.CX P w) 1 f fd ["_law_script"] (spBegun K T) := by
  refine F.okX sc_begun (fun vs H Q E h => ?_) (fun cdv A outer s H vs Q E hr h => ?_)
  · obtain ⟨a, ns, rfl, _⟩ := h
    rfl
  · obtain ⟨a, ns, rfl, hS, hlen, hT, q⟩ := h
    refine ⟨_, pss_cons (ps_setLc (i := 1) (own := [("_law_cell", 2)]) (g := gName 2) (tt := _) (by rfl) sc_begun.nd rfl rfl (sw_true rfl rfl rfl (by decide +kernel)) (pi_list (pv 0)) (blkOk_by (N := ["_law_script", "_law_great", "_law_cell"]) (sc := defScope s_law_begun) (by decide +kernel))
          (fun _ _ _ _ _ => pg_name (i := 2) sc_begun.nd rfl (Or.inl rfl))
          (fun _ _ _ _ _ => pts_one (pt_cmpR op_ge (pe_callB call_abs (by rfl) ma (by decide +kernel) (pa_cons (pv 2) pa_nil)) (pe_op op_pow pe_int pe_int) (nomark _)))
          (fun _ _ _ _ _ => pe_op op_sub (pe_callB call_abs (by rfl) ma (by decide +kernel) (pa_cons (pv 2) pa_nil)) (pe_op op_pow pe_int pe_int)))
      (pss_one (ps_ret (pe_disp (pps_cons pe_str (pv 1) (pps_cons pe_str (pe_lc (own := [("_law_cell", 2)]) (g := gName 2) (tt := tYes) (by rfl) sc_begun.nd (pi_list (pv 0)) (blkOk_by (N := ["_law_script", "_law_great", "_law_cell"]) (sc := defScope s_law_begun) (by decide +kernel))
            (fun _ _ _ _ _ => pg_name (i := 2) sc_begun.nd rfl (Or.inl rfl)) (fun _ _ _ _ _ => pts_nil) (fun _ _ _ _ _ => pe_callB call_abs (by rfl) ma (by decide +kernel) (pa_cons (pv 2) pa_nil)))
          (pps_cons pe_str pe_int (pps_cons pe_str pe_int pps_nil)))) (by rfl) (by rfl) (fun z => by cases z) (by decide)))), ?_⟩
    -- great
    refine ⟨.ref a, rfl, a, rfl, ⟨_, hS⟩, fun Dg hDg => ?_⟩
    refine lc_list (K := K) (a := a) (xs := ns.map V.int) (fun i H' => ∃ acc : List Int, Same H H' ∧ H' Dg = some (.lst (acc.map V.int)) ∧ (∀ x ∈ acc, 0 ≤ x) ∧ acc.length ≤ i)
      ⟨[], same_upd hDg, upd_same, (fun x hx => nomatch hx), Nat.le_refl _⟩ (fun i H' _ ⟨acc, sm, _⟩ => sm.seq hS) (fun i x H' hx ⟨acc, sm, eD, nn, hl⟩ => ?_) (fun H' ⟨acc, sm, eD, nn, hl⟩ => ?_)
    · obtain ⟨n, hn, rfl⟩ := map_get hx
      have hi : i < ns.length := (List.getElem?_eq_some_iff.mp hn).1
      refine ⟨rfl, ?_⟩
      refine ⟨_, rfl, n, rfl, 10, 18, rfl, rfl, ⟨by decide, by decide, by decide⟩, _, _, rfl, rfl, _, rfl, ?_⟩
      refine ite2 (fun hc => ?_) (fun hc => ?_)
      · have hc : (10 : Int) ^ (18 : Int).toNat ≤ (if n < 0 then -n else n) := of_decide_eq_true hc
        have e18 : (10 : Int) ^ (18 : Int).toNat = 1000000000000000000 := by decide
        refine ⟨_, rfl, n, rfl, 10, 18, rfl, rfl, ⟨by decide, by decide, by decide⟩, _, _, rfl, rfl, acc.map V.int, eD, by rw [List.length_map]; exact small1000 (by omega), ?_⟩
        refine ⟨acc ++ [(if n < 0 then -n else n) - (10 : Int) ^ (18 : Int).toNat], same_upd2 sm hDg, by rw [List.map_append]; exact upd_same, fun x hx => ?_, by rw [List.length_append]; exact Nat.succ_le_succ hl⟩
        rcases List.mem_append.mp hx with hx | hx
        · exact nn x hx
        · rw [List.mem_singleton.mp hx]
          omega
      · exact ⟨acc, sm, eD, nn, Nat.le_succ_of_le hl⟩
    · -- the dict
      intro Dd hDd
      have smd : Same H' (upd H' Dd (.dK [])) := same_upd hDd
      refine ⟨.ref Dg, rfl, ?_⟩
      refine ⟨.ref a, rfl, a, rfl, ⟨_, (sm.trans smd).seq hS⟩, fun Dc hDc => ?_⟩
      refine lc_list (K := K) (a := a) (xs := ns.map V.int) (fun i H2 => Same (upd H' Dd (.dK [])) H2 ∧ ∃ cs : List Int, H2 Dc = some (.lst (cs.map V.int)) ∧ (∀ x ∈ cs, 0 ≤ x) ∧ cs.length ≤ i)
        ⟨same_upd hDc, [], upd_same, (fun x hx => nomatch hx), Nat.le_refl _⟩ (fun i H2 _ ⟨sm2, _⟩ => sm2.seq ((sm.trans smd).seq hS)) (fun i x H2 hx ⟨sm2, cs, eC, nn2, hl2⟩ => ?_) (fun H2 ⟨sm2, cs, eC, nn2, hl2⟩ => ?_)
      · obtain ⟨n, hn, rfl⟩ := map_get hx
        have hi : i < ns.length := (List.getElem?_eq_some_iff.mp hn).1
        refine ⟨rfl, ?_⟩
        unfold tYes
        dsimp only
        rw [if_pos rfl]
        refine ⟨_, rfl, n, rfl, cs.map V.int, eC, by rw [List.length_map]; exact small1000 (by omega), ?_⟩
        refine ⟨same_upd2 sm2 hDc, cs ++ [if n < 0 then -n else n], by rw [List.map_append]; exact upd_same, fun x hx => ?_, by rw [List.length_append]; exact Nat.succ_le_succ hl2⟩
        rcases List.mem_append.mp hx with hx | hx
        · exact nn2 x hx
        · rw [List.mem_singleton.mp hx]
          split <;> omega
      · refine ⟨sm2 _ _ upd_same, [(.inr "great", .ref Dg), (.inr "cells", .ref Dc), (.inr "rest", .int 0), (.inr "turn", .int 0)], rfl, (by show 4 ≤ 15; decide), ?_⟩
        have nDd : H Dd = none := sm.free hDd
        have nDc : H Dc = none := (sm.trans smd).free hDc
        have ne1 : Dg ≠ Dd := ne_of_none eD hDd
        have ne2 : Dc ≠ Dd := fun z => by rw [z, upd_same] at hDc; cases hDc
        refine q ⟨Dd, Dg, Dc⟩ ⟨Dd, T, acc, cs, 0, 0⟩ _ rfl ⟨rfl, by rw [upd_same]; rfl, ?_, ?_, ?_, LamX.Tabs.ext hT (same_upd2 (sm.trans (smd.trans sm2)) nDd)⟩ (same_upd2 (sm.trans (smd.trans sm2)) nDd) nDd hDg nDc ⟨nn, nn2, Int.le_refl _, Int.le_refl _, Int.le_refl _, Nat.le_trans hl (by rw [List.length_map]; exact hlen)⟩
        · rw [show (Wd.mk Dd Dg Dc).g = Dg from rfl, upd_ne ne1]
          exact sm2 _ _ (smd _ _ eD)
        · rw [show (Wd.mk Dd Dg Dc).c = Dc from rfl, upd_ne ne2]
          exact eC
        · exact fun z => by have h := smd _ _ eD; rw [show Dg = Dc from z.symm, hDc] at h; cases h

/-! ### _law_blended -/
def FBlend : FS := fun ds ls => match ds with
  | [.ref a] => if a = ls.self ∧ (0 ≤ ls.turn ∧ ls.turn < 1000000000000) then .ok (.int (blendF (ls.turn + 1) ls.cells)) { ls with turn := ls.turn + 1 } else .no
  | _ => .no
theorem ok_blended {f : Addr} {fd : FuncData} (F : Fun K "_law_blended" "_law_blended" s_law_blended f fd) (mi : mg "int" = none) : FnOk P w K mg base (L2.CX P w) 1 f fd ["_law_state"] (spD K 1 FBlend) := by
  refine F.okX sc_blended (fun vs H Q E h => ?_) (fun cdv A outer s H vs Q E hr h => ?_)
  · obtain ⟨w, Hd, ds, ls, _, _, _, _, r, h2, _⟩ := h
    rw [r.length, h2]; rfl
  · obtain ⟨w, Hd, ds, ls, hs, hz, ht, st, r, hn, g⟩ := h
    have hu := hu_of hr
    -- the argument
    cases r with
    | nil => cases hn
    | @cons v vs d ds rv r =>
      cases r with
      | cons _ _ => cases hn
      | nil =>
        cases d with
        | ref a =>
          cases rv
          have gg : GoF K w Hd H Q E (if a = ls.self ∧ (0 ≤ ls.turn ∧ ls.turn < 1000000000000) then .ok (.int (blendF (ls.turn + 1) ls.cells)) { ls with turn := ls.turn + 1 } else .no) := g
          by_cases hc : a = ls.self ∧ (0 ≤ ls.turn ∧ ls.turn < 1000000000000)
          · rw [if_pos hc] at gg
            obtain ⟨ea, t0, t1⟩ := hc
            have ea2 : a = w.a := ea.trans st.hs.symm
            subst ea2
            refine ⟨_, pss_cons (ps_par (i := 1) (j := 2) (by rfl) sc_blended.nd rfl rfl (by decide) rfl rfl (pa_cons (pe_op op_add (pe_dget hu (pv 0) pe_str (fun _ _ => rfl)) pe_int) (pa_cons pe_int pa_nil)) (by rfl))
              (pss_cons (ps_dput hu (pv 0) pe_str (pv 1) rfl)
              (pss_cons (ps_for (passes_of rfl) rfl (pi_list (pe_lst (pa_cons pe_int (pa_cons pe_int (pa_cons pe_int pa_nil))))) (pg_name (i := 3) sc_blended.nd rfl (Or.inl rfl))
                (pss_cons (ps_set (i := 4) sc_blended.nd rfl (Or.inl rfl) (pe_op op_add (pe_op op_mul pe_int (pv 1)) (pe_op op_fdiv (pv 3) pe_int)))
                (pss_cons (ps_for (passes_of rfl) rfl (pi_list (pe_dget hu (pv 0) pe_str (fun _ _ => rfl))) (pg_name (i := 5) sc_blended.nd rfl (Or.inl rfl))
                  (pss_one (ps_set (i := 4) sc_blended.nd rfl (Or.inl rfl) (pe_op op_mod (pe_callTy call_int1 (by rfl) mi (by decide +kernel) (pa_cons (pe_op op_add (pe_op op_add (pe_op op_mul (pv 4) pe_int) (pv 5)) (pv 1)) pa_nil)) (pv 3)))))
                (pss_one (ps_set (i := 2) sc_blended.nd rfl (Or.inl rfl) (pe_op op_add (pe_op op_mul (pv 2) pe_int) (pe_op op_mod (pe_callTy call_int1 (by rfl) mi (by decide +kernel) (pa_cons (pe_op op_pow (pv 4) pe_int) pa_nil)) (pv 3))))))))
              (pss_one (ps_ret (pv 2))))), ?_⟩
            -- the values
            have cells0 := st.hc
            refine ⟨.ref w.a, rfl, w.a, .int ls.turn, rfl, DGet.k (k := .inr "turn") st.ha, ls.turn, 1, rfl, rfl, _, _, rfl, ?_⟩
            refine ⟨_, rfl, .ref w.a, rfl, w.a, _, rfl, DPut.k (k := .inr "turn") st.ha (show 4 < sizeLine by decide), ?_⟩
            -- the heap with the new turn
            have hne1 : w.g ≠ w.a := fun z => by have h1 := st.hg; rw [z, st.ha] at h1; cases h1
            have hne2 : w.c ≠ w.a := fun z => by have h1 := st.hc; rw [z, st.ha] at h1; cases h1
            generalize hH1 : upd H w.a (.dK (putK [(.inr "great", V.ref w.g), (.inr "cells", .ref w.c), (.inr "rest", .int ls.rest), (.inr "turn", .int ls.turn)] (.inr "turn") (.int (ls.turn + 1)))) = H1
            have e1a : H1 w.a = some (.dK [(.inr "great", V.ref w.g), (.inr "cells", .ref w.c), (.inr "rest", .int ls.rest), (.inr "turn", .int (ls.turn + 1))]) := by rw [← hH1, upd_same]; rfl
            have e1g : H1 w.g = some (.lst (ls.great.map V.int)) := by rw [← hH1, upd_ne hne1]; exact st.hg
            have e1c : H1 w.c = some (.lst (ls.cells.map V.int)) := by rw [← hH1, upd_ne hne2]; exact st.hc
            have e1n : ∀ b, b ≠ w.a → H1 b = H b := fun b hb => by rw [← hH1, upd_ne hb]
            refine ⟨by decide, fun Dl hDl => ⟨Dl, rfl, ⟨_, .inl (.inl upd_same)⟩, ?_⟩⟩
            have hk : ∀ b, (∃ o, H1 b = some o) → (upd H1 Dl (.lst (primes.map V.int))) b = H1 b := fun b ⟨o, h⟩ => upd_ne (ne_of_none h hDl)
            have e2a := (hk _ ⟨_, e1a⟩).trans e1a
            have e2g := (hk _ ⟨_, e1g⟩).trans e1g
            have e2c := (hk _ ⟨_, e1c⟩).trans e1c
            have e2l : (upd H1 Dl (.lst (primes.map V.int))) Dl = some (.lst (primes.map V.int)) := upd_same
            have P : Post K w Hd H Hd (upd H1 Dl (.lst (primes.map V.int))) { ls with turn := ls.turn + 1 } := by
              have nDl : H Dl = none := by
                by_cases hb : Dl = w.a
                · rw [hb, e1a] at hDl; cases hDl
                · rw [e1n _ hb] at hDl; exact hDl
              refine ⟨fun b o e z _ => ?_, fun b e => ?_, Sub.refl _, fun b o e => ?_, fun b o e => .inl e, hz, ht, ⟨st.hs, e2a, e2g, e2c, st.hcg, tabs_upd (by rw [← hH1]; exact tabs_upd st.tabs (lo_dK st.ha)) (lo_none hDl)⟩⟩
              · rw [upd_ne (ne_of_none e nDl), e1n _ (fun q => z (.inl q))]; exact e
              · by_cases hb : b = Dl
                · rw [hb]; exact .of nDl
                · rw [upd_ne hb] at e
                  by_cases hb2 : b = w.a
                  · rw [hb2, e1a] at e; cases e
                  · rw [e1n _ hb2] at e; exact .of e
              · have ne1 : b ≠ w.a := fun q => by rw [q, hz _ (.inl rfl)] at e; cases e
                rw [upd_ne (ne_of_none (hs _ _ e) nDl), e1n _ ne1]; exact hs _ _ e
            have g2 : ∀ v, v = V.int (blendF (ls.turn + 1) ls.cells) → Q v (upd H1 Dl (.lst (primes.map V.int))) := fun v e => gg v Hd _ P (by rw [e]; exact .int _)
            clear g gg
            -- the loops
            have step : ∀ {α β : Type} (f : β → α → β) (l : List α) (i : Nat) (x : α) (b : β), l[i]? = some x → (l.take (i + 1)).foldl f b = f ((l.take i).foldl f b) x := fun f l i x b h => by
              rw [List.take_succ, h, List.foldl_append]; rfl
            refine for_list (K := K) (a := Dl) (xs := primes.map V.int) (fun i σ' H' => H' = upd H1 Dl (.lst (primes.map V.int)) ∧ ∃ x3 x4 x5, σ' = [some (.ref w.a), some (.int (ls.turn + 1)), some (.int ((primes.take i).foldl (blendStep (ls.turn + 1) ls.cells) 0)), x3, x4, x5])
              ⟨rfl, none, none, none, rfl⟩ (fun i σ' H' _ ⟨e, _⟩ => by subst e; exact .inl (.inl e2l)) (fun i x σ' H' hx ⟨eH, x3, x4, x5, eσ⟩ => ?_) (fun σ' H' ⟨eH, x3, x4, x5, eσ⟩ => ?_)
            · obtain ⟨p, hp, rfl⟩ := map_get hx
              subst eH eσ
              have hpp : 0 < p ∧ p < 2147483648 := by
                have := List.mem_of_getElem? hp
                unfold primes at this
                simp only [List.mem_cons, List.not_mem_nil, or_false] at this
                rcases this with h | h | h <;> subst h <;> decide
              refine ⟨.int (ls.turn + 1), rfl, 48271, ls.turn + 1, rfl, rfl, .inl ⟨by decide, by decide⟩, .int p, rfl, p, 53, rfl, rfl, ⟨by decide, by decide⟩, _, _, rfl, rfl, ?_⟩
              refine ⟨.ref w.a, rfl, w.a, .ref w.c, rfl, DGet.k (k := .inr "cells") e2a, w.c, rfl, ⟨_, .inl (.inl e2c)⟩, ?_⟩
              refine for_list (K := K) (a := w.c) (xs := ls.cells.map V.int) (fun j σ' H' => H' = upd H1 Dl (.lst (primes.map V.int)) ∧ ∃ x5, σ' = [some (.ref w.a), some (.int (ls.turn + 1)), some (.int ((primes.take i).foldl (blendStep (ls.turn + 1) ls.cells) 0)), some (.int p), some (.int (blendIn p (ls.turn + 1) (ls.cells.take j))), x5])
                ⟨rfl, x5, rfl⟩ (fun j σ' H' _ ⟨e, _⟩ => by subst e; exact .inl (.inl e2c)) (fun j x σ' H' hx ⟨eH, x5, eσ⟩ => ?_) (fun σ' H' ⟨eH, x5, eσ⟩ => ?_)
              · obtain ⟨c, hc, rfl⟩ := map_get hx
                subst eH eσ
                refine ⟨_, rfl, _, 69621, rfl, rfl, .inr ⟨by decide, by decide⟩, _, rfl, _, c, rfl, rfl, _, rfl, _, _, rfl, rfl, .inl ⟨_, rfl, _, rfl, _, p, rfl, rfl, hpp.1, rfl, some (.int c), ?_⟩⟩
                have e : blendIn p (ls.turn + 1) (ls.cells.take (j + 1)) = (blendIn p (ls.turn + 1) (ls.cells.take j) * 69621 + c + (ls.turn + 1)) % p := step _ _ _ _ _ hc
                rw [e]; rfl
              · subst eH eσ
                have eb : ls.cells.take (ls.cells.map V.int).length = ls.cells := by rw [List.length_map, List.take_length]
                rw [eb]
                refine ⟨_, rfl, _, 2147483647, rfl, rfl, .inr ⟨by decide, by decide⟩, _, rfl, _, 5, rfl, rfl, ⟨by decide, by decide, blendIn_lt hpp.1 hpp.2 (by omega) (by omega) _⟩, .inl ⟨_, rfl, _, rfl, _, p, rfl, rfl, hpp.1, _, _, rfl, rfl, rfl, some (.int p), some (.int (blendIn p (ls.turn + 1) ls.cells)), x5, ?_⟩⟩
                have e : (primes.take (i + 1)).foldl (blendStep (ls.turn + 1) ls.cells) 0 = blendStep (ls.turn + 1) ls.cells ((primes.take i).foldl (blendStep (ls.turn + 1) ls.cells) 0) p := step _ _ _ _ _ hp
                rw [e]; rfl
            · subst eH eσ
              exact ⟨_, rfl, g2 _ (by rw [List.length_map, List.take_length]; rfl)⟩
          · rw [if_neg hc] at gg; exact gg.elim
        | _ => exact (show False from g).elim
/-! ### the state's fields -/
def hasSelf (ls : LS) : Option Sl → Bool
  | some (.dat (.ref a)) => decide (a = ls.self)
  | _ => false
def stM {α : Type} (i : Nat) (k : LS → Option (α × LS)) : M α := fun ρ ls => if hasSelf ls ρ[i]? = true then match k ls with
  | some (a, ls') => .ok a ρ ls'
  | none => .no
  else .no
def getRest (i : Nat) : M D := stM i fun ls => some (.int ls.rest, ls)
def greatNE (i : Nat) : M D := stM i fun ls => some (.bl (!decide (ls.great = [])), ls)
def popGreat (i : Nat) : M D := stM i fun ls => match ls.great with
  | x :: xs => some (.int x, { ls with great := xs })
  | [] => none
def setRest (i : Nat) (f : M D) : PM := lift f fun d ρ ls => match d with
  | .int r => if hasSelf ls ρ[i]? = true then .nx ρ { ls with rest := r } else .no
  | _ => .no
variable {X : Cx} {W : WX} {wd : Wd} {B D0 Hd H : Hp} {σ : L2.St} {ρ : Rho} {ls : LS}
theorem EOk.self (E : EOk K wd B D0 Hd H σ ρ ls) {i : Nat} (h : hasSelf ls ρ[i]? = true) : σ[i]? = some (some (.ref wd.a)) := by
  unfold hasSelf at h
  split at h
  · rename_i a e
    obtain ⟨v, h1, h2⟩ := E.dat i _ e
    cases h2
    have h := of_decide_eq_true h
    rw [h1, h, E.st.hs]
  · cases h
theorem EOk.world {ls' : LS} {H' : Hp} (E : EOk K wd B D0 Hd H σ ρ ls) (s : SOk wd ls' H') (h : ∀ b, ¬ wd.Z b → H' b = H b) : EOk K wd B D0 Hd H' σ ρ ls' := by
  have nz : ∀ b o, Hd b = some o → ¬ wd.Z b := fun b o e z => by rw [E.noz b z] at e; cases e
  refine ⟨fun b o e z t => ?_, fun b e => ?_, fun b o e => ?_, E.sub0, E.noz, E.nt, E.fr, s, E.len, E.dat, fun i ds e => ?_, E.apart⟩
  · rw [h b z]; exact E.base b o e z t
  · by_cases z : wd.Z b
    · obtain ⟨o, e2⟩ := s.inH z
      rw [e] at e2; cases e2
    · rw [h b z] at e; exact E.dom b e
  · rw [h b (nz b o e)]; exact E.sub b o e
  · obtain ⟨p, xs, h1, h2, h3, h4, h5, h6⟩ := E.own i ds e
    exact ⟨p, xs, h1, by rw [h p h6]; exact h2, h3, h4, h5, h6⟩
theorem Go.xSt {α : Type} {i : Nat} {k : LS → Option (α × LS)} {P : Hp → Hp → Rho → LS → α → Prop} (h : Go K W wd B D0 σ Hd (stM i k ρ ls) P) : hasSelf ls ρ[i]? = true ∧ ∃ a ls', k ls = some (a, ls') ∧ ∀ Hd' H', EOk K wd B D0 Hd' H' σ ρ ls' → Sub Hd Hd' → P Hd' H' ρ ls' a := by
  unfold stM at h
  by_cases hs : hasSelf ls ρ[i]? = true
  · rw [if_pos hs] at h
    refine ⟨hs, ?_⟩
    cases e : k ls with
    | none => rw [e] at h; exact h.elim
    | some q => obtain ⟨a, ls'⟩ := q; rw [e] at h; exact ⟨a, ls', rfl, h⟩
  · rw [if_neg hs] at h; exact h.elim
theorem SOk.ne1 (s : SOk wd ls H) : wd.g ≠ wd.a := fun z => by have h := s.hg; rw [z, s.ha] at h; cases h
theorem SOk.ne2 (s : SOk wd ls H) : wd.c ≠ wd.a := fun z => by have h := s.hc; rw [z, s.ha] at h; cases h
variable {e : Expr} {pos : Pos}
theorem u_getRest (i : Nat) (hu : X.A.units + 1 < cLine) {jj pp} (h : PE X e (tVar i)) : PE X (.Subscript e (.Constant (.str "rest") jj pp) pos) (UV X.K W (getRest i)) := pe_imp (pe_dget hu h pe_str (fun _ _ => rfl)) fun σ H Q q => by
  obtain ⟨wd, B, D0, Hd, ρ, ls, E, q⟩ := q
  obtain ⟨hs, a, ls', ek, q⟩ := Go.xSt q
  cases ek
  exact ⟨_, E.self hs, wd.a, _, rfl, DGet.k (k := .inr "rest") E.st.ha, q Hd H E (Sub.refl _) _ (.int _)⟩
theorem read_setRest {i : Nat} {f : M D} {tv : TE} {De : Ends} (hv : ∀ Q, UV K W f σ H Q → tv σ H Q) (h : US K W (setRest i f) De σ H) : sDPut (tVar i) (tC (.str "rest")) tv De σ H := by
  refine hv _ (Ru.imp (US.lift h) fun w B D0 Hd' H' ρ' ls' d E q v r => ?_)
  cases d with
  | int x =>
    cases r
    have q : GoS K W w B D0 Hd' De (if hasSelf ls' ρ'[i]? = true then .nx ρ' { ls' with rest := x } else .no) := q
    by_cases hs : hasSelf ls' ρ'[i]? = true
    · rw [if_pos hs] at q
      refine ⟨_, E.self hs, w.a, _, rfl, DPut.k (k := .inr "rest") E.st.ha (show 4 < sizeLine by decide), ?_⟩
      refine q σ Hd' _ (E.world (ls' := { ls' with rest := x }) ⟨E.st.hs, by rw [upd_same]; rfl, ?_, ?_, E.st.hcg, tabs_upd E.st.tabs (lo_dK E.st.ha)⟩ fun b z => upd_ne fun y => z (.inl y)) (Sub.refl _)
      · rw [upd_ne E.st.ne1]; exact E.st.hg
      · rw [upd_ne E.st.ne2]; exact E.st.hc
    · rw [if_neg hs] at q; exact q.elim
  | _ => exact q.elim
theorem us_setRest (i : Nat) (hu : X.A.units + 1 < cLine) {jj pp spos} {f : M D} {v : Expr} (h : PE X e (tVar i)) (hv : PE X v (UV X.K W f)) (hs : swapsWith v (some (.Subscript e (.Constant (.str "rest") jj pp) spos)) pos.line X.env = pure false := by rfl) :
    PS X (.Assign [.Subscript e (.Constant (.str "rest") jj pp) spos] v pos) (US X.K W (setRest i f)) := ps_imp (ps_dput hu h pe_str hv hs) fun De σ H q => read_setRest (fun _ q => q) q
theorem read_greatNE {i : Nat} {Q : VK} (q : UV K W (greatNE i) σ H Q) : tOp (rNeD K) (tDGet (tVar i) (tC (.str "great"))) (tLst tNil) σ H Q := by
  obtain ⟨wd, B, D0, Hd, ρ, ls, E, q⟩ := q
  obtain ⟨hs, a, ls', ek, q⟩ := Go.xSt q
  cases ek
  refine ⟨_, E.self hs, wd.a, _, rfl, DGet.k (k := .inr "great") E.st.ha, by decide, fun p hp => ?_⟩
  obtain ⟨E2, F2⟩ := E.newList (xs := []) hp
  have hx : RpS K Hd (upd H p (.lst [])) (.ref wd.g) (.lst (zs ls.great)) := ⟨wd.g, _, rfl, E2.st.hg, RpL.ints _⟩
  have hy : RpS K Hd (upd H p (.lst [])) (.ref p) (.lst (zs [])) := ⟨p, [], rfl, upd_same, .nil⟩
  refine od_ne.run E2 hx hy (neD_of okq_ints okq_ints) Q fun t Hd' H' E' s' rt => ?_
  rw [eqb_ints] at rt
  exact q Hd' H' E' s' t rt
theorem ut_greatNE (i : Nat) (hu : X.A.units + 1 < cLine) (hu2 : X.A.units + 64 < cLine) {jj pp p1 p2} (h : PE X e (tVar i)) : PT X (.Compare (.Subscript e (.Constant (.str "great") jj pp) p1) [.NotEq] [.List [] p2] pos) (UT X.K W (bnd (greatNE i) isB)) :=
  pt_imp (pt_cmpR (op_neD hu2) (pe_dget hu h pe_str (fun _ _ => rfl)) (pe_lst pa_nil) (nomark _)) fun _ _ _ q => read_tst (fun _ _ _ q => read_greatNE q) q
theorem u_popGreat (i : Nat) (hu : X.A.units + 1 < cLine) {jj pp p1 apos cpos j0 p0} (h : PE X e (tVar i)) (hbase : attributeBase (.Subscript e (.Constant (.str "great") jj pp) p1) "pop" X.env (eval (.Subscript e (.Constant (.str "great") jj pp) p1) X.env) = eval (.Subscript e (.Constant (.str "great") jj pp) p1) X.env := by rfl)
    (hfew : ((backTo cpos (starEach [(.Constant (.int 0) j0 p0 : Expr)] X.env)).all (fun x => !x.1) && (backToKw cpos (keywordEach [] X.env)).all (fun x => x.1.isSome) && decide ([(.Constant (.int 0) j0 p0 : Expr)].length + ([] : List Keyword).length + (if ([] : List Keyword).isEmpty then 0 else 1) < 30)) = true := by rfl)
    (hline : (apos.endLine == cpos.line) = true := by rfl) :
    PE X (.Call (.Attribute (.Subscript e (.Constant (.str "great") jj pp) p1) "pop" apos) [.Constant (.int 0) j0 p0] [] cpos) (UV X.K W (popGreat i)) :=
  pe_imp (pe_bm PySem.F.plainAttrs_list PySem.F.slot_list_pop PySem.F.type_list_pop mt_popAt (pe_dget hu h pe_str (fun _ _ => rfl)) (pa_cons pe_int pa_nil) hbase hfew hline) fun σ H Q q => by
  obtain ⟨wd, B, D0, Hd, ρ, ls, E, q⟩ := q
  obtain ⟨hs, a, ls', ek, q⟩ := Go.xSt q
  refine ⟨_, E.self hs, wd.a, .ref wd.g, rfl, DGet.k (k := .inr "great") E.st.ha, .inl ⟨rfl, _, SqL.of E.st.hg⟩, ?_⟩
  cases eg : ls.great with
  | nil => rw [eg] at ek; cases ek
  | cons x xs =>
    rw [eg] at ek
    cases ek
    have hg := E.st.hg
    rw [eg] at hg
    refine ⟨wd.g, _, 0, 0, .int x, rfl, rfl, hg, by decide, by decide, ?_, rfl, ?_⟩
    · exact (ixN_seq (by unfold ixN; rw [if_pos (by decide), if_pos (by rw [List.length_map, List.length_cons]; omega)]; rfl)).1
    · refine q Hd _ (E.world ⟨E.st.hs, ?_, upd_same, ?_, E.st.hcg, tabs_upd E.st.tabs (lo_lst E.st.hg)⟩ fun b z => upd_ne fun y => z (.inr (.inl y))) (Sub.refl _) _ (.int _)
      · rw [upd_ne E.st.ne1.symm]; exact E.st.ha
      · rw [upd_ne E.st.hcg]; exact E.st.hc
/-! ### _law_draw -/
def pDraw : PM := seqP (ifP (bnd (bin eqD (dt (getRest 0)) (dt (ret (.int 0)))) isB) (setRest 0 (ifM (bnd (greatNE 0) isB) (popGreat 0) (callM 1 FBlend (consM (bnd (nam 0) give) (ret []))))) skip)
  (seqP (setV 2 (bin modD (dt (uno intD (dt (getRest 0)))) (nam 1))) (seqP (setRest 0 (bin fdivD (dt (getRest 0)) (nam 1))) (retP (bnd (nam 2) give))))
def FDraw : FS := fun ds ls => endF (pDraw (ini 3 ds) ls)
theorem ok_draw {f : Addr} {fd : FuncData} (F : Fun K "_law_draw" "_law_draw" s_law_draw f fd) (Gb : Has P w K mg base "_law_blended" ["_law_state"] 1 1 FBlend) (mi : mg "int" = none) : FnOk P w K mg base (L2.CX P w) 2 f fd ["_law_state", "_law_room"] (spD K 2 FDraw) := by
  refine fn_ok F sc_draw rfl (fun cdv A outer s H E hr => ?_) (p := pDraw) fun ds ls h => .inr rfl
  exact us_cons (us_if (ut_cmp (op_eqD hr.units) od_eq (u_dt (u_getRest 0 (hu_of hr) (pv 0))) (u_dt u_int) (nomark _)) (us_one (us_setRest 0 (hu_of hr) (pv 0) (u_if (ut_greatNE 0 (hu_of hr) hr.units (pv 0)) (u_popGreat 0 (hu_of hr) (pv 0)) (u_callH Gb hr (takes_of rfl rfl rfl rfl) (ua_cons (u_give (u_nam 0 (pv 0))) ua_nil))))) us_nil)
    (us_cons (us_set 2 sc_draw.nd (u_op op_mod od_mod (u_dt (u_intc mi (u_dt (u_getRest 0 (hu_of hr) (pv 0))))) (u_nam 1 (pv 1))))
    (us_cons (us_setRest 0 (hu_of hr) (pv 0) (u_op op_fdiv od_fdiv (u_dt (u_getRest 0 (hu_of hr) (pv 0))) (u_nam 1 (pv 1))))
    (us_one (us_ret (u_give (u_nam 2 (pv 2)))))))
end
end Pd

set_option Elab.async false
set_option linter.all false
set_option maxRecDepth 100000
set_option maxHeartbeats 4000000
namespace Pd
open PySem PySem.Spec PyProof.Rows L2
abbrev s_law_caught : Stmt := topS 31
abbrev nCaught : List Str := ["_law_action", "_law_found", "error"]
theorem sc_caught : FnScope nCaught ["_law_action"] (defScope s_law_caught) := ⟨rfl, rfl, rfl, by decide +kernel, rfl, by decide +kernel, by decide +kernel⟩
theorem caught_gives {X : Cx} {g CS : Addr} {cdg : Value} {q : Str} (hme : X.mg "KeepError" = some (.ref CS)) :
    LamX.GivesTo X nCaught "_law_caught" (defScope s_law_caught) g cdg (defBody s_law_caught) "_law_action" q (TTc X.K CS) := by
  intro f c' s H Q tl act hc h
  refine ⟨_, pss_cons (ps_set (X := (cxOf C8.CX0 X.prog X.w X.K X.mg X.base nCaught "_law_caught" (defScope s_law_caught) g cdg X.A X.stack s H C8.E0).nox) (i := 1) sc_caught.nd rfl (.inl rfl) pe_non rfl (.inr rfl))
    (pss_cons (ps_keep (c := .ref CS) (i := 2) (j := 1) (tb := fun W De σ H => ∃ Ech : XK, (∀ cls d σ' H', Ech cls d H' → W cls d σ' H') ∧ σ[0]? = some (some (.ref f)) ∧ H c' = some (LamX.CodeO c' q) ∧ tl Ech H (fun _ H' => De.nx σ H'))
        rfl rfl sc_caught.nd rfl rfl rfl rfl ⟨rfl, by decide, .inl hme⟩ (by decide) (by decide) (fun _ _ => rfl) LamX.takes0 (fun W pn xe tk _ => ?_) (show 2 < 3 by decide))
    (pss_one (ps_ret (pv 1)))), ?_⟩
  · refine pss_one ⟨fun pins s' σ H' D I h' => ?_⟩
    obtain ⟨Ech, hW, h1, h2, h3⟩ := h'
    exact (ps_expr (act W pn xe Ech _ _ tk hW)).run pins s' σ H' D I ⟨h1, h2, h3⟩
  · refine ⟨fun cls d H' => ∃ C : Addr, cls = .ref C ∧ d = none ∧ PySem.W.exmOne X.K cls (.ref CS) = some true ∧ ∀ a, H' a = none → Q (.ref a) (upd H' a (ExI C a)), fun cls d σ' H' ⟨C, e1, e2, e3, e4⟩ => ⟨C, e1, e2, e3, fun hl a ha => ⟨.ref a, ?_, e4 a ha⟩⟩, rfl, hc, ?_⟩
    · have hl : σ'.length = 3 := hl
      rw [List.getElem?_set_ne (by decide), List.getElem?_set_self (by rw [List.length_set, hl]; decide)]
    · have e : (fun (_ : V) (H' : Hp) => ∃ v, ((L2.start nCaught [V.ref f]).set 1 (some .non))[1]? = some (some v) ∧ Q v H') = fun _ H' => Q .non H' := by
        funext _ H'
        exact propext ⟨fun ⟨v, h1, h2⟩ => by cases h1; exact h2, fun h2 => ⟨.non, rfl, h2⟩⟩
      show tl _ H (fun (_ : V) (H' : Hp) => ∃ v, ((L2.start nCaught [V.ref f]).set 1 (some .non))[1]? = some (some v) ∧ Q v H')
      rw [e]
      exact h
theorem u_caught {X : Cx} {W : WX} {T : List (Addr × Str)} {cs : List Addr} {g c Pt CS : Addr} {fdc : FuncData} {k k2 : Nat} {params : Arguments} {body : Expr} {scope : Scope} {f : M D} {p lpos pos : Pos} (Fc : Fun X.K "_law_caught" "_law_caught" s_law_caught g fdc) (gm : X.mg "_law_caught" = some (.ref g)) (bc : L2.Binds X.K fdc ["_law_action"] [])
    (hme : X.mg "KeepError" = some (.ref CS)) (hcs : ∀ C ∈ cs, PySem.W.exmOne X.K (.ref C) (.ref CS) = some true)
    (TB : LamX.TabB X.base X.mg c Pt) (hcode : X.env.code = .ref c) (hmT : (Pt, X.env.qual ++ "<lambda>") ∈ T) (hu : ∀ p ∈ T, p.1 = Pt → p.2 = X.env.qual ++ "<lambda>") (hr : Room k2 X.A)
    (hbody : ∀ (A : Around) (outer : List Env) (s : Shared) (H : Hp) (E : XK) (f' c' : Addr), Room k (A.deeper (LamX.lamEnv X scope s.heap.objs.size f' c')) → PE (LamX.lamCx X A outer s H E scope f' c') body (UV X.K (fun cls d _ H => E cls d H) f))
    (hk : k + 2 ≤ k2 := by decide) (L : LamX.LamS X.env.scope scope := by exact LamX.lamS_by (by decide +kernel)) (hdef : defaultsOf params X.env = ([], []) := by rfl) (hbind : ∀ (q : Str) (cl : List (Str × Addr)) (pm cv ctv : Value), bindArgs (PySem.W.kla_fn "<lambda>" q params body scope cl pm cv ctv) ⟨[], []⟩ = pure [] := by intros; rfl) (hg : Gl X "_law_caught" := by rfl) :
    PE X (.Call (.Name "_law_caught" p) [.Lambda params body scope lpos] [] pos) (UV X.K W (caughtM T cs f)) := by
  obtain ⟨oc, od, kV, doc, pm, an, cdv, ct, osl, rfl, lk, hcd⟩ := Fc.ex
  exact pe_imp (LamX.pe_lamcall (Ng := nCaught) (t := fun E => UV X.K (fun cls d _ H => E cls d H) f) hg gm Fc.kp lk hcd bc sc_caught rfl (.inl rfl) (caught_gives hme) TB hcode hmT hu (hr.mono hk) L hdef hbind hbody) fun σ H Q q => read_caught hcs (fun _ _ _ _ q => q) q
end Pd

set_option Elab.async false
set_option linter.all false
set_option maxRecDepth 100000
set_option maxHeartbeats 4000000
/-! the walk -/
namespace Pd
open PySem PySem.Spec PyProof.Rows L2
structure En where
  T : List (Addr × Str)
  KeepError : Addr
  BadDeeds : Addr
  BadRow : Addr
def En.cs (en : En) : List Addr := [en.BadDeeds, en.BadRow]
def En.t_BadDeeds (en : En) : List (Addr × Bool) := [(en.BadDeeds, true), (en.BadRow, false)]
def En.t_BadRow (en : En) : List (Addr × Bool) := [(en.BadDeeds, false), (en.BadRow, true)]
structure SF (K : PySem.W.Frag) (mg : Str → Option Value) (en : En) : Prop where
  m_abs : mg "abs" = none
  m_all : mg "all" = none
  m_bool : mg "bool" = none
  g_MOST_DEEDS : ∃ t, mg "MOST_DEEDS" = some (.int 4 t)
  g_MOST_IN_ROW : ∃ t, mg "MOST_IN_ROW" = some (.int 200 t)
  m_int : mg "int" = none
  m_isinstance : mg "isinstance" = none
  m_len : mg "len" = none
  m_list : mg "list" = none
  m_min : mg "min" = none
  m_range : mg "range" = none
  m_reversed : mg "reversed" = none
  m_str : mg "str" = none
  m_tuple : mg "tuple" = none
  c_BadDeeds : ECl K mg "BadDeeds" en.BadDeeds
  c_BadRow : ECl K mg "BadRow" en.BadRow
  ke : mg "KeepError" = some (.ref en.KeepError)
  cs_ok : ∀ C ∈ en.cs, PySem.W.exmOne K (.ref C) (.ref en.KeepError) = some true
  is_BadDeeds : ∀ p ∈ en.t_BadDeeds, ExcC K p.1 ∧ PySem.W.kitOne K (.ref p.1) (.ref en.BadDeeds) = some p.2
  is_BadRow : ∀ p ∈ en.t_BadRow, ExcC K p.1 ∧ PySem.W.kitOne K (.ref p.1) (.ref en.BadRow) = some p.2
structure Dst (en : En) : Prop where
  n_BadDeeds_BadRow : en.BadDeeds ≠ en.BadRow
theorem cs_BadDeeds {en : En} : (en.BadDeeds ∈ en.cs) = True := by simp [En.cs]
theorem cs_BadRow {en : En} : (en.BadRow ∈ en.cs) = True := by simp [En.cs]
theorem isiE_BadDeeds {en : En} : isiE en.t_BadDeeds (.exn en.BadDeeds) = some (.bl true) := by
  simp [isiE, En.t_BadDeeds, List.lookup]
theorem isiE_BadRow {en : En} (D : Dst en) : isiE en.t_BadRow (.exn en.BadRow) = some (.bl true) := by
  have h_BadDeeds : (en.BadRow == en.BadDeeds) = false := by simpa using D.n_BadDeeds_BadRow.symm
  simp [isiE, En.t_BadRow, List.lookup, h_BadDeeds]
structure CaF (K : PySem.W.Frag) (mg : Str → Option Value) (g : Addr) (fdc : FuncData) : Prop where
  Fc : Fun K "_law_caught" "_law_caught" s_law_caught g fdc
  gm : mg "_law_caught" = some (.ref g)
  bc : L2.Binds K fdc ["_law_action"] []
section
variable {P : Program} {w : World} {K : PySem.W.Frag} {mg : Str → Option Value} {base : Heap} {en : En}

/-! ### is_whole -/
abbrev s_is_whole : Stmt := topS 5
abbrev N_is_whole : List Str := ["value"]
theorem sc_is_whole : FnScope N_is_whole ["value"] (defScope s_is_whole) := ⟨rfl, rfl, rfl, by decide +kernel, rfl, by decide +kernel, by decide +kernel⟩
def p_is_whole (en : En) : PM :=
    (retP (andV (uno (isiD .int) (nam 0)) (notV (uno (isiD .bool) (nam 0)))))
def F_is_whole (en : En) : FS := fun ds ls => endF (p_is_whole en (ini 1 ds) ls)
theorem ok_is_whole (S : SF K mg en) {f : Addr} {fd : FuncData} (F : Fun K "is_whole" "is_whole" s_is_whole f fd) : FnOk P w K mg base (L2.CX P w) 1 f fd ["value"] (spD K 1 (F_is_whole en)) := by
  have sc := sc_is_whole
  refine fn_ok F sc rfl (fun cdv A outer s H E hr => ?_) (p := p_is_whole en) fun ds ls h => .inr rfl
  exact (us_one (us_ret (u_and (u_isi .int S.m_isinstance (u_nam 0 (pv 0)) (pe_ty S.m_int)) (u_one (u_not (u_isi .bool S.m_isinstance (u_nam 0 (pv 0)) (pe_ty S.m_bool)))))))

/-! ### plain_of -/
abbrev s_plain_of : Stmt := topS 13
abbrev N_plain_of : List Str := ["letters", "found", "letter"]
theorem sc_plain_of : FnScope N_plain_of ["letters"] (defScope s_plain_of) := ⟨rfl, rfl, rfl, by decide +kernel, rfl, by decide +kernel, by decide +kernel⟩
def p_plain_of (en : En) : PM :=
    (seqP (setN 1 (lstM (ret [])))
    (seqP (forP (tgName 2) (itemsM (bnd (nam 0) give)) (ifP (andM (bnd (bin neD (nam 1) (dt (ls1 (lstM (ret []))))) isB) (bnd (bin eqD (dt (bin atD (nam 1) (dt (uno negD (dt (ret (.int 1))))))) (dt (bin subD (dt (ret (.int 0))) (nam 2)))) isB)) (drop (meth0M 1 popD)) (drop (methM 1 appD (bnd (nam 2) give)))))
    (retP (uno tupleD (nam 1)))))
def F_plain_of (en : En) : FS := fun ds ls => endF (p_plain_of en (ini 3 ds) ls)
theorem ok_plain_of (S : SF K mg en) {f : Addr} {fd : FuncData} (F : Fun K "plain_of" "plain_of" s_plain_of f fd) : FnOk P w K mg base (L2.CX P w) 1 f fd ["letters"] (spD K 1 (F_plain_of en)) := by
  have sc := sc_plain_of
  refine fn_ok F sc rfl (fun cdv A outer s H E hr => ?_) (p := p_plain_of en) fun ds ls h => .inr rfl
  exact (us_cons (us_setN 1 sc.nd (u_lst ua_nil))
    (us_cons (us_for (passes_of rfl) rfl (ui_seq (u_give (u_nam 0 (pv 0)))) (pg_name (i := 2) sc.nd rfl (by first | exact Or.inl rfl | exact Or.inr rfl)) tg_name (us_one (us_if (PW.pt (ut_and (ut_cmp (op_neD hr.units) od_ne (u_nam 1 (pv 1)) (u_dt (u_ls (u_lst ua_nil))) (nomark _)) (ut_and1 (ut_cmp (op_eqD hr.units) od_eq (u_dt (u_at (u_nam 1 (pv 1)) (u_dt (u_neg (u_dt u_int))) (fun _ _ => rfl))) (u_dt (u_op op_sub od_sub (u_dt u_int) (u_nam 2 (pv 2)))) (nomark _))))) (us_one (us_expr (u_pop 1 (pv 1)))) (us_one (us_expr (u_append 1 (pv 1) (u_give (u_nam 2 (pv 2)))))))))
    (us_one (us_ret (u_tuple S.m_tuple (u_nam 1 (pv 1)))))))

/-! ### undone_of -/
abbrev s_undone_of : Stmt := topS 14
abbrev N_undone_of : List Str := ["row", "letter"]
theorem sc_undone_of : FnScope N_undone_of ["row"] (defScope s_undone_of) := ⟨rfl, rfl, rfl, by decide +kernel, rfl, by decide +kernel, by decide +kernel⟩
def p_undone_of (en : En) : PM :=
    (retP (uno tupleD (dt (ls1 (lcM (ritemsM (bnd (nam 0) give)) (tgName 1) (ret true) (bin subD (dt (ret (.int 0))) (nam 1)) [1])))))
def F_undone_of (en : En) : FS := fun ds ls => endF (p_undone_of en (ini 2 ds) ls)
theorem ok_undone_of (S : SF K mg en) {f : Addr} {fd : FuncData} (F : Fun K "undone_of" "undone_of" s_undone_of f fd) : FnOk P w K mg base (L2.CX P w) 1 f fd ["row"] (spD K 1 (F_undone_of en)) := by
  have sc := sc_undone_of
  refine fn_ok F sc rfl (fun cdv A outer s H E hr => ?_) (p := p_undone_of en) fun ds ls h => .inr rfl
  exact (us_one (us_ret (u_tuple S.m_tuple (u_dt (u_ls (u_lc (own := [("letter", 1)]) rfl sc.nd (ui_rev S.m_reversed (u_give (u_nam 0 (pv 0)))) (blkOk_by (N := N_undone_of) (sc := defScope s_undone_of) (by decide +kernel)) tg_name (by decide) (fun _ _ _ _ _ => (pg_name (i := 1) sc.nd rfl (by first | exact Or.inl rfl | exact Or.inr rfl))) (fun _ _ _ _ _ => uts_nil) (fun _ _ _ _ _ => (u_op op_sub od_sub (u_dt u_int) (u_nam 1 (pv 1))))))))))

/-! ### tail_of -/
abbrev s_tail_of : Stmt := topS 18
abbrev N_tail_of : List Str := ["row", "cut"]
theorem sc_tail_of : FnScope N_tail_of ["row"] (defScope s_tail_of) := ⟨rfl, rfl, rfl, by decide +kernel, rfl, by decide +kernel, by decide +kernel⟩
def p_tail_of (en : En) : PM :=
    (seqP (setV 1 (ret (.int 0)))
    (seqP (whileP (andM (bnd (bin gtD (dt (bin subD (dt (uno lenD (nam 0))) (dt (bin mulD (dt (ret (.int 2))) (nam 1))))) (dt (ret (.int 1)))) isB) (bnd (bin eqD (dt (bin atD (nam 0) (nam 1))) (dt (bin subD (dt (ret (.int 0))) (dt (bin atD (nam 0) (dt (bin subD (dt (bin subD (dt (uno lenD (nam 0))) (dt (ret (.int 1))))) (nam 1)))))))) isB)) (augP 1 (fun a b => a + b) (ret (.int 1))) 1000)
    (retP (bnd (nam 1) give))))
def F_tail_of (en : En) : FS := fun ds ls => endF (p_tail_of en (ini 2 ds) ls)
theorem ok_tail_of (S : SF K mg en) {f : Addr} {fd : FuncData} (F : Fun K "tail_of" "tail_of" s_tail_of f fd) : FnOk P w K mg base (L2.CX P w) 1 f fd ["row"] (spD K 1 (F_tail_of en)) := by
  have sc := sc_tail_of
  refine fn_ok F sc rfl (fun cdv A outer s H E hr => ?_) (p := p_tail_of en) fun ds ls h => .inr rfl
  exact (us_cons (us_set 1 sc.nd u_int)
    (us_cons (us_while 1000 (passes_of rfl) (PW.pt (ut_and (ut_cmp op_gt od_gt (u_dt (u_op op_sub od_sub (u_dt (u_len S.m_len (u_nam 0 (pv 0)))) (u_dt (u_op op_mulU od_mul (u_dt u_int) (u_nam 1 (pv 1)))))) (u_dt u_int) (nomark _)) (ut_and1 (ut_cmp (op_eqD hr.units) od_eq (u_dt (u_at (u_nam 0 (pv 0)) (u_nam 1 (pv 1)) (fun _ _ => rfl))) (u_dt (u_op op_sub od_sub (u_dt u_int) (u_dt (u_at (u_nam 0 (pv 0)) (u_dt (u_op op_sub od_sub (u_dt (u_op op_sub od_sub (u_dt (u_len S.m_len (u_nam 0 (pv 0)))) (u_dt u_int))) (u_nam 1 (pv 1)))) (fun _ _ => rfl))))) (nomark _))))) (us_one (us_aug 1 ip_add sc.nd u_int)))
    (us_one (us_ret (u_give (u_nam 1 (pv 1)))))))

/-! ### least_start -/
abbrev s_least_start : Stmt := topS 19
abbrev N_least_start : List Str := ["row", "size", "one", "other", "same", "first", "second"]
theorem sc_least_start : FnScope N_least_start ["row"] (defScope s_least_start) := ⟨rfl, rfl, rfl, by decide +kernel, rfl, by decide +kernel, by decide +kernel⟩
def p_least_start (en : En) : PM :=
    (seqP (setV 1 (uno lenD (nam 0)))
    (seqP (lift (tupM (consM (ret (.int 0)) (consM (ret (.int 1)) (consM (ret (.int 0)) (ret []))))) (asgP (tgTup (tgCons (tgName 2) (tgCons (tgName 3) (tgCons (tgName 4) tgNil))))))
    (seqP (whileP (andM (bnd (bin ltD (nam 2) (nam 1)) isB) (andM (bnd (bin ltD (nam 3) (nam 1)) isB) (bnd (bin ltD (nam 4) (nam 1)) isB))) (seqP (par2 5 6 (consM (bin atD (nam 0) (dt (bin modD (dt (bin addD (nam 2) (nam 4))) (nam 1)))) (consM (bin atD (nam 0) (dt (bin modD (dt (bin addD (nam 3) (nam 4))) (nam 1)))) (ret []))))
    (seqP (ifP (bnd (bin eqD (nam 5) (nam 6)) isB) (seqP (augP 4 (fun a b => a + b) (ret (.int 1)))
    cnt) skip)
    (seqP (ifP (bnd (bin gtD (nam 5) (nam 6)) isB) (augP 2 (fun a b => a + b) (bin addD (nam 4) (dt (ret (.int 1))))) (augP 3 (fun a b => a + b) (bin addD (nam 4) (dt (ret (.int 1))))))
    (seqP (ifP (bnd (bin eqD (nam 2) (nam 3)) isB) (augP 3 (fun a b => a + b) (ret (.int 1))) skip)
    (setV 4 (ret (.int 0))))))) 1000)
    (retP (bin minD (nam 2) (nam 3))))))
def F_least_start (en : En) : FS := fun ds ls => endF (p_least_start en (ini 7 ds) ls)
theorem ok_least_start (S : SF K mg en) {f : Addr} {fd : FuncData} (F : Fun K "least_start" "least_start" s_least_start f fd) : FnOk P w K mg base (L2.CX P w) 1 f fd ["row"] (spD K 1 (F_least_start en)) := by
  have sc := sc_least_start
  refine fn_ok F sc rfl (fun cdv A outer s H E hr => ?_) (p := p_least_start en) fun ds ls h => .inr rfl
  exact (us_cons (us_set 1 sc.nd (u_len S.m_len (u_nam 0 (pv 0))))
    (us_cons (us_asg (u_tup (ua_cons u_int (ua_cons u_int (ua_cons u_int ua_nil)))) (pg_tup rfl (pgs_cons (pg_name (i := 2) sc.nd rfl (by first | exact Or.inl rfl | exact Or.inr rfl)) (pgs_cons (pg_name (i := 3) sc.nd rfl (by first | exact Or.inl rfl | exact Or.inr rfl)) (pgs_cons (pg_name (i := 4) sc.nd rfl (by first | exact Or.inl rfl | exact Or.inr rfl)) pgs_nil)))) (tgs_len (tgnS (tgnS (tgnS tgn0))) (tg_cons tg_name (tg_cons tg_name (tg_cons tg_name tg_nil)))))
    (us_cons (us_while 1000 (passes_of rfl) (PW.pt (ut_and (ut_cmp op_lt od_lt (u_nam 2 (pv 2)) (u_nam 1 (pv 1)) (nomark _)) (ut_and (ut_cmp op_lt od_lt (u_nam 3 (pv 3)) (u_nam 1 (pv 1)) (nomark _)) (ut_and1 (ut_cmp op_lt od_lt (u_nam 4 (pv 4)) (u_nam 1 (pv 1)) (nomark _)))))) (us_cons (us_par 5 6 rfl sc.nd (ua_cons (u_at (u_nam 0 (pv 0)) (u_dt (u_op op_mod od_mod (u_dt (u_op op_addU od_add (u_nam 2 (pv 2)) (u_nam 4 (pv 4)))) (u_nam 1 (pv 1)))) (fun _ _ => rfl)) (ua_cons (u_at (u_nam 0 (pv 0)) (u_dt (u_op op_mod od_mod (u_dt (u_op op_addU od_add (u_nam 3 (pv 3)) (u_nam 4 (pv 4)))) (u_nam 1 (pv 1)))) (fun _ _ => rfl)) ua_nil)))
    (us_cons (us_if (ut_cmp (op_eqD hr.units) od_eq (u_nam 5 (pv 5)) (u_nam 6 (pv 6)) (nomark _)) (us_cons (us_aug 4 ip_add sc.nd u_int)
    (us_one us_continue)) us_nil)
    (us_cons (us_if (ut_cmp op_gt od_gt (u_nam 5 (pv 5)) (u_nam 6 (pv 6)) (nomark _)) (us_one (us_aug 2 ip_add sc.nd (u_op op_addU od_add (u_nam 4 (pv 4)) (u_dt u_int)))) (us_one (us_aug 3 ip_add sc.nd (u_op op_addU od_add (u_nam 4 (pv 4)) (u_dt u_int)))))
    (us_cons (us_if (ut_cmp (op_eqD hr.units) od_eq (u_nam 2 (pv 2)) (u_nam 3 (pv 3)) (nomark _)) (us_one (us_aug 3 ip_add sc.nd u_int)) us_nil)
    (us_one (us_set 4 sc.nd u_int)))))))
    (us_one (us_ret (u_min S.m_min rfl (u_nam 2 (pv 2)) (u_nam 3 (pv 3))))))))

/-! ### _law_mk_plain -/
abbrev s_law_mk_plain : Stmt := topS 32
abbrev N_law_mk_plain : List Str := ["_law_letters", "_law_found", "_law_letter"]
theorem sc_law_mk_plain : FnScope N_law_mk_plain ["_law_letters"] (defScope s_law_mk_plain) := ⟨rfl, rfl, rfl, by decide +kernel, rfl, by decide +kernel, by decide +kernel⟩
def p_law_mk_plain (en : En) : PM :=
    (seqP (setN 1 (lstM (ret [])))
    (seqP (forP (tgName 2) (itemsM (bnd (nam 0) give)) (ifP (andM (bnd (bin neD (nam 1) (dt (ls1 (lstM (ret []))))) isB) (bnd (bin eqD (dt (bin atD (nam 1) (dt (uno negD (dt (ret (.int 1))))))) (dt (bin subD (dt (ret (.int 0))) (nam 2)))) isB)) (drop (meth0M 1 popD)) (drop (methM 1 appD (bnd (nam 2) give)))))
    (retP (uno tupleD (nam 1)))))
def F_law_mk_plain (en : En) : FS := fun ds ls => endF (p_law_mk_plain en (ini 3 ds) ls)
theorem ok_law_mk_plain (S : SF K mg en) {f : Addr} {fd : FuncData} (F : Fun K "_law_mk_plain" "_law_mk_plain" s_law_mk_plain f fd) : FnOk P w K mg base (L2.CX P w) 1 f fd ["_law_letters"] (spD K 1 (F_law_mk_plain en)) := by
  have sc := sc_law_mk_plain
  refine fn_ok F sc rfl (fun cdv A outer s H E hr => ?_) (p := p_law_mk_plain en) fun ds ls h => .inr rfl
  exact (us_cons (us_setN 1 sc.nd (u_lst ua_nil))
    (us_cons (us_for (passes_of rfl) rfl (ui_seq (u_give (u_nam 0 (pv 0)))) (pg_name (i := 2) sc.nd rfl (by first | exact Or.inl rfl | exact Or.inr rfl)) tg_name (us_one (us_if (PW.pt (ut_and (ut_cmp (op_neD hr.units) od_ne (u_nam 1 (pv 1)) (u_dt (u_ls (u_lst ua_nil))) (nomark _)) (ut_and1 (ut_cmp (op_eqD hr.units) od_eq (u_dt (u_at (u_nam 1 (pv 1)) (u_dt (u_neg (u_dt u_int))) (fun _ _ => rfl))) (u_dt (u_op op_sub od_sub (u_dt u_int) (u_nam 2 (pv 2)))) (nomark _))))) (us_one (us_expr (u_pop 1 (pv 1)))) (us_one (us_expr (u_append 1 (pv 1) (u_give (u_nam 2 (pv 2)))))))))
    (us_one (us_ret (u_tuple S.m_tuple (u_nam 1 (pv 1)))))))

/-! ### _law_mk_undone -/
abbrev s_law_mk_undone : Stmt := topS 33
abbrev N_law_mk_undone : List Str := ["_law_row", "_law_letter"]
theorem sc_law_mk_undone : FnScope N_law_mk_undone ["_law_row"] (defScope s_law_mk_undone) := ⟨rfl, rfl, rfl, by decide +kernel, rfl, by decide +kernel, by decide +kernel⟩
def p_law_mk_undone (en : En) : PM :=
    (retP (uno tupleD (dt (ls1 (lcM (itemsM (uno revD (nam 0))) (tgName 1) (ret true) (bin subD (dt (ret (.int 0))) (nam 1)) [1])))))
def F_law_mk_undone (en : En) : FS := fun ds ls => endF (p_law_mk_undone en (ini 2 ds) ls)
theorem ok_law_mk_undone (S : SF K mg en) {f : Addr} {fd : FuncData} (F : Fun K "_law_mk_undone" "_law_mk_undone" s_law_mk_undone f fd) : FnOk P w K mg base (L2.CX P w) 1 f fd ["_law_row"] (spD K 1 (F_law_mk_undone en)) := by
  have sc := sc_law_mk_undone
  refine fn_ok F sc rfl (fun cdv A outer s H E hr => ?_) (p := p_law_mk_undone en) fun ds ls h => .inr rfl
  exact (us_one (us_ret (u_tuple S.m_tuple (u_dt (u_ls (u_lc (own := [("_law_letter", 1)]) rfl sc.nd (ui_seq (u_rev (u_nam 0 (pv 0)))) (blkOk_by (N := N_law_mk_undone) (sc := defScope s_law_mk_undone) (by decide +kernel)) tg_name (by decide) (fun _ _ _ _ _ => (pg_name (i := 1) sc.nd rfl (by first | exact Or.inl rfl | exact Or.inr rfl))) (fun _ _ _ _ _ => uts_nil) (fun _ _ _ _ _ => (u_op op_sub od_sub (u_dt u_int) (u_nam 1 (pv 1))))))))))

/-! ### _law_mk_letters -/
abbrev s_law_mk_letters : Stmt := topS 34
abbrev N_law_mk_letters : List Str := ["_law_deeds", "_law_deed"]
theorem sc_law_mk_letters : FnScope N_law_mk_letters ["_law_deeds"] (defScope s_law_mk_letters) := ⟨rfl, rfl, rfl, by decide +kernel, rfl, by decide +kernel, by decide +kernel⟩
def p_law_mk_letters (en : En) : PM :=
    (retP (bin addD (dt (ls1 (bin lr2D (dt (ret (.int 1))) (dt (bin addD (nam 0) (dt (ret (.int 1)))))))) (dt (ls1 (lcM (bnd (consM (ret (.int 1)) (consM (bin addD (nam 0) (dt (ret (.int 1)))) (ret []))) fun ds => opt (rng2D ds)) (tgName 1) (ret true) (bin subD (dt (ret (.int 0))) (nam 1)) [1])))))
def F_law_mk_letters (en : En) : FS := fun ds ls => endF (p_law_mk_letters en (ini 2 ds) ls)
theorem ok_law_mk_letters (S : SF K mg en) {f : Addr} {fd : FuncData} (F : Fun K "_law_mk_letters" "_law_mk_letters" s_law_mk_letters f fd) : FnOk P w K mg base (L2.CX P w) 1 f fd ["_law_deeds"] (spD K 1 (F_law_mk_letters en)) := by
  have sc := sc_law_mk_letters
  refine fn_ok F sc rfl (fun cdv A outer s H E hr => ?_) (p := p_law_mk_letters en) fun ds ls h => .inr rfl
  exact (us_one (us_ret (u_op op_addU od_add (u_dt (u_ls (u_listRange2 rfl S.m_list S.m_range (u_dt u_int) (u_dt (u_op op_addU od_add (u_nam 0 (pv 0)) (u_dt u_int)))))) (u_dt (u_ls (u_lc (own := [("_law_deed", 1)]) rfl sc.nd (ui_range2 S.m_range (ua_cons u_int (ua_cons (u_op op_addU od_add (u_nam 0 (pv 0)) (u_dt u_int)) ua_nil))) (blkOk_by (N := N_law_mk_letters) (sc := defScope s_law_mk_letters) (by decide +kernel)) tg_name (by decide) (fun _ _ _ _ _ => (pg_name (i := 1) sc.nd rfl (by first | exact Or.inl rfl | exact Or.inr rfl))) (fun _ _ _ _ _ => uts_nil) (fun _ _ _ _ _ => (u_op op_sub od_sub (u_dt u_int) (u_nam 1 (pv 1))))))))))

/-! ### _law_mr_whole -/
abbrev s_law_mr_whole : Stmt := topS 40
abbrev N_law_mr_whole : List Str := ["_law_thing"]
theorem sc_law_mr_whole : FnScope N_law_mr_whole ["_law_thing"] (defScope s_law_mr_whole) := ⟨rfl, rfl, rfl, by decide +kernel, rfl, by decide +kernel, by decide +kernel⟩
def p_law_mr_whole (en : En) : PM :=
    (retP (andV (uno (isiD .int) (nam 0)) (notV (uno (isiD .bool) (nam 0)))))
def F_law_mr_whole (en : En) : FS := fun ds ls => endF (p_law_mr_whole en (ini 1 ds) ls)
theorem ok_law_mr_whole (S : SF K mg en) {f : Addr} {fd : FuncData} (F : Fun K "_law_mr_whole" "_law_mr_whole" s_law_mr_whole f fd) : FnOk P w K mg base (L2.CX P w) 1 f fd ["_law_thing"] (spD K 1 (F_law_mr_whole en)) := by
  have sc := sc_law_mr_whole
  refine fn_ok F sc rfl (fun cdv A outer s H E hr => ?_) (p := p_law_mr_whole en) fun ds ls h => .inr rfl
  exact (us_one (us_ret (u_and (u_isi .int S.m_isinstance (u_nam 0 (pv 0)) (pe_ty S.m_int)) (u_one (u_not (u_isi .bool S.m_isinstance (u_nam 0 (pv 0)) (pe_ty S.m_bool)))))))

/-! ### is_between -/
abbrev s_is_between : Stmt := topS 6
abbrev N_is_between : List Str := ["value", "low", "high"]
theorem sc_is_between : FnScope N_is_between ["value", "low", "high"] (defScope s_is_between) := ⟨rfl, rfl, rfl, by decide +kernel, rfl, by decide +kernel, by decide +kernel⟩
def p_is_between (en : En) : PM :=
    (retP (andV (callM 1 (F_is_whole en) (consM (bnd (nam 0) give) (ret []))) (chainM leD leD (nam 1) (nam 0) (nam 2))))
def F_is_between (en : En) : FS := fun ds ls => endF (p_is_between en (ini 3 ds) ls)
theorem ok_is_between (S : SF K mg en) {f : Addr} {fd : FuncData} (F : Fun K "is_between" "is_between" s_is_between f fd) (G_is_whole : Has P w K mg base "is_whole" ["value"] 1 1 (F_is_whole en)) : FnOk P w K mg base (L2.CX P w) 2 f fd ["value", "low", "high"] (spD K 3 (F_is_between en)) := by
  have sc := sc_is_between
  refine fn_ok F sc rfl (fun cdv A outer s H E hr => ?_) (p := p_is_between en) fun ds ls h => .inr rfl
  exact (us_one (us_ret (u_and (u_callH G_is_whole hr (takes_of rfl rfl rfl rfl) (ua_cons (u_give (u_nam 0 (pv 0))) ua_nil)) (u_one (u_chain op_le op_le od_le od_le (u_nam 1 (pv 1)) (u_nam 0 (pv 0)) (u_nam 2 (pv 2)))))))

/-! ### product_of -/
abbrev s_product_of : Stmt := topS 15
abbrev N_product_of : List Str := ["some", "row", "letter"]
theorem sc_product_of : FnScope N_product_of ["some"] (defScope s_product_of) := ⟨rfl, rfl, rfl, by decide +kernel, rfl, by decide +kernel, by decide +kernel⟩
def p_product_of (en : En) : PM :=
    (retP (callM 1 (F_plain_of en) (consM (ls1 (lc2M (itemsM (bnd (nam 0) give)) (tgName 1) (ret true) (itemsM (bnd (nam 1) give)) (tgName 2) (ret true) (bnd (nam 2) give) [1, 2] [2])) (ret []))))
def F_product_of (en : En) : FS := fun ds ls => endF (p_product_of en (ini 3 ds) ls)
theorem ok_product_of (S : SF K mg en) {f : Addr} {fd : FuncData} (F : Fun K "product_of" "product_of" s_product_of f fd) (G_plain_of : Has P w K mg base "plain_of" ["letters"] 1 1 (F_plain_of en)) : FnOk P w K mg base (L2.CX P w) 2 f fd ["some"] (spD K 1 (F_product_of en)) := by
  have sc := sc_product_of
  refine fn_ok F sc rfl (fun cdv A outer s H E hr => ?_) (p := p_product_of en) fun ds ls h => .inr rfl
  exact (us_one (us_ret (u_callH G_plain_of hr (takes_of rfl rfl rfl rfl) (ua_cons (u_ls (u_lc2 (own := [("row", 1), ("letter", 2)]) (vs1 := [2]) rfl sc.nd (ui_seq (u_give (u_nam 0 (pv 0)))) (blkOk_by (N := N_product_of) (sc := defScope s_product_of) (by decide +kernel)) tg_name (by decide) tg_name (by decide) (by decide) (fun _ _ _ _ _ => (pg_name (i := 1) sc.nd rfl (by first | exact Or.inl rfl | exact Or.inr rfl))) (fun _ _ _ _ _ => uts_nil) (fun _ _ _ _ _ => (ui_seq (u_give (u_nam 1 (pv 1))))) (fun _ _ _ _ _ => (pg_name (i := 2) sc.nd rfl (by first | exact Or.inl rfl | exact Or.inr rfl))) (fun _ _ _ _ _ => uts_nil) (fun _ _ _ _ _ => (u_give (u_nam 2 (pv 2)))))) ua_nil))))

/-! ### middle_of -/
abbrev s_middle_of : Stmt := topS 20
abbrev N_middle_of : List Str := ["row", "cut"]
theorem sc_middle_of : FnScope N_middle_of ["row"] (defScope s_middle_of) := ⟨rfl, rfl, rfl, by decide +kernel, rfl, by decide +kernel, by decide +kernel⟩
def p_middle_of (en : En) : PM :=
    (seqP (setV 1 (callM 1 (F_tail_of en) (consM (bnd (nam 0) give) (ret []))))
    (retP (cutM cutD (nam 0) (partM (bnd (nam 1) give)) (partM (bin subD (dt (uno lenD (nam 0))) (nam 1))))))
def F_middle_of (en : En) : FS := fun ds ls => endF (p_middle_of en (ini 2 ds) ls)
theorem ok_middle_of (S : SF K mg en) {f : Addr} {fd : FuncData} (F : Fun K "middle_of" "middle_of" s_middle_of f fd) (G_tail_of : Has P w K mg base "tail_of" ["row"] 1 1 (F_tail_of en)) : FnOk P w K mg base (L2.CX P w) 2 f fd ["row"] (spD K 1 (F_middle_of en)) := by
  have sc := sc_middle_of
  refine fn_ok F sc rfl (fun cdv A outer s H E hr => ?_) (p := p_middle_of en) fun ds ls h => .inr rfl
  exact (us_cons (us_set 1 sc.nd (u_callH G_tail_of hr (takes_of rfl rfl rfl rfl) (ua_cons (u_give (u_nam 0 (pv 0))) ua_nil)))
    (us_one (us_ret (u_cut (u_nam 0 (pv 0)) (uo_some (u_give (u_nam 1 (pv 1)))) (uo_some (u_op op_sub od_sub (u_dt (u_len S.m_len (u_nam 0 (pv 0)))) (u_nam 1 (pv 1))))))))

/-! ### _law_mk_ring -/
abbrev s_law_mk_ring : Stmt := topS 37
abbrev N_law_mk_ring : List Str := ["_law_row", "_law_found", "_law_turns", "_law_at"]
theorem sc_law_mk_ring : FnScope N_law_mk_ring ["_law_row"] (defScope s_law_mk_ring) := ⟨rfl, rfl, rfl, by decide +kernel, rfl, by decide +kernel, by decide +kernel⟩
def p_law_mk_ring (en : En) : PM :=
    (seqP (setV 1 (ls1 (uno listD (dt (callM 1 (F_law_mk_plain en) (consM (bnd (nam 0) give) (ret [])))))))
    (seqP (whileP (andM (bnd (bin gtD (dt (uno lenD (nam 1))) (dt (ret (.int 1)))) isB) (bnd (bin eqD (dt (bin atD (nam 1) (dt (ret (.int 0))))) (dt (bin subD (dt (ret (.int 0))) (dt (bin atD (nam 1) (dt (uno negD (dt (ret (.int 1)))))))))) isB)) (setV 1 (cutM cutD (nam 1) (partM (ret (.int 1))) (partM (uno negD (dt (ret (.int 1))))))) 1000)
    (seqP (setV 2 (ls1 (lcM (bnd (consM (uno lenD (nam 1)) (ret [])) fun ds => opt (rng1D ds)) (tgName 3) (ret true) (uno tupleD (dt (bin addD (dt (cutM cutD (nam 1) (partM (bnd (nam 3) give)) (ret none))) (dt (cutM cutD (nam 1) (ret none) (partM (bnd (nam 3) give))))))) [3])))
    (retP (ifM (bnd (bin neD (nam 2) (dt (ls1 (lstM (ret []))))) isB) (uno minLD (nam 2)) (tupM (ret [])))))))
def F_law_mk_ring (en : En) : FS := fun ds ls => endF (p_law_mk_ring en (ini 4 ds) ls)
theorem ok_law_mk_ring (S : SF K mg en) {f : Addr} {fd : FuncData} (F : Fun K "_law_mk_ring" "_law_mk_ring" s_law_mk_ring f fd) (G_law_mk_plain : Has P w K mg base "_law_mk_plain" ["_law_letters"] 1 1 (F_law_mk_plain en)) : FnOk P w K mg base (L2.CX P w) 2 f fd ["_law_row"] (spD K 1 (F_law_mk_ring en)) := by
  have sc := sc_law_mk_ring
  refine fn_ok F sc rfl (fun cdv A outer s H E hr => ?_) (p := p_law_mk_ring en) fun ds ls h => .inr rfl
  exact (us_cons (us_set 1 sc.nd (u_ls (u_list S.m_list (u_dt (u_callH G_law_mk_plain hr (takes_of rfl rfl rfl rfl) (ua_cons (u_give (u_nam 0 (pv 0))) ua_nil))))))
    (us_cons (us_while 1000 (passes_of rfl) (PW.pt (ut_and (ut_cmp op_gt od_gt (u_dt (u_len S.m_len (u_nam 1 (pv 1)))) (u_dt u_int) (nomark _)) (ut_and1 (ut_cmp (op_eqD hr.units) od_eq (u_dt (u_at (u_nam 1 (pv 1)) (u_dt u_int) (fun _ _ => rfl))) (u_dt (u_op op_sub od_sub (u_dt u_int) (u_dt (u_at (u_nam 1 (pv 1)) (u_dt (u_neg (u_dt u_int))) (fun _ _ => rfl))))) (nomark _))))) (us_one (us_set 1 sc.nd (u_cut (u_nam 1 (pv 1)) (uo_some u_int) (uo_some (u_neg (u_dt u_int)))))))
    (us_cons (us_setLcV (i := 2) (own := [("_law_at", 3)]) rfl sc.nd (ui_range1 S.m_range (ua_cons (u_len S.m_len (u_nam 1 (pv 1))) ua_nil)) (blkOk_by (N := N_law_mk_ring) (sc := defScope s_law_mk_ring) (by decide +kernel)) tg_name (by decide) (fun _ _ _ _ _ => (pg_name (i := 3) sc.nd rfl (by first | exact Or.inl rfl | exact Or.inr rfl))) (fun _ _ _ _ _ => uts_nil) (fun _ _ _ _ _ => (u_tuple S.m_tuple (u_dt (u_op op_addU od_add (u_dt (u_cut (u_nam 1 (pv 1)) (uo_some (u_give (u_nam 3 (pv 3)))) uo_none)) (u_dt (u_cut (u_nam 1 (pv 1)) uo_none (uo_some (u_give (u_nam 3 (pv 3)))))))))) rfl)
    (us_one (us_ret (u_if (ut_cmp (op_neD hr.units) od_ne (u_nam 2 (pv 2)) (u_dt (u_ls (u_lst ua_nil))) (nomark _)) (u_minL S.m_min hr.units rfl (u_nam 2 (pv 2))) (u_tup ua_nil)))))))

/-! ### _law_mr_same -/
abbrev s_law_mr_same : Stmt := topS 41
abbrev N_law_mr_same : List Str := ["_law_found", "_law_due", "_law_item"]
theorem sc_law_mr_same : FnScope N_law_mr_same ["_law_found", "_law_due"] (defScope s_law_mr_same) := ⟨rfl, rfl, rfl, by decide +kernel, rfl, by decide +kernel, by decide +kernel⟩
def p_law_mr_same (en : En) : PM :=
    (retP (andV (uno (isiD .tuple) (nam 0)) (andV (bin eqD (dt (ls1 (lcM (itemsM (bnd (nam 0) give)) (tgName 2) (notM (bnd (callM 1 (F_law_mr_whole en) (consM (bnd (nam 2) give) (ret []))) isB)) (ret (.int 1)) [2]))) (dt (ls1 (lstM (ret []))))) (bin eqD (nam 0) (nam 1)))))
def F_law_mr_same (en : En) : FS := fun ds ls => endF (p_law_mr_same en (ini 3 ds) ls)
theorem ok_law_mr_same (S : SF K mg en) {f : Addr} {fd : FuncData} (F : Fun K "_law_mr_same" "_law_mr_same" s_law_mr_same f fd) (G_law_mr_whole : Has P w K mg base "_law_mr_whole" ["_law_thing"] 1 1 (F_law_mr_whole en)) : FnOk P w K mg base (L2.CX P w) 2 f fd ["_law_found", "_law_due"] (spD K 2 (F_law_mr_same en)) := by
  have sc := sc_law_mr_same
  refine fn_ok F sc rfl (fun cdv A outer s H E hr => ?_) (p := p_law_mr_same en) fun ds ls h => .inr rfl
  exact (us_one (us_ret (u_and (u_isi .tuple S.m_isinstance (u_nam 0 (pv 0)) (pe_ty S.m_tuple)) (u_and (u_cmp (op_eqD hr.units) od_eq (u_dt (u_ls (u_lc (own := [("_law_item", 2)]) rfl sc.nd (ui_seq (u_give (u_nam 0 (pv 0)))) (blkOk_by (N := N_law_mr_same) (sc := defScope s_law_mr_same) (by decide +kernel)) tg_name (by decide) (fun _ _ _ _ _ => (pg_name (i := 2) sc.nd rfl (by first | exact Or.inl rfl | exact Or.inr rfl))) (fun _ _ _ _ _ => (uts_one (ut_not (ut_val (u_callH G_law_mr_whole hr LamX.takes0 (ua_cons (u_give (u_nam 2 (pv 2))) ua_nil)))))) (fun _ _ _ _ _ => u_int)))) (u_dt (u_ls (u_lst ua_nil))) (nomark _)) (u_one (u_cmp (op_eqD hr.units) od_eq (u_nam 0 (pv 0)) (u_nam 1 (pv 1)) (nomark _)))))))

/-! ### _law_mr_is_row -/
abbrev s_law_mr_is_row : Stmt := topS 42
abbrev N_law_mr_is_row : List Str := ["_law_deeds", "_law_thing", "_law_item"]
theorem sc_law_mr_is_row : FnScope N_law_mr_is_row ["_law_deeds", "_law_thing"] (defScope s_law_mr_is_row) := ⟨rfl, rfl, rfl, by decide +kernel, rfl, by decide +kernel, by decide +kernel⟩
def p_law_mr_is_row (en : En) : PM :=
    (seqP (ifP (orM (notM (bnd (uno (isiD .tuple) (nam 1)) isB)) (bnd (bin neD (dt (ls1 (lcM (itemsM (bnd (nam 1) give)) (tgName 2) (notM (bnd (callM 1 (F_law_mr_whole en) (consM (bnd (nam 2) give) (ret []))) isB)) (ret (.int 1)) [2]))) (dt (ls1 (lstM (ret []))))) isB)) (retP (ret (.bl false))) skip)
    (retP (andV (bin eqD (dt (ls1 (lcM (itemsM (bnd (nam 1) give)) (tgName 2) (orM (bnd (bin eqD (nam 2) (dt (ret (.int 0)))) isB) (bnd (bin gtD (dt (uno absD (nam 2))) (nam 0)) isB)) (ret (.int 1)) [2]))) (dt (ls1 (lstM (ret []))))) (bin eqD (dt (callM 1 (F_law_mk_plain en) (consM (bnd (nam 1) give) (ret [])))) (nam 1)))))
def F_law_mr_is_row (en : En) : FS := fun ds ls => endF (p_law_mr_is_row en (ini 3 ds) ls)
theorem ok_law_mr_is_row (S : SF K mg en) {f : Addr} {fd : FuncData} (F : Fun K "_law_mr_is_row" "_law_mr_is_row" s_law_mr_is_row f fd) (G_law_mk_plain : Has P w K mg base "_law_mk_plain" ["_law_letters"] 1 1 (F_law_mk_plain en)) (G_law_mr_whole : Has P w K mg base "_law_mr_whole" ["_law_thing"] 1 1 (F_law_mr_whole en)) : FnOk P w K mg base (L2.CX P w) 2 f fd ["_law_deeds", "_law_thing"] (spD K 2 (F_law_mr_is_row en)) := by
  have sc := sc_law_mr_is_row
  refine fn_ok F sc rfl (fun cdv A outer s H E hr => ?_) (p := p_law_mr_is_row en) fun ds ls h => .inr rfl
  exact (us_cons (us_if (PW.pt (ut_or (ut_not (ut_val (u_isi .tuple S.m_isinstance (u_nam 1 (pv 1)) (pe_ty S.m_tuple)))) (ut_or1 (ut_cmp (op_neD hr.units) od_ne (u_dt (u_ls (u_lc (own := [("_law_item", 2)]) rfl sc.nd (ui_seq (u_give (u_nam 1 (pv 1)))) (blkOk_by (N := N_law_mr_is_row) (sc := defScope s_law_mr_is_row) (by decide +kernel)) tg_name (by decide) (fun _ _ _ _ _ => (pg_name (i := 2) sc.nd rfl (by first | exact Or.inl rfl | exact Or.inr rfl))) (fun _ _ _ _ _ => (uts_one (ut_not (ut_val (u_callH G_law_mr_whole hr LamX.takes0 (ua_cons (u_give (u_nam 2 (pv 2))) ua_nil)))))) (fun _ _ _ _ _ => u_int)))) (u_dt (u_ls (u_lst ua_nil))) (nomark _))))) (us_one (us_ret u_bl)) us_nil)
    (us_one (us_ret (u_and (u_cmp (op_eqD hr.units) od_eq (u_dt (u_ls (u_lc (own := [("_law_item", 2)]) rfl sc.nd (ui_seq (u_give (u_nam 1 (pv 1)))) (blkOk_by (N := N_law_mr_is_row) (sc := defScope s_law_mr_is_row) (by decide +kernel)) tg_name (by decide) (fun _ _ _ _ _ => (pg_name (i := 2) sc.nd rfl (by first | exact Or.inl rfl | exact Or.inr rfl))) (fun _ _ _ _ _ => (uts_one (PW.pt (ut_or (ut_cmp (op_eqD hr.units) od_eq (u_nam 2 (pv 2)) (u_dt u_int) (nomark _)) (ut_or1 (ut_cmp op_gt od_gt (u_dt (u_abs S.m_abs (u_nam 2 (pv 2)))) (u_nam 0 (pv 0)) (nomark _))))))) (fun _ _ _ _ _ => u_int)))) (u_dt (u_ls (u_lst ua_nil))) (nomark _)) (u_one (u_cmp (op_eqD hr.units) od_eq (u_dt (u_callH G_law_mk_plain hr (takes_of rfl rfl rfl rfl) (ua_cons (u_give (u_nam 1 (pv 1))) ua_nil))) (u_nam 1 (pv 1)) (nomark _)))))))

/-! ### _law_mr_times -/
abbrev s_law_mr_times : Stmt := topS 43
abbrev N_law_mr_times : List Str := ["_law_row", "_law_many", "_law_one"]
theorem sc_law_mr_times : FnScope N_law_mr_times ["_law_row", "_law_many"] (defScope s_law_mr_times) := ⟨rfl, rfl, rfl, by decide +kernel, rfl, by decide +kernel, by decide +kernel⟩
def p_law_mr_times (en : En) : PM :=
    (seqP (setV 2 (ifM (bnd (bin geD (nam 1) (dt (ret (.int 0)))) isB) (bnd (nam 0) give) (callM 1 (F_law_mk_undone en) (consM (bnd (nam 0) give) (ret [])))))
    (retP (callM 1 (F_law_mk_plain en) (consM (bin mulD (nam 2) (dt (uno absD (nam 1)))) (ret [])))))
def F_law_mr_times (en : En) : FS := fun ds ls => endF (p_law_mr_times en (ini 3 ds) ls)
theorem ok_law_mr_times (S : SF K mg en) {f : Addr} {fd : FuncData} (F : Fun K "_law_mr_times" "_law_mr_times" s_law_mr_times f fd) (G_law_mk_plain : Has P w K mg base "_law_mk_plain" ["_law_letters"] 1 1 (F_law_mk_plain en)) (G_law_mk_undone : Has P w K mg base "_law_mk_undone" ["_law_row"] 1 1 (F_law_mk_undone en)) : FnOk P w K mg base (L2.CX P w) 2 f fd ["_law_row", "_law_many"] (spD K 2 (F_law_mr_times en)) := by
  have sc := sc_law_mr_times
  refine fn_ok F sc rfl (fun cdv A outer s H E hr => ?_) (p := p_law_mr_times en) fun ds ls h => .inr rfl
  exact (us_cons (us_set 2 sc.nd (u_if (ut_cmp op_ge od_ge (u_nam 1 (pv 1)) (u_dt u_int) (nomark _)) (u_give (u_nam 0 (pv 0))) (u_callH G_law_mk_undone hr (takes_of rfl rfl rfl rfl) (ua_cons (u_give (u_nam 0 (pv 0))) ua_nil))))
    (us_one (us_ret (u_callH G_law_mk_plain hr (takes_of rfl rfl rfl rfl) (ua_cons (u_op op_mulU od_mul (u_nam 2 (pv 2)) (u_dt (u_abs S.m_abs (u_nam 1 (pv 1))))) ua_nil)))))

/-! ### _law_mr_turned -/
abbrev s_law_mr_turned : Stmt := topS 44
abbrev N_law_mr_turned : List Str := ["_law_row", "_law_by"]
theorem sc_law_mr_turned : FnScope N_law_mr_turned ["_law_row", "_law_by"] (defScope s_law_mr_turned) := ⟨rfl, rfl, rfl, by decide +kernel, rfl, by decide +kernel, by decide +kernel⟩
def p_law_mr_turned (en : En) : PM :=
    (retP (callM 1 (F_law_mk_plain en) (consM (bin addD (dt (bin addD (nam 1) (nam 0))) (dt (callM 1 (F_law_mk_undone en) (consM (bnd (nam 1) give) (ret []))))) (ret []))))
def F_law_mr_turned (en : En) : FS := fun ds ls => endF (p_law_mr_turned en (ini 2 ds) ls)
theorem ok_law_mr_turned (S : SF K mg en) {f : Addr} {fd : FuncData} (F : Fun K "_law_mr_turned" "_law_mr_turned" s_law_mr_turned f fd) (G_law_mk_plain : Has P w K mg base "_law_mk_plain" ["_law_letters"] 1 1 (F_law_mk_plain en)) (G_law_mk_undone : Has P w K mg base "_law_mk_undone" ["_law_row"] 1 1 (F_law_mk_undone en)) : FnOk P w K mg base (L2.CX P w) 2 f fd ["_law_row", "_law_by"] (spD K 2 (F_law_mr_turned en)) := by
  have sc := sc_law_mr_turned
  refine fn_ok F sc rfl (fun cdv A outer s H E hr => ?_) (p := p_law_mr_turned en) fun ds ls h => .inr rfl
  exact (us_one (us_ret (u_callH G_law_mk_plain hr (takes_of rfl rfl rfl rfl) (ua_cons (u_op op_addU od_add (u_dt (u_op op_addU od_add (u_nam 1 (pv 1)) (u_nam 0 (pv 0)))) (u_dt (u_callH G_law_mk_undone hr (takes_of rfl rfl rfl rfl) (ua_cons (u_give (u_nam 1 (pv 1))) ua_nil)))) ua_nil))))

/-! ### need_deeds -/
abbrev s_need_deeds : Stmt := topS 10
abbrev N_need_deeds : List Str := ["deeds"]
theorem sc_need_deeds : FnScope N_need_deeds ["deeds"] (defScope s_need_deeds) := ⟨rfl, rfl, rfl, by decide +kernel, rfl, by decide +kernel, by decide +kernel⟩
def p_need_deeds (en : En) : PM :=
    (ifP (notM (bnd (callM 3 (F_is_between en) (consM (bnd (nam 0) give) (consM (ret (.int 1)) (consM (ret (.int 4)) (ret []))))) isB)) (rsP en.BadDeeds) skip)
def F_need_deeds (en : En) : FS := fun ds ls => endF (p_need_deeds en (ini 1 ds) ls)
theorem ok_need_deeds (S : SF K mg en) {f : Addr} {fd : FuncData} (F : Fun K "need_deeds" "need_deeds" s_need_deeds f fd) (G_is_between : Has P w K mg base "is_between" ["value", "low", "high"] 2 3 (F_is_between en)) : FnOk P w K mg base (L2.CX P w) 3 f fd ["deeds"] (spD K 1 (F_need_deeds en)) := by
  have sc := sc_need_deeds
  refine fn_ok F sc rfl (fun cdv A outer s H E hr => ?_) (p := p_need_deeds en) fun ds ls h => .inr rfl
  exact (us_one (us_if (ut_not (ut_val (u_callH G_is_between hr (takes_of rfl rfl rfl rfl) (ua_cons (u_give (u_nam 0 (pv 0))) (ua_cons u_int (ua_cons (u_gint S.g_MOST_DEEDS) ua_nil)))))) (us_one (us_raise S.c_BadDeeds rfl (takes_of rfl rfl rfl rfl))) us_nil))

/-! ### fits_letter -/
abbrev s_fits_letter : Stmt := topS 11
abbrev N_fits_letter : List Str := ["deeds", "value"]
theorem sc_fits_letter : FnScope N_fits_letter ["deeds", "value"] (defScope s_fits_letter) := ⟨rfl, rfl, rfl, by decide +kernel, rfl, by decide +kernel, by decide +kernel⟩
def p_fits_letter (en : En) : PM :=
    (retP (andV (callM 3 (F_is_between en) (consM (bnd (nam 1) give) (consM (bin subD (dt (ret (.int 0))) (nam 0)) (consM (bnd (nam 0) give) (ret []))))) (bin neD (nam 1) (dt (ret (.int 0))))))
def F_fits_letter (en : En) : FS := fun ds ls => endF (p_fits_letter en (ini 2 ds) ls)
theorem ok_fits_letter (S : SF K mg en) {f : Addr} {fd : FuncData} (F : Fun K "fits_letter" "fits_letter" s_fits_letter f fd) (G_is_between : Has P w K mg base "is_between" ["value", "low", "high"] 2 3 (F_is_between en)) : FnOk P w K mg base (L2.CX P w) 3 f fd ["deeds", "value"] (spD K 2 (F_fits_letter en)) := by
  have sc := sc_fits_letter
  refine fn_ok F sc rfl (fun cdv A outer s H E hr => ?_) (p := p_fits_letter en) fun ds ls h => .inr rfl
  exact (us_one (us_ret (u_and (u_callH G_is_between hr (takes_of rfl rfl rfl rfl) (ua_cons (u_give (u_nam 1 (pv 1))) (ua_cons (u_op op_sub od_sub (u_dt u_int) (u_nam 0 (pv 0))) (ua_cons (u_give (u_nam 0 (pv 0))) ua_nil)))) (u_one (u_cmp (op_neD hr.units) od_ne (u_nam 1 (pv 1)) (u_dt u_int) (nomark _))))))

/-! ### ring_in -/
abbrev s_ring_in : Stmt := topS 21
abbrev N_ring_in : List Str := ["row", "middle", "start"]
theorem sc_ring_in : FnScope N_ring_in ["row"] (defScope s_ring_in) := ⟨rfl, rfl, rfl, by decide +kernel, rfl, by decide +kernel, by decide +kernel⟩
def p_ring_in (en : En) : PM :=
    (seqP (setV 1 (callM 1 (F_middle_of en) (consM (bnd (nam 0) give) (ret []))))
    (seqP (setV 2 (callM 1 (F_least_start en) (consM (bnd (nam 1) give) (ret []))))
    (retP (bin addD (dt (cutM cutD (nam 1) (partM (bnd (nam 2) give)) (ret none))) (dt (cutM cutD (nam 1) (ret none) (partM (bnd (nam 2) give))))))))
def F_ring_in (en : En) : FS := fun ds ls => endF (p_ring_in en (ini 3 ds) ls)
theorem ok_ring_in (S : SF K mg en) {f : Addr} {fd : FuncData} (F : Fun K "ring_in" "ring_in" s_ring_in f fd) (G_least_start : Has P w K mg base "least_start" ["row"] 1 1 (F_least_start en)) (G_middle_of : Has P w K mg base "middle_of" ["row"] 2 1 (F_middle_of en)) : FnOk P w K mg base (L2.CX P w) 3 f fd ["row"] (spD K 1 (F_ring_in en)) := by
  have sc := sc_ring_in
  refine fn_ok F sc rfl (fun cdv A outer s H E hr => ?_) (p := p_ring_in en) fun ds ls h => .inr rfl
  exact (us_cons (us_set 1 sc.nd (u_callH G_middle_of hr (takes_of rfl rfl rfl rfl) (ua_cons (u_give (u_nam 0 (pv 0))) ua_nil)))
    (us_cons (us_set 2 sc.nd (u_callH G_least_start hr (takes_of rfl rfl rfl rfl) (ua_cons (u_give (u_nam 1 (pv 1))) ua_nil)))
    (us_one (us_ret (u_op op_addU od_add (u_dt (u_cut (u_nam 1 (pv 1)) (uo_some (u_give (u_nam 2 (pv 2)))) uo_none)) (u_dt (u_cut (u_nam 1 (pv 1)) uo_none (uo_some (u_give (u_nam 2 (pv 2)))))))))))

/-! ### way_to_ring -/
abbrev s_way_to_ring : Stmt := topS 22
abbrev N_way_to_ring : List Str := ["row"]
theorem sc_way_to_ring : FnScope N_way_to_ring ["row"] (defScope s_way_to_ring) := ⟨rfl, rfl, rfl, by decide +kernel, rfl, by decide +kernel, by decide +kernel⟩
def p_way_to_ring (en : En) : PM :=
    (retP (cutM cutD (nam 0) (ret none) (partM (bin addD (dt (callM 1 (F_tail_of en) (consM (bnd (nam 0) give) (ret [])))) (dt (callM 1 (F_least_start en) (consM (callM 1 (F_middle_of en) (consM (bnd (nam 0) give) (ret []))) (ret []))))))))
def F_way_to_ring (en : En) : FS := fun ds ls => endF (p_way_to_ring en (ini 1 ds) ls)
theorem ok_way_to_ring (S : SF K mg en) {f : Addr} {fd : FuncData} (F : Fun K "way_to_ring" "way_to_ring" s_way_to_ring f fd) (G_least_start : Has P w K mg base "least_start" ["row"] 1 1 (F_least_start en)) (G_middle_of : Has P w K mg base "middle_of" ["row"] 2 1 (F_middle_of en)) (G_tail_of : Has P w K mg base "tail_of" ["row"] 1 1 (F_tail_of en)) : FnOk P w K mg base (L2.CX P w) 3 f fd ["row"] (spD K 1 (F_way_to_ring en)) := by
  have sc := sc_way_to_ring
  refine fn_ok F sc rfl (fun cdv A outer s H E hr => ?_) (p := p_way_to_ring en) fun ds ls h => .inr rfl
  exact (us_one (us_ret (u_cut (u_nam 0 (pv 0)) uo_none (uo_some (u_op op_addU od_add (u_dt (u_callH G_tail_of hr (takes_of rfl rfl rfl rfl) (ua_cons (u_give (u_nam 0 (pv 0))) ua_nil))) (u_dt (u_callH G_least_start hr (takes_of rfl rfl rfl rfl) (ua_cons (u_callH G_middle_of hr (takes_of rfl rfl rfl rfl) (ua_cons (u_give (u_nam 0 (pv 0))) ua_nil)) ua_nil))))))))

/-! ### _law_pick -/
abbrev s_law_pick : Stmt := topS 29
abbrev N_law_pick : List Str := ["_law_state", "_law_some"]
theorem sc_law_pick : FnScope N_law_pick ["_law_state", "_law_some"] (defScope s_law_pick) := ⟨rfl, rfl, rfl, by decide +kernel, rfl, by decide +kernel, by decide +kernel⟩
def p_law_pick (en : En) : PM :=
    (retP (bin atD (nam 1) (dt (callM 2 FDraw (consM (bnd (nam 0) give) (consM (uno lenD (nam 1)) (ret [])))))))
def F_law_pick (en : En) : FS := fun ds ls => endF (p_law_pick en (ini 2 ds) ls)
theorem ok_law_pick (S : SF K mg en) {f : Addr} {fd : FuncData} (F : Fun K "_law_pick" "_law_pick" s_law_pick f fd) (G_law_draw : Has P w K mg base "_law_draw" ["_law_state", "_law_room"] 2 2 FDraw) : FnOk P w K mg base (L2.CX P w) 3 f fd ["_law_state", "_law_some"] (spD K 2 (F_law_pick en)) := by
  have sc := sc_law_pick
  refine fn_ok F sc rfl (fun cdv A outer s H E hr => ?_) (p := p_law_pick en) fun ds ls h => .inr rfl
  exact (us_one (us_ret (u_at (u_nam 1 (pv 1)) (u_dt (u_callH G_law_draw hr (takes_of rfl rfl rfl rfl) (ua_cons (u_give (u_nam 0 (pv 0))) (ua_cons (u_len S.m_len (u_nam 1 (pv 1))) ua_nil)))) (fun _ _ => rfl))))

/-! ### _law_shuffled -/
abbrev s_law_shuffled : Stmt := topS 30
abbrev N_law_shuffled : List Str := ["_law_state", "_law_some", "_law_left", "_law_found"]
theorem sc_law_shuffled : FnScope N_law_shuffled ["_law_state", "_law_some"] (defScope s_law_shuffled) := ⟨rfl, rfl, rfl, by decide +kernel, rfl, by decide +kernel, by decide +kernel⟩
def p_law_shuffled (en : En) : PM :=
    (seqP (par2I 2 3 (consL (uno listD (nam 1)) (consL (lstM (ret [])) (ret []))))
    (seqP (whileP (bnd (bin neD (nam 2) (dt (ls1 (lstM (ret []))))) isB) (drop (methM 3 appD (methM 2 popAtD (callM 2 FDraw (consM (bnd (nam 0) give) (consM (uno lenD (nam 2)) (ret []))))))) 1000)
    (retP (bnd (nam 3) give))))
def F_law_shuffled (en : En) : FS := fun ds ls => endF (p_law_shuffled en (ini 4 ds) ls)
theorem ok_law_shuffled (S : SF K mg en) {f : Addr} {fd : FuncData} (F : Fun K "_law_shuffled" "_law_shuffled" s_law_shuffled f fd) (G_law_draw : Has P w K mg base "_law_draw" ["_law_state", "_law_room"] 2 2 FDraw) : FnOk P w K mg base (L2.CX P w) 3 f fd ["_law_state", "_law_some"] (spD K 2 (F_law_shuffled en)) := by
  have sc := sc_law_shuffled
  refine fn_ok F sc rfl (fun cdv A outer s H E hr => ?_) (p := p_law_shuffled en) fun ds ls h => .inr rfl
  exact (us_cons (us_parI 2 3 rfl sc.nd (ui2_n (u_list S.m_list (u_nam 1 (pv 1))) (ui2_n (u_lst ua_nil) ui2_nil)))
    (us_cons (us_while 1000 (passes_of rfl) (ut_cmp (op_neD hr.units) od_ne (u_nam 2 (pv 2)) (u_dt (u_ls (u_lst ua_nil))) (nomark _)) (us_one (us_expr (u_append 3 (pv 3) (u_popAt 2 (pv 2) (u_callH G_law_draw hr (takes_of rfl rfl rfl rfl) (ua_cons (u_give (u_nam 0 (pv 0))) (ua_cons (u_len S.m_len (u_nam 2 (pv 2))) ua_nil))))))))
    (us_one (us_ret (u_give (u_nam 3 (pv 3)))))))

/-! ### _law_mr_is_turner -/
abbrev s_law_mr_is_turner : Stmt := topS 48
abbrev N_law_mr_is_turner : List Str := ["_law_deeds", "_law_one", "_law_other", "_law_found", "_law_first", "_law_second"]
theorem sc_law_mr_is_turner : FnScope N_law_mr_is_turner ["_law_deeds", "_law_one", "_law_other", "_law_found"] (defScope s_law_mr_is_turner) := ⟨rfl, rfl, rfl, by decide +kernel, rfl, by decide +kernel, by decide +kernel⟩
def p_law_mr_is_turner (en : En) : PM :=
    (seqP (ifP (orM (notM (bnd (uno (isiD .tuple) (nam 3)) isB)) (orM (bnd (bin ltD (dt (uno lenD (nam 3))) (dt (ret (.int 2)))) isB) (notM (bnd (uno (isiD .str) (dt (bin atD (nam 3) (dt (ret (.int 0)))))) isB)))) (retP (ret (.bl false))) skip)
    (seqP (ifP (bnd (bin eqD (dt (bin atD (nam 3) (dt (ret (.int 0))))) (dt (ret (.str "turned")))) isB) (retP (andV (bin eqD (dt (uno lenD (nam 3))) (dt (ret (.int 2)))) (andV (callM 2 (F_law_mr_is_row en) (consM (bnd (nam 0) give) (consM (bin atD (nam 3) (dt (ret (.int 1)))) (ret [])))) (bin eqD (dt (callM 2 (F_law_mr_turned en) (consM (bnd (nam 1) give) (consM (bin atD (nam 3) (dt (ret (.int 1)))) (ret []))))) (nam 2))))) skip)
    (seqP (par2 4 5 (consM (callM 1 (F_law_mk_ring en) (consM (bnd (nam 1) give) (ret []))) (consM (callM 1 (F_law_mk_ring en) (consM (bnd (nam 2) give) (ret []))) (ret []))))
    (seqP (ifP (orM (bnd (bin eqD (nam 4) (nam 5)) isB) (orM (bnd (bin neD (dt (uno lenD (nam 3))) (dt (ret (.int 3)))) isB) (bnd (bin neD (dt (bin atD (nam 3) (dt (ret (.int 0))))) (dt (ret (.str "unlike")))) isB))) (retP (ret (.bl false))) skip)
    (retP (andV (callM 2 (F_law_mr_same en) (consM (bin atD (nam 3) (dt (ret (.int 1)))) (consM (bnd (nam 4) give) (ret [])))) (callM 2 (F_law_mr_same en) (consM (bin atD (nam 3) (dt (ret (.int 2)))) (consM (bnd (nam 5) give) (ret []))))))))))
def F_law_mr_is_turner (en : En) : FS := fun ds ls => endF (p_law_mr_is_turner en (ini 6 ds) ls)
theorem ok_law_mr_is_turner (S : SF K mg en) {f : Addr} {fd : FuncData} (F : Fun K "_law_mr_is_turner" "_law_mr_is_turner" s_law_mr_is_turner f fd) (G_law_mk_ring : Has P w K mg base "_law_mk_ring" ["_law_row"] 2 1 (F_law_mk_ring en)) (G_law_mr_is_row : Has P w K mg base "_law_mr_is_row" ["_law_deeds", "_law_thing"] 2 2 (F_law_mr_is_row en)) (G_law_mr_same : Has P w K mg base "_law_mr_same" ["_law_found", "_law_due"] 2 2 (F_law_mr_same en)) (G_law_mr_turned : Has P w K mg base "_law_mr_turned" ["_law_row", "_law_by"] 2 2 (F_law_mr_turned en)) : FnOk P w K mg base (L2.CX P w) 3 f fd ["_law_deeds", "_law_one", "_law_other", "_law_found"] (spD K 4 (F_law_mr_is_turner en)) := by
  have sc := sc_law_mr_is_turner
  refine fn_ok F sc rfl (fun cdv A outer s H E hr => ?_) (p := p_law_mr_is_turner en) fun ds ls h => .inr rfl
  exact (us_cons (us_if (PW.pt (ut_or (ut_not (ut_val (u_isi .tuple S.m_isinstance (u_nam 3 (pv 3)) (pe_ty S.m_tuple)))) (ut_or (ut_cmp op_lt od_lt (u_dt (u_len S.m_len (u_nam 3 (pv 3)))) (u_dt u_int) (nomark _)) (ut_or1 (ut_not (ut_val (u_isi .str S.m_isinstance (u_dt (u_at (u_nam 3 (pv 3)) (u_dt u_int) (fun _ _ => rfl))) (pe_ty S.m_str)))))))) (us_one (us_ret u_bl)) us_nil)
    (us_cons (us_if (ut_cmp (op_eqD hr.units) od_eq (u_dt (u_at (u_nam 3 (pv 3)) (u_dt u_int) (fun _ _ => rfl))) (u_dt u_str) (nomark _)) (us_one (us_ret (u_and (u_cmp (op_eqD hr.units) od_eq (u_dt (u_len S.m_len (u_nam 3 (pv 3)))) (u_dt u_int) (nomark _)) (u_and (u_callH G_law_mr_is_row hr (takes_of rfl rfl rfl rfl) (ua_cons (u_give (u_nam 0 (pv 0))) (ua_cons (u_at (u_nam 3 (pv 3)) (u_dt u_int) (fun _ _ => rfl)) ua_nil))) (u_one (u_cmp (op_eqD hr.units) od_eq (u_dt (u_callH G_law_mr_turned hr (takes_of rfl rfl rfl rfl) (ua_cons (u_give (u_nam 1 (pv 1))) (ua_cons (u_at (u_nam 3 (pv 3)) (u_dt u_int) (fun _ _ => rfl)) ua_nil)))) (u_nam 2 (pv 2)) (nomark _))))))) us_nil)
    (us_cons (us_par 4 5 rfl sc.nd (ua_cons (u_callH G_law_mk_ring hr (takes_of rfl rfl rfl rfl) (ua_cons (u_give (u_nam 1 (pv 1))) ua_nil)) (ua_cons (u_callH G_law_mk_ring hr (takes_of rfl rfl rfl rfl) (ua_cons (u_give (u_nam 2 (pv 2))) ua_nil)) ua_nil)))
    (us_cons (us_if (PW.pt (ut_or (ut_cmp (op_eqD hr.units) od_eq (u_nam 4 (pv 4)) (u_nam 5 (pv 5)) (nomark _)) (ut_or (ut_cmp (op_neD hr.units) od_ne (u_dt (u_len S.m_len (u_nam 3 (pv 3)))) (u_dt u_int) (nomark _)) (ut_or1 (ut_cmp (op_neD hr.units) od_ne (u_dt (u_at (u_nam 3 (pv 3)) (u_dt u_int) (fun _ _ => rfl))) (u_dt u_str) (nomark _)))))) (us_one (us_ret u_bl)) us_nil)
    (us_one (us_ret (u_and (u_callH G_law_mr_same hr (takes_of rfl rfl rfl rfl) (ua_cons (u_at (u_nam 3 (pv 3)) (u_dt u_int) (fun _ _ => rfl)) (ua_cons (u_give (u_nam 4 (pv 4))) ua_nil))) (u_one (u_callH G_law_mr_same hr (takes_of rfl rfl rfl rfl) (ua_cons (u_at (u_nam 3 (pv 3)) (u_dt u_int) (fun _ _ => rfl)) (ua_cons (u_give (u_nam 5 (pv 5))) ua_nil)))))))))))

/-! ### fits_row -/
abbrev s_fits_row : Stmt := topS 12
abbrev N_fits_row : List Str := ["deeds", "value", "letter"]
theorem sc_fits_row : FnScope N_fits_row ["deeds", "value"] (defScope s_fits_row) := ⟨rfl, rfl, rfl, by decide +kernel, rfl, by decide +kernel, by decide +kernel⟩
def p_fits_row (en : En) : PM :=
    (seqP (ifP (orM (notM (bnd (uno (isiD .tuple) (nam 1)) isB)) (bnd (bin gtD (dt (uno lenD (nam 1))) (dt (ret (.int 200)))) isB)) (retP (ret (.bl false))) skip)
    (retP (uno allD (dt (ls1 (lcM (itemsM (bnd (nam 1) give)) (tgName 2) (ret true) (callM 2 (F_fits_letter en) (consM (bnd (nam 0) give) (consM (bnd (nam 2) give) (ret [])))) [2]))))))
def F_fits_row (en : En) : FS := fun ds ls => endF (p_fits_row en (ini 3 ds) ls)
theorem ok_fits_row (S : SF K mg en) {f : Addr} {fd : FuncData} (F : Fun K "fits_row" "fits_row" s_fits_row f fd) (G_fits_letter : Has P w K mg base "fits_letter" ["deeds", "value"] 3 2 (F_fits_letter en)) : FnOk P w K mg base (L2.CX P w) 4 f fd ["deeds", "value"] (spD K 2 (F_fits_row en)) := by
  have sc := sc_fits_row
  refine fn_ok F sc rfl (fun cdv A outer s H E hr => ?_) (p := p_fits_row en) fun ds ls h => .inr rfl
  exact (us_cons (us_if (PW.pt (ut_or (ut_not (ut_val (u_isi .tuple S.m_isinstance (u_nam 1 (pv 1)) (pe_ty S.m_tuple)))) (ut_or1 (ut_cmp op_gt od_gt (u_dt (u_len S.m_len (u_nam 1 (pv 1)))) (u_dt (u_gint S.g_MOST_IN_ROW)) (nomark _))))) (us_one (us_ret u_bl)) us_nil)
    (us_one (us_ret (u_all S.m_all rfl (u_dt (u_ls (u_lc (own := [("letter", 2)]) rfl sc.nd (ui_seq (u_give (u_nam 1 (pv 1)))) (blkOk_by (N := N_fits_row) (sc := defScope s_fits_row) (by decide +kernel)) tg_name (by decide) (fun _ _ _ _ _ => (pg_name (i := 2) sc.nd rfl (by first | exact Or.inl rfl | exact Or.inr rfl))) (fun _ _ _ _ _ => uts_nil) (fun _ _ _ _ _ => (u_callH G_fits_letter hr LamX.takes0 (ua_cons (u_give (u_nam 0 (pv 0))) (ua_cons (u_give (u_nam 2 (pv 2))) ua_nil)))))))))))

/-! ### _law_mk_row -/
abbrev s_law_mk_row : Stmt := topS 35
abbrev N_law_mk_row : List Str := ["_law_state", "_law_deeds", "_law_least", "_law_most", "_law_found", "_law_lap", "_law_some", "_law_letter"]
theorem sc_law_mk_row : FnScope N_law_mk_row ["_law_state", "_law_deeds", "_law_least", "_law_most"] (defScope s_law_mk_row) := ⟨rfl, rfl, rfl, by decide +kernel, rfl, by decide +kernel, by decide +kernel⟩
def p_law_mk_row (en : En) : PM :=
    (seqP (setN 4 (lstM (ret [])))
    (seqP (forP (tgName 5) (bnd (consM (bin addD (nam 2) (dt (callM 2 FDraw (consM (bnd (nam 0) give) (consM (bin addD (dt (bin subD (nam 3) (nam 2))) (dt (ret (.int 1)))) (ret [])))))) (ret [])) fun ds => opt (rng1D ds)) (seqP (setV 6 (ls1 (lcM (itemsM (callM 1 (F_law_mk_letters en) (consM (bnd (nam 1) give) (ret [])))) (tgName 7) (orM (bnd (bin eqD (nam 4) (dt (ls1 (lstM (ret []))))) isB) (bnd (bin neD (nam 7) (dt (bin subD (dt (ret (.int 0))) (dt (bin atD (nam 4) (dt (uno negD (dt (ret (.int 1)))))))))) isB)) (bnd (nam 7) give) [7])))
    (drop (methM 4 appD (callM 2 (F_law_pick en) (consM (bnd (nam 0) give) (consM (bnd (nam 6) give) (ret []))))))))
    (retP (uno tupleD (nam 4)))))
def F_law_mk_row (en : En) : FS := fun ds ls => endF (p_law_mk_row en (ini 8 ds) ls)
theorem ok_law_mk_row (S : SF K mg en) {f : Addr} {fd : FuncData} (F : Fun K "_law_mk_row" "_law_mk_row" s_law_mk_row f fd) (G_law_draw : Has P w K mg base "_law_draw" ["_law_state", "_law_room"] 2 2 FDraw) (G_law_mk_letters : Has P w K mg base "_law_mk_letters" ["_law_deeds"] 1 1 (F_law_mk_letters en)) (G_law_pick : Has P w K mg base "_law_pick" ["_law_state", "_law_some"] 3 2 (F_law_pick en)) : FnOk P w K mg base (L2.CX P w) 4 f fd ["_law_state", "_law_deeds", "_law_least", "_law_most"] (spD K 4 (F_law_mk_row en)) := by
  have sc := sc_law_mk_row
  refine fn_ok F sc rfl (fun cdv A outer s H E hr => ?_) (p := p_law_mk_row en) fun ds ls h => .inr rfl
  exact (us_cons (us_setN 4 sc.nd (u_lst ua_nil))
    (us_cons (us_for (passes_of rfl) rfl (ui_range1 S.m_range (ua_cons (u_op op_addU od_add (u_nam 2 (pv 2)) (u_dt (u_callH G_law_draw hr (takes_of rfl rfl rfl rfl) (ua_cons (u_give (u_nam 0 (pv 0))) (ua_cons (u_op op_addU od_add (u_dt (u_op op_sub od_sub (u_nam 3 (pv 3)) (u_nam 2 (pv 2)))) (u_dt u_int)) ua_nil))))) ua_nil)) (pg_name (i := 5) sc.nd rfl (by first | exact Or.inl rfl | exact Or.inr rfl)) tg_name (us_cons (us_setLcV (i := 6) (own := [("_law_letter", 7)]) rfl sc.nd (ui_seq (u_callH G_law_mk_letters hr (takes_of rfl rfl rfl rfl) (ua_cons (u_give (u_nam 1 (pv 1))) ua_nil))) (blkOk_by (N := N_law_mk_row) (sc := defScope s_law_mk_row) (by decide +kernel)) tg_name (by decide) (fun _ _ _ _ _ => (pg_name (i := 7) sc.nd rfl (by first | exact Or.inl rfl | exact Or.inr rfl))) (fun _ _ _ _ _ => (uts_one (PW.pt (ut_or (ut_cmp (op_eqD hr.units) od_eq (u_nam 4 (pv 4)) (u_dt (u_ls (u_lst ua_nil))) (nomark _)) (ut_or1 (ut_cmp (op_neD hr.units) od_ne (u_nam 7 (pv 7)) (u_dt (u_op op_sub od_sub (u_dt u_int) (u_dt (u_at (u_nam 4 (pv 4)) (u_dt (u_neg (u_dt u_int))) (fun _ _ => rfl))))) (nomark _))))))) (fun _ _ _ _ _ => (u_give (u_nam 7 (pv 7)))) rfl)
    (us_one (us_expr (u_append 4 (pv 4) (u_callH G_law_pick hr (takes_of rfl rfl rfl rfl) (ua_cons (u_give (u_nam 0 (pv 0))) (ua_cons (u_give (u_nam 6 (pv 6))) ua_nil))))))))
    (us_one (us_ret (u_tuple S.m_tuple (u_nam 4 (pv 4)))))))

/-! ### _law_mk_raw -/
abbrev s_law_mk_raw : Stmt := topS 36
abbrev N_law_mk_raw : List Str := ["_law_state", "_law_deeds", "_law_row", "_law_found", "_law_lap", "_law_at", "_law_letter"]
theorem sc_law_mk_raw : FnScope N_law_mk_raw ["_law_state", "_law_deeds", "_law_row"] (defScope s_law_mk_raw) := ⟨rfl, rfl, rfl, by decide +kernel, rfl, by decide +kernel, by decide +kernel⟩
def p_law_mk_raw (en : En) : PM :=
    (seqP (setV 3 (ls1 (uno listD (nam 2))))
    (seqP (forP (tgName 4) (bnd (consM (callM 2 FDraw (consM (bnd (nam 0) give) (consM (ret (.int 3)) (ret [])))) (ret [])) fun ds => opt (rng1D ds)) (seqP (par2 5 6 (consM (callM 2 FDraw (consM (bnd (nam 0) give) (consM (bin addD (dt (uno lenD (nam 3))) (dt (ret (.int 1)))) (ret [])))) (consM (callM 2 (F_law_pick en) (consM (bnd (nam 0) give) (consM (callM 1 (F_law_mk_letters en) (consM (bnd (nam 1) give) (ret []))) (ret [])))) (ret []))))
    (setV 3 (bin addD (dt (bin addD (dt (cutM cutD (nam 3) (ret none) (partM (bnd (nam 5) give)))) (dt (ls1 (lstM (consM (bnd (nam 6) give) (consM (bin subD (dt (ret (.int 0))) (nam 6)) (ret [])))))))) (dt (cutM cutD (nam 3) (partM (bnd (nam 5) give)) (ret none)))))))
    (retP (uno tupleD (nam 3)))))
def F_law_mk_raw (en : En) : FS := fun ds ls => endF (p_law_mk_raw en (ini 7 ds) ls)
theorem ok_law_mk_raw (S : SF K mg en) {f : Addr} {fd : FuncData} (F : Fun K "_law_mk_raw" "_law_mk_raw" s_law_mk_raw f fd) (G_law_draw : Has P w K mg base "_law_draw" ["_law_state", "_law_room"] 2 2 FDraw) (G_law_mk_letters : Has P w K mg base "_law_mk_letters" ["_law_deeds"] 1 1 (F_law_mk_letters en)) (G_law_pick : Has P w K mg base "_law_pick" ["_law_state", "_law_some"] 3 2 (F_law_pick en)) : FnOk P w K mg base (L2.CX P w) 4 f fd ["_law_state", "_law_deeds", "_law_row"] (spD K 3 (F_law_mk_raw en)) := by
  have sc := sc_law_mk_raw
  refine fn_ok F sc rfl (fun cdv A outer s H E hr => ?_) (p := p_law_mk_raw en) fun ds ls h => .inr rfl
  exact (us_cons (us_set 3 sc.nd (u_ls (u_list S.m_list (u_nam 2 (pv 2)))))
    (us_cons (us_for (passes_of rfl) rfl (ui_range1 S.m_range (ua_cons (u_callH G_law_draw hr (takes_of rfl rfl rfl rfl) (ua_cons (u_give (u_nam 0 (pv 0))) (ua_cons u_int ua_nil))) ua_nil)) (pg_name (i := 4) sc.nd rfl (by first | exact Or.inl rfl | exact Or.inr rfl)) tg_name (us_cons (us_par 5 6 rfl sc.nd (ua_cons (u_callH G_law_draw hr (takes_of rfl rfl rfl rfl) (ua_cons (u_give (u_nam 0 (pv 0))) (ua_cons (u_op op_addU od_add (u_dt (u_len S.m_len (u_nam 3 (pv 3)))) (u_dt u_int)) ua_nil))) (ua_cons (u_callH G_law_pick hr (takes_of rfl rfl rfl rfl) (ua_cons (u_give (u_nam 0 (pv 0))) (ua_cons (u_callH G_law_mk_letters hr (takes_of rfl rfl rfl rfl) (ua_cons (u_give (u_nam 1 (pv 1))) ua_nil)) ua_nil))) ua_nil)))
    (us_one (us_set 3 sc.nd (u_op op_addU od_add (u_dt (u_op op_addU od_add (u_dt (u_cut (u_nam 3 (pv 3)) uo_none (uo_some (u_give (u_nam 5 (pv 5)))))) (u_dt (u_ls (u_lst (ua_cons (u_give (u_nam 6 (pv 6))) (ua_cons (u_op op_sub od_sub (u_dt u_int) (u_nam 6 (pv 6))) ua_nil))))))) (u_dt (u_cut (u_nam 3 (pv 3)) (uo_some (u_give (u_nam 5 (pv 5)))) uo_none)))))))
    (us_one (us_ret (u_tuple S.m_tuple (u_nam 3 (pv 3)))))))

/-! ### _law_mk_bad_deeds -/
abbrev s_law_mk_bad_deeds : Stmt := topS 38
abbrev N_law_mk_bad_deeds : List Str := ["_law_state"]
theorem sc_law_mk_bad_deeds : FnScope N_law_mk_bad_deeds ["_law_state"] (defScope s_law_mk_bad_deeds) := ⟨rfl, rfl, rfl, by decide +kernel, rfl, by decide +kernel, by decide +kernel⟩
def p_law_mk_bad_deeds (en : En) : PM :=
    (retP (callM 2 (F_law_pick en) (consM (bnd (nam 0) give) (consM (ls1 (lstM (consM (ret .non) (consM (ret (.int 0)) (consM (ret (.int 5)) (consM (uno negD (dt (ret (.int 1)))) (consM (ret (.bl true)) (consM (ret (.str "2")) (consM (tupM (consM (ret (.int 2)) (ret []))) (consM (ls1 (lstM (consM (ret (.int 1)) (ret [])))) (ret []))))))))))) (ret [])))))
def F_law_mk_bad_deeds (en : En) : FS := fun ds ls => endF (p_law_mk_bad_deeds en (ini 1 ds) ls)
theorem ok_law_mk_bad_deeds (S : SF K mg en) {f : Addr} {fd : FuncData} (F : Fun K "_law_mk_bad_deeds" "_law_mk_bad_deeds" s_law_mk_bad_deeds f fd) (G_law_pick : Has P w K mg base "_law_pick" ["_law_state", "_law_some"] 3 2 (F_law_pick en)) : FnOk P w K mg base (L2.CX P w) 4 f fd ["_law_state"] (spD K 1 (F_law_mk_bad_deeds en)) := by
  have sc := sc_law_mk_bad_deeds
  refine fn_ok F sc rfl (fun cdv A outer s H E hr => ?_) (p := p_law_mk_bad_deeds en) fun ds ls h => .inr rfl
  exact (us_one (us_ret (u_callH G_law_pick hr (takes_of rfl rfl rfl rfl) (ua_cons (u_give (u_nam 0 (pv 0))) (ua_cons (u_ls (u_lst (ua_cons u_non (ua_cons u_int (ua_cons u_int (ua_cons (u_neg (u_dt u_int)) (ua_cons u_bl (ua_cons u_str (ua_cons (u_tup (ua_cons u_int ua_nil)) (ua_cons (u_ls (u_lst (ua_cons u_int ua_nil))) ua_nil)))))))))) ua_nil)))))

/-! ### _law_mk_bad_row -/
abbrev s_law_mk_bad_row : Stmt := topS 39
abbrev N_law_mk_bad_row : List Str := ["_law_state", "_law_deeds", "_law_some"]
theorem sc_law_mk_bad_row : FnScope N_law_mk_bad_row ["_law_state", "_law_deeds"] (defScope s_law_mk_bad_row) := ⟨rfl, rfl, rfl, by decide +kernel, rfl, by decide +kernel, by decide +kernel⟩
def p_law_mk_bad_row (en : En) : PM :=
    (seqP (setV 2 (ls1 (lstM (consM (ret .non) (consM (ls1 (lstM (consM (ret (.int 1)) (ret [])))) (consM (ret (.int 5)) (consM (ret (.str "a")) (consM (tupM (consM (ret (.int 0)) (ret []))) (consM (tupM (consM (bin addD (nam 1) (dt (ret (.int 1)))) (ret []))) (consM (tupM (consM (ret (.int 1)) (consM (ret (.int 0)) (ret [])))) (consM (tupM (consM (ret (.bl true)) (ret []))) (consM (tupM (consM (ret (.str "1")) (ret []))) (consM (tupM (consM (ret (.int 1)) (consM (ret .non) (ret [])))) (consM (tupM (consM (bin subD (dt (bin subD (dt (ret (.int 0))) (nam 1))) (dt (ret (.int 1)))) (ret []))) (consM (bin mulD (dt (tupM (consM (ret (.int 1)) (ret [])))) (dt (ret (.int 201)))) (ret []))))))))))))))))
    (retP (callM 2 (F_law_pick en) (consM (bnd (nam 0) give) (consM (bnd (nam 2) give) (ret []))))))
def F_law_mk_bad_row (en : En) : FS := fun ds ls => endF (p_law_mk_bad_row en (ini 3 ds) ls)
theorem ok_law_mk_bad_row (S : SF K mg en) {f : Addr} {fd : FuncData} (F : Fun K "_law_mk_bad_row" "_law_mk_bad_row" s_law_mk_bad_row f fd) (G_law_pick : Has P w K mg base "_law_pick" ["_law_state", "_law_some"] 3 2 (F_law_pick en)) : FnOk P w K mg base (L2.CX P w) 4 f fd ["_law_state", "_law_deeds"] (spD K 2 (F_law_mk_bad_row en)) := by
  have sc := sc_law_mk_bad_row
  refine fn_ok F sc rfl (fun cdv A outer s H E hr => ?_) (p := p_law_mk_bad_row en) fun ds ls h => .inr rfl
  exact (us_cons (us_set 2 sc.nd (u_ls (u_lst (ua_cons u_non (ua_cons (u_ls (u_lst (ua_cons u_int ua_nil))) (ua_cons u_int (ua_cons u_str (ua_cons (u_tup (ua_cons u_int ua_nil)) (ua_cons (u_tup (ua_cons (u_op op_addU od_add (u_nam 1 (pv 1)) (u_dt u_int)) ua_nil)) (ua_cons (u_tup (ua_cons u_int (ua_cons u_int ua_nil))) (ua_cons (u_tup (ua_cons u_bl ua_nil)) (ua_cons (u_tup (ua_cons u_str ua_nil)) (ua_cons (u_tup (ua_cons u_int (ua_cons u_non ua_nil))) (ua_cons (u_tup (ua_cons (u_op op_sub od_sub (u_dt (u_op op_sub od_sub (u_dt u_int) (u_nam 1 (pv 1)))) (u_dt u_int)) ua_nil)) (ua_cons (u_op op_mulU od_mul (u_dt (u_tup (ua_cons u_int ua_nil))) (u_dt u_int)) ua_nil)))))))))))))))
    (us_one (us_ret (u_callH G_law_pick hr (takes_of rfl rfl rfl rfl) (ua_cons (u_give (u_nam 0 (pv 0))) (ua_cons (u_give (u_nam 2 (pv 2))) ua_nil))))))

/-! ### need_row -/
abbrev s_need_row : Stmt := topS 16
abbrev N_need_row : List Str := ["deeds", "row"]
theorem sc_need_row : FnScope N_need_row ["deeds", "row"] (defScope s_need_row) := ⟨rfl, rfl, rfl, by decide +kernel, rfl, by decide +kernel, by decide +kernel⟩
def p_need_row (en : En) : PM :=
    (seqP (ifP (notM (bnd (callM 2 (F_fits_row en) (consM (bnd (nam 0) give) (consM (bnd (nam 1) give) (ret [])))) isB)) (rsP en.BadRow) skip)
    (retP (callM 1 (F_plain_of en) (consM (bnd (nam 1) give) (ret [])))))
def F_need_row (en : En) : FS := fun ds ls => endF (p_need_row en (ini 2 ds) ls)
theorem ok_need_row (S : SF K mg en) {f : Addr} {fd : FuncData} (F : Fun K "need_row" "need_row" s_need_row f fd) (G_fits_row : Has P w K mg base "fits_row" ["deeds", "value"] 4 2 (F_fits_row en)) (G_plain_of : Has P w K mg base "plain_of" ["letters"] 1 1 (F_plain_of en)) : FnOk P w K mg base (L2.CX P w) 5 f fd ["deeds", "row"] (spD K 2 (F_need_row en)) := by
  have sc := sc_need_row
  refine fn_ok F sc rfl (fun cdv A outer s H E hr => ?_) (p := p_need_row en) fun ds ls h => .inr rfl
  exact (us_cons (us_if (ut_not (ut_val (u_callH G_fits_row hr (takes_of rfl rfl rfl rfl) (ua_cons (u_give (u_nam 0 (pv 0))) (ua_cons (u_give (u_nam 1 (pv 1))) ua_nil))))) (us_one (us_raise S.c_BadRow rfl (takes_of rfl rfl rfl rfl))) us_nil)
    (us_one (us_ret (u_callH G_plain_of hr (takes_of rfl rfl rfl rfl) (ua_cons (u_give (u_nam 1 (pv 1))) ua_nil)))))

/-! ### _law_mr_row -/
abbrev s_law_mr_row : Stmt := topS 45
abbrev N_law_mr_row : List Str := ["_law_state", "_law_deeds", "_law_way", "_law_found"]
theorem sc_law_mr_row : FnScope N_law_mr_row ["_law_state", "_law_deeds"] (defScope s_law_mr_row) := ⟨rfl, rfl, rfl, by decide +kernel, rfl, by decide +kernel, by decide +kernel⟩
def p_law_mr_row (en : En) : PM :=
    (seqP (setV 2 (callM 2 FDraw (consM (bnd (nam 0) give) (consM (ret (.int 6)) (ret [])))))
    (seqP (ifP (bnd (bin eqD (nam 2) (dt (ret (.int 0)))) isB) (setV 3 (callM 2 (F_law_mr_times en) (consM (callM 4 (F_law_mk_row en) (consM (bnd (nam 0) give) (consM (bnd (nam 1) give) (consM (ret (.int 1)) (consM (ret (.int 3)) (ret [])))))) (consM (bin addD (dt (ret (.int 2))) (dt (callM 2 FDraw (consM (bnd (nam 0) give) (consM (ret (.int 3)) (ret [])))))) (ret []))))) (ifP (bnd (bin eqD (nam 2) (dt (ret (.int 1)))) isB) (setV 3 (callM 2 (F_law_mr_turned en) (consM (callM 4 (F_law_mk_row en) (consM (bnd (nam 0) give) (consM (bnd (nam 1) give) (consM (ret (.int 0)) (consM (ret (.int 5)) (ret [])))))) (consM (callM 4 (F_law_mk_row en) (consM (bnd (nam 0) give) (consM (bnd (nam 1) give) (consM (ret (.int 1)) (consM (ret (.int 3)) (ret [])))))) (ret []))))) (setV 3 (callM 4 (F_law_mk_row en) (consM (bnd (nam 0) give) (consM (bnd (nam 1) give) (consM (ret (.int 0)) (consM (ret (.int 7)) (ret [])))))))))
    (retP (callM 3 (F_law_mk_raw en) (consM (bnd (nam 0) give) (consM (bnd (nam 1) give) (consM (bnd (nam 3) give) (ret []))))))))
def F_law_mr_row (en : En) : FS := fun ds ls => endF (p_law_mr_row en (ini 4 ds) ls)
theorem ok_law_mr_row (S : SF K mg en) {f : Addr} {fd : FuncData} (F : Fun K "_law_mr_row" "_law_mr_row" s_law_mr_row f fd) (G_law_draw : Has P w K mg base "_law_draw" ["_law_state", "_law_room"] 2 2 FDraw) (G_law_mk_raw : Has P w K mg base "_law_mk_raw" ["_law_state", "_law_deeds", "_law_row"] 4 3 (F_law_mk_raw en)) (G_law_mk_row : Has P w K mg base "_law_mk_row" ["_law_state", "_law_deeds", "_law_least", "_law_most"] 4 4 (F_law_mk_row en)) (G_law_mr_times : Has P w K mg base "_law_mr_times" ["_law_row", "_law_many"] 2 2 (F_law_mr_times en)) (G_law_mr_turned : Has P w K mg base "_law_mr_turned" ["_law_row", "_law_by"] 2 2 (F_law_mr_turned en)) : FnOk P w K mg base (L2.CX P w) 5 f fd ["_law_state", "_law_deeds"] (spD K 2 (F_law_mr_row en)) := by
  have sc := sc_law_mr_row
  refine fn_ok F sc rfl (fun cdv A outer s H E hr => ?_) (p := p_law_mr_row en) fun ds ls h => .inr rfl
  exact (us_cons (us_set 2 sc.nd (u_callH G_law_draw hr (takes_of rfl rfl rfl rfl) (ua_cons (u_give (u_nam 0 (pv 0))) (ua_cons u_int ua_nil))))
    (us_cons (us_if (ut_cmp (op_eqD hr.units) od_eq (u_nam 2 (pv 2)) (u_dt u_int) (nomark _)) (us_one (us_set 3 sc.nd (u_callH G_law_mr_times hr (takes_of rfl rfl rfl rfl) (ua_cons (u_callH G_law_mk_row hr (takes_of rfl rfl rfl rfl) (ua_cons (u_give (u_nam 0 (pv 0))) (ua_cons (u_give (u_nam 1 (pv 1))) (ua_cons u_int (ua_cons u_int ua_nil))))) (ua_cons (u_op op_addU od_add (u_dt u_int) (u_dt (u_callH G_law_draw hr (takes_of rfl rfl rfl rfl) (ua_cons (u_give (u_nam 0 (pv 0))) (ua_cons u_int ua_nil))))) ua_nil))))) (us_one (us_if (ut_cmp (op_eqD hr.units) od_eq (u_nam 2 (pv 2)) (u_dt u_int) (nomark _)) (us_one (us_set 3 sc.nd (u_callH G_law_mr_turned hr (takes_of rfl rfl rfl rfl) (ua_cons (u_callH G_law_mk_row hr (takes_of rfl rfl rfl rfl) (ua_cons (u_give (u_nam 0 (pv 0))) (ua_cons (u_give (u_nam 1 (pv 1))) (ua_cons u_int (ua_cons u_int ua_nil))))) (ua_cons (u_callH G_law_mk_row hr (takes_of rfl rfl rfl rfl) (ua_cons (u_give (u_nam 0 (pv 0))) (ua_cons (u_give (u_nam 1 (pv 1))) (ua_cons u_int (ua_cons u_int ua_nil))))) ua_nil))))) (us_one (us_set 3 sc.nd (u_callH G_law_mk_row hr (takes_of rfl rfl rfl rfl) (ua_cons (u_give (u_nam 0 (pv 0))) (ua_cons (u_give (u_nam 1 (pv 1))) (ua_cons u_int (ua_cons u_int ua_nil))))))))))
    (us_one (us_ret (u_callH G_law_mk_raw hr (takes_of rfl rfl rfl rfl) (ua_cons (u_give (u_nam 0 (pv 0))) (ua_cons (u_give (u_nam 1 (pv 1))) (ua_cons (u_give (u_nam 3 (pv 3))) ua_nil))))))))

/-! ### _law_mr_long -/
abbrev s_law_mr_long : Stmt := topS 46
abbrev N_law_mr_long : List Str := ["_law_state", "_law_deeds", "_law_piece"]
theorem sc_law_mr_long : FnScope N_law_mr_long ["_law_state", "_law_deeds"] (defScope s_law_mr_long) := ⟨rfl, rfl, rfl, by decide +kernel, rfl, by decide +kernel, by decide +kernel⟩
def p_law_mr_long (en : En) : PM :=
    (seqP (setV 2 (callM 4 (F_law_mk_row en) (consM (bnd (nam 0) give) (consM (bnd (nam 1) give) (consM (ret (.int 1)) (consM (ret (.int 9)) (ret [])))))))
    (retP (cutM cutD (dt (bin mulD (nam 2) (dt (ret (.int 200))))) (ret none) (partM (ret (.int 200))))))
def F_law_mr_long (en : En) : FS := fun ds ls => endF (p_law_mr_long en (ini 3 ds) ls)
theorem ok_law_mr_long (S : SF K mg en) {f : Addr} {fd : FuncData} (F : Fun K "_law_mr_long" "_law_mr_long" s_law_mr_long f fd) (G_law_mk_row : Has P w K mg base "_law_mk_row" ["_law_state", "_law_deeds", "_law_least", "_law_most"] 4 4 (F_law_mk_row en)) : FnOk P w K mg base (L2.CX P w) 5 f fd ["_law_state", "_law_deeds"] (spD K 2 (F_law_mr_long en)) := by
  have sc := sc_law_mr_long
  refine fn_ok F sc rfl (fun cdv A outer s H E hr => ?_) (p := p_law_mr_long en) fun ds ls h => .inr rfl
  exact (us_cons (us_set 2 sc.nd (u_callH G_law_mk_row hr (takes_of rfl rfl rfl rfl) (ua_cons (u_give (u_nam 0 (pv 0))) (ua_cons (u_give (u_nam 1 (pv 1))) (ua_cons u_int (ua_cons u_int ua_nil))))))
    (us_one (us_ret (u_cut (u_dt (u_op op_mulU od_mul (u_nam 2 (pv 2)) (u_dt u_int))) uo_none (uo_some u_int)))))

/-! ### ring_of -/
abbrev s_ring_of : Stmt := topS 23
abbrev N_ring_of : List Str := ["deeds", "row"]
theorem sc_ring_of : FnScope N_ring_of ["deeds", "row"] (defScope s_ring_of) := ⟨rfl, rfl, rfl, by decide +kernel, rfl, by decide +kernel, by decide +kernel⟩
def p_ring_of (en : En) : PM :=
    (seqP (drop (callM 1 (F_need_deeds en) (consM (bnd (nam 0) give) (ret []))))
    (retP (callM 1 (F_ring_in en) (consM (callM 2 (F_need_row en) (consM (bnd (nam 0) give) (consM (bnd (nam 1) give) (ret [])))) (ret [])))))
def F_ring_of (en : En) : FS := fun ds ls => endF (p_ring_of en (ini 2 ds) ls)
theorem ok_ring_of (S : SF K mg en) {f : Addr} {fd : FuncData} (F : Fun K "ring_of" "ring_of" s_ring_of f fd) (G_need_deeds : Has P w K mg base "need_deeds" ["deeds"] 3 1 (F_need_deeds en)) (G_need_row : Has P w K mg base "need_row" ["deeds", "row"] 5 2 (F_need_row en)) (G_ring_in : Has P w K mg base "ring_in" ["row"] 3 1 (F_ring_in en)) : FnOk P w K mg base (L2.CX P w) 6 f fd ["deeds", "row"] (spD K 2 (F_ring_of en)) := by
  have sc := sc_ring_of
  refine fn_ok F sc rfl (fun cdv A outer s H E hr => ?_) (p := p_ring_of en) fun ds ls h => .inr rfl
  exact (us_cons (us_expr (u_callH G_need_deeds hr (takes_of rfl rfl rfl rfl) (ua_cons (u_give (u_nam 0 (pv 0))) ua_nil)))
    (us_one (us_ret (u_callH G_ring_in hr (takes_of rfl rfl rfl rfl) (ua_cons (u_callH G_need_row hr (takes_of rfl rfl rfl rfl) (ua_cons (u_give (u_nam 0 (pv 0))) (ua_cons (u_give (u_nam 1 (pv 1))) ua_nil))) ua_nil)))))

/-! ### turner -/
abbrev s_turner : Stmt := topS 24
abbrev N_turner : List Str := ["deeds", "one", "other", "first", "second", "ring", "mate"]
theorem sc_turner : FnScope N_turner ["deeds", "one", "other"] (defScope s_turner) := ⟨rfl, rfl, rfl, by decide +kernel, rfl, by decide +kernel, by decide +kernel⟩
def p_turner (en : En) : PM :=
    (seqP (drop (callM 1 (F_need_deeds en) (consM (bnd (nam 0) give) (ret []))))
    (seqP (setV 3 (callM 2 (F_need_row en) (consM (bnd (nam 0) give) (consM (bnd (nam 1) give) (ret [])))))
    (seqP (setV 4 (callM 2 (F_need_row en) (consM (bnd (nam 0) give) (consM (bnd (nam 2) give) (ret [])))))
    (seqP (par2 5 6 (consM (callM 1 (F_ring_in en) (consM (bnd (nam 3) give) (ret []))) (consM (callM 1 (F_ring_in en) (consM (bnd (nam 4) give) (ret []))) (ret []))))
    (seqP (ifP (bnd (bin neD (nam 5) (nam 6)) isB) (retP (tupM (consM (ret (.str "unlike")) (consM (bnd (nam 5) give) (consM (bnd (nam 6) give) (ret [])))))) skip)
    (retP (tupM (consM (ret (.str "turned")) (consM (callM 1 (F_product_of en) (consM (ls1 (lstM (consM (callM 1 (F_way_to_ring en) (consM (bnd (nam 4) give) (ret []))) (consM (callM 1 (F_undone_of en) (consM (callM 1 (F_way_to_ring en) (consM (bnd (nam 3) give) (ret []))) (ret []))) (ret []))))) (ret []))) (ret []))))))))))
def F_turner (en : En) : FS := fun ds ls => endF (p_turner en (ini 7 ds) ls)
theorem ok_turner (S : SF K mg en) {f : Addr} {fd : FuncData} (F : Fun K "turner" "turner" s_turner f fd) (G_need_deeds : Has P w K mg base "need_deeds" ["deeds"] 3 1 (F_need_deeds en)) (G_need_row : Has P w K mg base "need_row" ["deeds", "row"] 5 2 (F_need_row en)) (G_product_of : Has P w K mg base "product_of" ["some"] 2 1 (F_product_of en)) (G_ring_in : Has P w K mg base "ring_in" ["row"] 3 1 (F_ring_in en)) (G_undone_of : Has P w K mg base "undone_of" ["row"] 1 1 (F_undone_of en)) (G_way_to_ring : Has P w K mg base "way_to_ring" ["row"] 3 1 (F_way_to_ring en)) : FnOk P w K mg base (L2.CX P w) 6 f fd ["deeds", "one", "other"] (spD K 3 (F_turner en)) := by
  have sc := sc_turner
  refine fn_ok F sc rfl (fun cdv A outer s H E hr => ?_) (p := p_turner en) fun ds ls h => .inr rfl
  exact (us_cons (us_expr (u_callH G_need_deeds hr (takes_of rfl rfl rfl rfl) (ua_cons (u_give (u_nam 0 (pv 0))) ua_nil)))
    (us_cons (us_set 3 sc.nd (u_callH G_need_row hr (takes_of rfl rfl rfl rfl) (ua_cons (u_give (u_nam 0 (pv 0))) (ua_cons (u_give (u_nam 1 (pv 1))) ua_nil))))
    (us_cons (us_set 4 sc.nd (u_callH G_need_row hr (takes_of rfl rfl rfl rfl) (ua_cons (u_give (u_nam 0 (pv 0))) (ua_cons (u_give (u_nam 2 (pv 2))) ua_nil))))
    (us_cons (us_par 5 6 rfl sc.nd (ua_cons (u_callH G_ring_in hr (takes_of rfl rfl rfl rfl) (ua_cons (u_give (u_nam 3 (pv 3))) ua_nil)) (ua_cons (u_callH G_ring_in hr (takes_of rfl rfl rfl rfl) (ua_cons (u_give (u_nam 4 (pv 4))) ua_nil)) ua_nil)))
    (us_cons (us_if (ut_cmp (op_neD hr.units) od_ne (u_nam 5 (pv 5)) (u_nam 6 (pv 6)) (nomark _)) (us_one (us_ret (u_tup (ua_cons u_str (ua_cons (u_give (u_nam 5 (pv 5))) (ua_cons (u_give (u_nam 6 (pv 6))) ua_nil)))))) us_nil)
    (us_one (us_ret (u_tup (ua_cons u_str (ua_cons (u_callH G_product_of hr (takes_of rfl rfl rfl rfl) (ua_cons (u_ls (u_lst (ua_cons (u_callH G_way_to_ring hr (takes_of rfl rfl rfl rfl) (ua_cons (u_give (u_nam 4 (pv 4))) ua_nil)) (ua_cons (u_callH G_undone_of hr (takes_of rfl rfl rfl rfl) (ua_cons (u_callH G_way_to_ring hr (takes_of rfl rfl rfl rfl) (ua_cons (u_give (u_nam 3 (pv 3))) ua_nil)) ua_nil)) ua_nil)))) ua_nil)) ua_nil))))))))))

/-! ### _law_mr_mate -/
abbrev s_law_mr_mate : Stmt := topS 47
abbrev N_law_mr_mate : List Str := ["_law_state", "_law_deeds", "_law_row", "_law_way", "_law_ring", "_law_at"]
theorem sc_law_mr_mate : FnScope N_law_mr_mate ["_law_state", "_law_deeds", "_law_row"] (defScope s_law_mr_mate) := ⟨rfl, rfl, rfl, by decide +kernel, rfl, by decide +kernel, by decide +kernel⟩
def p_law_mr_mate (en : En) : PM :=
    (seqP (par2 3 4 (consM (callM 2 FDraw (consM (bnd (nam 0) give) (consM (ret (.int 7)) (ret [])))) (consM (callM 1 (F_law_mk_ring en) (consM (bnd (nam 2) give) (ret []))) (ret []))))
    (seqP (ifP (bnd (bin ltD (nam 3) (dt (ret (.int 2)))) isB) (retP (callM 3 (F_law_mk_raw en) (consM (bnd (nam 0) give) (consM (bnd (nam 1) give) (consM (callM 2 (F_law_mr_turned en) (consM (bnd (nam 2) give) (consM (callM 4 (F_law_mk_row en) (consM (bnd (nam 0) give) (consM (bnd (nam 1) give) (consM (ret (.int 0)) (consM (ret (.int 4)) (ret [])))))) (ret [])))) (ret [])))))) skip)
    (seqP (ifP (bnd (bin eqD (nam 3) (dt (ret (.int 2)))) isB) (retP (callM 1 (F_law_mk_undone en) (consM (bnd (nam 2) give) (ret [])))) skip)
    (seqP (ifP (bnd (bin eqD (nam 3) (dt (ret (.int 3)))) isB) (retP (uno tupleD (dt (callM 2 (F_law_shuffled en) (consM (bnd (nam 0) give) (consM (ls1 (uno listD (nam 2))) (ret []))))))) skip)
    (seqP (ifP (andM (bnd (bin eqD (nam 3) (dt (ret (.int 4)))) isB) (bnd (bin neD (nam 4) (dt (tupM (ret [])))) isB)) (seqP (setV 5 (callM 2 FDraw (consM (bnd (nam 0) give) (consM (uno lenD (nam 4)) (ret [])))))
    (retP (bin addD (dt (bin addD (dt (cutM cutD (nam 4) (ret none) (partM (bnd (nam 5) give)))) (dt (tupM (consM (callM 2 (F_law_pick en) (consM (bnd (nam 0) give) (consM (callM 1 (F_law_mk_letters en) (consM (bnd (nam 1) give) (ret []))) (ret [])))) (ret [])))))) (dt (cutM cutD (nam 4) (partM (bin addD (nam 5) (dt (ret (.int 1))))) (ret none)))))) skip)
    (seqP (ifP (bnd (bin eqD (nam 3) (dt (ret (.int 5)))) isB) (retP (callM 1 (F_law_mk_plain en) (consM (bin addD (nam 2) (dt (callM 4 (F_law_mk_row en) (consM (bnd (nam 0) give) (consM (bnd (nam 1) give) (consM (ret (.int 1)) (consM (ret (.int 1)) (ret [])))))))) (ret [])))) skip)
    (retP (callM 2 (F_law_mr_row en) (consM (bnd (nam 0) give) (consM (bnd (nam 1) give) (ret [])))))))))))
def F_law_mr_mate (en : En) : FS := fun ds ls => endF (p_law_mr_mate en (ini 6 ds) ls)
theorem ok_law_mr_mate (S : SF K mg en) {f : Addr} {fd : FuncData} (F : Fun K "_law_mr_mate" "_law_mr_mate" s_law_mr_mate f fd) (G_law_draw : Has P w K mg base "_law_draw" ["_law_state", "_law_room"] 2 2 FDraw) (G_law_mk_letters : Has P w K mg base "_law_mk_letters" ["_law_deeds"] 1 1 (F_law_mk_letters en)) (G_law_mk_plain : Has P w K mg base "_law_mk_plain" ["_law_letters"] 1 1 (F_law_mk_plain en)) (G_law_mk_raw : Has P w K mg base "_law_mk_raw" ["_law_state", "_law_deeds", "_law_row"] 4 3 (F_law_mk_raw en)) (G_law_mk_ring : Has P w K mg base "_law_mk_ring" ["_law_row"] 2 1 (F_law_mk_ring en)) (G_law_mk_row : Has P w K mg base "_law_mk_row" ["_law_state", "_law_deeds", "_law_least", "_law_most"] 4 4 (F_law_mk_row en)) (G_law_mk_undone : Has P w K mg base "_law_mk_undone" ["_law_row"] 1 1 (F_law_mk_undone en)) (G_law_mr_row : Has P w K mg base "_law_mr_row" ["_law_state", "_law_deeds"] 5 2 (F_law_mr_row en)) (G_law_mr_turned : Has P w K mg base "_law_mr_turned" ["_law_row", "_law_by"] 2 2 (F_law_mr_turned en)) (G_law_pick : Has P w K mg base "_law_pick" ["_law_state", "_law_some"] 3 2 (F_law_pick en)) (G_law_shuffled : Has P w K mg base "_law_shuffled" ["_law_state", "_law_some"] 3 2 (F_law_shuffled en)) : FnOk P w K mg base (L2.CX P w) 6 f fd ["_law_state", "_law_deeds", "_law_row"] (spD K 3 (F_law_mr_mate en)) := by
  have sc := sc_law_mr_mate
  refine fn_ok F sc rfl (fun cdv A outer s H E hr => ?_) (p := p_law_mr_mate en) fun ds ls h => .inr rfl
  exact (us_cons (us_par 3 4 rfl sc.nd (ua_cons (u_callH G_law_draw hr (takes_of rfl rfl rfl rfl) (ua_cons (u_give (u_nam 0 (pv 0))) (ua_cons u_int ua_nil))) (ua_cons (u_callH G_law_mk_ring hr (takes_of rfl rfl rfl rfl) (ua_cons (u_give (u_nam 2 (pv 2))) ua_nil)) ua_nil)))
    (us_cons (us_if (ut_cmp op_lt od_lt (u_nam 3 (pv 3)) (u_dt u_int) (nomark _)) (us_one (us_ret (u_callH G_law_mk_raw hr (takes_of rfl rfl rfl rfl) (ua_cons (u_give (u_nam 0 (pv 0))) (ua_cons (u_give (u_nam 1 (pv 1))) (ua_cons (u_callH G_law_mr_turned hr (takes_of rfl rfl rfl rfl) (ua_cons (u_give (u_nam 2 (pv 2))) (ua_cons (u_callH G_law_mk_row hr (takes_of rfl rfl rfl rfl) (ua_cons (u_give (u_nam 0 (pv 0))) (ua_cons (u_give (u_nam 1 (pv 1))) (ua_cons u_int (ua_cons u_int ua_nil))))) ua_nil))) ua_nil)))))) us_nil)
    (us_cons (us_if (ut_cmp (op_eqD hr.units) od_eq (u_nam 3 (pv 3)) (u_dt u_int) (nomark _)) (us_one (us_ret (u_callH G_law_mk_undone hr (takes_of rfl rfl rfl rfl) (ua_cons (u_give (u_nam 2 (pv 2))) ua_nil)))) us_nil)
    (us_cons (us_if (ut_cmp (op_eqD hr.units) od_eq (u_nam 3 (pv 3)) (u_dt u_int) (nomark _)) (us_one (us_ret (u_tuple S.m_tuple (u_dt (u_callH G_law_shuffled hr (takes_of rfl rfl rfl rfl) (ua_cons (u_give (u_nam 0 (pv 0))) (ua_cons (u_ls (u_list S.m_list (u_nam 2 (pv 2)))) ua_nil))))))) us_nil)
    (us_cons (us_if (PW.pt (ut_and (ut_cmp (op_eqD hr.units) od_eq (u_nam 3 (pv 3)) (u_dt u_int) (nomark _)) (ut_and1 (ut_cmp (op_neD hr.units) od_ne (u_nam 4 (pv 4)) (u_dt (u_tup ua_nil)) (nomark _))))) (us_cons (us_set 5 sc.nd (u_callH G_law_draw hr (takes_of rfl rfl rfl rfl) (ua_cons (u_give (u_nam 0 (pv 0))) (ua_cons (u_len S.m_len (u_nam 4 (pv 4))) ua_nil))))
    (us_one (us_ret (u_op op_addU od_add (u_dt (u_op op_addU od_add (u_dt (u_cut (u_nam 4 (pv 4)) uo_none (uo_some (u_give (u_nam 5 (pv 5)))))) (u_dt (u_tup (ua_cons (u_callH G_law_pick hr (takes_of rfl rfl rfl rfl) (ua_cons (u_give (u_nam 0 (pv 0))) (ua_cons (u_callH G_law_mk_letters hr (takes_of rfl rfl rfl rfl) (ua_cons (u_give (u_nam 1 (pv 1))) ua_nil)) ua_nil))) ua_nil))))) (u_dt (u_cut (u_nam 4 (pv 4)) (uo_some (u_op op_addU od_add (u_nam 5 (pv 5)) (u_dt u_int))) uo_none)))))) us_nil)
    (us_cons (us_if (ut_cmp (op_eqD hr.units) od_eq (u_nam 3 (pv 3)) (u_dt u_int) (nomark _)) (us_one (us_ret (u_callH G_law_mk_plain hr (takes_of rfl rfl rfl rfl) (ua_cons (u_op op_addU od_add (u_nam 2 (pv 2)) (u_dt (u_callH G_law_mk_row hr (takes_of rfl rfl rfl rfl) (ua_cons (u_give (u_nam 0 (pv 0))) (ua_cons (u_give (u_nam 1 (pv 1))) (ua_cons u_int (ua_cons u_int ua_nil))))))) ua_nil)))) us_nil)
    (us_one (us_ret (u_callH G_law_mr_row hr (takes_of rfl rfl rfl rfl) (ua_cons (u_give (u_nam 0 (pv 0))) (ua_cons (u_give (u_nam 1 (pv 1))) ua_nil)))))))))))
end
end Pd

set_option Elab.async false
set_option linter.all false
set_option maxRecDepth 100000
set_option maxHeartbeats 4000000
/-! the walk -/
namespace Pd
open PySem PySem.Spec PyProof.Rows L2
section
variable {P : Program} {w : World} {K : PySem.W.Frag} {mg : Str → Option Value} {base : Heap} {en : En}

/-! ### law -/
abbrev s_law : Stmt := topS 49
abbrev N_law : List Str := ["_law_script", "_law_state", "_law_turn", "_law_deeds", "_law_row", "_law_one", "_law_mate", "_law_other", "_law_found", "_law_wrong", "_law_bad", "_law_first", "_law_second"]
theorem sc_law : FnScope N_law ["_law_script"] (defScope s_law) := ⟨rfl, rfl, rfl, by decide +kernel, rfl, by decide +kernel, by decide +kernel⟩
def p_law (en : En) : PM :=
    (seqP (forP (tgName 2) (bnd (consM (bin addD (dt (ret (.int 4))) (dt (bin minD (dt (uno lenD (nam 0))) (dt (ret (.int 4)))))) (ret [])) fun ds => opt (rng1D ds)) (seqP (setV 3 (bin addD (dt (ret (.int 1))) (dt (callM 2 FDraw (consM (bnd (nam 1) give) (consM (ret (.int 4)) (ret [])))))))
    (seqP (setV 4 (callM 2 (F_law_mr_row en) (consM (bnd (nam 1) give) (consM (bnd (nam 3) give) (ret [])))))
    (seqP (ifP (bnd (bin eqD (dt (callM 2 FDraw (consM (bnd (nam 1) give) (consM (ret (.int 12)) (ret []))))) (dt (ret (.int 0)))) isB) (setV 4 (callM 1 (F_law_mk_plain en) (consM (callM 2 (F_law_mr_long en) (consM (bnd (nam 1) give) (consM (bnd (nam 3) give) (ret [])))) (ret [])))) skip)
    (seqP (setV 5 (callM 1 (F_law_mk_plain en) (consM (bnd (nam 4) give) (ret []))))
    (seqP (setV 6 (cutM cutD (dt (callM 3 (F_law_mr_mate en) (consM (bnd (nam 1) give) (consM (bnd (nam 3) give) (consM (bnd (nam 5) give) (ret [])))))) (ret none) (partM (ret (.int 200)))))
    (seqP (setV 7 (callM 1 (F_law_mk_plain en) (consM (bnd (nam 6) give) (ret []))))
    (seqP (ifP (notM (bnd (callM 2 (F_law_mr_same en) (consM (keyM 2 (F_ring_of en) 0 2 [0, 1] (ret []) (consM (bnd (nam 3) give) (consM (bnd (nam 4) give) (ret [])))) (consM (callM 1 (F_law_mk_ring en) (consM (bnd (nam 5) give) (ret []))) (ret [])))) isB)) (retP (ret (.bl false))) skip)
    (seqP (ifP (notM (bnd (callM 2 (F_law_mr_same en) (consM (callM 2 (F_ring_of en) (consM (bnd (nam 3) give) (consM (bnd (nam 6) give) (ret [])))) (consM (callM 1 (F_law_mk_ring en) (consM (bnd (nam 7) give) (ret []))) (ret [])))) isB)) (retP (ret (.bl false))) skip)
    (seqP (setV 8 (keyM 3 (F_turner en) 0 3 [0, 1, 2] (ret []) (consM (bnd (nam 3) give) (consM (bnd (nam 4) give) (consM (bnd (nam 6) give) (ret []))))))
    (seqP (ifP (orM (notM (bnd (callM 4 (F_law_mr_is_turner en) (consM (bnd (nam 3) give) (consM (bnd (nam 5) give) (consM (bnd (nam 7) give) (consM (bnd (nam 8) give) (ret [])))))) isB)) (bnd (bin neD (dt (callM 3 (F_turner en) (consM (bnd (nam 3) give) (consM (bnd (nam 4) give) (consM (bnd (nam 6) give) (ret [])))))) (nam 8)) isB)) (retP (ret (.bl false))) skip)
    (seqP (ifP (notM (bnd (callM 4 (F_law_mr_is_turner en) (consM (bnd (nam 3) give) (consM (bnd (nam 7) give) (consM (bnd (nam 5) give) (consM (callM 3 (F_turner en) (consM (bnd (nam 3) give) (consM (bnd (nam 6) give) (consM (bnd (nam 4) give) (ret []))))) (ret [])))))) isB)) (retP (ret (.bl false))) skip)
    (seqP (lift (tupM (consM (callM 1 (F_law_mk_bad_deeds en) (consM (bnd (nam 1) give) (ret []))) (consM (callM 2 (F_law_mk_bad_row en) (consM (bnd (nam 1) give) (consM (bnd (nam 3) give) (ret [])))) (ret [])))) (asgP (tgTup (tgCons (tgName 9) (tgCons (tgName 10) tgNil)))))
    (seqP (forP (tgTup (tgCons (tgName 11) (tgCons (tgName 12) tgNil))) (itemsM (ls1 (lstM (consM (tupM (consM (bnd (nam 10) give) (consM (bnd (nam 6) give) (ret [])))) (consM (tupM (consM (bnd (nam 4) give) (consM (bnd (nam 10) give) (ret [])))) (consM (tupM (consM (bnd (nam 10) give) (consM (bnd (nam 10) give) (ret [])))) (ret []))))))) (seqP (ifP (notM (bnd (uno (isiE en.t_BadRow) (dt (caughtM en.T en.cs (callM 3 (F_turner en) (consM (bnd (nam 3) give) (consM (bnd (nam 11) give) (consM (bnd (nam 12) give) (ret [])))))))) isB)) (retP (ret (.bl false))) skip)
    (ifP (notM (bnd (uno (isiE en.t_BadDeeds) (dt (caughtM en.T en.cs (callM 3 (F_turner en) (consM (bnd (nam 9) give) (consM (bnd (nam 11) give) (consM (bnd (nam 12) give) (ret [])))))))) isB)) (retP (ret (.bl false))) skip)))
    (seqP (ifP (notM (bnd (uno (isiE en.t_BadDeeds) (dt (caughtM en.T en.cs (callM 2 (F_ring_of en) (consM (bnd (nam 9) give) (consM (bnd (nam 10) give) (ret []))))))) isB)) (retP (ret (.bl false))) skip)
    (ifP (notM (bnd (uno (isiE en.t_BadRow) (dt (caughtM en.T en.cs (callM 2 (F_ring_of en) (consM (bnd (nam 3) give) (consM (bnd (nam 10) give) (ret []))))))) isB)) (retP (ret (.bl false))) skip))))))))))))))))
    (retP (ret (.bl true))))
theorem ok_lawbody (S : SF K mg en) {f fb : Addr} {fdb : FuncData} (Gb : FnOk P w K mg base (L2.CX P w) 1 fb fdb ["_law_script"] (spBegun K en.T)) (gb : mg "_law_begun" = some (.ref fb)) (kb : PySem.W.keepIn K (.ref fb) = true) (bb : L2.Binds K fdb ["_law_script"] []) {c Pt g : Addr} {fdc : FuncData} (C : CaF K mg g fdc) (TB : LamX.TabB base mg c Pt) (hmT : (Pt, ("law.<locals>." : Str) ++ "<lambda>") ∈ en.T) (hu : ∀ p ∈ en.T, p.1 = Pt → p.2 = ("law.<locals>." : Str) ++ "<lambda>") {A : Around} {outer : List Env} {s : Shared} {H : Hp} {E : XK} (hr : Room 8 (A.deeper (envOfC "law" (defScope s_law) s.heap.objs.size f (.ref c)))) (G_law_draw : Has P w K mg base "_law_draw" ["_law_state", "_law_room"] 2 2 FDraw) (G_law_mk_bad_deeds : Has P w K mg base "_law_mk_bad_deeds" ["_law_state"] 4 1 (F_law_mk_bad_deeds en)) (G_law_mk_bad_row : Has P w K mg base "_law_mk_bad_row" ["_law_state", "_law_deeds"] 4 2 (F_law_mk_bad_row en)) (G_law_mk_plain : Has P w K mg base "_law_mk_plain" ["_law_letters"] 1 1 (F_law_mk_plain en)) (G_law_mk_ring : Has P w K mg base "_law_mk_ring" ["_law_row"] 2 1 (F_law_mk_ring en)) (G_law_mr_is_turner : Has P w K mg base "_law_mr_is_turner" ["_law_deeds", "_law_one", "_law_other", "_law_found"] 3 4 (F_law_mr_is_turner en)) (G_law_mr_long : Has P w K mg base "_law_mr_long" ["_law_state", "_law_deeds"] 5 2 (F_law_mr_long en)) (G_law_mr_mate : Has P w K mg base "_law_mr_mate" ["_law_state", "_law_deeds", "_law_row"] 6 3 (F_law_mr_mate en)) (G_law_mr_row : Has P w K mg base "_law_mr_row" ["_law_state", "_law_deeds"] 5 2 (F_law_mr_row en)) (G_law_mr_same : Has P w K mg base "_law_mr_same" ["_law_found", "_law_due"] 2 2 (F_law_mr_same en)) (G_ring_of : Has P w K mg base "ring_of" ["deeds", "row"] 6 2 (F_ring_of en)) (G_turner : Has P w K mg base "turner" ["deeds", "one", "other"] 6 3 (F_turner en)) (K_ring_of_0_deeds_row : HasK P w K mg base "ring_of" ["deeds", "row"] 6 2 (F_ring_of en) 0 ["deeds", "row"] [0, 1]) (K_turner_0_deeds_one_other : HasK P w K mg base "turner" ["deeds", "one", "other"] 6 3 (F_turner en) 0 ["deeds", "one", "other"] [0, 1, 2]) : PSs (cxOf (L2.CX P w) P w K mg base N_law "law" (defScope s_law) f (.ref c) A outer s H E) (defBody s_law) (tSeq (tAsg (tCallS (spBegun K en.T) (WE fun cls d _ H => E cls d H) (tCons (tVar 0) tNil)) (gName 1)) (US K (fun cls d _ H => E cls d H) (p_law en))) := by
  have sc := sc_law
  exact pss_cons (ps_set (i := 1) sc.nd rfl (by first | exact Or.inl rfl | exact Or.inr rfl) (pe_callS Gb (hr.mono (by decide)) rfl gb kb bb (fun σ => passAt (takes_of rfl rfl rfl rfl) σ) (pa_cons (pv 0) pa_nil))) (us_cons (us_for (passes_of rfl) rfl (ui_range1 S.m_range (ua_cons (u_op op_addU od_add (u_dt u_int) (u_dt (u_min S.m_min rfl (u_dt (u_len S.m_len (u_nam 0 (pv 0)))) (u_dt u_int)))) ua_nil)) (pg_name (i := 2) sc.nd rfl (by first | exact Or.inl rfl | exact Or.inr rfl)) tg_name (us_cons (us_set 3 sc.nd (u_op op_addU od_add (u_dt u_int) (u_dt (u_callH G_law_draw hr (takes_of rfl rfl rfl rfl) (ua_cons (u_give (u_nam 1 (pv 1))) (ua_cons u_int ua_nil))))))
    (us_cons (us_set 4 sc.nd (u_callH G_law_mr_row hr (takes_of rfl rfl rfl rfl) (ua_cons (u_give (u_nam 1 (pv 1))) (ua_cons (u_give (u_nam 3 (pv 3))) ua_nil))))
    (us_cons (us_if (ut_cmp (op_eqD hr.units) od_eq (u_dt (u_callH G_law_draw hr (takes_of rfl rfl rfl rfl) (ua_cons (u_give (u_nam 1 (pv 1))) (ua_cons u_int ua_nil)))) (u_dt u_int) (nomark _)) (us_one (us_set 4 sc.nd (u_callH G_law_mk_plain hr (takes_of rfl rfl rfl rfl) (ua_cons (u_callH G_law_mr_long hr (takes_of rfl rfl rfl rfl) (ua_cons (u_give (u_nam 1 (pv 1))) (ua_cons (u_give (u_nam 3 (pv 3))) ua_nil))) ua_nil)))) us_nil)
    (us_cons (us_set 5 sc.nd (u_callH G_law_mk_plain hr (takes_of rfl rfl rfl rfl) (ua_cons (u_give (u_nam 4 (pv 4))) ua_nil)))
    (us_cons (us_set 6 sc.nd (u_cut (u_dt (u_callH G_law_mr_mate hr (takes_of rfl rfl rfl rfl) (ua_cons (u_give (u_nam 1 (pv 1))) (ua_cons (u_give (u_nam 3 (pv 3))) (ua_cons (u_give (u_nam 5 (pv 5))) ua_nil))))) uo_none (uo_some u_int)))
    (us_cons (us_set 7 sc.nd (u_callH G_law_mk_plain hr (takes_of rfl rfl rfl rfl) (ua_cons (u_give (u_nam 6 (pv 6))) ua_nil)))
    (us_cons (us_if (ut_not (ut_val (u_callH G_law_mr_same hr (takes_of rfl rfl rfl rfl) (ua_cons (u_callK0 K_ring_of_0_deeds_row hr (takes_of rfl rfl rfl rfl) (uk_cons (u_give (u_nam 3 (pv 3))) (uk_cons (u_give (u_nam 4 (pv 4))) uk_nil))) (ua_cons (u_callH G_law_mk_ring hr (takes_of rfl rfl rfl rfl) (ua_cons (u_give (u_nam 5 (pv 5))) ua_nil)) ua_nil))))) (us_one (us_ret u_bl)) us_nil)
    (us_cons (us_if (ut_not (ut_val (u_callH G_law_mr_same hr (takes_of rfl rfl rfl rfl) (ua_cons (u_callH G_ring_of hr (takes_of rfl rfl rfl rfl) (ua_cons (u_give (u_nam 3 (pv 3))) (ua_cons (u_give (u_nam 6 (pv 6))) ua_nil))) (ua_cons (u_callH G_law_mk_ring hr (takes_of rfl rfl rfl rfl) (ua_cons (u_give (u_nam 7 (pv 7))) ua_nil)) ua_nil))))) (us_one (us_ret u_bl)) us_nil)
    (us_cons (us_set 8 sc.nd (u_callK0 K_turner_0_deeds_one_other hr (takes_of rfl rfl rfl rfl) (uk_cons (u_give (u_nam 3 (pv 3))) (uk_cons (u_give (u_nam 4 (pv 4))) (uk_cons (u_give (u_nam 6 (pv 6))) uk_nil)))))
    (us_cons (us_if (PW.pt (ut_or (ut_not (ut_val (u_callH G_law_mr_is_turner hr (takes_of rfl rfl rfl rfl) (ua_cons (u_give (u_nam 3 (pv 3))) (ua_cons (u_give (u_nam 5 (pv 5))) (ua_cons (u_give (u_nam 7 (pv 7))) (ua_cons (u_give (u_nam 8 (pv 8))) ua_nil))))))) (ut_or1 (ut_cmp (op_neD hr.units) od_ne (u_dt (u_callH G_turner hr (takes_of rfl rfl rfl rfl) (ua_cons (u_give (u_nam 3 (pv 3))) (ua_cons (u_give (u_nam 4 (pv 4))) (ua_cons (u_give (u_nam 6 (pv 6))) ua_nil))))) (u_nam 8 (pv 8)) (nomark _))))) (us_one (us_ret u_bl)) us_nil)
    (us_cons (us_if (ut_not (ut_val (u_callH G_law_mr_is_turner hr (takes_of rfl rfl rfl rfl) (ua_cons (u_give (u_nam 3 (pv 3))) (ua_cons (u_give (u_nam 7 (pv 7))) (ua_cons (u_give (u_nam 5 (pv 5))) (ua_cons (u_callH G_turner hr (takes_of rfl rfl rfl rfl) (ua_cons (u_give (u_nam 3 (pv 3))) (ua_cons (u_give (u_nam 6 (pv 6))) (ua_cons (u_give (u_nam 4 (pv 4))) ua_nil)))) ua_nil))))))) (us_one (us_ret u_bl)) us_nil)
    (us_cons (us_asg (u_tup (ua_cons (u_callH G_law_mk_bad_deeds hr (takes_of rfl rfl rfl rfl) (ua_cons (u_give (u_nam 1 (pv 1))) ua_nil)) (ua_cons (u_callH G_law_mk_bad_row hr (takes_of rfl rfl rfl rfl) (ua_cons (u_give (u_nam 1 (pv 1))) (ua_cons (u_give (u_nam 3 (pv 3))) ua_nil))) ua_nil))) (pg_tup rfl (pgs_cons (pg_name (i := 9) sc.nd rfl (by first | exact Or.inl rfl | exact Or.inr rfl)) (pgs_cons (pg_name (i := 10) sc.nd rfl (by first | exact Or.inl rfl | exact Or.inr rfl)) pgs_nil))) (tgs_len (tgnS (tgnS tgn0)) (tg_cons tg_name (tg_cons tg_name tg_nil))))
    (us_cons (us_for (passes_of rfl) rfl (ui_seq (u_ls (u_lst (ua_cons (u_tup (ua_cons (u_give (u_nam 10 (pv 10))) (ua_cons (u_give (u_nam 6 (pv 6))) ua_nil))) (ua_cons (u_tup (ua_cons (u_give (u_nam 4 (pv 4))) (ua_cons (u_give (u_nam 10 (pv 10))) ua_nil))) (ua_cons (u_tup (ua_cons (u_give (u_nam 10 (pv 10))) (ua_cons (u_give (u_nam 10 (pv 10))) ua_nil))) ua_nil)))))) (pg_tup rfl (pgs_cons (pg_name (i := 11) sc.nd rfl (by first | exact Or.inl rfl | exact Or.inr rfl)) (pgs_cons (pg_name (i := 12) sc.nd rfl (by first | exact Or.inl rfl | exact Or.inr rfl)) pgs_nil))) (tgs_len (tgnS (tgnS tgn0)) (tg_cons tg_name (tg_cons tg_name tg_nil))) (us_cons (us_if (ut_not (ut_val (u_isE S.is_BadRow S.m_isinstance (u_dt (u_caught (k := 6) C.Fc C.gm C.bc S.ke S.cs_ok TB rfl hmT hu hr (fun A outer s H E f' c' hr => (u_callH G_turner hr (takes_of rfl rfl rfl rfl) (ua_cons (u_give (u_nam 3 (pv 3))) (ua_cons (u_give (u_nam 11 (pv 11))) (ua_cons (u_give (u_nam 12 (pv 12))) ua_nil))))) (L := LamX.lamS_by (sc := defScope s_law) (by decide +kernel)))) S.c_BadRow.gC))) (us_one (us_ret u_bl)) us_nil)
    (us_one (us_if (ut_not (ut_val (u_isE S.is_BadDeeds S.m_isinstance (u_dt (u_caught (k := 6) C.Fc C.gm C.bc S.ke S.cs_ok TB rfl hmT hu hr (fun A outer s H E f' c' hr => (u_callH G_turner hr (takes_of rfl rfl rfl rfl) (ua_cons (u_give (u_nam 9 (pv 9))) (ua_cons (u_give (u_nam 11 (pv 11))) (ua_cons (u_give (u_nam 12 (pv 12))) ua_nil))))) (L := LamX.lamS_by (sc := defScope s_law) (by decide +kernel)))) S.c_BadDeeds.gC))) (us_one (us_ret u_bl)) us_nil))))
    (us_cons (us_if (ut_not (ut_val (u_isE S.is_BadDeeds S.m_isinstance (u_dt (u_caught (k := 6) C.Fc C.gm C.bc S.ke S.cs_ok TB rfl hmT hu hr (fun A outer s H E f' c' hr => (u_callH G_ring_of hr (takes_of rfl rfl rfl rfl) (ua_cons (u_give (u_nam 9 (pv 9))) (ua_cons (u_give (u_nam 10 (pv 10))) ua_nil)))) (L := LamX.lamS_by (sc := defScope s_law) (by decide +kernel)))) S.c_BadDeeds.gC))) (us_one (us_ret u_bl)) us_nil)
    (us_one (us_if (ut_not (ut_val (u_isE S.is_BadRow S.m_isinstance (u_dt (u_caught (k := 6) C.Fc C.gm C.bc S.ke S.cs_ok TB rfl hmT hu hr (fun A outer s H E f' c' hr => (u_callH G_ring_of hr (takes_of rfl rfl rfl rfl) (ua_cons (u_give (u_nam 3 (pv 3))) (ua_cons (u_give (u_nam 10 (pv 10))) ua_nil)))) (L := LamX.lamS_by (sc := defScope s_law) (by decide +kernel)))) S.c_BadRow.gC))) (us_one (us_ret u_bl)) us_nil)))))))))))))))))
    (us_one (us_ret u_bl)))
end
end Pd

set_option Elab.async false
set_option linter.all false
set_option maxRecDepth 100000
set_option maxHeartbeats 4000000
/-! Pw: what a program comes to: weakest wishes, computed. -/
namespace Pd
open PySem PySem.Spec PyProof.Rows L2
abbrev EX := XV → LS → Prop
def wU {α : Type} (o : Out α) (Q : α → Rho → LS → Prop) (E : EX) : Prop := match o with
  | .ok a ρ' ls' => Q a ρ' ls'
  | .rs x ls' => E x ls'
  | .no => False
def wM {α : Type} (f : M α) (ρ : Rho) (ls : LS) (Q : α → Rho → LS → Prop) (E : EX) : Prop := wU (f ρ ls) Q E
structure PQ where
  nx : Rho → LS → Prop
  bk : Rho → LS → Prop
  ct : Rho → LS → Prop
  rt : D → LS → Prop
  rs : EX
  rtN : List D → LS → Prop := fun _ _ => False
def wO (o : PO) (Q : PQ) : Prop := match o with
  | .nx ρ ls => Q.nx ρ ls
  | .bk ρ ls => Q.bk ρ ls
  | .ct ρ ls => Q.ct ρ ls
  | .rt d ls => Q.rt d ls
  | .rtN l ls => Q.rtN l ls
  | .rs x ls => Q.rs x ls
  | .no => False
def wP (p : PM) (ρ : Rho) (ls : LS) (Q : PQ) : Prop := wO (p ρ ls) Q
def wF (o : FO) (G : D → LS → Prop) (E : EX) : Prop := match o with
  | .ok d ls => G d ls
  | .okN _ _ => False
  | .rs x ls => E x ls
  | .no => False
/-- a def that gives a new list -/
def wFN (o : FO) (G : List D → LS → Prop) (E : EX) : Prop := match o with
  | .okN l ls => G l ls
  | .rs x ls => E x ls
  | _ => False
/-- an option that must be there -/
def wI {α : Type} (o : Option α) (Q : α → Prop) : Prop := match o with
  | some a => Q a
  | none => False
/-- a slot as a name, as data, as a list of one's own -/
def nmI (i : Nat) (o : Option Sl) (q : Rf → Prop) : Prop := match o with
  | some (.dat x) => q (.d x)
  | some (.own _) => q (.sl i)
  | _ => False
def gvI (i : Nat) (ρ : Rho) (ls : LS) (o : Option Sl) (q : D → Rho → LS → Prop) : Prop := match o with
  | some (.dat x) => q x ρ ls
  | some (.own ds) => q (.lst ds) (ρ.set i (.dat (.lst ds))) ls
  | _ => False
def owI (o : Option Sl) (q : List D → Prop) : Prop := match o with
  | some (.own ds) => q ds
  | _ => False
def inI (o : Option Sl) (q : Int → Prop) : Prop := match o with
  | some (.dat (.int a)) => q a
  | _ => False
def itI (d : D) (q : Int → Prop) : Prop := match d with
  | .int a => q a
  | _ => False
section
variable {α β : Type} {ρ : Rho} {ls : LS} {Q : α → Rho → LS → Prop} {Qb : β → Rho → LS → Prop} {QD : D → Rho → LS → Prop} {QB : Bool → Rho → LS → Prop} {QL : List D → Rho → LS → Prop} {QR : Rf → Rho → LS → Prop} {E : EX} {R : PQ}
theorem wM_imp {f : M α} {Q' : α → Rho → LS → Prop} {E' : EX} (h : wM f ρ ls Q E) (i : ∀ a ρ ls, Q a ρ ls → Q' a ρ ls) (j : ∀ x ls, E x ls → E' x ls) : wM f ρ ls Q' E' := by
  unfold wM wU at *
  cases e : f ρ ls with
  | ok a ρ' ls' => rw [e] at h; exact i _ _ _ h
  | rs x ls' => rw [e] at h; exact j _ _ h
  | no => rw [e] at h; exact h
theorem wM_bnd {f : M α} {g : α → M β} : wM (bnd f g) ρ ls Qb E = wM f ρ ls (fun a ρ ls => wM (g a) ρ ls Qb E) E := by
  show wU (match f ρ ls with | .ok a ρ' ls' => g a ρ' ls' | .rs x ls' => .rs x ls' | .no => .no) Qb E = wU (f ρ ls) _ E
  cases f ρ ls <;> rfl
theorem wM_ret {a : α} : wM (ret a) ρ ls Q E = Q a ρ ls := rfl
theorem wM_opt {o : Option α} : wM (opt o) ρ ls Q E = wI o fun a => Q a ρ ls := by cases o <;> rfl
theorem wI_some {a : α} {q : α → Prop} : wI (some a) q = q a := rfl
theorem wM_nam {i : Nat} : wM (nam i) ρ ls QR E = nmI i ρ[i]? fun r => QR r ρ ls := by
  show wU (namS i ρ ls ρ[i]?) QR E = _
  unfold namS
  cases ρ[i]? with
  | none => rfl
  | some s => cases s <;> rfl
theorem wM_lookd {x : D} : wM (look (.d x)) ρ ls QD E = QD x ρ ls := rfl
theorem wM_looks {i : Nat} : wM (look (.sl i)) ρ ls QD E = wI (slD ρ[i]?) fun a => QD a ρ ls := by
  show wU (opt (slD ρ[i]?) ρ ls) QD E = _
  cases slD ρ[i]? <;> rfl
theorem wM_gived {x : D} : wM (give (.d x)) ρ ls QD E = QD x ρ ls := rfl
theorem wM_gives {i : Nat} : wM (give (.sl i)) ρ ls QD E = gvI i ρ ls ρ[i]? QD := by
  show wU (giveS i ρ ls ρ[i]?) QD E = _
  unfold giveS
  cases ρ[i]? with
  | none => rfl
  | some s => cases s <;> rfl
theorem nmI_dat {i : Nat} {x : D} {q : Rf → Prop} : nmI i (some (.dat x)) q = q (.d x) := rfl
theorem nmI_own {i : Nat} {x : List D} {q : Rf → Prop} : nmI i (some (.own x)) q = q (.sl i) := rfl
theorem gvI_dat {i : Nat} {x : D} {q : D → Rho → LS → Prop} : gvI i ρ ls (some (.dat x)) q = q x ρ ls := rfl
theorem gvI_own {i : Nat} {x : List D} {q : D → Rho → LS → Prop} : gvI i ρ ls (some (.own x)) q = q (.lst x) (ρ.set i (.dat (.lst x))) ls := rfl
theorem owI_own {x : List D} {q : List D → Prop} : owI (some (.own x)) q = q x := rfl
theorem inI_int {x : Int} {q : Int → Prop} : inI (some (.dat (.int x))) q = q x := rfl
theorem itI_int {x : Int} {q : Int → Prop} : itI (.int x) q = q x := rfl
theorem wM_isB {b : Bool} : wM (isB (.bl b)) ρ ls QB E = QB b ρ ls := rfl
theorem wM_ite {c : Prop} [Decidable c] {f g : M α} : wM (if c then f else g) ρ ls Q E = if c then wM f ρ ls Q E else wM g ρ ls Q E := by split <;> rfl
theorem wM_andM {p q : M Bool} : wM (andM p q) ρ ls QB E = wM p ρ ls (fun c ρ ls => if c = true then wM q ρ ls QB E else QB false ρ ls) E := by
  unfold andM
  rw [wM_bnd]
  congr 1
  funext c ρ ls
  rw [wM_ite]; rfl
theorem wM_orM {p q : M Bool} : wM (orM p q) ρ ls QB E = wM p ρ ls (fun c ρ ls => if c = true then QB true ρ ls else wM q ρ ls QB E) E := by
  unfold orM
  rw [wM_bnd]
  congr 1
  funext c ρ ls
  rw [wM_ite]; rfl
theorem wM_notM {p : M Bool} : wM (notM p) ρ ls QB E = wM p ρ ls (fun c ρ ls => QB (!c) ρ ls) E := wM_bnd
theorem wM_ifM {p : M Bool} {f g : M α} : wM (ifM p f g) ρ ls Q E = wM p ρ ls (fun c ρ ls => if c = true then wM f ρ ls Q E else wM g ρ ls Q E) E := by
  unfold ifM
  rw [wM_bnd]
  congr 1
  funext c ρ ls
  rw [wM_ite]
theorem wM_andV {f g : M D} : wM (andV f g) ρ ls QD E = wM f ρ ls (fun d ρ ls => wM (isB d) ρ ls (fun c ρ ls => if c = true then wM g ρ ls QD E else QD (.bl false) ρ ls) E) E := by
  unfold andV
  rw [wM_bnd]
  congr 1
  funext d ρ ls
  rw [wM_bnd]
  congr 1
  funext c ρ ls
  rw [wM_ite]; rfl
theorem wM_orV {f g : M D} : wM (orV f g) ρ ls QD E = wM f ρ ls (fun d ρ ls => wM (isB d) ρ ls (fun c ρ ls => if c = true then QD (.bl true) ρ ls else wM g ρ ls QD E) E) E := by
  unfold orV
  rw [wM_bnd]
  congr 1
  funext d ρ ls
  rw [wM_bnd]
  congr 1
  funext c ρ ls
  rw [wM_ite]; rfl
theorem wM_notV {f : M D} : wM (notV f) ρ ls QD E = wM f ρ ls (fun d ρ ls => wM (isB d) ρ ls (fun c ρ ls => QD (.bl (!c)) ρ ls) E) E := by
  unfold notV
  rw [wM_bnd]
  congr 1
  funext d ρ ls
  rw [wM_bnd]; rfl
theorem wM_bin {op : D → D → Option α} {f g : M Rf} : wM (bin op f g) ρ ls Q E = wM f ρ ls (fun r ρ ls => wM g ρ ls (fun s ρ ls => wM (look r) ρ ls (fun x ρ ls => wM (look s) ρ ls (fun y ρ ls => wI (op x y) fun z => Q z ρ ls) E) E) E) E := by
  unfold bin
  simp only [wM_bnd, wM_opt]
theorem wM_uno {op : D → Option α} {f : M Rf} : wM (uno op f) ρ ls Q E = wM f ρ ls (fun r ρ ls => wM (look r) ρ ls (fun x ρ ls => wI (op x) fun z => Q z ρ ls) E) E := by
  unfold uno
  simp only [wM_bnd, wM_opt]
theorem wM_dt {f : M D} : wM (dt f) ρ ls QR E = wM f ρ ls (fun d ρ ls => QR (.d d) ρ ls) E := wM_bnd
theorem wM_ls1 {f : M (List D)} : wM (ls1 f) ρ ls QD E = wM f ρ ls (fun d ρ ls => QD (.lst d) ρ ls) E := wM_bnd
theorem wM_consM {f : M D} {g : M (List D)} : wM (consM f g) ρ ls QL E = wM f ρ ls (fun d ρ ls => wM g ρ ls (fun ds ρ ls => QL (d :: ds) ρ ls) E) E := by
  unfold consM
  simp only [wM_bnd, wM_ret]
theorem wM_tupM {g : M (List D)} : wM (tupM g) ρ ls QD E = wM g ρ ls (fun ds ρ ls => wI (few ds) fun ds => QD (.tup ds) ρ ls) E := by
  unfold tupM
  simp only [wM_bnd, wM_opt, wM_ret]
theorem wM_lstM {g : M (List D)} : wM (lstM g) ρ ls QL E = wM g ρ ls (fun ds ρ ls => wI (few ds) fun ds => QL ds ρ ls) E := by
  unfold lstM
  simp only [wM_bnd, wM_opt]
theorem wM_itemsM {f : M D} : wM (itemsM f) ρ ls QL E = wM f ρ ls (fun d ρ ls => wI (itemsD d) fun l => QL l ρ ls) E := by
  unfold itemsM
  simp only [wM_bnd, wM_opt]
theorem wM_ritemsM {f : M D} : wM (ritemsM f) ρ ls QL E = wM f ρ ls (fun d ρ ls => wI (ritemsD d) fun l => QL l ρ ls) E := by
  unfold ritemsM
  simp only [wM_bnd, wM_opt]
theorem wM_callM {n : Nat} {F : FS} {ga : M (List D)} : wM (callM n F ga) ρ ls QD E = wM ga ρ ls (fun ds ρ ls => ds.length = n ∧ wF (F ds ls) (fun d ls => QD d ρ ls) E) E := by
  unfold callM
  rw [wM_bnd]
  congr 1
  funext ds ρ ls
  show wU (if ds.length = n then callF (F ds ls) ρ ls else .no) QD E = _
  by_cases h : ds.length = n
  · rw [if_pos h]
    cases F ds ls <;> simp [h, callF, wU, wF]
  · rw [if_neg h]
    simp [h, wU]
theorem wM_keyM {n np nk : Nat} {o : List Nat} {F : FS} {ga gk : M (List D)} : wM (keyM n F np nk o ga gk) ρ ls QD E = wM ga ρ ls (fun ds ρ ls => wM gk ρ ls (fun es ρ ls => (ds.length = np ∧ es.length = nk ∧ (ordL o (ds ++ es)).length = n) ∧ wF (F (ordL o (ds ++ es)) ls) (fun d ls => QD d ρ ls) E) E) E := by
  unfold keyM
  rw [wM_bnd]
  congr 1
  funext ds ρ ls
  rw [wM_bnd]
  congr 1
  funext es ρ ls
  show wU (if ds.length = np ∧ es.length = nk ∧ (ordL o (ds ++ es)).length = n then callF (F (ordL o (ds ++ es)) ls) ρ ls else .no) QD E = _
  by_cases h : ds.length = np ∧ es.length = nk ∧ (ordL o (ds ++ es)).length = n
  · rw [if_pos h]
    cases F (ordL o (ds ++ es)) ls <;> simp [h, callF, wU, wF]
  · rw [if_neg h]
    simp [h, wU]
theorem wM_callN {n : Nat} {F : FS} {ga : M (List D)} : wM (callN n F ga) ρ ls QL E = wM ga ρ ls (fun ds ρ ls => ds.length = n ∧ wFN (F ds ls) (fun l ls => QL l ρ ls) E) E := by
  unfold callN
  rw [wM_bnd]
  congr 1
  funext ds ρ ls
  show wU (if ds.length = n then callFN (F ds ls) ρ ls else .no) QL E = _
  by_cases h : ds.length = n
  · rw [if_pos h]
    cases F ds ls <;> simp [h, callFN, wU, wFN]
  · rw [if_neg h]
    simp [h, wU]
theorem wM_keyN {n np nk : Nat} {o : List Nat} {F : FS} {ga gk : M (List D)} : wM (keyN n F np nk o ga gk) ρ ls QL E = wM ga ρ ls (fun ds ρ ls => wM gk ρ ls (fun es ρ ls => (ds.length = np ∧ es.length = nk ∧ (ordL o (ds ++ es)).length = n) ∧ wFN (F (ordL o (ds ++ es)) ls) (fun d ls => QL d ρ ls) E) E) E := by
  unfold keyN
  rw [wM_bnd]
  congr 1
  funext ds ρ ls
  rw [wM_bnd]
  congr 1
  funext es ρ ls
  show wU (if ds.length = np ∧ es.length = nk ∧ (ordL o (ds ++ es)).length = n then callFN (F (ordL o (ds ++ es)) ls) ρ ls else .no) QL E = _
  by_cases h : ds.length = np ∧ es.length = nk ∧ (ordL o (ds ++ es)).length = n
  · rw [if_pos h]
    cases F (ordL o (ds ++ es)) ls <;> simp [h, callFN, wU, wFN]
  · rw [if_neg h]
    simp [h, wU]
theorem wM_takeM {i : Nat} : wM (takeM i) ρ ls QL E = owI ρ[i]? fun ds => QL ds (ρ.set i .un) ls := by
  show wU (takeS i ρ ls ρ[i]?) QL E = _
  cases ρ[i]? with
  | none => rfl
  | some s => cases s <;> rfl
theorem wM_methM {i : Nat} {op : List D → D → Option (D × List D)} {f : M D} : wM (methM i op f) ρ ls QD E = owI ρ[i]? fun _ => wM f ρ ls (fun d ρ ls => owI ρ[i]? fun ds => wI (op ds d) fun z => QD z.1 (ρ.set i (.own z.2)) ls) E := by
  have h : wM (methM i op f) ρ ls QD E = wU (ownAt (fun _ => bnd f (mut1 i op) ρ ls) .no ρ[i]?) QD E := rfl
  rw [h]
  cases ρ[i]? with
  | none => rfl
  | some s =>
    cases s with
    | un => rfl
    | dat _ => rfl
    | own ds =>
      show wM (bnd f (mut1 i op)) ρ ls QD E = _
      rw [wM_bnd]
      show wM f ρ ls _ E = wM f ρ ls _ E
      congr 1
      funext d ρ ls
      show wU (ownAt (fun ds => mutE i (op ds d) ρ ls) .no ρ[i]?) QD E = _
      cases ρ[i]? with
      | none => rfl
      | some s =>
        cases s with
        | un => rfl
        | dat _ => rfl
        | own ds =>
          show wU (mutE i (op ds d) ρ ls) QD E = wI (op ds d) fun z => QD z.1 (ρ.set i (.own z.2)) ls
          cases op ds d <;> rfl
theorem wM_meth0M {i : Nat} {op : List D → Option (D × List D)} : wM (meth0M i op) ρ ls QD E = owI ρ[i]? fun ds => wI (op ds) fun z => QD z.1 (ρ.set i (.own z.2)) ls := by
  have h : wM (meth0M i op) ρ ls QD E = wU (ownAt (fun ds => mutE i (op ds) ρ ls) .no ρ[i]?) QD E := rfl
  rw [h]
  cases ρ[i]? with
  | none => rfl
  | some s =>
    cases s with
    | un => rfl
    | dat _ => rfl
    | own ds =>
      show wU (mutE i (op ds) ρ ls) QD E = wI (op ds) fun z => QD z.1 (ρ.set i (.own z.2)) ls
      cases op ds <;> rfl
theorem wM_mthM {op : D → D → Option D} {f g : M D} : wM (mthM op f g) ρ ls QD E = wM f ρ ls (fun x ρ ls => if isTup x = true then wM g ρ ls (fun y ρ ls => wI (op x y) fun z => QD z ρ ls) E else False) E := by
  unfold mthM
  rw [wM_bnd]
  congr 1
  funext x ρ ls
  by_cases h : isTup x = true
  · rw [if_pos h, if_pos h, wM_bnd]
    simp only [wM_opt]
  · rw [if_neg h, if_neg h]; rfl
theorem wM_chainM {op op' : D → D → Option D} {f g h : M Rf} : wM (chainM op op' f g h) ρ ls QD E = wM f ρ ls (fun r ρ ls => wM g ρ ls (fun s ρ ls => wM (look r) ρ ls (fun x ρ ls => wM (look s) ρ ls (fun y ρ ls => wI (op x y) fun t => wM (isB t) ρ ls (fun b ρ ls =>
    if b = true then wM h ρ ls (fun u ρ ls => wM (look s) ρ ls (fun y' ρ ls => wM (look u) ρ ls (fun z ρ ls => wI (op' y' z) fun v => QD v ρ ls) E) E) E else QD (.bl false) ρ ls) E) E) E) E) E := by
  unfold chainM
  simp only [wM_bnd, wM_opt]
  congr 1; funext r ρ ls
  congr 1; funext s ρ ls
  congr 1; funext x ρ ls
  congr 1; funext y ρ ls
  congr 1; funext t
  congr 1; funext b ρ ls
  rw [wM_ite]
  simp only [wM_bnd, wM_opt, wM_ret]
theorem wM_partM {f : M D} {QO : Option Int → Rho → LS → Prop} : wM (partM f) ρ ls QO E = wM f ρ ls (fun d ρ ls => itI d fun i => QO (some i) ρ ls) E := by
  unfold partM
  rw [wM_bnd]
  congr 1
  funext d ρ ls
  cases d <;> rfl
theorem wM_cutM {op : Option Int → Option Int → D → Option α} {f : M Rf} {l u : M (Option Int)} : wM (cutM op f l u) ρ ls Q E = wM f ρ ls (fun r ρ ls => wM l ρ ls (fun lo ρ ls => wM u ρ ls (fun hi ρ ls => wM (look r) ρ ls (fun x ρ ls => wI (op lo hi x) fun z => Q z ρ ls) E) E) E) E := by
  unfold cutM
  simp only [wM_bnd, wM_opt]
/-! statements -/
theorem wP_seqP {p q : PM} : wP (seqP p q) ρ ls R = wP p ρ ls { R with nx := fun ρ ls => wP q ρ ls R } := by
  unfold wP seqP
  cases p ρ ls <;> rfl
theorem wP_lift {f : M α} {k : α → PM} : wP (lift f k) ρ ls R = wM f ρ ls (fun a ρ ls => wP (k a) ρ ls R) R.rs := by
  show wO (match f ρ ls with | .ok a ρ' ls' => k a ρ' ls' | .rs x ls' => .rs x ls' | .no => .no) R = wU (f ρ ls) _ _
  cases f ρ ls <;> rfl
theorem wP_skip : wP skip ρ ls R = R.nx ρ ls := rfl
theorem wP_brk : wP brk ρ ls R = R.bk ρ ls := rfl
theorem wP_cnt : wP cnt ρ ls R = R.ct ρ ls := rfl
theorem wP_rsP {C : Addr} : wP (rsP C) ρ ls R = R.rs ⟨C, none⟩ ls := rfl
theorem wP_sto {i : Nat} {d : D} : wP (sto i d) ρ ls R = if i < ρ.length then R.nx (ρ.set i (.dat d)) ls else False := by
  unfold wP sto
  split <;> rfl
theorem wP_stoN {i : Nat} {d : List D} : wP (stoN i d) ρ ls R = if i < ρ.length then R.nx (ρ.set i (.own d)) ls else False := by
  unfold wP stoN
  split <;> rfl
theorem wP_setV {i : Nat} {f : M D} : wP (setV i f) ρ ls R = wM f ρ ls (fun d ρ ls => if i < ρ.length then R.nx (ρ.set i (.dat d)) ls else False) R.rs := by
  unfold setV
  simp only [wP_lift, wP_sto]
theorem wP_setN {i : Nat} {f : M (List D)} : wP (setN i f) ρ ls R = wM f ρ ls (fun d ρ ls => if i < ρ.length then R.nx (ρ.set i (.own d)) ls else False) R.rs := by
  unfold setN
  simp only [wP_lift, wP_stoN]
theorem wP_retN {f : M (List D)} : wP (retN f) ρ ls R = wM f ρ ls (fun l _ ls => R.rtN l ls) R.rs := wP_lift
theorem wP_retP {f : M D} : wP (retP f) ρ ls R = wM f ρ ls (fun d _ ls => R.rt d ls) R.rs := wP_lift
theorem wP_drop {f : M D} : wP (drop f) ρ ls R = wM f ρ ls (fun _ ρ ls => R.nx ρ ls) R.rs := wP_lift
theorem wP_ite {c : Prop} [Decidable c] {p q : PM} : wP (if c then p else q) ρ ls R = if c then wP p ρ ls R else wP q ρ ls R := by split <;> rfl
theorem wP_ifP {c : M Bool} {p q : PM} : wP (ifP c p q) ρ ls R = wM c ρ ls (fun b ρ ls => if b = true then wP p ρ ls R else wP q ρ ls R) R.rs := by
  unfold ifP
  simp only [wP_lift, wP_ite]
theorem wP_asgP {t : D → Rho → Option Rho} {d : D} : wP (asgP t d) ρ ls R = wI (t d ρ) fun ρ => R.nx ρ ls := by
  unfold wP asgP
  cases t d ρ <;> rfl
theorem wP_par2 {i j : Nat} {ga : M (List D)} : wP (par2 i j ga) ρ ls R = wM ga ρ ls (fun ds ρ ls => match ds with | [x, y] => wP (seqP (sto i x) (sto j y)) ρ ls R | _ => False) R.rs := by
  unfold par2
  rw [wP_lift]
  congr 1
  funext ds ρ ls
  match ds with
  | [] => rfl
  | [_] => rfl
  | [_, _] => rfl
  | _ :: _ :: _ :: _ => rfl
theorem wP_par3 {i j k : Nat} {ga : M (List D)} : wP (par3 i j k ga) ρ ls R = wM ga ρ ls (fun ds ρ ls => match ds with | [x, y, z] => wP (seqP (sto i x) (seqP (sto j y) (sto k z))) ρ ls R | _ => False) R.rs := by
  unfold par3
  rw [wP_lift]
  congr 1
  funext ds ρ ls
  match ds with
  | [] => rfl
  | [_] => rfl
  | [_, _] => rfl
  | [_, _, _] => rfl
  | _ :: _ :: _ :: _ :: _ => rfl
theorem wP_augP {i : Nat} {g : Int → Int → Int} {f : M D} : wP (augP i g f) ρ ls R = inI ρ[i]? fun a => wM f ρ ls (fun d ρ ls => itI d fun b => wP (sto i (.int (g a b))) ρ ls R) R.rs := by
  have h : wP (augP i g f) ρ ls R = wO (augS i g f ρ ls ρ[i]?) R := rfl
  rw [h]
  cases ρ[i]? with
  | none => rfl
  | some s =>
    cases s with
    | un => rfl
    | own _ => rfl
    | dat d =>
      cases d with
      | int a =>
        show wP (lift f (augK i g a)) ρ ls R = _
        rw [wP_lift]
        show wM f ρ ls _ R.rs = wM f ρ ls _ R.rs
        congr 1
        funext d ρ ls
        cases d <;> rfl
      | _ => rfl
/-! loops -/
theorem wP_forP {t : D → Rho → Option Rho} {f : M (List D)} {b : PM} : wP (forP t f b) ρ ls R = wM f ρ ls (fun ds ρ ls => wP (forL t b ds) ρ ls R) R.rs := wP_lift
/-- a loop over ds, I told of what is done -/
theorem wP_for {t : D → Rho → Option Rho} {b : PM} {ds : List D} (I : List D → Rho → LS → Prop) (h0 : I [] ρ ls)
    (hs : ∀ done d rest ρ ls, ds = done ++ d :: rest → I done ρ ls → wI (t d ρ) fun ρ1 => wP b ρ1 ls { R with nx := I (done ++ [d]), ct := I (done ++ [d]), bk := R.nx }) (hd : ∀ ρ ls, I ds ρ ls → R.nx ρ ls) : wP (forL t b ds) ρ ls R := by
  have go : ∀ (rest done : List D) (ρ : Rho) (ls : LS), ds = done ++ rest → I done ρ ls → wP (forL t b rest) ρ ls R := by
    intro rest
    induction rest with
    | nil => intro done ρ ls e i; rw [List.append_nil] at e; subst e; exact hd ρ ls i
    | cons d rest ih =>
      intro done ρ ls e i
      have h := hs done d rest ρ ls e i
      have e2 : ds = (done ++ [d]) ++ rest := by rw [e, List.append_assoc]; rfl
      cases et : t d ρ with
      | none => rw [et] at h; exact h.elim
      | some ρ1 =>
        rw [et] at h
        have h : wO (b ρ1 ls) { R with nx := I (done ++ [d]), ct := I (done ++ [d]), bk := R.nx } := h
        unfold wP
        rw [forL_cons et]
        cases eb : b ρ1 ls with
        | nx ρ' ls' => rw [eb] at h; exact ih _ _ _ e2 h
        | ct ρ' ls' => rw [eb] at h; exact ih _ _ _ e2 h
        | bk ρ' ls' => rw [eb] at h; exact h
        | rt d ls' => rw [eb] at h; exact h
        | rtN l ls' => rw [eb] at h; exact h
        | rs x ls' => rw [eb] at h; exact h
        | no => rw [eb] at h; exact h
  exact go ds [] ρ ls rfl h0
/-- while: a measure -/
theorem wP_while {c : M Bool} {b : PM} {n : Nat} (I : Nat → Rho → LS → Prop) (m : Nat) (hm : m < n) (h0 : I m ρ ls)
    (hs : ∀ m ρ ls, I m ρ ls → wM c ρ ls (fun t ρ ls => if t = true then 0 < m ∧ wP b ρ ls { R with nx := I (m - 1), ct := I (m - 1), bk := R.nx } else R.nx ρ ls) R.rs) : wP (whileP c b n) ρ ls R := by
  induction n generalizing m ρ ls with
  | zero => omega
  | succ n ih =>
    have h := hs m ρ ls h0
    show wP (lift c fun t => if t = true then fun ρ ls => match b ρ ls with
      | .nx ρ' ls' => whileP c b n ρ' ls'
      | .ct ρ' ls' => whileP c b n ρ' ls'
      | .bk ρ' ls' => .nx ρ' ls'
      | o => o
    else skip) ρ ls R
    rw [wP_lift]
    refine wM_imp h (fun t ρ ls q => ?_) fun _ _ z => z
    cases t with
    | false => exact q
    | true =>
      obtain ⟨hp, q⟩ : 0 < m ∧ wO (b ρ ls) { R with nx := I (m - 1), ct := I (m - 1), bk := R.nx } := q
      show wO (match b ρ ls with
        | .nx ρ' ls' => whileP c b n ρ' ls'
        | .ct ρ' ls' => whileP c b n ρ' ls'
        | .bk ρ' ls' => .nx ρ' ls'
        | o => o) R
      cases eb : b ρ ls with
      | nx ρ' ls' => rw [eb] at q; exact ih (m := m - 1) (by omega) q
      | ct ρ' ls' => rw [eb] at q; exact ih (m := m - 1) (by omega) q
      | bk ρ' ls' => rw [eb] at q; exact q
      | rt d ls' => rw [eb] at q; exact q
      | rtN l ls' => rw [eb] at q; exact q
      | rs x ls' => rw [eb] at q; exact q
      | no => rw [eb] at q; exact q
/-! comprehensions -/
theorem wM_lcL {t : D → Rho → Option Rho} {c : M Bool} {e : M D} {vs : List Nat} {ds : List D} (I : List D → List D → Rho → LS → Prop) {acc : List D} (h0 : I [] acc ρ ls)
    (hs : ∀ done d rest acc ρ ls, ds = done ++ d :: rest → I done acc ρ ls → wI (t d ρ) fun ρ1 => wM c ρ1 ls (fun b ρ2 ls2 => if b = true then wM e ρ2 ls2 (fun x ρ3 ls3 => acc.length < top ∧ I (done ++ [d]) (acc ++ [x]) (wipeR ρ3 vs) ls3) fun _ _ => False else I (done ++ [d]) acc (wipeR ρ2 vs) ls2) fun _ _ => False) :
    ∃ acc' ρ' ls', lcL t c e vs ds acc ρ ls = .ok acc' ρ' ls' ∧ I ds acc' ρ' ls' := by
  have go : ∀ (rest done acc : List D) (ρ : Rho) (ls : LS), ds = done ++ rest → I done acc ρ ls → ∃ acc' ρ' ls', lcL t c e vs rest acc ρ ls = .ok acc' ρ' ls' ∧ I ds acc' ρ' ls' := by
    intro rest
    induction rest with
    | nil => intro done acc ρ ls ee i; rw [List.append_nil] at ee; subst ee; exact ⟨_, _, _, rfl, i⟩
    | cons d rest ih =>
      intro done acc ρ ls ee i
      have h := hs done d rest acc ρ ls ee i
      have e2 : ds = (done ++ [d]) ++ rest := by rw [ee, List.append_assoc]; rfl
      have el : lcL t c e vs (d :: rest) acc ρ ls = lcT (fun acc ρ ls => lcL t c e vs rest acc (wipeR ρ vs) ls) c e acc ls (t d ρ) := rfl
      rw [el]
      cases et : t d ρ with
      | none => rw [et] at h; exact h.elim
      | some ρ1 =>
        rw [et] at h
        show ∃ acc' ρ' ls', lcC (fun acc ρ ls => lcL t c e vs rest acc (wipeR ρ vs) ls) c e acc ρ1 ls = .ok acc' ρ' ls' ∧ _
        unfold lcC
        have h : wM c ρ1 ls _ _ := h
        unfold wM wU at h
        cases ec : c ρ1 ls with
        | no => rw [ec] at h; exact h.elim
        | rs x l => rw [ec] at h; exact h.elim
        | ok b ρ2 ls2 =>
          rw [ec] at h
          cases b with
          | false => exact ih _ _ _ _ e2 h
          | true =>
            have h : wM e ρ2 ls2 _ _ := h
            unfold wM wU at h
            show ∃ acc' ρ' ls', lcE (fun acc ρ ls => lcL t c e vs rest acc (wipeR ρ vs) ls) e acc ρ2 ls2 = .ok acc' ρ' ls' ∧ _
            unfold lcE
            cases ee2 : e ρ2 ls2 with
            | no => rw [ee2] at h; exact h.elim
            | rs x l => rw [ee2] at h; exact h.elim
            | ok x ρ3 ls3 =>
              rw [ee2] at h
              obtain ⟨h1, h2⟩ := h
              show ∃ acc' ρ' ls', (if acc.length < top then lcL t c e vs rest (acc ++ [x]) (wipeR ρ3 vs) ls3 else .no) = .ok acc' ρ' ls' ∧ _
              rw [if_pos h1]
              exact ih _ _ _ _ e2 h2
  exact go ds [] acc ρ ls rfl h0
theorem wM_lcM {src : M (List D)} {t : D → Rho → Option Rho} {c : M Bool} {e : M D} {vs : List Nat} : wM (lcM src t c e vs) ρ ls QL E = wM src ρ ls (fun ds ρ ls => if noOwn ρ vs = true then wM (fun ρ' ls' => lcEnd ρ vs (lcL t c e vs ds [] ρ' ls')) (wipeR ρ vs) ls QL E else False) E := by
  unfold lcM
  rw [wM_bnd]
  congr 1
  funext ds ρ ls
  by_cases h : noOwn ρ vs = true
  · rw [if_pos h]
    show wU (if noOwn ρ vs = true then _ else _) QL E = _
    rw [if_pos h]; rfl
  · rw [if_neg h]
    show wU (if noOwn ρ vs = true then _ else _) QL E = _
    rw [if_neg h]; rfl
/-- a comprehension with an invariant -/
theorem wM_lc {src : M (List D)} {t : D → Rho → Option Rho} {c : M Bool} {e : M D} {vs : List Nat} (h : wM src ρ ls (fun ds ρ ls => noOwn ρ vs = true ∧ ∃ I : List D → List D → Rho → LS → Prop, I [] [] (wipeR ρ vs) ls ∧
    (∀ done d rest acc ρ ls, ds = done ++ d :: rest → I done acc ρ ls → wI (t d ρ) fun ρ1 => wM c ρ1 ls (fun b ρ2 ls2 => if b = true then wM e ρ2 ls2 (fun x ρ3 ls3 => acc.length < top ∧ I (done ++ [d]) (acc ++ [x]) (wipeR ρ3 vs) ls3) fun _ _ => False else I (done ++ [d]) acc (wipeR ρ2 vs) ls2) fun _ _ => False) ∧
    ∀ acc ρ' ls', I ds acc ρ' ls' → QL acc (unwipe ρ ρ' vs) ls') E) : wM (lcM src t c e vs) ρ ls QL E := by
  rw [wM_lcM]
  refine wM_imp h (fun ds ρ ls hh => ?_) fun _ _ z => z
  obtain ⟨h1, I, i0, is, ie⟩ := hh
  rw [if_pos h1]
  obtain ⟨acc', ρ', ls', e1, i'⟩ := wM_lcL I i0 is
  show wU (lcEnd ρ vs (lcL t c e vs ds [] (wipeR ρ vs) ls)) QL E
  rw [e1]
  exact ie _ _ _ i'
/-- .. whose test and item change nothing -/
theorem wM_lcp {src : M (List D)} {t : D → Rho → Option Rho} {c : M Bool} {e : M D} {vs : List Nat} (h : wM src ρ ls (fun ds ρ ls => noOwn ρ vs = true ∧ unwipe ρ (wipeR ρ vs) vs = ρ ∧ ds.length ≤ top ∧ ∃ (cb : D → Bool) (f : D → D),
    (∀ d ∈ ds, wI (t d (wipeR ρ vs)) fun ρ1 => wipeR ρ1 vs = wipeR ρ vs ∧ c ρ1 ls = .ok (cb d) ρ1 ls ∧ (cb d = true → e ρ1 ls = .ok (f d) ρ1 ls)) ∧ QL ((ds.filter cb).map f) ρ ls) E) : wM (lcM src t c e vs) ρ ls QL E := by
  refine wM_lc (wM_imp h (fun ds ρ ls hh => ?_) fun _ _ z => z)
  obtain ⟨h1, h2, h3, cb, f, hs, q⟩ := hh
  refine ⟨h1, fun done acc ρ' ls' => ρ' = wipeR ρ vs ∧ ls' = ls ∧ acc = (done.filter cb).map f, ⟨rfl, rfl, rfl⟩, ?_, ?_⟩
  · rintro done d rest acc ρ' ls' ed ⟨rfl, rfl, rfl⟩
    have hd := hs d (by rw [ed]; exact List.mem_append_right _ List.mem_cons_self)
    cases et : t d (wipeR ρ vs) with
    | none => rw [et] at hd; exact hd.elim
    | some ρ1 =>
      rw [et] at hd
      obtain ⟨w1, c1, e1⟩ := hd
      show wM c ρ1 ls' _ _
      unfold wM
      rw [c1]
      show if cb d = true then _ else _
      by_cases hc : cb d = true
      · rw [if_pos hc]
        show wU (e ρ1 ls') _ _
        rw [e1 hc]
        refine ⟨?_, w1, rfl, by rw [List.filter_append, List.map_append]; simp [hc]⟩
        rw [List.length_map]
        have a1 := List.length_filter_le cb done
        have a2 : ds.length = done.length + (rest.length + 1) := by rw [ed]; simp
        omega
      · rw [if_neg hc]
        exact ⟨w1, rfl, by rw [List.filter_append]; simp [hc]⟩
  · rintro acc ρ' ls' ⟨rfl, rfl, rfl⟩
    rw [h2]
    exact q
/-- the end of a def -/
theorem wF_end {p : PM} {ρ : Rho} {G : D → LS → Prop} : wF (endF (p ρ ls)) G E = wP p ρ ls { nx := fun _ ls => G .non ls, bk := fun _ _ => False, ct := fun _ _ => False, rt := G, rs := E } := by
  unfold wP
  cases p ρ ls <;> rfl
theorem wFN_end {p : PM} {ρ : Rho} {G : List D → LS → Prop} : wFN (endF (p ρ ls)) G E = wP p ρ ls { nx := fun _ _ => False, bk := fun _ _ => False, ct := fun _ _ => False, rt := fun _ _ => False, rs := E, rtN := G } := by
  unfold wP
  cases p ρ ls <;> rfl
theorem wFN_is {d : List D} {ls' : LS} {o : FO} (h : wFN o (fun d' l' => d' = d ∧ l' = ls') fun _ _ => False) : o = .okN d ls' := by
  cases o with
  | okN a l => obtain ⟨rfl, rfl⟩ := h; rfl
  | ok a l => exact h.elim
  | rs x l => exact h.elim
  | no => exact h.elim
theorem wFN_k {d : List D} {ls' : LS} {G : List D → LS → Prop} : wFN (.okN d ls') G E = G d ls' := rfl
theorem wFN_x {x : XV} {ls' : LS} {G : List D → LS → Prop} : wFN (.rs x ls') G E = E x ls' := rfl
theorem wF_ok {d : D} {ls' : LS} {o : FO} {G : D → LS → Prop} (e : o = .ok d ls') (h : G d ls') : wF o G E := by rw [e]; exact h
theorem wF_is {d : D} {ls' : LS} {o : FO} (h : wF o (fun d' l' => d' = d ∧ l' = ls') fun _ _ => False) : o = .ok d ls' := by
  cases o with
  | ok a l => obtain ⟨rfl, rfl⟩ := h; rfl
  | okN a l => exact h.elim
  | rs x l => exact h.elim
  | no => exact h.elim
theorem wF_rs {x : XV} {ls' : LS} {o : FO} (h : wF o (fun _ _ => False) fun x' l' => x' = x ∧ l' = ls') : o = .rs x ls' := by
  cases o with
  | ok a l => exact h.elim
  | okN a l => exact h.elim
  | rs a l => obtain ⟨rfl, rfl⟩ := h; rfl
  | no => exact h.elim
end
end Pd

set_option Elab.async false
set_option linter.all false
/-! Mth: plain rows. -/
namespace Pd
def push : List Int → Int → List Int
  | [], x => [x]
  | y :: t, x => if y = 0 - x then t else x :: y :: t
def redR (s l : List Int) : List Int := l.foldl push s
def red (l : List Int) : List Int := (redR [] l).reverse
def und (l : List Int) : List Int := (l.reverse).map fun x => 0 - x
/-- a stack of a plain row -/
def stk : List Int → Prop
  | [] => True
  | [_] => True
  | y :: z :: t => z ≠ 0 - y ∧ stk (z :: t)
theorem stk_tail {y : Int} {t : List Int} (h : stk (y :: t)) : stk t := by
  cases t with
  | nil => trivial
  | cons z t => exact h.2
theorem stk_push {s : List Int} (h : stk s) (x : Int) : stk (push s x) := by
  cases s with
  | nil => trivial
  | cons y t =>
    show stk (if y = 0 - x then t else x :: y :: t)
    by_cases e : y = 0 - x
    · rw [if_pos e]; exact stk_tail h
    · rw [if_neg e]; exact ⟨e, h⟩
theorem stk_redR : ∀ {s : List Int} (l : List Int), stk s → stk (redR s l)
  | s, [], h => h
  | s, x :: l, h => stk_redR (s := push s x) l (stk_push h x)
theorem redR_append (s a b : List Int) : redR s (a ++ b) = redR (redR s a) b := List.foldl_append ..
/-- x and then 0 - x leave a plain stack -/
theorem push_push {s : List Int} (h : stk s) (x : Int) : push (push s x) (0 - x) = s := by
  cases s with
  | nil => show (if x = 0 - (0 - x) then [] else _) = []; rw [if_pos (by omega)]
  | cons y t =>
    show push (if y = 0 - x then t else x :: y :: t) (0 - x) = y :: t
    by_cases e : y = 0 - x
    · rw [if_pos e]
      cases t with
      | nil => show [0 - x] = [y]; rw [e]
      | cons z t =>
        show (if z = 0 - (0 - x) then t else (0 - x) :: z :: t) = y :: z :: t
        have : z ≠ 0 - y := h.1
        rw [if_neg (by omega), e]
    · rw [if_neg e]
      show (if x = 0 - (0 - x) then y :: t else _) = y :: t
      rw [if_pos (by omega)]
/-- the stack's row, done upon a plain stack, is as the letters that made it -/
theorem redR_stack {s : List Int} (h : stk s) : ∀ (l t : List Int), stk t → redR s ((redR t l).reverse) = redR (redR s t.reverse) l := by
  intro l
  induction l with
  | nil => intro t _; rfl
  | cons x l ih =>
    intro t ht
    show redR s ((redR (push t x) l).reverse) = redR (push (redR s t.reverse) x) l
    rw [ih (push t x) (stk_push ht x)]
    congr 1
    cases t with
    | nil => rfl
    | cons y t =>
      show redR s (if y = 0 - x then t else x :: y :: t).reverse = push (redR s (y :: t).reverse) x
      by_cases e : y = 0 - x
      · rw [if_pos e, List.reverse_cons, redR_append]
        show redR s t.reverse = push (push (redR s t.reverse) y) x
        have := push_push (stk_redR (s := s) t.reverse h) y
        have e2 : x = 0 - y := by omega
        rw [e2, this]
      · rw [if_neg e, List.reverse_cons, redR_append]; rfl
theorem redR_red {s : List Int} (h : stk s) (l : List Int) : redR s (red l) = redR s l := redR_stack h l [] trivial
theorem red_red (l : List Int) : red (red l) = red l := by unfold red; rw [show redR [] (redR [] l).reverse = redR [] l from redR_red (s := []) trivial l]
theorem red_left (a b : List Int) : red (red a ++ b) = red (a ++ b) := by
  unfold red
  rw [redR_append, redR_append, show redR [] (redR [] a).reverse = redR [] a from redR_red (s := []) trivial a]
theorem red_right (a b : List Int) : red (a ++ red b) = red (a ++ b) := by
  have h : redR (redR [] a) (red b) = redR (redR [] a) b := redR_red (stk_redR (s := []) a trivial) b
  show (redR [] (a ++ red b)).reverse = (redR [] (a ++ b)).reverse
  rw [redR_append, redR_append, h]
theorem push_mem {s : List Int} {x y : Int} (h : y ∈ push s x) : y = x ∨ y ∈ s := by
  cases s with
  | nil => exact .inl (List.mem_singleton.mp h)
  | cons z t =>
    have h : y ∈ (if z = 0 - x then t else x :: z :: t) := h
    by_cases e : z = 0 - x
    · rw [if_pos e] at h; exact .inr (List.mem_cons_of_mem _ h)
    · rw [if_neg e] at h; exact (List.mem_cons.mp h)
theorem redR_mem : ∀ {s : List Int} (l : List Int) {y : Int}, y ∈ redR s l → y ∈ l ∨ y ∈ s
  | s, [], y, h => .inr h
  | s, x :: l, y, h => by
    rcases redR_mem (s := push s x) l h with h | h
    · exact .inl (List.mem_cons_of_mem _ h)
    · rcases push_mem h with h | h
      · exact .inl (by rw [h]; exact List.mem_cons_self)
      · exact .inr h
theorem red_mem {l : List Int} {y : Int} (h : y ∈ red l) : y ∈ l := by
  rcases redR_mem (s := []) l (List.mem_reverse.mp h) with h | h
  · exact h
  · exact nomatch h
theorem push_len (s : List Int) (x : Int) : (push s x).length ≤ s.length + 1 := by
  cases s with
  | nil => exact Nat.le_refl _
  | cons z t =>
    show (if z = 0 - x then t else x :: z :: t).length ≤ _
    split
    · simp; omega
    · simp
theorem redR_len : ∀ (s l : List Int), (redR s l).length ≤ s.length + l.length
  | s, [] => Nat.le_refl _
  | s, x :: l => by
    have h1 := redR_len (push s x) l
    have h2 := push_len s x
    show (redR (push s x) l).length ≤ _
    simp only [List.length_cons]
    omega
theorem red_len (l : List Int) : (red l).length ≤ l.length := by
  unfold red
  rw [List.length_reverse]
  have := redR_len [] l
  simpa using this
theorem und_len (l : List Int) : (und l).length = l.length := by unfold und; simp
theorem und_mem {l : List Int} {y : Int} (h : y ∈ und l) : 0 - y ∈ l := by
  unfold und at h
  obtain ⟨x, h1, h2⟩ := List.mem_map.mp h
  have : 0 - y = x := by omega
  rw [this]; exact List.mem_reverse.mp h1
/-- sums -/
def bal (d : Int) (l : List Int) : Int := (l.count d : Int) - l.count (0 - d)
theorem bal_cons (d x : Int) (l : List Int) : bal d (x :: l) = bal d l + (if x = d then 1 else 0) - (if x = 0 - d then 1 else 0) := by
  unfold bal
  rw [List.count_cons, List.count_cons]
  simp only [beq_iff_eq]
  split <;> split <;> simp <;> omega
theorem bal_append (d : Int) (a b : List Int) : bal d (a ++ b) = bal d a + bal d b := by
  unfold bal
  rw [List.count_append, List.count_append]
  simp; omega
theorem bal_rev (d : Int) (a : List Int) : bal d a.reverse = bal d a := by
  unfold bal
  rw [List.count_reverse, List.count_reverse]
theorem bal_push (d : Int) (s : List Int) (x : Int) : bal d (push s x) = bal d (x :: s) := by
  cases s with
  | nil => rfl
  | cons y t =>
    show bal d (if y = 0 - x then t else x :: y :: t) = _
    by_cases e : y = 0 - x
    · rw [if_pos e, bal_cons, bal_cons]
      subst e
      by_cases h1 : x = d
      · by_cases h2 : x = 0 - d
        · have a : d = 0 := by omega
          subst a
          simp [h1]
        · rw [if_pos h1, if_neg h2, if_neg (show ¬ 0 - x = d by omega), if_pos (show 0 - x = 0 - d by omega)]; omega
      · by_cases h2 : x = 0 - d
        · rw [if_neg h1, if_pos h2, if_pos (show 0 - x = d by omega), if_neg (show ¬ 0 - x = 0 - d by omega)]; omega
        · rw [if_neg h1, if_neg h2, if_neg (show ¬ 0 - x = d by omega), if_neg (show ¬ 0 - x = 0 - d by omega)]; omega
    · rw [if_neg e]
theorem bal_redR (d : Int) : ∀ (s l : List Int), bal d (redR s l) = bal d s + bal d l
  | s, [] => by show bal d s = bal d s + 0; omega
  | s, x :: l => by
    show bal d (redR (push s x) l) = _
    rw [bal_redR d (push s x) l, bal_push, bal_cons, bal_cons]; omega
theorem bal_red (d : Int) (l : List Int) : bal d (red l) = bal d l := by
  unfold red
  rw [bal_rev, bal_redR]
  show 0 + bal d l = bal d l
  omega
end Pd

set_option Elab.async false
set_option linter.all false
set_option maxRecDepth 100000
set_option maxHeartbeats 4000000
/-! Rg: rings. -/
namespace Pd
theorem und_app (a b : List Int) : und (a ++ b) = und b ++ und a := by unfold und; simp
theorem und_und (a : List Int) : und (und a) = a := by
  unfold und
  rw [← List.map_reverse, List.reverse_reverse, List.map_map]
  have : ((fun x : Int => 0 - x) ∘ fun x => 0 - x) = id := by
    funext x
    show 0 - (0 - x) = x
    omega
  rw [this, List.map_id]
theorem redR_can : ∀ (w s : List Int), stk s → redR s (w ++ und w) = s
  | [], s, _ => rfl
  | x :: w, s, h => by
    have e : und (x :: w) = und w ++ [0 - x] := by unfold und; simp
    rw [e]
    show redR (push s x) (w ++ (und w ++ [0 - x])) = s
    rw [← List.append_assoc, redR_append, redR_can w (push s x) (stk_push h x)]
    exact push_push h x
theorem red_can (a w b : List Int) : red (a ++ (w ++ (und w ++ b))) = red (a ++ b) := by
  unfold red
  have h : stk (redR [] a) := stk_redR a trivial
  rw [redR_append, ← List.append_assoc, redR_append, redR_can w _ h, redR_append]
theorem red_can2 (a w b : List Int) : red (a ++ (und w ++ (w ++ b))) = red (a ++ b) := by
  have := red_can a (und w) b
  rwa [und_und] at this
theorem red_nil_of (w : List Int) : red (w ++ und w) = [] := by
  have := red_can [] w []
  rw [List.append_nil, List.nil_append] at this
  exact this
theorem red_und_red (z : List Int) : red (und (red z)) = red (und z) := by
  have h1 : red (z ++ und (red z)) = [] := by
    rw [← red_left, red_nil_of]
  have h2 : red (und z ++ (z ++ und (red z))) = red (und z) := by
    rw [← red_right, h1, List.append_nil]
  have h3 := red_can2 [] z (und (red z))
  rw [List.nil_append, List.nil_append] at h3
  rw [← h3, h2]
theorem red_undred (a z : List Int) : red (a ++ und (red z)) = red (a ++ und z) := by
  rw [← red_right, red_und_red, red_right]
/-! ### the tail -/
def isT (l : List Int) (c : Nat) : Bool := decide (2 * c + 1 < l.length) && decide (l.getD c 0 = 0 - l.getD (l.length - 1 - c) 0)
def TailAt (l : List Int) (c : Nat) : Prop := (∀ i, i < c → isT l i = true) ∧ isT l c = false
theorem first_false (p : Nat → Bool) : ∀ n, (∀ i, i < n → p i = true) ∨ ∃ c, c < n ∧ (∀ i, i < c → p i = true) ∧ p c = false
  | 0 => .inl fun i hi => absurd hi (Nat.not_lt_zero i)
  | n + 1 => by
    rcases first_false p n with h | ⟨c, h1, h2, h3⟩
    · cases e : p n with
      | true =>
        refine .inl fun i hi => ?_
        rcases Nat.lt_succ_iff_lt_or_eq.mp hi with h' | rfl
        · exact h i h'
        · exact e
      | false => exact .inr ⟨n, Nat.lt_succ_self n, h, e⟩
    · exact .inr ⟨c, Nat.lt_succ_of_lt h1, h2, h3⟩
theorem tail_ex (l : List Int) : ∃ c, TailAt l c := by
  rcases first_false (isT l) (l.length + 1) with h | ⟨c, _, h2, h3⟩
  · have := h l.length (Nat.lt_succ_self _)
    unfold isT at this
    rw [decide_eq_false (by omega)] at this
    cases this
  · exact ⟨c, h2, h3⟩
theorem tail_len {l : List Int} {c : Nat} (h : ∀ i, i < c → isT l i = true) : 2 * c ≤ l.length := by
  cases c with
  | zero => omega
  | succ c =>
    have := h c (Nat.lt_succ_self c)
    unfold isT at this
    rw [Bool.and_eq_true, decide_eq_true_eq] at this
    omega
theorem tail_at {l : List Int} {c i : Nat} (h : ∀ i, i < c → isT l i = true) (hi : i < c) : l.getD i 0 = 0 - l.getD (l.length - 1 - i) 0 := by
  have := h i hi
  unfold isT at this
  rw [Bool.and_eq_true, decide_eq_true_eq, decide_eq_true_eq] at this
  exact this.2
def mid (l : List Int) (c : Nat) : List Int := (l.drop c).take (l.length - 2 * c)
theorem mid_len {l : List Int} {c : Nat} (h : 2 * c ≤ l.length) : (mid l c).length = l.length - 2 * c := by
  unfold mid
  rw [List.length_take, List.length_drop]
  omega
theorem mid_getD {l : List Int} {c i : Nat} (h : i < l.length - 2 * c) : (mid l c).getD i 0 = l.getD (c + i) 0 := by
  unfold mid
  rw [List.getD_eq_getElem?_getD, List.getD_eq_getElem?_getD, List.getElem?_take, if_pos h, List.getElem?_drop]
theorem mid_zero (l : List Int) : mid l 0 = l := by
  unfold mid
  rw [List.drop_zero, Nat.mul_zero, Nat.sub_zero, List.take_length]
theorem mid_succ {l : List Int} {c : Nat} (h : 2 * c + 1 < l.length) : ((mid l c).drop 1).take ((mid l c).length - 2) = mid l (c + 1) := by
  rw [mid_len (by omega)]
  unfold mid
  rw [List.drop_take, List.take_take, List.drop_drop]
  congr 1
  omega
theorem tail_split {l : List Int} {c : Nat} (h : ∀ i, i < c → isT l i = true) : l = l.take c ++ (mid l c ++ und (l.take c)) := by
  have hl := tail_len h
  have e : l.drop (l.length - c) = und (l.take c) := by
    apply List.ext_getElem?
    intro i
    unfold und
    rw [List.getElem?_drop, List.getElem?_map]
    by_cases hi : i < c
    · rw [List.getElem?_reverse (by rw [List.length_take]; omega), List.length_take, Nat.min_eq_left (by omega), List.getElem?_take, if_pos (by omega)]
      have h2 := tail_at h (i := c - 1 - i) (by omega)
      rw [List.getD_eq_getElem?_getD, List.getD_eq_getElem?_getD, show l.length - 1 - (c - 1 - i) = l.length - c + i by omega] at h2
      rw [List.getElem?_eq_getElem (show l.length - c + i < l.length by omega), List.getElem?_eq_getElem (show c - 1 - i < l.length by omega)] at h2 ⊢
      show some _ = some _
      simp only [Option.getD_some] at h2
      rw [h2]
      congr 1
      show _ = 0 - (0 - _)
      omega
    · rw [List.getElem?_eq_none (show l.length ≤ l.length - c + i by omega), List.getElem?_eq_none]
      · rfl
      · rw [List.length_reverse, List.length_take]; omega
  have e2 : l.drop c = mid l c ++ l.drop (l.length - c) := by
    have h3 := List.take_append_drop (l.length - 2 * c) (l.drop c)
    rw [List.drop_drop, show c + (l.length - 2 * c) = l.length - c by omega] at h3
    exact h3.symm
  rw [← e, ← e2, List.take_append_drop]
/-! ### the first of all turns -/
def xr (m : List Int) (i : Nat) : Int := m.getD (i % m.length) 0
def rot (m : List Int) (k : Nat) : List Int := m.drop k ++ m.take k
def lss (m : List Int) (p q : Nat) : Prop := ∃ j, j < m.length ∧ (∀ i, i < j → xr m (p + i) = xr m (q + i)) ∧ xr m (p + j) < xr m (q + j)
def btn (m : List Int) (p : Nat) : Prop := ∃ q, q < m.length ∧ lss m q p
def LeastAt (m : List Int) (k : Nat) : Prop := (m = [] ∧ k = 0) ∨ (k < m.length ∧ ¬ btn m k ∧ ∀ p, p < k → btn m p)
section
variable {m : List Int} {p q r : Nat}
theorem xr_mod (i : Nat) : xr m (q % m.length + i) = xr m (q + i) := by
  unfold xr
  rw [Nat.mod_add_mod]
theorem lss_trans (h1 : lss m p q) (h2 : lss m q r) : lss m p r := by
  obtain ⟨j, a1, a2, a3⟩ := h1
  obtain ⟨k, b1, b2, b3⟩ := h2
  rcases Nat.lt_trichotomy j k with h | rfl | h
  · exact ⟨j, a1, fun i hi => (a2 i hi).trans (b2 i (by omega)), by rw [← b2 j h]; exact a3⟩
  · exact ⟨j, a1, fun i hi => (a2 i hi).trans (b2 i hi), Int.lt_trans a3 b3⟩
  · exact ⟨k, b1, fun i hi => (a2 i (by omega)).trans (b2 i hi), by rw [a2 k h]; exact b3⟩
theorem lss_irr : ¬ lss m p p := fun ⟨_, _, _, h⟩ => Int.lt_irrefl _ h
theorem lss_btn (h : lss m q p) (hm : 0 < m.length) : btn m p := by
  obtain ⟨j, a1, a2, a3⟩ := h
  exact ⟨q % m.length, Nat.mod_lt _ hm, j, a1, fun i hi => by rw [xr_mod]; exact a2 i hi, by rw [xr_mod]; exact a3⟩
theorem unbeaten : ∀ n, 0 < n → n ≤ m.length → ∃ k, k < n ∧ ∀ q, q < n → ¬ lss m q k
  | 0, h, _ => absurd h (Nat.lt_irrefl 0)
  | n + 1, _, hn => by
    by_cases h0 : n = 0
    · subst h0
      exact ⟨0, by omega, fun q hq => by
        have : q = 0 := by omega
        subst this
        exact lss_irr⟩
    · obtain ⟨k, h1, h2⟩ := unbeaten n (by omega) (by omega)
      by_cases h : lss m n k
      · refine ⟨n, by omega, fun q hq hl => ?_⟩
        rcases Nat.lt_succ_iff_lt_or_eq.mp hq with hq | rfl
        · exact h2 q hq (lss_trans hl h)
        · exact lss_irr hl
      · refine ⟨k, by omega, fun q hq hl => ?_⟩
        rcases Nat.lt_succ_iff_lt_or_eq.mp hq with hq | rfl
        · exact h2 q hq hl
        · exact h hl
theorem least_ex (m : List Int) : ∃ k, LeastAt m k := by
  by_cases hm : m = []
  · exact ⟨0, .inl ⟨hm, rfl⟩⟩
  · have hl := List.length_pos_iff.mpr hm
    obtain ⟨k, h1, h2⟩ := unbeaten (m := m) m.length hl (Nat.le_refl _)
    have hk : ¬ btn m k := fun ⟨q, a, b⟩ => h2 q a b
    rcases first_false (fun p => @decide (btn m p) (Classical.propDecidable _)) m.length with h | ⟨c, a, b, d⟩
    · have := h k h1
      exact absurd (@of_decide_eq_true _ (Classical.propDecidable _) this) hk
    · exact ⟨c, .inr ⟨a, @of_decide_eq_false _ (Classical.propDecidable _) d, fun p hp => @of_decide_eq_true _ (Classical.propDecidable _) (b p hp)⟩⟩
theorem rot_len (hp : p ≤ m.length) : (rot m p).length = m.length := by
  unfold rot
  rw [List.length_append, List.length_drop, List.length_take]
  omega
theorem rot_at (hp : p < m.length) {i : Nat} (hi : i < m.length) : (rot m p)[i]? = some (xr m (p + i)) := by
  unfold rot xr
  rw [List.getD_eq_getElem?_getD]
  by_cases h : p + i < m.length
  · rw [List.getElem?_append_left (by rw [List.length_drop]; omega), List.getElem?_drop, Nat.mod_eq_of_lt h, List.getElem?_eq_getElem h]; rfl
  · rw [List.getElem?_append_right (by rw [List.length_drop]; omega), List.length_drop, List.getElem?_take, if_pos (by omega), Nat.mod_eq_sub_mod (by omega), Nat.mod_eq_of_lt (by omega), show i - (m.length - p) = p + i - m.length by omega,
      List.getElem?_eq_getElem (show p + i - m.length < m.length by omega)]; rfl
theorem rot_get (hp : p < m.length) {i : Nat} (hi : i < m.length) (h : i < (rot m p).length) : (rot m p)[i] = xr m (p + i) := by
  have := rot_at hp hi
  rw [List.getElem?_eq_getElem h] at this
  exact Option.some.inj this
theorem rot_lt (hp : p < m.length) (hq : q < m.length) : rot m p < rot m q ↔ lss m p q := by
  have lp := rot_len (m := m) (p := p) (by omega)
  have lq := rot_len (m := m) (p := q) (by omega)
  rw [List.lt_iff_exists]
  constructor
  · rintro (⟨_, h⟩ | ⟨i, h1, h2, h3, h4⟩)
    · omega
    · rw [lp] at h1
      refine ⟨i, h1, fun j hj => ?_, ?_⟩
      · have := h3 j hj
        rwa [rot_get hp (by omega), rot_get hq (by omega)] at this
      · rwa [rot_get hp (by omega), rot_get hq (by omega)] at h4
  · rintro ⟨j, h1, h2, h3⟩
    refine .inr ⟨j, by omega, by omega, fun i hi => ?_, ?_⟩
    · rw [rot_get hp (by omega), rot_get hq (by omega)]; exact h2 i hi
    · rw [rot_get hp (by omega), rot_get hq (by omega)]; exact h3
end
theorem minR_fold : ∀ (xs : List (List Int)) (x : List Int), (xs.foldl (fun a y => if y < a then y else a) x) ∈ x :: xs ∧ ∀ y ∈ x :: xs, ¬ y < xs.foldl (fun a y => if y < a then y else a) x
  | [], x => ⟨List.mem_cons_self, fun y hy => by
      rw [List.mem_singleton.mp hy]
      exact List.lt_irrefl x⟩
  | y :: xs, x => by
    obtain ⟨h1, h2⟩ := minR_fold xs (if y < x then y else x)
    show (xs.foldl _ (if y < x then y else x)) ∈ _ ∧ ∀ z ∈ _, ¬ z < xs.foldl _ (if y < x then y else x)
    by_cases h : y < x
    · rw [if_pos h] at h1 h2 ⊢
      refine ⟨?_, fun z hz => ?_⟩
      · rcases List.mem_cons.mp h1 with e | e
        · rw [e]; simp
        · simp [e]
      · rcases List.mem_cons.mp hz with rfl | hz
        · exact fun hl => h2 y List.mem_cons_self (List.lt_trans h hl)
        · exact h2 z hz
    · rw [if_neg h] at h1 h2 ⊢
      refine ⟨?_, fun z hz => ?_⟩
      · rcases List.mem_cons.mp h1 with e | e
        · rw [e]; simp
        · simp [e]
      · rcases List.mem_cons.mp hz with rfl | hz
        · exact h2 z List.mem_cons_self
        · rcases List.mem_cons.mp hz with rfl | hz
          · intro hl
            have h3 : ¬ x < xs.foldl (fun a y => if y < a then y else a) x := h2 x List.mem_cons_self
            exact h3 (List.lt_of_le_of_lt h hl)
          · exact h2 z (List.mem_cons_of_mem _ hz)
theorem minR_rot {m : List Int} {k : Nat} (h : LeastAt m k) (hm : m ≠ []) : minR ((List.range m.length).map (rot m)) = rot m k := by
  rcases h with ⟨h, _⟩ | ⟨h1, h2, _⟩
  · exact absurd h hm
  cases e : (List.range m.length).map (rot m) with
  | nil =>
    have := congrArg List.length e
    rw [List.length_map, List.length_range, List.length_nil] at this
    omega
  | cons x xs =>
    obtain ⟨a, b⟩ := minR_fold xs x
    rw [← e] at a b
    obtain ⟨p, hp, ep⟩ := List.mem_map.mp a
    have hp := List.mem_range.mp hp
    have b1 := b (rot m k) (List.mem_map.mpr ⟨k, List.mem_range.mpr h1, rfl⟩)
    show xs.foldl _ x = _
    rw [← ep] at b1 ⊢
    have b2 : ¬ rot m p < rot m k := fun hl => h2 ⟨p, hp, (rot_lt hp h1).mp hl⟩
    exact List.le_antisymm b1 b2
end Pd

set_option Elab.async false
set_option linter.all false
set_option maxRecDepth 100000
set_option maxHeartbeats 4000000
/-! Ev: operations on known data. -/
namespace Pd
open PySem PySem.Spec PyProof.Rows L2
theorem addD_int {a b : Int} : addD (.int a) (.int b) = some (.int (a + b)) := rfl
theorem subD_int {a b : Int} : subD (.int a) (.int b) = some (.int (a - b)) := rfl
theorem ltD_int {a b : Int} : ltD (.int a) (.int b) = some (.bl (decide (a < b))) := rfl
theorem leD_int {a b : Int} : leD (.int a) (.int b) = some (.bl (decide (a ≤ b))) := rfl
theorem gtD_int {a b : Int} : gtD (.int a) (.int b) = some (.bl (decide (b < a))) := rfl
theorem geD_int {a b : Int} : geD (.int a) (.int b) = some (.bl (decide (b ≤ a))) := rfl
theorem negD_int {a : Int} : negD (.int a) = some (.int (0 - a)) := by
  show some (D.int (-a)) = _
  rw [show -a = 0 - a by omega]
theorem eqD_int {a b : Int} : eqD (.int a) (.int b) = some (.bl (decide (a = b))) := by rw [eqD_of okq_int okq_int, eqb_int]
theorem neD_int {a b : Int} : neD (.int a) (.int b) = some (.bl (!decide (a = b))) := by rw [neD_of okq_int okq_int, eqb_int]
theorem neD_zs {a : List Int} : neD (.lst (zs a)) (.lst []) = some (.bl (!decide (a = []))) := by
  rw [show (D.lst [] : D) = .lst (zs []) from rfl, neD_of okq_ints okq_ints, eqb_ints]
theorem eqD_zs {a : List Int} : eqD (.lst (zs a)) (.lst []) = some (.bl (decide (a = []))) := by
  rw [show (D.lst [] : D) = .lst (zs []) from rfl, eqD_of okq_ints okq_ints, eqb_ints]
theorem eqD_row {a b : List Int} : eqD (row a) (row b) = some (.bl (decide (a = b))) := by rw [eqD_of okq_row okq_row, eqb_row]
theorem neD_row {a b : List Int} : neD (row a) (row b) = some (.bl (!decide (a = b))) := by rw [neD_of okq_row okq_row, eqb_row]
theorem zs_app {a b : List Int} : zs a ++ zs b = zs (a ++ b) := by unfold zs; rw [List.map_append]
theorem zs_one {x : Int} : [D.int x] = zs [x] := rfl
theorem zs_len {a : List Int} : (zs a).length = a.length := by unfold zs; rw [List.length_map]
theorem zs_drop {a : List Int} : (zs a).dropLast = zs a.dropLast := by unfold zs; rw [List.map_dropLast]
theorem zs_rev {a : List Int} : (zs a).reverse = zs a.reverse := by unfold zs; rw [List.map_reverse]
theorem zs_mem {a : List Int} {d : D} (h : d ∈ zs a) : ∃ i, i ∈ a ∧ d = .int i := by
  obtain ⟨i, h1, h2⟩ := List.mem_map.mp h
  exact ⟨i, h1, h2.symm⟩
theorem atD_last {a : List Int} {x : Int} : atD (.lst (zs (a ++ [x]))) (.int (0 - 1)) = some (.int x) := by
  show L2.atI (zs (a ++ [x])) (0 - 1) = _
  rw [← zs_app, ← zs_one]
  show L2.atI (zs a ++ [D.int x]) (-1) = _
  unfold L2.atI L2.ixN
  have : (zs a ++ [D.int x]).length = (zs a).length + 1 := by simp
  rw [this]
  rw [if_neg (by omega), if_pos (by omega)]
  show (zs a ++ [D.int x])[(-1 + (((zs a).length + 1 : Nat) : Int)).toNat]? = _
  rw [show (-1 + (((zs a).length + 1 : Nat) : Int)).toNat = (zs a).length by omega]
  simp
theorem popD_app {a : List D} {x : D} : popD (a ++ [x]) = some (x, a) := by
  unfold popD
  have : (a ++ [x]).length - 1 = a.length := by simp
  rw [this]
  simp
theorem appD_some {a : List D} {x : D} (h : a.length < top) : appD a x = some (.non, a ++ [x]) := if_pos h
theorem few_some' {α : Type} {l : List α} (h : l.length ≤ top) : few l = some l := if_pos h
theorem few_nil {α : Type} : few ([] : List α) = some [] := rfl
theorem few_1 {α : Type} {a : α} : few [a] = some [a] := rfl
theorem few_2 {α : Type} {a b : α} : few [a, b] = some [a, b] := rfl
theorem few_3 {α : Type} {a b c : α} : few [a, b, c] = some [a, b, c] := rfl
theorem few_4 {α : Type} {a b c d : α} : few [a, b, c, d] = some [a, b, c, d] := rfl
theorem tgName_at {i : Nat} {d : D} {ρ : Rho} (h : i < ρ.length) : tgName i d ρ = some (ρ.set i (.dat d)) := if_pos h
theorem boolsD_map {α : Type} {l : List α} {p : α → Bool} : boolsD (l.map fun d => D.bl (p d)) = some (l.map p) := by
  induction l with
  | nil => rfl
  | cons a l ih =>
    show (boolsD (l.map fun d => D.bl (p d))).map (p a :: ·) = _
    rw [ih]; rfl
theorem allD_map {α : Type} {l : List α} {p : α → Bool} : allD (.lst (l.map fun d => D.bl (p d))) = some (.bl (l.all p)) := by
  show (boolsD (l.map fun d => D.bl (p d))).map _ = _
  rw [boolsD_map]
  show some (D.bl ((l.map p).all fun b => b)) = _
  rw [List.all_map]; rfl
theorem filt_true {α : Type} {l : List α} : l.filter (fun _ => true) = l := List.filter_eq_self.mpr fun _ _ => rfl
theorem isi_tt {l : List D} : isiD .tuple (.tup l) = some (.bl true) := rfl
theorem lenD_tup {l : List D} : lenD (.tup l) = some (.int l.length) := rfl
theorem lenD_lst {l : List D} : lenD (.lst l) = some (.int l.length) := rfl
theorem tupleD_tup {l : List D} : tupleD (.tup l) = some (.tup l) := rfl
theorem tupleD_lst {l : List D} : tupleD (.lst l) = some (.tup l) := rfl
theorem listD_tup {l : List D} : listD (.tup l) = some l := rfl
theorem listD_lst {l : List D} : listD (.lst l) = some l := rfl
theorem itemsD_tup {l : List D} : itemsD (.tup l) = some l := rfl
theorem itemsD_lst {l : List D} : itemsD (.lst l) = some l := rfl
theorem ritemsD_tup {l : List D} : ritemsD (.tup l) = some l.reverse := rfl
theorem revD_tup {l : List D} : revD (.tup l) = some (.tup l.reverse) := rfl
theorem wF_k {d : D} {ls' : LS} {G : D → LS → Prop} {E : EX} : wF (.ok d ls') G E = G d ls' := rfl
theorem wF_x {x : XV} {ls' : LS} {G : D → LS → Prop} {E : EX} : wF (.rs x ls') G E = E x ls' := rfl
local macro_rules | `(tactic| walk_at "ev") => `(tactic| try simp only [wM_bnd, wM_ret, wM_opt, wI_some, wM_nam, nmI_dat, nmI_own, gvI_dat, gvI_own, owI_own, inI_int, itI_int, wM_lookd, wM_looks, wM_gived, wM_gives, wM_isB, wM_andM, wM_orM, wM_notM, wM_ifM, wM_andV, wM_orV, wM_notV, wM_bin, wM_uno, wM_dt, wM_ls1, wM_consM, wM_tupM, wM_lstM, wM_itemsM, wM_ritemsM, wM_callM, wM_keyM, wM_methM, wM_meth0M, wM_mthM, wM_chainM, wM_partM, wM_cutM, wP_seqP, wP_lift, wP_skip, wP_brk, wP_cnt, wP_rsP, wP_sto, wP_stoN, wP_setV, wP_setN, wP_retP, wP_drop, wP_ifP, wP_asgP, wP_par2, wP_par3, wP_augP, wP_forP, slD,
  addD_int, subD_int, ltD_int, leD_int, gtD_int, geD_int, negD_int, eqD_int, neD_int, neD_zs, eqD_zs, eqD_row, neD_row, isi_tt, lenD_tup, lenD_lst, tupleD_tup, tupleD_lst, listD_tup, listD_lst, itemsD_tup, itemsD_lst, ritemsD_tup, revD_tup, few_nil, few_1, few_2, few_3, few_4, tgName,
  ini, List.map_cons, List.map_nil, List.length_cons, List.length_nil, List.replicate, List.cons_append, List.nil_append, List.getElem?_cons_zero, List.getElem?_cons_succ, List.set_cons_zero, List.set_cons_succ, Nat.reduceAdd, Nat.reduceSub, Nat.reduceLT, Nat.zero_add, Nat.sub_self, if_true, if_false, reduceIte, true_and, and_true, and_self, wF_k, wF_x, Bool.not_true, Bool.not_false, Bool.false_eq_true, Nat.lt_irrefl])
variable {en : En} {ls : LS}
/-- whole numbers -/
def isW : D → Bool
  | .int _ => true
  | _ => false
def plainV : D → Bool
  | .ref _ => false
  | .exn _ => false
  | _ => true
theorem sp_is_whole {d : D} (h : plainV d = true) : F_is_whole en [d] ls = .ok (.bl (isW d)) ls := by cases d <;> first | rfl | cases h
theorem sp_mr_whole {d : D} (h : plainV d = true) : F_law_mr_whole en [d] ls = .ok (.bl (isW d)) ls := by cases d <;> first | rfl | cases h
def btw : D → Int → Int → Bool
  | .int i, lo, hi => decide (lo ≤ i) && decide (i ≤ hi)
  | _, _, _ => false
theorem sp_is_between {d : D} {lo hi : Int} (h : plainV d = true) : F_is_between en [d, .int lo, .int hi] ls = .ok (.bl (btw d lo hi)) ls := by
  refine wF_is ?_
  unfold F_is_between
  rw [wF_end]
  unfold p_is_between
  walk_at "ev"
  rw [sp_is_whole h]
  cases d <;> try (exact ⟨rfl, rfl⟩)
  rename_i i
  show wM (isB (.bl true)) _ _ _ _
  walk_at "ev"
  unfold btw
  by_cases h1 : lo ≤ i <;> by_cases h2 : i ≤ hi <;> simp [h1, h2]
theorem sp_need_deeds {d : D} (h : plainV d = true) : F_need_deeds en [d] ls = if btw d 1 4 = true then .ok .non ls else .rs ⟨en.BadDeeds, none⟩ ls := by
  by_cases hb : btw d 1 4 = true
  · rw [if_pos hb]
    refine wF_is ?_
    unfold F_need_deeds
    rw [wF_end]
    unfold p_need_deeds
    walk_at "ev"
    rw [sp_is_between h, hb]
    first | exact ⟨rfl, rfl⟩ | rfl
  · rw [if_neg hb]
    refine wF_rs ?_
    unfold F_need_deeds
    rw [wF_end]
    unfold p_need_deeds
    walk_at "ev"
    rw [sp_is_between h, Bool.eq_false_iff.mpr hb]
    first | exact ⟨rfl, rfl⟩ | rfl
/-- letters of n deeds -/
def lett (n : Int) : D → Bool
  | .int i => (decide (0 - n ≤ i) && decide (i ≤ n)) && !decide (i = 0)
  | _ => false
theorem sp_fits_letter {d : D} {n : Int} (h : plainV d = true) : F_fits_letter en [.int n, d] ls = .ok (.bl (lett n d)) ls := by
  refine wF_is ?_
  unfold F_fits_letter
  rw [wF_end]
  unfold p_fits_letter
  walk_at "ev"
  rw [sp_is_between h]
  cases d with
  | int i =>
    show wM (isB (.bl _)) _ _ _ _
    walk_at "ev"
    rw [show lett n (.int i) = (btw (.int i) (0 - n) n && !decide (i = 0)) from rfl]
    cases btw (.int i) (0 - n) n <;> simp
  | _ => first | exact ⟨rfl, rfl⟩ | rfl
def plainL (l : List D) : Bool := l.all plainV
def isRow (n : Int) : D → Bool
  | .tup l => decide (l.length ≤ 200) && l.all (lett n)
  | _ => false
/-- data whose items may be asked -/
def plainR : D → Bool
  | .tup l => plainL l
  | d => plainV d
theorem sp_fits_row {d : D} {n : Int} (h : plainR d = true) : F_fits_row en [.int n, d] ls = .ok (.bl (isRow n d)) ls := by
  refine wF_is ?_
  unfold F_fits_row
  rw [wF_end]
  unfold p_fits_row
  walk_at "ev"
  cases d with
  | tup l =>
    walk_at "ev"
    by_cases hl : (200 : Int) < (l.length : Int)
    · simp only [hl, decide_true, if_true]
      unfold isRow
      have : ¬ l.length ≤ 200 := by omega
      simp [this]
    · simp only [hl, decide_false, if_false, Bool.false_eq_true]
      refine wM_lcp ?_
      walk_at "ev"
      refine ⟨rfl, rfl, Nat.le_trans (show l.length ≤ 200 by omega) (by decide), fun _ => true, fun d => .bl (lett n d), fun d hd => ?_, ?_⟩
      · have hp : plainV d = true := List.all_eq_true.mp h d hd
        walk_at "ev"
        refine ⟨rfl, rfl, fun _ => ?_⟩
        have e : F_fits_letter en [.int n, d] ls = .ok (.bl (lett n d)) ls := sp_fits_letter hp
        show callM 2 (F_fits_letter en) _ _ _ = _
        unfold callM bnd
        show (if [D.int n, d].length = 2 then callF (F_fits_letter en [.int n, d] ls) _ _ else .no) = _
        rw [e]; rfl
      · rw [filt_true, allD_map]
        unfold isRow
        have : l.length ≤ 200 := by omega
        simp [wI, this]
  | _ => first | (cases h; done) | rfl | exact ⟨rfl, rfl⟩
/-! plain rows -/
theorem zs_split {l : List Int} {done rest : List D} {d : D} (h : zs l = done ++ d :: rest) : ∃ a x b, l = a ++ x :: b ∧ done = zs a ∧ d = .int x ∧ rest = zs b := by
  induction done generalizing l with
  | nil =>
    cases l with
    | nil => cases h
    | cons x b => cases h; exact ⟨[], x, b, rfl, rfl, rfl, rfl⟩
  | cons e done ih =>
    cases l with
    | nil => cases h
    | cons y l =>
      have h1 : D.int y = e := (List.cons.inj h).1
      obtain ⟨a, x, b, e1, e2, e3, e4⟩ := ih (l := l) (List.cons.inj h).2
      exact ⟨y :: a, x, b, by rw [e1]; rfl, by rw [e2, ← h1]; rfl, e3, e4⟩
theorem zs_inj {a b : List Int} (h : zs a = zs b) : a = b := by
  have := congrArg intsOf h
  rw [intsOf_zs, intsOf_zs] at this
  exact Option.some.inj this
theorem sp_plain_of {x : D} {l : List Int} (hx : itemsD x = some (zs l)) (hl : l.length ≤ 10000) : F_plain_of en [x] ls = .ok (row (red l)) ls := by
  refine wF_is ?_
  unfold F_plain_of
  rw [wF_end]
  unfold p_plain_of
  walk_at "ev"
  rw [hx]
  show wP _ _ _ _
  refine wP_for (fun done ρ ls' => ls' = ls ∧ ∃ s2 l1, done = zs l1 ∧ ρ = [.dat x, .own (zs (redR [] l1).reverse), s2]) ⟨rfl, .un, [], rfl, rfl⟩ ?_ ?_
  · rintro done d rest ρ ls' ed ⟨rfl, s2, l1, e1, rfl⟩
    obtain ⟨a, y, b, el, ea, rfl, eb⟩ := zs_split ed
    have e2 : l1 = a := zs_inj (e1.symm.trans ea)
    subst e2
    have hlen : (redR [] l1).length ≤ 10000 := by
      have := redR_len [] l1
      have : l.length = l1.length + (b.length + 1) := by rw [el]; simp
      simp at *; omega
    have hn : zs (l1 ++ [y]) = done ++ [.int y] := by rw [← zs_app, e1]; rfl
    have hr : redR [] (l1 ++ [y]) = push (redR [] l1) y := by rw [redR_append]; rfl
    walk_at "ev"
    cases hst : redR [] l1 with
    | nil =>
      simp only [List.reverse_nil, decide_true, Bool.not_true, if_false, Bool.false_eq_true]
      rw [appD_some (by decide)]
      refine ⟨.dat (.int y), l1 ++ [y], hn.symm, ?_⟩
      rw [hr, hst]; rfl
    | cons z t =>
      rw [List.reverse_cons, atD_last]
      walk_at "ev"
      have ne : ¬ (t.reverse ++ [z] = []) := by simp
      rw [decide_eq_false ne]
      simp only [Bool.not_false, if_true]
      by_cases hz : z = 0 - y
      · rw [if_pos (decide_eq_true hz), ← zs_app, ← zs_one, popD_app]
        refine ⟨.dat (.int y), l1 ++ [y], hn.symm, ?_⟩
        rw [hr, hst]
        show _ = [Sl.dat x, Sl.own (zs (if z = 0 - y then t else y :: z :: t).reverse), _]
        rw [if_pos hz]
      · rw [decide_eq_false hz]
        simp only [if_false, Bool.false_eq_true]
        rw [appD_some (by rw [zs_len, ← List.reverse_cons, List.length_reverse, ← hst]; exact Nat.lt_of_le_of_lt hlen (by decide))]
        refine ⟨.dat (.int y), l1 ++ [y], hn.symm, ?_⟩
        rw [hr, hst]
        show _ = [Sl.dat x, Sl.own (zs (if z = 0 - y then t else y :: z :: t).reverse), _]
        rw [if_neg hz, List.reverse_cons, List.reverse_cons, ← zs_app (b := [y])]; rfl
  · rintro ρ ls' ⟨rfl, s2, l1, e1, rfl⟩
    cases zs_inj e1
    walk_at "ev"
    rfl
theorem sp_mk_plain {x : D} {l : List Int} (hx : itemsD x = some (zs l)) (hl : l.length ≤ 10000) : F_law_mk_plain en [x] ls = .ok (row (red l)) ls := sp_plain_of (en := en) (ls := ls) hx hl
theorem sub_map {l : List Int} : (zs l).map (fun d => (subD (.int 0) d).getD .non) = zs (l.map fun x => 0 - x) := by
  unfold zs
  rw [List.map_map, List.map_map]; rfl
theorem sp_undone_of {l : List Int} (hl : l.length ≤ 10000) : F_undone_of en [row l] ls = .ok (row (und l)) ls := by
  refine wF_is ?_
  unfold F_undone_of
  rw [wF_end]
  unfold p_undone_of
  walk_at "ev"
  refine wM_lcp ?_
  unfold row
  walk_at "ev"
  refine ⟨rfl, rfl, by rw [List.length_reverse, zs_len]; exact Nat.le_trans hl (by decide), fun _ => true, fun d => (subD (.int 0) d).getD .non, fun d hd => ?_, ?_⟩
  · obtain ⟨i, _, rfl⟩ := zs_mem (List.mem_reverse.mp hd)
    walk_at "ev"
    exact ⟨rfl, rfl, fun _ => rfl⟩
  · rw [filt_true, zs_rev, sub_map]; rfl
theorem sp_mk_undone {l : List Int} (hl : l.length ≤ 10000) : F_law_mk_undone en [row l] ls = .ok (row (und l)) ls := by
  refine wF_is ?_
  unfold F_law_mk_undone
  rw [wF_end]
  unfold p_law_mk_undone
  walk_at "ev"
  refine wM_lcp ?_
  unfold row
  walk_at "ev"
  refine ⟨rfl, rfl, by rw [List.length_reverse, zs_len]; exact Nat.le_trans hl (by decide), fun _ => true, fun d => (subD (.int 0) d).getD .non, fun d hd => ?_, ?_⟩
  · obtain ⟨i, _, rfl⟩ := zs_mem (List.mem_reverse.mp hd)
    walk_at "ev"
    exact ⟨rfl, rfl, fun _ => rfl⟩
  · rw [filt_true, zs_rev, sub_map]; rfl
theorem flat_append {α : Type} {a : List (List α)} {b : List α} : (a ++ [b]).flatten = a.flatten ++ b := by simp
/-- two fors, nothing changed -/
theorem wM_lc2p {ρ : Rho} {Q : List D → Rho → LS → Prop} {E : EX} {src : M (List D)} {t : D → Rho → Option Rho} {src1 : M (List D)} {t1 : D → Rho → Option Rho} {e : M D} {vs vs1 : List Nat} (h : wM src ρ ls (fun ds ρ ls => noOwn ρ vs = true ∧ unwipe ρ (wipeR ρ vs) vs = ρ ∧ ∃ (f : D → List D) (g : D → D),
    (∀ d ∈ ds, ∃ ρ1, t d (wipeR ρ vs) = some ρ1 ∧ src1 ρ1 ls = .ok (f d) ρ1 ls ∧ wipeR (wipeR ρ1 vs1) vs = wipeR ρ vs ∧ ∀ x ∈ f d, ∃ ρ2, t1 x (wipeR ρ1 vs1) = some ρ2 ∧ e ρ2 ls = .ok (g x) ρ2 ls ∧ wipeR ρ2 vs1 = wipeR ρ1 vs1) ∧ (ds.map f).flatten.length ≤ top ∧ Q ((ds.map f).flatten.map g) ρ ls) E) :
    wM (lc2M src t (ret true) src1 t1 (ret true) e vs vs1) ρ ls Q E := by
  unfold lc2M
  rw [wM_bnd]
  refine wM_imp h (fun ds ρ ls hh => ?_) fun _ _ z => z
  obtain ⟨h1, h2, f, g, hs, hl, q⟩ := hh
  show wU (if noOwn ρ vs = true then _ else _) Q E
  rw [if_pos h1]
  have go : ∀ (rest done : List D), ds = done ++ rest → lc2L t (ret true) src1 t1 (ret true) e vs vs1 rest ((done.map f).flatten.map g) (wipeR ρ vs) ls = .ok ((ds.map f).flatten.map g) (wipeR ρ vs) ls := by
    intro rest
    induction rest with
    | nil => intro done ed; rw [List.append_nil] at ed; subst ed; rfl
    | cons d rest ih =>
      intro done ed
      obtain ⟨ρ1, e1, e2, e3, hx⟩ := hs d (by rw [ed]; simp)
      have e4 : ds = (done ++ [d]) ++ rest := by rw [ed, List.append_assoc]; rfl
      have inner : lcL t1 (ret true) e vs1 (f d) ((done.map f).flatten.map g) (wipeR ρ1 vs1) ls = .ok (((done ++ [d]).map f).flatten.map g) (wipeR ρ1 vs1) ls := by
        obtain ⟨acc', ρ', ls', r1, r2, r3, r4⟩ := wM_lcL (t := t1) (c := ret true) (e := e) (vs := vs1) (ds := f d) (acc := (done.map f).flatten.map g) (ρ := wipeR ρ1 vs1) (ls := ls) (fun dn acc ρ' ls' => ρ' = wipeR ρ1 vs1 ∧ ls' = ls ∧ acc = (done.map f).flatten.map g ++ dn.map g) ⟨rfl, rfl, by simp⟩ (by
          rintro dn x rs acc ρ' ls' ex ⟨rfl, rfl, rfl⟩
          obtain ⟨ρ2, g1, g2, g3⟩ := hx x (by rw [ex]; simp)
          rw [g1]
          show wU (e ρ2 ls') _ _
          rw [g2]
          refine ⟨?_, g3, rfl, by simp⟩
          have a1 : (ds.map f).flatten.length = ((done.map f).flatten).length + (dn.length + (rs.length + 1)) + ((rest.map f).flatten).length := by
            rw [ed]
            simp only [List.map_append, List.map_cons, List.flatten_append, List.flatten_cons, List.length_append]
            rw [ex]
            simp
            omega
          rw [List.length_append, List.length_map, List.length_map]
          omega)
        rw [r1, r2, r3, r4]
        simp
      show lc2T (fun acc ρ ls => lc2L t (ret true) src1 t1 (ret true) e vs vs1 rest acc (wipeR ρ vs) ls) (ret true) src1 t1 (ret true) e vs1 _ ls (t d (wipeR ρ vs)) = _
      rw [e1]
      show lc2S (fun acc ρ ls => lc2L t (ret true) src1 t1 (ret true) e vs vs1 rest acc (wipeR ρ vs) ls) src1 t1 (ret true) e vs1 _ ρ1 ls = _
      unfold lc2S
      rw [e2]
      show lc2K _ (lcL t1 (ret true) e vs1 (f d) _ (wipeR ρ1 vs1) ls) = _
      rw [inner]
      show lc2L t (ret true) src1 t1 (ret true) e vs vs1 rest _ (wipeR (wipeR ρ1 vs1) vs) ls = _
      rw [e3]
      exact ih (done ++ [d]) e4
  have r := go ds [] rfl
  show wU (lcEnd ρ vs (lc2L t (ret true) src1 t1 (ret true) e vs vs1 ds [] (wipeR ρ vs) ls)) Q E
  rw [show ([] : List D) = ((([] : List D).map f).flatten.map g) from rfl, r]
  show Q _ (unwipe ρ (wipeR ρ vs) vs) ls
  rw [h2]
  exact q
def itemsG (d : D) : List D := (itemsD d).getD []
theorem rows_flat : ∀ (rs : List (List Int)), ((rs.map row).map itemsG).flatten = zs rs.flatten
  | [] => rfl
  | r :: rs => by
    show zs r ++ ((rs.map row).map itemsG).flatten = zs (r ++ rs.flatten)
    rw [rows_flat rs, zs_app]
theorem sp_product_of {rs : List (List Int)} (hl : rs.flatten.length ≤ 10000) : F_product_of en [.lst (rs.map row)] ls = .ok (row (red rs.flatten)) ls := by
  refine wF_is ?_
  unfold F_product_of
  rw [wF_end]
  unfold p_product_of
  walk_at "ev"
  refine wM_lc2p ?_
  walk_at "ev"
  refine ⟨rfl, rfl, itemsG, id, fun d hd => ?_, ?_, ?_⟩
  · obtain ⟨r, _, rfl⟩ := List.mem_map.mp hd
    exact ⟨_, rfl, rfl, rfl, fun x _ => ⟨_, rfl, rfl, rfl⟩⟩
  · rw [rows_flat, zs_len]; exact Nat.le_trans hl (by decide)
  · rw [rows_flat, List.map_id]
    exact wF_ok (sp_plain_of rfl hl) ⟨rfl, rfl⟩
/-- letters of l -/
def fitL (n : Int) (l : List Int) : Prop := ∀ x ∈ l, (0 - n ≤ x ∧ x ≤ n) ∧ x ≠ 0
theorem isRow_row {n : Int} {l : List Int} (h : fitL n l) (hl : l.length ≤ 200) : isRow n (row l) = true := by
  show (decide ((zs l).length ≤ 200) && (zs l).all (lett n)) = true
  rw [zs_len, decide_eq_true hl, Bool.true_and, List.all_eq_true]
  intro d hd
  obtain ⟨i, hi, rfl⟩ := zs_mem hd
  obtain ⟨⟨h1, h2⟩, h3⟩ := h i hi
  show ((decide (0 - n ≤ i) && decide (i ≤ n)) && !decide (i = 0)) = true
  rw [decide_eq_true h1, decide_eq_true h2, decide_eq_false h3]; rfl
theorem plainR_row {l : List Int} : plainR (row l) = true := List.all_eq_true.mpr fun d hd => by
  obtain ⟨i, _, rfl⟩ := zs_mem hd
  rfl
theorem sp_need_row {l : List Int} {n : Int} (h : fitL n l) (hl : l.length ≤ 200) : F_need_row en [.int n, row l] ls = .ok (row (red l)) ls := by
  refine wF_is ?_
  unfold F_need_row
  rw [wF_end]
  unfold p_need_row
  walk_at "ev"
  rw [sp_fits_row plainR_row, isRow_row h hl]
  walk_at "ev"
  exact wF_ok (sp_plain_of rfl (by omega)) ⟨rfl, rfl⟩
theorem sp_need_rowX {d : D} {n : Int} (h : plainR d = true) (hb : isRow n d = false) : F_need_row en [.int n, d] ls = .rs ⟨en.BadRow, none⟩ ls := by
  refine wF_rs ?_
  unfold F_need_row
  rw [wF_end]
  unfold p_need_row
  walk_at "ev"
  rw [sp_fits_row h, hb]
  first | exact ⟨rfl, rfl⟩ | rfl
/-- a number of deeds -/
def dOk (n : Int) : Prop := 1 ≤ n ∧ n ≤ 4
theorem dOk_btw {n : Int} (h : dOk n) : btw (.int n) 1 4 = true := by
  show (decide (1 ≤ n) && decide (n ≤ 4)) = true
  rw [decide_eq_true h.1, decide_eq_true h.2]; rfl
theorem sp_nd {n : Int} (h : dOk n) : F_need_deeds en [.int n] ls = .ok .non ls := by rw [sp_need_deeds rfl, if_pos (dOk_btw h)]
theorem sp_ndX {d : D} (hp : plainV d = true) (h : btw d 1 4 = false) : F_need_deeds en [d] ls = .rs ⟨en.BadDeeds, none⟩ ls := by rw [sp_need_deeds hp, h]; rfl
theorem fitL_red {n : Int} {l : List Int} (h : fitL n l) : fitL n (red l) := fun x hx => h x (red_mem hx)
theorem fitL_und {n : Int} {l : List Int} (h : fitL n l) : fitL n (und l) := fun x hx => by
  have := h _ (und_mem hx)
  omega
theorem fitL_app {n : Int} {a b : List Int} (h : fitL n a) (h2 : fitL n b) : fitL n (a ++ b) := fun x hx => (List.mem_append.mp hx).elim (h x) (h2 x)
end Pd

set_option Elab.async false
set_option linter.all false
set_option maxRecDepth 100000
set_option maxHeartbeats 4000000
/-! Ev2: draws, rows drawn. -/
namespace Pd
open PySem PySem.Spec PyProof.Rows L2
theorem mulD_lst {a : List D} {k : Int} (h0 : 0 ≤ k) (h1 : k ≤ 1000) (hl : a.length ≤ 1000) : mulD (.lst a) (.int k) = some (.lst (List.replicate k.toNat a).flatten) := by
  have e : mulL (.lst a) (.int k) = some (List.replicate k.toNat a).flatten := by
    show (if decide (k ≤ 1000) && decide (a.length ≤ 1000) && decide (0 - 1000 ≤ k) then _ else _) = _
    rw [decide_eq_true h1, decide_eq_true hl, decide_eq_true (show 0 - 1000 ≤ k by omega)]; rfl
  show (none : Option D).or ((none : Option D).or ((mulL (.lst a) (.int k)).map .lst)) = _
  rw [e]; rfl
theorem mulD_tup {a : List D} {k : Int} (h0 : 0 ≤ k) (h1 : k ≤ 1000) (hl : a.length ≤ 1000) : mulD (.tup a) (.int k) = some (.tup (List.replicate k.toNat a).flatten) := by
  have e : mulT (.tup a) (.int k) = some (.tup (List.replicate k.toNat a).flatten) := by
    show (if (decide (k ≤ 1000) && decide (0 - 1000 ≤ k)) && decide (a.length ≤ 1000) then _ else _) = _
    rw [decide_eq_true h1, decide_eq_true hl, decide_eq_true (show 0 - 1000 ≤ k by omega)]; rfl
  show (none : Option D).or ((mulT (.tup a) (.int k)).or _) = _
  rw [e]; rfl
theorem absD_int {i : Int} : absD (.int i) = some (.int i.natAbs) := by
  show some (D.int (if i < 0 then -i else i)) = _
  congr 2
  split <;> omega
theorem addD_tup {a b : List D} (h : a.length + b.length ≤ top) : addD (.tup a) (.tup b) = some (.tup (a ++ b)) := by
  show (none : Option D).or ((if a.length + b.length ≤ top then some (D.tup (a ++ b)) else none).or _) = _
  rw [if_pos h]; rfl
theorem addD_lst {a b : List D} (h : a.length + b.length ≤ top) : addD (.lst a) (.lst b) = some (.lst (a ++ b)) := by
  have e : addL (.lst a) (.lst b) = some (a ++ b) := if_pos h
  show (none : Option D).or ((none : Option D).or (((addL (.lst a) (.lst b)).map .lst).or _)) = _
  rw [e]; rfl
theorem cntD_row {l : List Int} {k : Int} : cntD (row l) (.int k) = some (.int (l.count k : Nat)) := by
  show (intsOf (zs l)).map _ = _
  rw [intsOf_zs]; rfl
theorem modD_int {a b : Int} (h : 0 < b) : modD (.int a) (.int b) = some (.int (a % b)) := by
  show (if decide (0 < b) = true then some (D.int (a % b)) else none) = _
  rw [decide_eq_true h]; rfl
theorem fdivD_int {a b : Int} (h : 0 < b) (h1 : b < 1073741824) : fdivD (.int a) (.int b) = some (.int (a / b)) := by
  show (if (decide (0 < b) && decide (b < 1073741824)) = true then some (D.int (a / b)) else none) = _
  rw [decide_eq_true h, decide_eq_true h1]; rfl
theorem minD_int {a b : Int} : minD (.int a) (.int b) = some (.int (if b < a then b else a)) := rfl
theorem rng1D_int {n : Int} (h : n < 1000000) (h0 : 0 - 1000000 < n) : rng1D [.int n] = some (rangeL 0 n.toNat) := by
  show (if decide (n < 1000000) && decide (0 - 1000000 < n) then _ else _) = _
  rw [decide_eq_true h, decide_eq_true h0]; rfl
theorem rng2D_int {a b : Int} (h : a < 1000000) (h0 : 0 - 1000000 < a) (h2 : b < 1000000) (h3 : 0 - 1000000 < b) : rng2D [.int a, .int b] = some (rangeL a (b - a).toNat) := by
  show (if (decide (a < 1000000) && decide (0 - 1000000 < a)) && (decide (b < 1000000) && decide (0 - 1000000 < b)) then _ else _) = _
  rw [decide_eq_true h, decide_eq_true h0, decide_eq_true h2, decide_eq_true h3]; rfl
theorem lr2D_int {a b : Int} (h : a < 1000000) (h0 : 0 - 1000000 < a) (h2 : b < 1000000) (h3 : 0 - 1000000 < b) : lr2D (.int a) (.int b) = some (rangeL a (b - a).toNat) := by
  show (if (decide (a < 1000000) && decide (0 - 1000000 < a)) && (decide (b < 1000000) && decide (0 - 1000000 < b)) then _ else _) = _
  rw [decide_eq_true h, decide_eq_true h0, decide_eq_true h2, decide_eq_true h3]; rfl
theorem rangeL_zs (lo : Int) (n : Nat) : rangeL lo n = zs ((List.range n).map fun (i : Nat) => lo + (i : Int)) := by
  unfold rangeL zs
  rw [List.map_map]; rfl
local macro_rules | `(tactic| walk_at "ev") => `(tactic| try simp only [wM_bnd, wM_ret, wM_opt, wI_some, wM_nam, nmI_dat, nmI_own, gvI_dat, gvI_own, owI_own, inI_int, itI_int, wM_lookd, wM_looks, wM_gived, wM_gives, wM_isB, wM_andM, wM_orM, wM_notM, wM_ifM, wM_andV, wM_orV, wM_notV, wM_bin, wM_uno, wM_dt, wM_ls1, wM_consM, wM_tupM, wM_lstM, wM_itemsM, wM_ritemsM, wM_callM, wM_keyM, wM_methM, wM_meth0M, wM_mthM, wM_chainM, wM_partM, wM_cutM, wP_seqP, wP_lift, wP_skip, wP_brk, wP_cnt, wP_rsP, wP_sto, wP_stoN, wP_setV, wP_setN, wP_retP, wP_drop, wP_ifP, wP_asgP, wP_par2, wP_par3, wP_augP, wP_forP, slD,
  addD_int, subD_int, ltD_int, leD_int, gtD_int, geD_int, negD_int, eqD_int, neD_int, neD_zs, eqD_zs, eqD_row, neD_row, isi_tt, lenD_tup, lenD_lst, tupleD_tup, tupleD_lst, listD_tup, listD_lst, itemsD_tup, itemsD_lst, ritemsD_tup, revD_tup, few_nil, few_1, few_2, few_3, few_4, tgName,
  ini, List.map_cons, List.map_nil, List.length_cons, List.length_nil, List.replicate, List.cons_append, List.nil_append, List.getElem?_cons_zero, List.getElem?_cons_succ, List.set_cons_zero, List.set_cons_succ, Nat.reduceAdd, Nat.reduceSub, Nat.reduceLT, Nat.zero_add, Nat.sub_self, if_true, if_false, reduceIte, true_and, and_true, and_self, wF_k, wF_x, Bool.not_true, Bool.not_false, Bool.false_eq_true, Nat.lt_irrefl])
variable {en : En} {ls : LS}
/-- the state of the draws: c draws are left -/
structure Sz (a : Addr) (T : List (Addr × Str)) (c : Nat) (ls : LS) : Prop where
  self : ls.self = a
  tb : ls.tb = T
  great : ∀ x ∈ ls.great, 0 ≤ x
  cells : ∀ x ∈ ls.cells, 0 ≤ x
  rest : 0 ≤ ls.rest
  t0 : 0 ≤ ls.turn
  t1 : ls.turn + c ≤ 1000000000000
variable {a : Addr} {T : List (Addr × Str)} {c : Nat} {G : D → LS → Prop} {E : EX}
theorem Sz.mono {c' : Nat} (h : Sz a T c ls) (hc : c' ≤ c) : Sz a T c' ls := ⟨h.self, h.tb, h.great, h.cells, h.rest, h.t0, by have := h.t1; omega⟩
theorem sp_draw {room : Int} (h : Sz a T (c + 1) ls) (h0 : 0 < room) (h1 : room < 1073741824) (q : ∀ r ls', 0 ≤ r → r < room → Sz a T c ls' → G (.int r) ls') : wF (FDraw [.ref a, .int room] ls) G E := by
  have gr : ∀ (ρ : Rho) (l2 : LS) (Q : D → Rho → LS → Prop) (E : EX), l2.self = a → ρ[0]? = some (.dat (.ref a)) → wM (getRest 0) ρ l2 Q E = Q (.int l2.rest) ρ l2 := fun ρ l2 Q E e1 e2 => by
    show wU (stM 0 _ ρ l2) Q E = _
    unfold stM hasSelf
    rw [e2]
    simp [e1, wU]
  have hself : ∀ (l2 : LS), l2.self = a → hasSelf l2 (some (.dat (.ref a))) = true := fun l2 e => by show decide (a = l2.self) = true; rw [e]; exact decide_eq_true rfl
  -- what the state gives
  have key : ∀ (rest : Int) (ls1 : LS), 0 ≤ rest → ls1.rest = rest → Sz a T c ls1 → ∀ s2, wP (seqP (setV 2 (bin modD (dt (uno intD (dt (getRest 0)))) (nam 1))) (seqP (setRest 0 (bin fdivD (dt (getRest 0)) (nam 1))) (retP (bnd (nam 2) give)))) [.dat (.ref a), .dat (.int room), s2] ls1 { nx := fun _ ls => G .non ls, bk := fun _ _ => False, ct := fun _ _ => False, rt := G, rs := E } := by
    intro rest ls1 hr er hs s2
    walk_at "ev"
    rw [gr _ _ _ _ hs.self rfl]
    walk_at "ev"
    rw [show intD (.int ls1.rest) = some (.int ls1.rest) from rfl]
    walk_at "ev"
    rw [modD_int h0]
    walk_at "ev"
    unfold setRest
    walk_at "ev"
    rw [gr _ _ _ _ hs.self rfl]
    walk_at "ev"
    rw [fdivD_int h0 h1]
    walk_at "ev"
    show wO (if hasSelf ls1 (some (.dat (.ref a))) = true then .nx _ { ls1 with rest := ls1.rest / room } else .no) _
    rw [show hasSelf ls1 (some (.dat (.ref a))) = true from by show decide (a = ls1.self) = true; rw [hs.self]; exact decide_eq_true rfl]
    rw [if_pos rfl]
    show G (.int (ls1.rest % room)) _
    refine q _ _ (Int.emod_nonneg _ (by omega)) (Int.emod_lt_of_pos _ h0) ⟨hs.self, hs.tb, hs.great, hs.cells, ?_, hs.t0, hs.t1⟩
    exact Int.ediv_nonneg hs.rest (by omega)
  have first : ∀ R : PQ, (∀ ls1, Sz a T c ls1 → R.nx [.dat (.ref a), .dat (.int room), .un] ls1) → wP (ifP (bnd (bin eqD (dt (getRest 0)) (dt (ret (.int 0)))) isB) (setRest 0 (ifM (bnd (greatNE 0) isB) (popGreat 0) (callM 1 FBlend (consM (bnd (nam 0) give) (ret []))))) skip) [.dat (.ref a), .dat (.int room), .un] ls R := fun R hR => by
   rw [wP_ifP]
   simp only [wM_bnd, wM_bin, wM_dt]
   show wM (getRest 0) [.dat (.ref a), .dat (.int room), .un] ls _ _
   rw [gr _ _ _ _ h.self rfl]
   walk_at "ev"
   by_cases h00 : ls.rest = 0
   · rw [decide_eq_true h00]
     simp only [if_true]
     show wP (setRest 0 _) _ _ _
     unfold setRest
     rw [wP_lift, wM_ifM, wM_bnd]
     have e1 : ∀ (Q : D → Rho → LS → Prop) (E : EX), wM (greatNE 0) [.dat (.ref a), .dat (.int room), .un] ls Q E = Q (.bl (!decide (ls.great = []))) [.dat (.ref a), .dat (.int room), .un] ls := fun Q E => by
       show wU (stM 0 _ _ ls) Q E = _
       unfold stM
       rw [show hasSelf ls ([.dat (.ref a), .dat (.int room), .un] : Rho)[0]? = true from hself ls h.self]
       rfl
     rw [e1]
     cases eg : ls.great with
     | nil =>
       simp only [decide_true, Bool.not_true, wM_isB, if_false, Bool.false_eq_true]
       rw [wM_callM]
       walk_at "ev"
       have eb : FBlend [.ref a] ls = .ok (.int (blendF (ls.turn + 1) ls.cells)) { ls with turn := ls.turn + 1 } := by
         show (if a = ls.self ∧ (0 ≤ ls.turn ∧ ls.turn < 1000000000000) then _ else _) = _
         rw [if_pos ⟨h.self.symm, h.t0, by have := h.t1; omega⟩]
       rw [eb]
       walk_at "ev"
       show wO (if hasSelf _ (some (.dat (.ref a))) = true then .nx _ _ else .no) _
       rw [hself { ls with turn := ls.turn + 1 } h.self, if_pos rfl]
       exact hR { ls with turn := ls.turn + 1, rest := blendF (ls.turn + 1) ls.cells } ⟨h.self, h.tb, by rw [eg]; exact (fun x hx => nomatch hx), h.cells, blendF_nn (by have := h.t0; omega) _, by have := h.t0; show 0 ≤ ls.turn + 1; omega, by have := h.t1; show ls.turn + 1 + (c : Int) ≤ _; omega⟩
     | cons x xs =>
       simp only [reduceCtorEq, decide_false, Bool.not_false, wM_isB, if_true]
       have e2 : ∀ (Q : D → Rho → LS → Prop) (E : EX), wM (popGreat 0) [.dat (.ref a), .dat (.int room), .un] ls Q E = Q (.int x) [.dat (.ref a), .dat (.int room), .un] { ls with great := xs } := fun Q E => by
         show wU (stM 0 _ _ ls) Q E = _
         unfold stM
         rw [show hasSelf ls ([.dat (.ref a), .dat (.int room), .un] : Rho)[0]? = true from hself ls h.self]
         simp only [if_true]
         rw [eg]; rfl
       rw [e2]
       show wO (if hasSelf _ (some (.dat (.ref a))) = true then .nx _ _ else .no) _
       rw [hself { ls with great := xs } h.self, if_pos rfl]
       have hx := h.great
       rw [eg] at hx
       exact hR { ls with great := xs, rest := x } ⟨h.self, h.tb, fun y hy => hx y (List.mem_cons_of_mem _ hy), h.cells, hx x List.mem_cons_self, h.t0, by have := h.t1; show ls.turn + (c : Int) ≤ _; omega⟩
   · rw [decide_eq_false h00]
     simp only [if_false, Bool.false_eq_true]
     exact hR ls (h.mono (Nat.le_succ c))
  unfold FDraw
  rw [wF_end]
  unfold pDraw
  rw [wP_seqP]
  exact first _ fun ls1 hs => key ls1.rest ls1 hs.rest rfl hs _
theorem wM_is {α : Type} {f : M α} {ρ ρ0 : Rho} {ls0 : LS} {b : α} (h : wM f ρ ls (fun b' ρ' ls' => b' = b ∧ ρ' = ρ0 ∧ ls' = ls0) fun _ _ => False) : f ρ ls = .ok b ρ0 ls0 := by
  unfold wM at h
  cases e : f ρ ls with
  | ok x y z => rw [e] at h; obtain ⟨rfl, rfl, rfl⟩ := h; rfl
  | rs x y => rw [e] at h; exact h.elim
  | no => rw [e] at h; exact h.elim
theorem atD_lst {l : List D} {r : Int} (h0 : 0 ≤ r) (h1 : r < l.length) : ∃ d, d ∈ l ∧ atD (.lst l) (.int r) = some d := by
  have hl : r.toNat < l.length := by omega
  refine ⟨l[r.toNat], List.getElem_mem hl, ?_⟩
  show L2.atI l r = _
  unfold L2.atI L2.ixN
  rw [if_pos h0, if_pos (by omega)]
  exact List.getElem?_eq_getElem hl
theorem sp_pick {l : List D} (h : Sz a T (c + 1) ls) (hn : l ≠ []) (hl : l.length ≤ 1000) (q : ∀ d ls', d ∈ l → Sz a T c ls' → G d ls') : wF (F_law_pick en [.ref a, .lst l] ls) G E := by
  have hp : 0 < l.length := List.length_pos_iff.mpr hn
  unfold F_law_pick
  rw [wF_end]
  unfold p_law_pick
  walk_at "ev"
  refine sp_draw h (by omega) (by omega) fun r ls' h0 h1 hs => ?_
  obtain ⟨d, hd, e⟩ := atD_lst h0 h1
  rw [e]
  exact q d ls' hd hs
theorem sp_mk_letters {n : Int} (hn : dOk n) : ∃ l, F_law_mk_letters en [.int n] ls = .ok (.lst (zs l)) ls ∧ fitL n l ∧ l.length ≤ 8 ∧ n ∈ l ∧ (0 - n) ∈ l := by
  obtain ⟨h1, h2⟩ := hn
  have : n = 1 ∨ n = 2 ∨ n = 3 ∨ n = 4 := by omega
  rcases this with rfl | rfl | rfl | rfl
  · exact ⟨[1, -1], rfl, by unfold fitL; decide, by decide, by decide, by decide⟩
  · exact ⟨[1, 2, -1, -2], rfl, by unfold fitL; decide, by decide, by decide, by decide⟩
  · exact ⟨[1, 2, 3, -1, -2, -3], rfl, by unfold fitL; decide, by decide, by decide, by decide⟩
  · exact ⟨[1, 2, 3, 4, -1, -2, -3, -4], rfl, by unfold fitL; decide, by decide, by decide, by decide⟩
theorem zs_filter {l : List Int} {p : D → Bool} : (zs l).filter p = zs (l.filter fun i => p (.int i)) := by
  unfold zs
  rw [List.filter_map]; rfl
theorem last_cases (l : List Int) : l = [] ∨ ∃ m x, l = m ++ [x] := by
  rcases List.eq_nil_or_concat l with h | ⟨m, x, h⟩
  · exact .inl h
  · exact .inr ⟨m, x, by rw [h]; simp⟩
theorem sp_mk_row {n least most : Int} (hn : dOk n) (h : Sz a T (c + 20) ls) (h0 : 0 ≤ least) (h1 : least ≤ most) (h2 : most ≤ 9) (q : ∀ l ls', fitL n l → (l.length : Int) ≤ most → least ≤ l.length → Sz a T c ls' → G (row l) ls') : wF (F_law_mk_row en [.ref a, .int n, .int least, .int most] ls) G E := by
  unfold F_law_mk_row
  rw [wF_end]
  unfold p_law_mk_row
  walk_at "ev"
  refine sp_draw (c := c + 19) h (by omega) (by omega) fun r ls' hr0 hr1 hs => ?_
  walk_at "ev"
  rw [rng1D_int (by omega) (by omega), rangeL_zs]
  walk_at "ev"
  have hlen : (zs ((List.range (least + r).toNat).map fun (i : Nat) => (0 : Int) + (i : Int))).length = (least + r).toNat := by rw [zs_len]; simp
  refine wP_for (fun done ρ ls' => ∃ l s5 s6, ρ = [.dat (.ref a), .dat (.int n), .dat (.int least), .dat (.int most), .own (zs l), s5, s6, .un] ∧ fitL n l ∧ l.length = done.length ∧ Sz a T (c + 19 - done.length) ls') ⟨[], .un, .un, rfl, (fun x hx => nomatch hx), rfl, hs⟩ ?_ ?_
  · rintro done d rest ρ ls' ed ⟨l, s5, s6, rfl, hf, el, hs⟩
    have hd : done.length + (rest.length + 1) = (least + r).toNat := by rw [← hlen, ed]; simp
    walk_at "ev"
    refine wM_lcp ?_
    walk_at "ev"
    obtain ⟨lt, e1, ft, ll, hm1, hm2⟩ := sp_mk_letters (en := en) (ls := ls') hn
    rw [e1]
    walk_at "ev"
    refine ⟨rfl, rfl, by rw [zs_len]; exact Nat.le_trans ll (by decide), fun y => match y with | .int y => decide (l = []) || !decide (some y = l.getLast?.map fun x => 0 - x) | _ => false, id, fun y hy => ?_, ?_⟩
    · obtain ⟨y, hy, rfl⟩ := zs_mem hy
      walk_at "ev"
      refine ⟨rfl, ?_, fun _ => rfl⟩
      refine wM_is ?_
      show wM _ [.dat (.ref a), .dat (.int n), .dat (.int least), .dat (.int most), .own (zs l), .dat d, s6, .dat (.int y)] ls' _ _
      walk_at "ev"
      rcases last_cases l with rfl | ⟨m, x, rfl⟩
      · simp
        rfl
      · rw [decide_eq_false (show ¬ (m ++ [x] = []) by simp)]
        walk_at "ev"
        rw [atD_last]
        walk_at "ev"
        simp
        rfl
    · have hne : ∃ y ∈ lt, (decide (l = []) || !decide (some y = l.getLast?.map fun x => 0 - x)) = true := by
        rcases last_cases l with rfl | ⟨m, x, rfl⟩
        · exact ⟨n, hm1, rfl⟩
        · by_cases hx : n = 0 - x
          · refine ⟨0 - n, hm2, ?_⟩
            have hn1 := hn.1
            have : ¬ (0 - n = 0 - x) := by omega
            simp [this]
            omega
          · exact ⟨n, hm1, by simp [hx]; omega⟩
      rw [List.map_id, zs_filter]
      obtain ⟨y0, hy0, hc0⟩ := hne
      refine sp_pick (c := c + 19 - done.length - 1) (hs.mono (by omega)) ?_ (by rw [zs_len]; exact Nat.le_trans (List.length_filter_le _ _) (by omega)) fun d1 l1 hd1 hs1 => ?_
      · intro e0
        have : y0 ∈ lt.filter fun i => (decide (l = []) || !decide (some i = l.getLast?.map fun x => 0 - x)) := List.mem_filter.mpr ⟨hy0, hc0⟩
        have e1 : (lt.filter fun i => (decide (l = []) || !decide (some i = l.getLast?.map fun x => 0 - x))) = [] := by
          cases e2 : (lt.filter fun i => (decide (l = []) || !decide (some i = l.getLast?.map fun x => 0 - x))) with
          | nil => rfl
          | cons u v =>
            have e0 : zs (lt.filter fun i => (decide (l = []) || !decide (some i = l.getLast?.map fun x => 0 - x))) = [] := e0
            rw [e2] at e0; cases e0
        rw [e1] at this
        cases this
      · obtain ⟨y, hy, rfl⟩ := zs_mem hd1
        rw [appD_some (by rw [zs_len, el]; exact Nat.lt_of_lt_of_le (show done.length < 1000 by omega) (by decide))]
        refine ⟨l ++ [y], _, _, by rw [← zs_app]; rfl, fitL_app hf fun z hz => ?_, by rw [List.length_append, List.length_append, el]; rfl, hs1.mono ?_⟩
        · rw [List.mem_singleton.mp hz]
          exact ft y (List.mem_filter.mp hy).1
        · rw [List.length_append]; simp; omega
  · rintro ρ ls' ⟨l, s5, s6, rfl, hf, el, hs⟩
    walk_at "ev"
    rw [hlen] at el hs
    refine q l ls' hf (by omega) (by omega) (hs.mono (by omega))
theorem cut_to {l : List Int} {k : Nat} (h : k ≤ l.length) : cutD none (some (k : Int)) (.lst (zs l)) = some (.lst (zs (l.take k))) := by
  show some (D.lst (cutG (zs l) none (some (k : Int)))) = _
  unfold cutG
  rw [HT.sIx_none, HT.sIx_nat, List.drop_zero, Nat.sub_zero, zs_len, Nat.min_eq_left h]
  unfold zs
  rw [List.map_take]
theorem cut_from {l : List Int} {k : Nat} (h : k ≤ l.length) : cutD (some (k : Int)) none (.lst (zs l)) = some (.lst (zs (l.drop k))) := by
  show some (D.lst (cutG (zs l) (some (k : Int)) none)) = _
  unfold cutG
  rw [HT.sIx_none, HT.sIx_nat, zs_len, Nat.min_eq_left h]
  have e : (zs l).drop k = zs (l.drop k) := by unfold zs; rw [List.map_drop]
  rw [e, List.take_of_length_le (by rw [zs_len, List.length_drop]; exact Nat.le_refl _)]
theorem sp_mk_raw {n : Int} {l : List Int} (hn : dOk n) (h : Sz a T (c + 10) ls) (hf : fitL n l) (hl : l.length ≤ 1000) (q : ∀ l' ls', fitL n l' → l'.length ≤ l.length + 4 → Sz a T c ls' → G (row l') ls') : wF (F_law_mk_raw en [.ref a, .int n, row l] ls) G E := by
  unfold F_law_mk_raw
  rw [wF_end]
  unfold p_law_mk_raw row
  walk_at "ev"
  refine sp_draw (c := c + 9) h (by omega) (by omega) fun r ls' hr0 hr1 hs => ?_
  rw [rng1D_int (by omega) (by omega), rangeL_zs]
  walk_at "ev"
  have hlen : (zs ((List.range r.toNat).map fun (i : Nat) => (0 : Int) + (i : Int))).length = r.toNat := by rw [zs_len]; simp
  refine wP_for (fun done ρ ls' => ∃ l' s4 s5 s6, ρ = [.dat (.ref a), .dat (.int n), .dat (.tup (zs l)), .dat (.lst (zs l')), s4, s5, s6] ∧ fitL n l' ∧ l'.length = l.length + 2 * done.length ∧ Sz a T (c + 9 - 2 * done.length) ls') ⟨l, .un, .un, .un, rfl, hf, by simp, hs⟩ ?_ ?_
  · rintro done d rest ρ ls' ed ⟨l', s4, s5, s6, rfl, hf', el, hs⟩
    have hd : done.length + (rest.length + 1) = r.toNat := by rw [← hlen, ed]; simp
    walk_at "ev"
    rw [zs_len]
    refine sp_draw (c := c + 9 - 2 * done.length - 1) (hs.mono (by omega)) (by omega) (by omega) fun at_ l1 ha0 ha1 hs1 => ?_
    walk_at "ev"
    obtain ⟨lt, e1, ft, ll, hm1, hm2⟩ := sp_mk_letters (en := en) (ls := l1) hn
    rw [e1]
    walk_at "ev"
    refine sp_pick (c := c + 9 - 2 * done.length - 2) (hs1.mono (by omega)) (fun e => by cases lt with | nil => cases hm1 | cons u v => cases e) (by rw [zs_len]; omega) fun d1 l2 hd1 hs2 => ?_
    obtain ⟨y, hy, rfl⟩ := zs_mem hd1
    obtain ⟨k, rfl⟩ : ∃ k : Nat, at_ = k := ⟨at_.toNat, by omega⟩
    walk_at "ev"
    rw [cut_to (by omega)]
    walk_at "ev"
    rw [addD_lst (by rw [zs_len]; have := List.length_take_le k l'; simp; exact Nat.le_trans (show _ ≤ 5000 by omega) (by decide))]
    walk_at "ev"
    rw [cut_from (by omega)]
    walk_at "ev"
    rw [show [D.int y, D.int (0 - y)] = zs [y, 0 - y] from rfl, zs_app]
    rw [addD_lst (by rw [zs_len, zs_len]; simp; exact Nat.le_trans (show _ ≤ 5000 by omega) (by decide)), zs_app]
    walk_at "ev"
    have fy := ft y hy
    refine ⟨_, _, _, _, rfl, fitL_app (fitL_app (fun z hz => hf' z (List.mem_of_mem_take hz)) fun z hz => ?_) fun z hz => hf' z (List.mem_of_mem_drop hz), ?_, hs2.mono ?_⟩
    · rcases List.mem_cons.mp hz with rfl | hz
      · exact fy
      · rw [List.mem_singleton.mp hz]; omega
    · simp; omega
    · rw [List.length_append]; simp; omega
  · rintro ρ ls' ⟨l', s4, s5, s6, rfl, hf', el, hs⟩
    walk_at "ev"
    rw [hlen] at el hs
    refine q l' ls' hf' (by omega) (hs.mono (by omega))
theorem sp_bad_deeds (h : Sz a T (c + 1) ls) (q : ∀ d ls', plainV d = true → btw d 1 4 = false → Sz a T c ls' → G d ls') : wF (F_law_mk_bad_deeds en [.ref a] ls) G E := by
  unfold F_law_mk_bad_deeds
  rw [wF_end]
  unfold p_law_mk_bad_deeds
  walk_at "ev"
  rw [few_some' (by decide)]
  walk_at "ev"
  refine sp_pick h (by simp) (by decide) fun d ls' hd hs => ?_
  have : plainV d = true ∧ btw d 1 4 = false := by
    simp only [List.mem_cons, List.not_mem_nil, or_false] at hd
    rcases hd with rfl | rfl | rfl | rfl | rfl | rfl | rfl | rfl <;> exact ⟨rfl, by decide⟩
  exact q d ls' this.1 this.2 hs
theorem rep1 {n : Nat} {x : D} : (List.replicate n [x]).flatten = List.replicate n x := by
  induction n with
  | zero => rfl
  | succ n ih => rw [List.replicate_succ, List.flatten_cons, ih, List.replicate_succ]; rfl
theorem sp_bad_row {n : Int} (hn : dOk n) (h : Sz a T (c + 1) ls) (q : ∀ d ls', plainR d = true → isRow n d = false → Sz a T c ls' → G d ls') : wF (F_law_mk_bad_row en [.ref a, .int n] ls) G E := by
  unfold F_law_mk_bad_row
  rw [wF_end]
  unfold p_law_mk_bad_row
  walk_at "ev"
  rw [mulD_tup (by decide) (by decide) (by decide)]
  walk_at "ev"
  rw [few_some' (by show 12 ≤ top; decide)]
  walk_at "ev"
  refine sp_pick h (by simp) (by show 12 ≤ 1000; decide) fun d ls' hd hs => ?_
  obtain ⟨h1, h2⟩ := hn
  have : plainR d = true ∧ isRow n d = false := by
    simp only [List.mem_cons, List.not_mem_nil, or_false] at hd
    rcases hd with rfl | rfl | rfl | rfl | rfl | rfl | rfl | rfl | rfl | rfl | rfl | rfl
    all_goals first
      | exact ⟨rfl, rfl⟩
      | (refine ⟨rfl, ?_⟩; simp [isRow, lett]; done)
      | (refine ⟨rfl, ?_⟩; simp [isRow, lett]; omega)
      | (rw [rep1]; exact ⟨rfl, by show (decide ((List.replicate 201 (D.int 1)).length ≤ 200) && _) = false; simp⟩)
  exact q d ls' this.1 this.2 hs
/-- so many times -/
def tms (l : List Int) (k : Int) : List Int := red (List.replicate k.natAbs (if k < 0 then und l else l)).flatten
theorem zs_rep {l : List Int} {n : Nat} : (List.replicate n (zs l)).flatten = zs (List.replicate n l).flatten := by
  induction n with
  | zero => rfl
  | succ n ih => rw [List.replicate_succ, List.flatten_cons, ih, List.replicate_succ, List.flatten_cons, zs_app]
theorem flat_rep_len {α : Type} {l : List α} {n : Nat} : (List.replicate n l).flatten.length = n * l.length := by
  induction n with
  | zero => simp
  | succ n ih => rw [List.replicate_succ, List.flatten_cons, List.length_append, ih, Nat.succ_mul]; omega
theorem tms_len {l : List Int} {k : Int} : (tms l k).length ≤ k.natAbs * l.length := by
  unfold tms
  refine Nat.le_trans (red_len _) ?_
  rw [flat_rep_len]
  split
  · rw [und_len]; exact Nat.le_refl _
  · exact Nat.le_refl _
theorem mem_flat_rep {α : Type} {l : List α} {x : α} : ∀ {n : Nat}, x ∈ (List.replicate n l).flatten → x ∈ l
  | 0, h => nomatch h
  | n + 1, h => by
    rw [List.replicate_succ, List.flatten_cons] at h
    rcases List.mem_append.mp h with h | h
    · exact h
    · exact mem_flat_rep h
theorem fitL_tms {n k : Int} {l : List Int} (h : fitL n l) : fitL n (tms l k) := fun x hx => by
  have := mem_flat_rep (red_mem hx)
  split at this
  · exact fitL_und h x this
  · exact h x this
theorem sp_mr_times {l : List Int} {k : Int} (hk : k.natAbs ≤ 20) (hl : l.length ≤ 300) : F_law_mr_times en [row l, .int k] ls = .ok (row (tms l k)) ls := by
  have hmul : k.natAbs * l.length ≤ 20 * 300 := Nat.mul_le_mul hk hl
  refine wF_is ?_
  unfold F_law_mr_times
  rw [wF_end]
  unfold p_law_mr_times
  walk_at "ev"
  by_cases h0 : 0 ≤ k
  · rw [decide_eq_true h0]
    simp only [if_true]
    walk_at "ev"
    rw [absD_int]
    walk_at "ev"
    unfold row
    rw [mulD_tup (by omega) (by omega) (by rw [zs_len]; omega)]
    walk_at "ev"
    rw [zs_rep]
    refine wF_ok (sp_mk_plain rfl (by rw [flat_rep_len]; simp; omega)) ⟨?_, rfl⟩
    unfold tms row
    rw [if_neg (by omega)]; simp
  · rw [decide_eq_false h0]
    walk_at "ev"
    rw [sp_mk_undone (by omega)]
    walk_at "ev"
    rw [absD_int]
    walk_at "ev"
    unfold row
    rw [mulD_tup (by omega) (by omega) (by rw [zs_len, und_len]; omega)]
    walk_at "ev"
    rw [zs_rep]
    refine wF_ok (sp_mk_plain rfl (by rw [flat_rep_len, und_len]; simp; omega)) ⟨?_, rfl⟩
    unfold tms row
    rw [if_pos (by omega)]; simp
end Pd

set_option Elab.async false
set_option linter.all false
set_option maxRecDepth 100000
set_option maxHeartbeats 4000000
/-! Ev3: more of the rows. -/
namespace Pd
open PySem PySem.Spec PyProof.Rows L2
local macro_rules | `(tactic| walk_at "ev") => `(tactic| try simp only [wM_bnd, wM_ret, wM_opt, wI_some, wM_nam, nmI_dat, nmI_own, gvI_dat, gvI_own, owI_own, inI_int, itI_int, wM_lookd, wM_looks, wM_gived, wM_gives, wM_isB, wM_andM, wM_orM, wM_notM, wM_ifM, wM_andV, wM_orV, wM_notV, wM_bin, wM_uno, wM_dt, wM_ls1, wM_consM, wM_tupM, wM_lstM, wM_itemsM, wM_ritemsM, wM_callM, wM_keyM, wM_methM, wM_meth0M, wM_mthM, wM_chainM, wM_partM, wM_cutM, wP_seqP, wP_lift, wP_skip, wP_brk, wP_cnt, wP_rsP, wP_sto, wP_stoN, wP_setV, wP_setN, wP_retP, wP_drop, wP_ifP, wP_asgP, wP_par2, wP_par3, wP_augP, wP_forP, slD,
  addD_int, subD_int, ltD_int, leD_int, gtD_int, geD_int, negD_int, eqD_int, neD_int, neD_zs, eqD_zs, eqD_row, neD_row, isi_tt, lenD_tup, lenD_lst, tupleD_tup, tupleD_lst, listD_tup, listD_lst, itemsD_tup, itemsD_lst, ritemsD_tup, revD_tup, few_nil, few_1, few_2, few_3, few_4, tgName,
  ini, List.map_cons, List.map_nil, List.length_cons, List.length_nil, List.replicate, List.cons_append, List.nil_append, List.getElem?_cons_zero, List.getElem?_cons_succ, List.set_cons_zero, List.set_cons_succ, Nat.reduceAdd, Nat.reduceSub, Nat.reduceLT, Nat.zero_add, Nat.sub_self, if_true, if_false, reduceIte, true_and, and_true, and_self, wF_k, wF_x, Bool.not_true, Bool.not_false, Bool.false_eq_true, Nat.lt_irrefl])
variable {en : En} {ls : LS} {a : Addr} {T : List (Addr × Str)} {c : Nat} {G : D → LS → Prop} {E : EX}
theorem top_of {n : Nat} (h : n ≤ 50000) : n ≤ top := Nat.le_trans h (by decide)
theorem addD_row {l m : List Int} (h : l.length + m.length ≤ 50000) : addD (row l) (row m) = some (row (l ++ m)) := by
  unfold row
  rw [addD_tup (by rw [zs_len, zs_len]; exact top_of h), zs_app]
theorem sp_mr_turned {l b : List Int} (hl : l.length ≤ 1000) (hb : b.length ≤ 1000) : F_law_mr_turned en [row l, row b] ls = .ok (row (red (b ++ l ++ und b))) ls := by
  refine wF_is ?_
  unfold F_law_mr_turned
  rw [wF_end]
  unfold p_law_mr_turned
  walk_at "ev"
  rw [addD_row (by omega)]
  walk_at "ev"
  rw [sp_mk_undone (by omega)]
  walk_at "ev"
  rw [addD_row (by rw [List.length_append, und_len]; omega)]
  walk_at "ev"
  exact wF_ok (sp_mk_plain rfl (by simp [und_len]; omega)) ⟨rfl, rfl⟩
theorem sp_mr_row {n : Int} (hn : dOk n) (h : Sz a T (c + 60) ls) (q : ∀ l ls', fitL n l → l.length ≤ 20 → Sz a T c ls' → G (row l) ls') : wF (F_law_mr_row en [.ref a, .int n] ls) G E := by
  unfold F_law_mr_row
  rw [wF_end]
  unfold p_law_mr_row
  walk_at "ev"
  have raw : ∀ (l : List Int) (ls' : LS) (ρ3 : Sl), fitL n l → l.length ≤ 16 → Sz a T (c + 10) ls' → wF (F_law_mk_raw en [.ref a, .int n, row l] ls') G E := fun l ls' ρ3 hf hl hs =>
    sp_mk_raw hn hs hf (by omega) fun l' l2 hf' hl' hs' => q l' l2 hf' (by omega) hs'
  refine sp_draw (c := c + 59) h (by omega) (by omega) fun r l1 hr0 hr1 hs => ?_
  walk_at "ev"
  by_cases h0 : r = 0
  · rw [decide_eq_true h0]
    walk_at "ev"
    refine sp_mk_row (c := c + 39) hn (hs.mono (by omega)) (by omega) (by omega) (by omega) fun l l2 hf hl1 hl2 hs2 => ?_
    walk_at "ev"
    refine sp_draw (c := c + 38) (hs2.mono (by omega)) (by omega) (by omega) fun r2 l3 hq0 hq1 hs3 => ?_
    walk_at "ev"
    rw [sp_mr_times (by omega) (by omega)]
    walk_at "ev"
    refine raw _ _ .un (fitL_tms hf) ?_ (hs3.mono (by omega))
    refine Nat.le_trans tms_len ?_
    have h1 : (2 + r2).natAbs ≤ 4 := by omega
    have h2 : l.length ≤ 3 := by omega
    exact Nat.le_trans (Nat.mul_le_mul h1 h2) (by decide)
  · rw [decide_eq_false h0]
    walk_at "ev"
    by_cases h1 : r = 1
    · rw [decide_eq_true h1]
      walk_at "ev"
      refine sp_mk_row (c := c + 39) hn (hs.mono (by omega)) (by omega) (by omega) (by omega) fun l l2 hf hl1 hl2 hs2 => ?_
      walk_at "ev"
      refine sp_mk_row (c := c + 19) hn (hs2.mono (by omega)) (by omega) (by omega) (by omega) fun m l3 hg hm1 hm2 hs3 => ?_
      walk_at "ev"
      rw [sp_mr_turned (by omega) (by omega)]
      walk_at "ev"
      refine raw _ _ .un (fitL_red (fitL_app (fitL_app hg hf) (fitL_und hg))) ?_ (hs3.mono (by omega))
      refine Nat.le_trans (red_len _) ?_
      simp [und_len]
      omega
    · rw [decide_eq_false h1]
      walk_at "ev"
      refine sp_mk_row (c := c + 39) hn (hs.mono (by omega)) (by omega) (by omega) (by omega) fun l l2 hf hl1 hl2 hs2 => ?_
      walk_at "ev"
      exact raw _ _ .un hf (by omega) (hs2.mono (by omega))
theorem sp_mr_long {n : Int} (hn : dOk n) (h : Sz a T (c + 20) ls) (q : ∀ l ls', fitL n l → l.length ≤ 200 → Sz a T c ls' → G (row l) ls') : wF (F_law_mr_long en [.ref a, .int n] ls) G E := by
  unfold F_law_mr_long
  rw [wF_end]
  unfold p_law_mr_long
  walk_at "ev"
  refine sp_mk_row hn h (by omega) (by omega) (by omega) fun l l2 hf hl1 hl2 hs2 => ?_
  walk_at "ev"
  unfold row
  rw [mulD_tup (by decide) (by decide) (by rw [zs_len]; omega), zs_rep]
  walk_at "ev"
  have e : cutD none (some 200) (.tup (zs (List.replicate (200 : Int).toNat l).flatten)) = some (row ((List.replicate (200 : Int).toNat l).flatten.take 200)) := by
    show some (D.tup (cutG (zs _) none (some ((200 : Nat) : Int)))) = _
    unfold cutG row
    rw [HT.sIx_none, HT.sIx_nat, List.drop_zero, Nat.sub_zero]
    have hm : ∀ (m : List Int), (zs m).take (min 200 (zs m).length) = zs (m.take 200) := fun m => by
      unfold zs
      rw [← List.map_take, List.length_map, ← List.take_take, List.take_length]
    rw [hm]
  rw [e]
  exact q _ _ (fun x hx => hf x (mem_flat_rep (List.mem_of_mem_take hx))) (List.length_take_le _ _) hs2
theorem sp_mr_same {l m : List Int} (hl : l.length ≤ 5000) : F_law_mr_same en [row l, row m] ls = .ok (.bl (decide (l = m))) ls := by
  refine wF_is ?_
  unfold F_law_mr_same
  rw [wF_end]
  unfold p_law_mr_same
  walk_at "ev"
  rw [show isiD .tuple (row l) = some (.bl true) from rfl]
  walk_at "ev"
  refine wM_lcp ?_
  walk_at "ev"
  rw [show itemsD (row l) = some (zs l) from rfl]
  walk_at "ev"
  refine ⟨rfl, rfl, by rw [zs_len]; exact top_of (by omega), fun _ => false, id, fun d hd => ?_, ?_⟩
  · obtain ⟨i, _, rfl⟩ := zs_mem hd
    walk_at "ev"
    refine ⟨rfl, wM_is ?_, fun z => nomatch z⟩
    show wM _ [.dat (row l), .dat (row m), .dat (.int i)] ls _ _
    walk_at "ev"
    rw [sp_mr_whole rfl]
    walk_at "ev"
    first | rfl | exact ⟨rfl, rfl⟩ | exact ⟨rfl, rfl, rfl⟩
  · rw [show (zs l).filter (fun _ => false) = [] from List.filter_eq_nil_iff.mpr fun _ _ => Bool.false_ne_true]
    show wI (eqD (.lst (zs [])) (.lst [])) _
    rw [eqD_zs]
    walk_at "ev"
    simp
theorem rep_rows {l : List Int} {n : Nat} : (List.replicate n [row l]).flatten = (List.replicate n l).map row := by
  rw [rep1, List.map_replicate]
/-- the sums of a row -/
def smsL (n : Nat) (l : List Int) : List Int := (List.range n).map fun (i : Nat) => bal (1 + (i : Int)) l
theorem smsL_red (n : Nat) (l : List Int) : smsL n (red l) = smsL n l := by
  unfold smsL
  exact List.map_congr_left fun i _ => bal_red _ _
theorem sums_comp {n : Int} {l : List Int} {ρ : Rho} {i j : Nat} {Q : List D → Rho → LS → Prop} {E : EX} (hn : dOk n) (hi : ρ[i]? = some (.dat (row l))) (hj : j < ρ.length) (hij : i ≠ j) (hno : isOwn ρ[j]? = false) (huw : unwipe ρ (wipeR ρ [j]) [j] = ρ)
    (src : M (List D)) (hs : wM src ρ ls (fun ds ρ' ls' => ds = zs ((List.range n.toNat).map fun (i : Nat) => 1 + (i : Int)) ∧ ρ' = ρ ∧ ls' = ls) E) (q : Q (zs (smsL n.toNat l)) ρ ls) :
    wM (lcM src (tgName j) (ret true) (bin subD (dt (mthM cntD (bnd (nam i) give) (bnd (nam j) give))) (dt (mthM cntD (bnd (nam i) give) (bin subD (dt (ret (.int 0))) (nam j))))) [j]) ρ ls Q E := by
  refine wM_lcp (wM_imp hs (fun ds ρ' ls' hh => ?_) fun _ _ z => z)
  obtain ⟨rfl, rfl, rfl⟩ := hh
  refine ⟨by unfold noOwn; simp [hno], huw, by rw [zs_len, List.length_map, List.length_range]; have := hn.2; exact top_of (show n.toNat ≤ 50000 by omega), fun _ => true, fun d => match d with | .int d => .int (bal d l) | _ => .non, fun d hd => ?_, ?_⟩
  · obtain ⟨d, _, rfl⟩ := zs_mem hd
    have hjw : j < (wipeR ρ' [j]).length := by rw [wipeR_len]; exact hj
    rw [tgName_at hjw]
    have e1 : ((wipeR ρ' [j]).set j (.dat (.int d)))[i]? = some (.dat (row l)) := by
      rw [List.getElem?_set_ne (Ne.symm hij)]
      show (ρ'.set j .un)[i]? = _
      rw [List.getElem?_set_ne (Ne.symm hij)]; exact hi
    have e2 : ((wipeR ρ' [j]).set j (.dat (.int d)))[j]? = some (.dat (.int d)) := List.getElem?_set_self hjw
    refine ⟨?_, rfl, fun _ => wM_is ?_⟩
    · show ((ρ'.set j .un).set j (.dat (.int d))).set j .un = ρ'.set j .un
      rw [List.set_set, List.set_set]
    · walk_at "ev"
      rw [e1]
      walk_at "ev"
      rw [show isTup (row l) = true from rfl]
      walk_at "ev"
      rw [e2]
      walk_at "ev"
      rw [cntD_row]
      walk_at "ev"
      rw [e1]
      walk_at "ev"
      rw [show isTup (row l) = true from rfl]
      walk_at "ev"
      rw [e2]
      walk_at "ev"
      rw [cntD_row]
      walk_at "ev"
      exact rfl
  · rw [filt_true]
    have e : ∀ m : List Int, (zs m).map (fun d => (match d with | .int d => .int (bal d l) | _ => .non : D)) = zs (m.map fun d => bal d l) := fun m => by
      unfold zs
      rw [List.map_map, List.map_map]; rfl
    rw [e, List.map_map]
    exact q
end Pd

set_option Elab.async false
set_option linter.all false
set_option maxRecDepth 100000
set_option maxHeartbeats 4000000
/-! Ev4: the faults. -/
namespace Pd
open PySem PySem.Spec PyProof.Rows L2
def catI (cs : List Addr) (x : XV) (q : Addr → Prop) : Prop := (x.fld = none ∧ x.cls ∈ cs) ∧ q x.cls
theorem catI_mk {cs : List Addr} {C : Addr} {q : Addr → Prop} : catI cs ⟨C, none⟩ q = (C ∈ cs ∧ q C) := by
  unfold catI
  simp
theorem wM_caughtM {T : List (Addr × Str)} {cs : List Addr} {f : M D} {ρ : Rho} {ls : LS} {Q : D → Rho → LS → Prop} {E : EX} : wM (caughtM T cs f) ρ ls Q E = (ls.tb = T ∧ wM f (hide ρ) ls (fun _ _ ls' => Q .non ρ ls') fun x ls' => catI cs x fun C => Q (.exn C) ρ ls') := by
  show wU (if ls.tb = T then _ else _) Q E = _
  by_cases h : ls.tb = T
  · rw [if_pos h]
    unfold wM
    cases f (hide ρ) ls with
    | ok a b c => simp [wU, h]
    | no => simp [wU]
    | rs x l =>
      show wU (if x.fld = none ∧ x.cls ∈ cs then (.ok (.exn x.cls) ρ l : Out D) else .no) Q E = (ls.tb = T ∧ catI cs x fun C => Q (.exn C) ρ l)
      unfold catI
      by_cases h2 : x.fld = none ∧ x.cls ∈ cs
      · rw [if_pos h2]; simp [wU, h, h2]
      · rw [if_neg h2]; simp [wU, h2]
  · rw [if_neg h]
    simp [wU, h]
theorem wP_forL_nil {t : D → Rho → Option Rho} {b : PM} {ρ : Rho} {ls : LS} {R : PQ} : wP (forL t b []) ρ ls R = R.nx ρ ls := rfl
theorem wP_forL_cons {t : D → Rho → Option Rho} {b : PM} {d : D} {ds : List D} {ρ : Rho} {ls : LS} {R : PQ} : wP (forL t b (d :: ds)) ρ ls R = wI (t d ρ) fun ρ1 => wP b ρ1 ls { R with nx := fun ρ ls => wP (forL t b ds) ρ ls R, ct := fun ρ ls => wP (forL t b ds) ρ ls R, bk := R.nx } := by
  cases e : t d ρ with
  | none => unfold wP; rw [forL_none e]; rfl
  | some ρ1 =>
    unfold wP
    rw [forL_cons e]
    show _ = wO (b ρ1 ls) _
    cases b ρ1 ls <;> rfl
theorem wP_seq {p q : PM} {ρ : Rho} {ls : LS} {R : PQ} (A : Rho → LS → Prop) (h1 : wP p ρ ls { R with nx := A }) (h2 : ∀ ρ ls, A ρ ls → wP q ρ ls R) : wP (seqP p q) ρ ls R := by
  unfold wP seqP at *
  cases e : p ρ ls with
  | nx ρ1 l1 => rw [e] at h1; exact h2 _ _ h1
  | bk ρ1 l1 => rw [e] at h1; exact h1
  | ct ρ1 l1 => rw [e] at h1; exact h1
  | rt d l1 => rw [e] at h1; exact h1
  | rtN l l1 => rw [e] at h1; exact h1
  | rs x l1 => rw [e] at h1; exact h1
  | no => rw [e] at h1; exact h1
theorem hide_nil : hide [] = [] := rfl
theorem hide_cons {s : Sl} {r : Rho} : hide (s :: r) = hideS s :: hide r := rfl
theorem hideS_dat {d : D} : hideS (.dat d) = .dat d := rfl
theorem hideS_own {d : List D} : hideS (.own d) = .un := rfl
theorem hideS_un : hideS .un = .un := rfl
theorem tgTup_eq {u : List D → Rho → Option Rho} {ds : List D} {ρ : Rho} : tgTup u (.tup ds) ρ = u ds ρ := rfl
theorem tgLst_eq {u : List D → Rho → Option Rho} {ds : List D} {ρ : Rho} : tgLst u (.lst ds) ρ = u ds ρ := rfl
theorem tgCons_eq {t : D → Rho → Option Rho} {u : List D → Rho → Option Rho} {d : D} {ds : List D} {ρ : Rho} : tgCons t u (d :: ds) ρ = (t d ρ).bind (u ds) := rfl
theorem tgNil_eq {ρ : Rho} : tgNil [] ρ = some ρ := rfl
local macro_rules | `(tactic| walk_at "ev") => `(tactic| try simp only [wM_bnd, wM_ret, wM_opt, wI_some, wM_nam, nmI_dat, nmI_own, gvI_dat, gvI_own, owI_own, inI_int, itI_int, wM_lookd, wM_looks, wM_gived, wM_gives, wM_isB, wM_andM, wM_orM, wM_notM, wM_ifM, wM_andV, wM_orV, wM_notV, wM_bin, wM_uno, wM_dt, wM_ls1, wM_consM, wM_tupM, wM_lstM, wM_itemsM, wM_ritemsM, wM_callM, wM_keyM, wM_methM, wM_meth0M, wM_mthM, wM_chainM, wM_partM, wM_cutM, wP_seqP, wP_lift, wP_skip, wP_brk, wP_cnt, wP_rsP, wP_sto, wP_stoN, wP_setV, wP_setN, wP_retP, wP_drop, wP_ifP, wP_asgP, wP_par2, wP_par3, wP_augP, wP_forP, wM_caughtM, catI_mk, cs_BadDeeds, cs_BadRow, isiE_BadDeeds, hide_nil, hide_cons, hideS_dat, hideS_own, hideS_un, tgTup_eq, tgLst_eq, tgCons_eq, tgNil_eq, Option.bind_some, slD,
  addD_int, subD_int, ltD_int, leD_int, gtD_int, geD_int, negD_int, eqD_int, neD_int, neD_zs, eqD_zs, eqD_row, neD_row, isi_tt, lenD_tup, lenD_lst, tupleD_tup, tupleD_lst, listD_tup, listD_lst, itemsD_tup, itemsD_lst, ritemsD_tup, revD_tup, few_nil, few_1, few_2, few_3, few_4, tgName,
  ini, List.map_cons, List.map_nil, List.length_cons, List.length_nil, List.replicate, List.cons_append, List.nil_append, List.getElem?_cons_zero, List.getElem?_cons_succ, List.set_cons_zero, List.set_cons_succ, Nat.reduceAdd, Nat.reduceSub, Nat.reduceLT, Nat.zero_add, Nat.sub_self, if_true, if_false, reduceIte, true_and, and_true, and_self, wF_k, wF_x, Bool.not_true, Bool.not_false, Bool.false_eq_true, Nat.lt_irrefl])
variable {en : En} {ls : LS} {a : Addr} {T : List (Addr × Str)} {c : Nat} {G : D → LS → Prop} {E : EX}
end Pd

set_option Elab.async false
set_option linter.all false
set_option maxRecDepth 100000
set_option maxHeartbeats 4000000
/-! Ev5: the law. -/
namespace Pd
open PySem PySem.Spec PyProof.Rows L2
theorem ord2 {x y : D} : ordL [0, 1] [x, y] = [x, y] := rfl
theorem ord3 {x y z : D} : ordL [0, 1, 2] [x, y, z] = [x, y, z] := rfl
theorem lenD_lsk {l : List D} : lenD (.lsk l) = some (.int l.length) := rfl
theorem isntD_bl {x y : Bool} : isntD (.bl x) (.bl y) = some (.bl (!decide (x = y))) := rfl
local macro_rules | `(tactic| walk_at "ev") => `(tactic| try simp only [wM_bnd, wM_ret, wM_opt, wI_some, wM_nam, nmI_dat, nmI_own, gvI_dat, gvI_own, owI_own, inI_int, itI_int, wM_lookd, wM_looks, wM_gived, wM_gives, wM_isB, wM_andM, wM_orM, wM_notM, wM_ifM, wM_andV, wM_orV, wM_notV, wM_bin, wM_uno, wM_dt, wM_ls1, wM_consM, wM_tupM, wM_lstM, wM_itemsM, wM_ritemsM, wM_callM, wM_keyM, wM_methM, wM_meth0M, wM_mthM, wM_chainM, wM_partM, wM_cutM, wP_seqP, wP_lift, wP_skip, wP_brk, wP_cnt, wP_rsP, wP_sto, wP_stoN, wP_setV, wP_setN, wP_retP, wP_drop, wP_ifP, wP_asgP, wP_par2, wP_par3, wP_augP, wP_forP, wM_caughtM, catI_mk, cs_BadDeeds, cs_BadRow, isiE_BadDeeds, hide_nil, hide_cons, hideS_dat, hideS_own, hideS_un, ord2, ord3, lenD_lsk, isntD_bl, tgTup_eq, tgLst_eq, tgCons_eq, tgNil_eq, Option.bind_some, slD,
  addD_int, subD_int, ltD_int, leD_int, gtD_int, geD_int, negD_int, eqD_int, neD_int, neD_zs, eqD_zs, eqD_row, neD_row, isi_tt, lenD_tup, lenD_lst, tupleD_tup, tupleD_lst, listD_tup, listD_lst, itemsD_tup, itemsD_lst, ritemsD_tup, revD_tup, few_nil, few_1, few_2, few_3, few_4, tgName,
  ini, List.map_cons, List.map_nil, List.length_cons, List.length_nil, List.replicate, List.cons_append, List.nil_append, List.getElem?_cons_zero, List.getElem?_cons_succ, List.set_cons_zero, List.set_cons_succ, Nat.reduceAdd, Nat.reduceSub, Nat.reduceLT, Nat.zero_add, Nat.sub_self, if_true, if_false, reduceIte, true_and, and_true, and_self, wF_k, wF_x, Bool.not_true, Bool.not_false, Bool.false_eq_true, Nat.lt_irrefl])
variable {en : En} {ls : LS} {a : Addr} {T : List (Addr × Str)} {c : Nat} {G : D → LS → Prop} {E : EX}
/-- three rows drawn -/
theorem rows_comp {n : Int} {ρ : Rho} {j : Nat} {Q : List D → Rho → LS → Prop} {E : EX} (hn : dOk n) (h : Sz a T (c + 200) ls) (h1 : ρ[1]? = some (.dat (.ref a))) (h3 : ρ[3]? = some (.dat (.int n))) (hj : j < ρ.length) (hj1 : j ≠ 1) (hj3 : j ≠ 3) (hno : isOwn ρ[j]? = false) (huw : unwipe ρ (wipeR ρ [j]) [j] = ρ)
    (q : ∀ l1 l2 l3 ls', (fitL n l1 ∧ l1.length ≤ 20) → (fitL n l2 ∧ l2.length ≤ 20) → (fitL n l3 ∧ l3.length ≤ 20) → Sz a T c ls' → Q [row l1, row l2, row l3] ρ ls') :
    wM (lcM (bnd (consM (ret (.int 3)) (ret [])) fun ds => opt (rng1D ds)) (tgName j) (ret true) (callM 2 (F_law_mr_row en) (consM (bnd (nam 1) give) (consM (bnd (nam 3) give) (ret [])))) [j]) ρ ls Q E := by
  refine wM_lc ?_
  walk_at "ev"
  rw [rng1D_int (by decide) (by decide), rangeL_zs]
  walk_at "ev"
  refine ⟨by unfold noOwn; simp [hno], fun done acc ρ' ls' => ∃ rows : List (List Int), acc = rows.map row ∧ rows.length = done.length ∧ (∀ l ∈ rows, fitL n l ∧ l.length ≤ 20) ∧ ρ' = wipeR ρ [j] ∧ Sz a T (c + 200 - 60 * done.length) ls', ⟨[], rfl, rfl, (fun l hl => nomatch hl), rfl, h⟩, ?_, ?_⟩
  · rintro done d rest acc ρ' ls' ed ⟨rows, rfl, hl, hr, rfl, hs⟩
    have hd : done.length + (rest.length + 1) = 3 := by
      have := congrArg List.length ed
      simpa [zs] using this.symm
    have hjw : j < (wipeR ρ [j]).length := by rw [wipeR_len]; exact hj
    rw [if_pos hjw]
    have e1 : ((wipeR ρ [j]).set j (.dat d))[1]? = some (.dat (.ref a)) := by
      rw [List.getElem?_set_ne hj1]
      show (ρ.set j .un)[1]? = _
      rw [List.getElem?_set_ne hj1]; exact h1
    have e3 : ((wipeR ρ [j]).set j (.dat d))[3]? = some (.dat (.int n)) := by
      rw [List.getElem?_set_ne hj3]
      show (ρ.set j .un)[3]? = _
      rw [List.getElem?_set_ne hj3]; exact h3
    walk_at "ev"
    rw [e1]
    walk_at "ev"
    rw [e3]
    walk_at "ev"
    refine sp_mr_row (c := c + 200 - 60 * done.length - 60) hn (hs.mono (by omega)) fun l l1 hf hl2 hs1 => ?_
    refine ⟨by rw [List.length_map, hl]; exact Nat.lt_of_lt_of_le (show done.length < 10 by omega) (by decide), rows ++ [l], by rw [List.map_append]; rfl, by rw [List.length_append, List.length_append, hl]; rfl, fun m hm => ?_, ?_, hs1.mono (by rw [List.length_append]; simp; omega)⟩
    · rcases List.mem_append.mp hm with hm | hm
      · exact hr m hm
      · rw [List.mem_singleton.mp hm]; exact ⟨hf, hl2⟩
    · show ((ρ.set j .un).set j (.dat d)).set j .un = ρ.set j .un
      rw [List.set_set, List.set_set]
  · rintro acc ρ' ls' ⟨rows, rfl, hl, hr, rfl, hs⟩
    rw [huw]
    have hl3 : rows.length = 3 := by rw [hl]; simp [zs]
    match rows, hl3 with
    | [l1, l2, l3], _ => exact q l1 l2 l3 ls' (hr l1 (by simp)) (hr l2 (by simp)) (hr l3 (by simp)) (hs.mono (by simp [zs]))
theorem tri {o t : List Int} : red (red (red (o ++ t)) ++ red o) = red (o ++ t ++ o) := by
  rw [red_red, red_left, red_right]
theorem tri2 {o t : List Int} : red (red o ++ red (red (t ++ o))) = red (o ++ t ++ o) := by
  rw [red_red, red_left, red_right, List.append_assoc]
theorem two {o t : List Int} : red (red o ++ red t) = red (o ++ t) := by rw [red_left, red_right]
end Pd

set_option Elab.async false
set_option linter.all false
set_option maxRecDepth 100000
set_option maxHeartbeats 4000000
/-! Pw2: what holds of the later programs. -/
namespace Pd
open PySem PySem.Spec PyProof.Rows L2
section
variable {α β : Type} {ρ : Rho} {ls : LS} {QL : List D → Rho → LS → Prop} {QI : List It → Rho → LS → Prop} {E : EX} {R : PQ}
theorem wM_consD {f : M D} {g : M (List It)} : wM (consD f g) ρ ls QI E = wM f ρ ls (fun d ρ ls => wM g ρ ls (fun is ρ ls => QI (.d d :: is) ρ ls) E) E := by
  unfold consD
  simp only [wM_bnd, wM_ret]
theorem wM_consL {f : M (List D)} {g : M (List It)} : wM (consL f g) ρ ls QI E = wM f ρ ls (fun d ρ ls => wM g ρ ls (fun is ρ ls => QI (.n d :: is) ρ ls) E) E := by
  unfold consL
  simp only [wM_bnd, wM_ret]
theorem wP_par2I {i j : Nat} {ga : M (List It)} : wP (par2I i j ga) ρ ls R = wM ga ρ ls (fun ds ρ ls => match ds with | [x, y] => wP (seqP (stoI i x) (seqP (stoI j y) skip)) ρ ls R | _ => False) R.rs := by
  unfold par2I
  rw [wP_lift]
  congr 1
  funext ds ρ ls
  match ds with
  | [] => rfl
  | [_] => rfl
  | [_, _] => rfl
  | _ :: _ :: _ :: _ => rfl
theorem stoI_d {i : Nat} {x : D} : stoI i (.d x) = sto i x := rfl
theorem stoI_n {i : Nat} {x : List D} : stoI i (.n x) = stoN i x := rfl
end
end Pd

set_option Elab.async false
set_option linter.all false
set_option maxRecDepth 100000
set_option maxHeartbeats 4000000
/-! Gl: rows as values. -/
namespace Pd
open PySem PySem.Spec PyProof.Rows L2
theorem eqD_zz {a b : List Int} : eqD (.lst (zs a)) (.lst (zs b)) = some (.bl (decide (a = b))) := by rw [eqD_of okq_ints okq_ints, eqb_ints]
theorem neD_zz {a b : List Int} : neD (.lst (zs a)) (.lst (zs b)) = some (.bl (!decide (a = b))) := by rw [neD_of okq_ints okq_ints, eqb_ints]
theorem atI_map {α : Type} {f : α → D} {l : List α} {i : Int} {x : α} (h0 : 0 ≤ i) (h : l[i.toNat]? = some x) : L2.atI (l.map f) i = some (f x) := by
  have hl : i.toNat < l.length := (List.getElem?_eq_some_iff.mp h).1
  unfold L2.atI L2.ixN
  rw [if_pos h0, List.length_map, if_pos (by omega)]
  show (l.map f)[i.toNat]? = _
  rw [List.getElem?_map, h]; rfl
theorem atI_mapN {α : Type} {f : α → D} {l : List α} {x : α} (h : l.getLast? = some x) : L2.atI (l.map f) (0 - 1) = some (f x) := by
  have hl : 0 < l.length := by
    cases l with
    | nil => cases h
    | cons => simp
  unfold L2.atI L2.ixN
  rw [if_neg (by decide), List.length_map, if_pos (by omega)]
  show (l.map f)[_]? = _
  rw [List.getElem?_map, show ((0 : Int) - 1 + (l.length : Int)).toNat = l.length - 1 by omega, ← List.getLast?_eq_getElem?, h]; rfl
theorem atD_row {l : List Int} {i x : Int} (h0 : 0 ≤ i) (h : l[i.toNat]? = some x) : atD (row l) (.int i) = some (.int x) := atI_map h0 h
theorem atD_rowN {l : List Int} {i : Nat} (h : i < l.length) : atD (row l) (.int (i : Int)) = some (.int (l.getD i 0)) := atD_row (Int.natCast_nonneg i) (by
  rw [Int.toNat_natCast, List.getD_eq_getElem?_getD, List.getElem?_eq_getElem h]; rfl)
theorem atD_zsN {l : List Int} {i : Nat} (h : i < l.length) : atD (.lst (zs l)) (.int (i : Int)) = some (.int (l.getD i 0)) := atD_rowN (l := l) h
theorem lenD_row {l : List Int} : lenD (row l) = some (.int l.length) := by
  show some (D.int ((zs l).length : Nat)) = _
  rw [zs_len]
theorem lenD_zs {l : List Int} : lenD (.lst (zs l)) = some (.int l.length) := lenD_row (l := l)
theorem isi_row {l : List Int} : isiD .tuple (row l) = some (.bl true) := rfl
theorem items_row {l : List Int} : itemsD (row l) = some (zs l) := rfl
theorem listD_row {l : List Int} : listD (row l) = some (zs l) := rfl
theorem tupleD_zs {l : List Int} : tupleD (.lst (zs l)) = some (row l) := rfl
theorem cutG_zs {l : List Int} {a b : Option Int} : cutG (zs l) a b = zs (cutG l a b) := by
  unfold cutG zs
  rw [List.length_map, List.map_take, List.map_drop]
theorem cut_row {l : List Int} {a b : Option Int} : cutD a b (row l) = some (row (cutG l a b)) := by
  show some (D.tup (cutG (zs l) a b)) = _
  rw [cutG_zs]; rfl
theorem cut_zs {l : List Int} {a b : Option Int} : cutD a b (.lst (zs l)) = some (.lst (zs (cutG l a b))) := by
  show some (D.lst (cutG (zs l) a b)) = _
  rw [cutG_zs]
theorem cutG_to {α : Type} {l : List α} {k : Nat} (h : k ≤ l.length) : cutG l none (some (k : Int)) = l.take k := by
  unfold cutG
  rw [HT.sIx_none, HT.sIx_nat, List.drop_zero, Nat.sub_zero, Nat.min_eq_left h]
theorem cutG_to2 {α : Type} {l : List α} {k : Nat} : cutG l none (some (k : Int)) = l.take k := by
  unfold cutG
  rw [HT.sIx_none, HT.sIx_nat, List.drop_zero, Nat.sub_zero]
  by_cases h : k ≤ l.length
  · rw [Nat.min_eq_left h]
  · rw [Nat.min_eq_right (by omega), List.take_length, List.take_of_length_le (by omega)]
theorem cutG_from {α : Type} {l : List α} {k : Nat} (h : k ≤ l.length) : cutG l (some (k : Int)) none = l.drop k := by
  unfold cutG
  rw [HT.sIx_none, HT.sIx_nat, Nat.min_eq_left h, List.take_of_length_le (by rw [List.length_drop]; exact Nat.le_refl _)]
theorem cutG_mid {α : Type} {l : List α} {j k : Nat} (h : k ≤ l.length) (hj : j ≤ k) : cutG l (some (j : Int)) (some (k : Int)) = (l.drop j).take (k - j) := by
  unfold cutG
  rw [HT.sIx_nat, HT.sIx_nat, Nat.min_eq_left h, Nat.min_eq_left (by omega)]
theorem cutG_in {α : Type} {l : List α} (h : 2 ≤ l.length) : cutG l (some (1 : Int)) (some (0 - 1 : Int)) = (l.drop 1).take (l.length - 2) := by
  unfold cutG
  have e1 : HT.sIx l.length 0 (some (1 : Int)) = 1 := by
    have := HT.sIx_nat l.length 0 1
    rw [Nat.min_eq_left (by omega)] at this
    exact this
  have e2 : HT.sIx l.length l.length (some (0 - 1 : Int)) = l.length - 1 := by
    have e3 : HT.sIx l.length l.length (some (0 - 1 : Int)) = ((0 - 1 : Int) + (l.length : Int)).toNat := rfl
    rw [e3]
    omega
  rw [e1, e2]
  rfl
end Pd

set_option Elab.async false
set_option linter.all false
set_option maxRecDepth 100000
set_option maxHeartbeats 4000000
/-! Rg2: rings as a function; turners. -/
namespace Pd
noncomputable def tl (l : List Int) : Nat := Classical.choose (tail_ex l)
theorem tl_at (l : List Int) : TailAt l (tl l) := Classical.choose_spec (tail_ex l)
noncomputable def st (l : List Int) : Nat := Classical.choose (least_ex (mid l (tl l)))
theorem st_at (l : List Int) : LeastAt (mid l (tl l)) (st l) := Classical.choose_spec (least_ex (mid l (tl l)))
noncomputable def rgl (l : List Int) : List Int := rot (mid l (tl l)) (st l)
noncomputable def way (l : List Int) : List Int := l.take (tl l + st l)
theorem tl_len (l : List Int) : 2 * tl l ≤ l.length := tail_len (tl_at l).1
theorem mid_le (l : List Int) (c : Nat) : (mid l c).length ≤ l.length := by
  unfold mid
  rw [List.length_take, List.length_drop]
  omega
theorem st_len (l : List Int) : st l ≤ (mid l (tl l)).length := by
  rcases st_at l with ⟨_, h⟩ | ⟨h, _⟩
  · rw [h]; exact Nat.zero_le _
  · omega
theorem rgl_len (l : List Int) : (rgl l).length ≤ l.length := by
  unfold rgl
  rw [rot_len (st_len l)]
  exact mid_le l _
theorem mid_mem {l : List Int} {c : Nat} {x : Int} (h : x ∈ mid l c) : x ∈ l := List.mem_of_mem_drop (List.mem_of_mem_take h)
theorem rgl_mem {l : List Int} {x : Int} (h : x ∈ rgl l) : x ∈ l := by
  unfold rgl rot at h
  rcases List.mem_append.mp h with h | h
  · exact mid_mem (List.mem_of_mem_drop h)
  · exact mid_mem (List.mem_of_mem_take h)
theorem way_len (l : List Int) : (way l).length ≤ l.length := by
  unfold way
  rw [List.length_take]
  omega
/-- the row, cut in pieces -/
theorem pieces (l : List Int) : ∃ t a b, l = t ++ (a ++ (b ++ und t)) ∧ way l = t ++ a ∧ rgl l = b ++ a := by
  have h := tail_split (tl_at l).1
  refine ⟨l.take (tl l), (mid l (tl l)).take (st l), (mid l (tl l)).drop (st l), ?_, ?_, rfl⟩
  · rw [← List.append_assoc ((mid l (tl l)).take (st l)), List.take_append_drop]
    exact h
  · have hl := tl_len l
    have hm := mid_len (l := l) hl
    have hs := st_len l
    unfold way mid
    rw [List.take_take]
    rw [hm] at hs
    rw [Nat.min_eq_left hs, List.take_add]
theorem turn_ok {a b : List Int} (hb : red b = b) (e : rgl a = rgl b) : red ((red (way b ++ und (way a)) ++ a) ++ und (red (way b ++ und (way a)))) = b := by
  obtain ⟨t1, a1, b1, p1, w1, r1⟩ := pieces a
  obtain ⟨t2, a2, b2, p2, w2, r2⟩ := pieces b
  rw [r1, r2] at e
  rw [red_undred, w1, w2, List.append_assoc, red_left]
  have e0 : a = t1 ++ (a1 ++ (b1 ++ und t1)) := p1
  have eu : und (t2 ++ a2 ++ und (t1 ++ a1)) = t1 ++ (a1 ++ (und a2 ++ und t2)) := by
    rw [und_app, und_und, und_app, List.append_assoc]
  rw [eu, und_app, e0]
  simp only [List.append_assoc]
  have s1 : red (t2 ++ (a2 ++ (und a1 ++ (und t1 ++ (t1 ++ (a1 ++ (b1 ++ (und t1 ++ (t1 ++ (a1 ++ (und a2 ++ und t2))))))))))) = red (t2 ++ (a2 ++ (und a1 ++ (a1 ++ (b1 ++ (und t1 ++ (t1 ++ (a1 ++ (und a2 ++ und t2))))))))) := by
    have := red_can2 (t2 ++ (a2 ++ und a1)) t1 (a1 ++ (b1 ++ (und t1 ++ (t1 ++ (a1 ++ (und a2 ++ und t2))))))
    simpa only [List.append_assoc] using this
  have s2 : red (t2 ++ (a2 ++ (und a1 ++ (a1 ++ (b1 ++ (und t1 ++ (t1 ++ (a1 ++ (und a2 ++ und t2))))))))) = red (t2 ++ (a2 ++ (b1 ++ (und t1 ++ (t1 ++ (a1 ++ (und a2 ++ und t2))))))) := by
    have := red_can2 (t2 ++ a2) a1 (b1 ++ (und t1 ++ (t1 ++ (a1 ++ (und a2 ++ und t2)))))
    simpa only [List.append_assoc] using this
  have s3 : red (t2 ++ (a2 ++ (b1 ++ (und t1 ++ (t1 ++ (a1 ++ (und a2 ++ und t2))))))) = red (t2 ++ (a2 ++ (b1 ++ (a1 ++ (und a2 ++ und t2))))) := by
    have := red_can2 (t2 ++ (a2 ++ b1)) t1 (a1 ++ (und a2 ++ und t2))
    simpa only [List.append_assoc] using this
  have s4 : red (t2 ++ (a2 ++ (b1 ++ (a1 ++ (und a2 ++ und t2))))) = red (t2 ++ (a2 ++ (b2 ++ (a2 ++ (und a2 ++ und t2))))) := by
    rw [← List.append_assoc b1, e, List.append_assoc]
  have s5 : red (t2 ++ (a2 ++ (b2 ++ (a2 ++ (und a2 ++ und t2))))) = red (t2 ++ (a2 ++ (b2 ++ und t2))) := by
    have := red_can (t2 ++ (a2 ++ b2)) a2 (und t2)
    simpa only [List.append_assoc] using this
  rw [s1, s2, s3, s4, s5, ← p2, hb]
end Pd

set_option Elab.async false
set_option linter.all false
set_option maxRecDepth 100000
set_option maxHeartbeats 4000000
/-! Shf: rows shuffled. -/
namespace Pd
open PySem PySem.Spec PyProof.Rows L2
local macro_rules | `(tactic| walk_at "ev") => `(tactic| try simp only [wM_bnd, wM_ret, wM_opt, wI_some, wM_nam, nmI_dat, nmI_own, gvI_dat, gvI_own, owI_own, inI_int, itI_int, wM_lookd, wM_looks, wM_gived, wM_gives, wM_isB, wM_andM, wM_orM, wM_notM, wM_ifM, wM_andV, wM_orV, wM_notV, wM_bin, wM_uno, wM_dt, wM_ls1, wM_consM, wM_tupM, wM_lstM, wM_itemsM, wM_ritemsM, wM_callM, wM_keyM, wM_methM, wM_meth0M, wM_mthM, wM_chainM, wM_partM, wM_cutM, wP_seqP, wP_lift, wP_skip, wP_brk, wP_cnt, wP_rsP, wP_sto, wP_stoN, wP_setV, wP_setN, wP_retP, wP_drop, wP_ifP, wP_asgP, wP_par2, wP_par3, wP_par2I, wM_consD, wM_consL, stoI_d, stoI_n, wM_callN, wM_keyN, wM_takeM, wP_retN, wFN_k, wFN_x,  wP_augP, wP_forP, wM_caughtM, catI_mk, hide_nil, hide_cons, hideS_dat, hideS_own, hideS_un, ord2, ord3, lenD_lsk, isntD_bl, tgTup_eq, tgLst_eq, tgCons_eq, tgNil_eq, Option.bind_some, slD,
  addD_int, subD_int, ltD_int, leD_int, gtD_int, geD_int, negD_int, eqD_int, neD_int, neD_zs, eqD_zs, eqD_row, neD_row, isi_tt, lenD_tup, lenD_lst, tupleD_tup, tupleD_lst, listD_tup, listD_lst, itemsD_tup, itemsD_lst, ritemsD_tup, revD_tup, few_nil, few_1, few_2, few_3, few_4, tgName,
  ini, List.map_cons, List.map_nil, List.length_cons, List.length_nil, List.replicate, List.cons_append, List.nil_append, List.getElem?_cons_zero, List.getElem?_cons_succ, List.set_cons_zero, List.set_cons_succ, Nat.reduceAdd, Nat.reduceSub, Nat.reduceLT, Nat.zero_add, Nat.sub_self, if_true, if_false, reduceIte, true_and, and_true, and_self, wF_k, wF_x, Bool.not_true, Bool.not_false, Bool.false_eq_true, Nat.lt_irrefl])
section
variable {en : En} {ls : LS} {a : Addr} {T : List (Addr × Str)} {c : Nat} {G : D → LS → Prop} {E : EX} {n : Int}
theorem zs_erase : ∀ (l : List Int) (i : Nat), (zs l).eraseIdx i = zs (l.eraseIdx i)
  | [], _ => rfl
  | _ :: _, 0 => rfl
  | x :: l, i + 1 => by
    show D.int x :: (zs l).eraseIdx i = D.int x :: zs (l.eraseIdx i)
    rw [zs_erase l i]
theorem erase_perm : ∀ (l : List Int) (i : Nat) (h : i < l.length), (l[i] :: l.eraseIdx i).Perm l
  | _ :: _, 0, _ => .refl _
  | x :: l, i + 1, h => by
    have hi : i < l.length := by simpa using h
    have ih := erase_perm l i hi
    show (l[i] :: x :: l.eraseIdx i).Perm (x :: l)
    exact (List.Perm.swap x l[i] _).trans (ih.cons x)
theorem popAtD_zs {l : List Int} {r : Int} (h0 : 0 ≤ r) (h1 : r < l.length) (h2 : l.length ≤ 1000) : ∃ x, popAtD (zs l) (.int r) = some (.int x, zs (l.eraseIdx r.toNat)) ∧ (x :: l.eraseIdx r.toNat).Perm l ∧ (l.eraseIdx r.toNat).length = l.length - 1 := by
  have hl : r.toNat < l.length := by omega
  refine ⟨l[r.toNat], ?_, ?_, ?_⟩
  · show (if decide (0 ≤ r) && decide (r < 1000000) then match (zs l)[r.toNat]? with | some d => some (d, (zs l).eraseIdx r.toNat) | none => none else none) = _
    rw [decide_eq_true h0, decide_eq_true (show r < 1000000 by omega)]
    have e : (zs l)[r.toNat]? = some (.int l[r.toNat]) := by
      unfold zs
      rw [List.getElem?_map, List.getElem?_eq_getElem hl]; rfl
    rw [e]
    show some (D.int l[r.toNat], (zs l).eraseIdx r.toNat) = _
    rw [zs_erase]
  · exact erase_perm l _ hl
  · rw [List.length_eraseIdx_of_lt hl]
theorem sp_shuffled {l : List Int} (hl : l.length ≤ 300) (h : Sz a T (c + l.length) ls) (q : ∀ l' ls', l'.Perm l → Sz a T c ls' → G (.lst (zs l')) ls') : wF (F_law_shuffled en [.ref a, .lst (zs l)] ls) G E := by
  unfold F_law_shuffled
  rw [wF_end]
  unfold p_law_shuffled
  walk_at "ev"
  refine wP_while (fun k ρ ls' => ∃ s t, ρ = [.dat (.ref a), .dat (.lst (zs l)), .own (zs s), .own (zs t)] ∧ s.length = k ∧ (s ++ t).Perm l ∧ Sz a T (c + k) ls') l.length (by omega) ⟨l, [], rfl, rfl, by simp, h⟩ ?_
  rintro k ρ ls1 ⟨s, t, rfl, hk, hp, hz⟩
  have hlen := hp.length_eq
  rw [List.length_append] at hlen
  walk_at "ev"
  by_cases e : s = []
  · subst e
    simp only [decide_true, Bool.not_true, Bool.false_eq_true, if_false]
    walk_at "ev"
    have hk : 0 = k := hk
    subst hk
    exact q t ls1 (by simpa using hp) (by simpa using hz)
  · rw [decide_eq_false e]
    have hpos := List.length_pos_iff.mpr e
    simp only [Bool.not_false, if_true]
    refine ⟨by omega, ?_⟩
    walk_at "ev"
    have hz' : Sz a T (c + (k - 1) + 1) ls1 := by rw [show c + (k - 1) + 1 = c + k by omega]; exact hz
    refine sp_draw hz' (by rw [zs_len]; omega) (by rw [zs_len]; omega) fun r ls2 r0 r1 hz2 => ?_
    rw [zs_len] at r1
    obtain ⟨x, e1, e2, e3⟩ := popAtD_zs r0 r1 (by omega)
    walk_at "ev"
    rw [e1]
    walk_at "ev"
    rw [appD_some (by rw [zs_len]; have : (300 : Nat) < top := by decide
                      omega)]
    walk_at "ev"
    refine ⟨s.eraseIdx r.toNat, t ++ [x], by rw [← zs_app]; rfl, by omega, ?_, hz2⟩
    refine List.Perm.trans ?_ hp
    have z1 : (s.eraseIdx r.toNat ++ (t ++ [x])).Perm ((x :: s.eraseIdx r.toNat) ++ t) := by
      rw [← List.append_assoc]
      exact (List.perm_append_comm).trans (by simp)
    exact z1.trans (e2.append_right t)
end
end Pd

set_option Elab.async false
set_option linter.all false
set_option maxRecDepth 100000
set_option maxHeartbeats 4000000
/-! R1: tails, first turns. -/
namespace Pd
open PySem PySem.Spec PyProof.Rows L2
local macro_rules | `(tactic| walk_at "ev") => `(tactic| try simp only [wM_bnd, wM_ret, wM_opt, wI_some, wM_nam, nmI_dat, nmI_own, gvI_dat, gvI_own, owI_own, inI_int, itI_int, wM_lookd, wM_looks, wM_gived, wM_gives, wM_isB, wM_andM, wM_orM, wM_notM, wM_ifM, wM_andV, wM_orV, wM_notV, wM_bin, wM_uno, wM_dt, wM_ls1, wM_consM, wM_tupM, wM_lstM, wM_itemsM, wM_ritemsM, wM_callM, wM_keyM, wM_methM, wM_meth0M, wM_mthM, wM_chainM, wM_partM, wM_cutM, wP_seqP, wP_lift, wP_skip, wP_brk, wP_cnt, wP_rsP, wP_sto, wP_stoN, wP_setV, wP_setN, wP_retP, wP_drop, wP_ifP, wP_asgP, wP_par2, wP_par3, wP_par2I, wM_consD, wM_consL, stoI_d, stoI_n, wM_callN, wM_keyN, wM_takeM, wP_retN, wFN_k, wFN_x, eqD_zz, neD_zz, lenD_row, lenD_zs, isi_row, items_row, listD_row, tupleD_zs, cut_row, cut_zs,  wP_augP, wP_forP, wM_caughtM, catI_mk, hide_nil, hide_cons, hideS_dat, hideS_own, hideS_un, ord2, ord3, lenD_lsk, isntD_bl, tgTup_eq, tgLst_eq, tgCons_eq, tgNil_eq, Option.bind_some, slD,
  addD_int, subD_int, ltD_int, leD_int, gtD_int, geD_int, negD_int, eqD_int, neD_int, neD_zs, eqD_zs, eqD_row, neD_row, isi_tt, lenD_tup, lenD_lst, tupleD_tup, tupleD_lst, listD_tup, listD_lst, itemsD_tup, itemsD_lst, ritemsD_tup, revD_tup, few_nil, few_1, few_2, few_3, few_4, tgName,
  ini, List.map_cons, List.map_nil, List.length_cons, List.length_nil, List.replicate, List.cons_append, List.nil_append, List.getElem?_cons_zero, List.getElem?_cons_succ, List.set_cons_zero, List.set_cons_succ, Nat.reduceAdd, Nat.reduceSub, Nat.reduceLT, Nat.zero_add, Nat.sub_self, if_true, if_false, reduceIte, true_and, and_true, and_self, wF_k, wF_x, Bool.not_true, Bool.not_false, Bool.false_eq_true, Nat.lt_irrefl])
section
variable {en : En} {ls : LS} {a : Addr} {T : List (Addr × Str)} {c : Nat} {G : D → LS → Prop} {E : EX} {n : Int} {l m : List Int} {k : Nat}
theorem mulD_two {i : Int} : mulD (.int 2) (.int i) = some (.int (2 * i)) := rfl
theorem sp_tail_of (h : TailAt l c) (hl : l.length ≤ 1000) : F_tail_of en [row l] ls = .ok (.int (c : Nat)) ls := by
  have hc := tail_len h.1
  refine wF_is ?_
  unfold F_tail_of
  rw [wF_end]
  unfold p_tail_of
  walk_at "ev"
  refine wP_while (fun k ρ ls' => ls' = ls ∧ ∃ i : Nat, i + k = c ∧ ρ = [.dat (row l), .dat (.int (i : Nat))]) c (by omega) ⟨rfl, 0, by omega, rfl⟩ ?_
  rintro k ρ ls' ⟨rfl, i, hi, rfl⟩
  walk_at "ev"
  rw [mulD_two]
  walk_at "ev"
  by_cases h1 : 2 * i + 1 < l.length
  · rw [decide_eq_true (show (1 : Int) < (l.length : Int) - 2 * (i : Int) by omega)]
    simp only [if_true]
    walk_at "ev"
    rw [atD_rowN (show i < l.length by omega)]
    walk_at "ev"
    rw [show (l.length : Int) - 1 - (i : Int) = ((l.length - 1 - i : Nat) : Int) by omega, atD_rowN (show l.length - 1 - i < l.length by omega)]
    walk_at "ev"
    have e : decide (l.getD i 0 = 0 - l.getD (l.length - 1 - i) 0) = isT l i := by
      unfold isT
      rw [decide_eq_true h1, Bool.true_and]
    rw [e]
    by_cases hk : 0 < k
    · rw [h.1 i (by omega)]
      simp only [if_true]
      refine ⟨hk, ?_⟩
      walk_at "ev"
      exact ⟨i + 1, by omega, rfl⟩
    · have : i = c := by omega
      subst this
      rw [h.2]
      walk_at "ev"
  · rw [decide_eq_false (show ¬ (1 : Int) < (l.length : Int) - 2 * (i : Int) by omega)]
    simp only [Bool.false_eq_true, if_false]
    by_cases hk : 0 < k
    · have := h.1 i (by omega)
      unfold isT at this
      rw [decide_eq_false h1] at this
      cases this
    · have : i = c := by omega
      subst this
      walk_at "ev"
/-- the place that stands at the two heads' mod -/
theorem at_mod (hm : 0 < m.length) (o s : Nat) : ∃ M, M = (m.length : Int) ∧ atD (row m) (.int (((o : Int) + (s : Int)) % M)) = some (.int (xr m (o + s))) := by
  refine ⟨_, rfl, ?_⟩
  rw [show ((o : Int) + (s : Int)) % (m.length : Int) = (((o + s) % m.length : Nat) : Int) by rw [Int.natCast_emod, Int.natCast_add]]
  exact atD_rowN (Nat.mod_lt _ hm)
theorem beat {o t s p : Nat} (hs : s < m.length) (h1 : ∀ i, i < s → xr m (o + i) = xr m (t + i)) (h2 : xr m (t + s) < xr m (o + s)) (hp : o ≤ p) (hp2 : p ≤ o + s) : btn m p := by
  have e : p = o + (p - o) := by omega
  refine lss_btn (q := t + (p - o)) ?_ (by omega)
  refine ⟨s - (p - o), by omega, fun i hi => ?_, ?_⟩
  · have := h1 (p - o + i) (by omega)
    rw [show t + (p - o) + i = t + (p - o + i) by omega, show p + i = o + (p - o + i) by omega]
    exact this.symm
  · rw [show t + (p - o) + (s - (p - o)) = t + s by omega, show p + (s - (p - o)) = o + s by omega]
    exact h2
theorem per {o t : Nat} (h : ∀ i, i < m.length → xr m (o + i) = xr m (t + i)) (hm : 0 < m.length) (i : Nat) : xr m (o + i) = xr m (t + i) := by
  have h2 := h (i % m.length) (Nat.mod_lt _ hm)
  have e : ∀ o : Nat, xr m (o + i % m.length) = xr m (o + i) := fun o => by
    unfold xr
    rw [Nat.add_mod_mod]
  rwa [e, e] at h2
theorem end_min {o t s k : Nat} (hk : LeastAt m k) (hm : m ≠ []) (hot : o ≠ t) (b1 : ∀ p, p < o → p ≠ t → btn m p) (b2 : ∀ p, p < t → p ≠ o → btn m p) (hs : ∀ i, i < s → xr m (o + i) = xr m (t + i)) (hend : ¬ (o < m.length ∧ t < m.length ∧ s < m.length)) : (if t < o then t else o) = k := by
  rcases hk with ⟨h, _⟩ | ⟨h1, h2, h3⟩
  · exact absurd h hm
  by_cases c1 : k < o
  · have : k = t := Classical.byContradiction fun h => h2 (b1 k c1 h)
    rw [if_pos (by omega)]; exact this.symm
  · by_cases c2 : k < t
    · have : k = o := Classical.byContradiction fun h => h2 (b2 k c2 h)
      rw [if_neg (by omega)]; exact this.symm
    · have hsn : m.length ≤ s := by omega
      have hp := per (m := m) (o := o) (t := t) (fun i hi => hs i (by omega)) (by omega)
      exfalso
      have go : ∀ u v : Nat, u < v → v ≤ k → (∀ i, xr m (u + i) = xr m (v + i)) → False := fun u v huv hv hh => by
        obtain ⟨q, q1, j, j1, j2, j3⟩ := h3 (k - (v - u)) (by omega)
        have e : ∀ i, xr m (k - (v - u) + i) = xr m (k + i) := fun i => by
          have := hh (k - v + i)
          rw [show u + (k - v + i) = k - (v - u) + i by omega, show v + (k - v + i) = k + i by omega] at this
          exact this
        exact h2 ⟨q, q1, j, j1, fun i hi => by rw [← e i]; exact j2 i hi, by rw [← e j]; exact j3⟩
      rcases Nat.lt_or_gt_of_ne hot with h | h
      · exact go o t h (by omega) hp
      · exact go t o h (by omega) fun i => (hp i).symm
theorem sp_least_start (h : LeastAt m k) (hl : m.length ≤ 300) : F_least_start en [row m] ls = .ok (.int (k : Nat)) ls := by
  by_cases hm : m = []
  · subst hm
    have hk : k = 0 := by
      rcases h with ⟨_, h⟩ | ⟨h, _⟩
      · exact h
      · exact absurd h (Nat.not_lt_zero _)
    subst hk
    rfl
  have hmp := List.length_pos_iff.mpr hm
  refine wF_is ?_
  unfold F_least_start
  rw [wF_end]
  unfold p_least_start
  walk_at "ev"
  obtain ⟨M, hM⟩ : ∃ M, M = (m.length : Int) := ⟨_, rfl⟩
  rw [← hM]
  refine wP_while (fun k ρ ls' => ls' = ls ∧ ∃ (o t s : Nat) (s5 s6 : Sl), 3 * m.length + 2 ≤ o + t + s + k ∧ o ≠ t ∧ (∀ p, p < o → p ≠ t → btn m p) ∧ (∀ p, p < t → p ≠ o → btn m p) ∧ (∀ i, i < s → xr m (o + i) = xr m (t + i)) ∧
    ρ = [.dat (row m), .dat (.int M), .dat (.int (o : Nat)), .dat (.int (t : Nat)), .dat (.int (s : Nat)), s5, s6]) (3 * m.length + 1) (by omega) ⟨rfl, 0, 1, 0, .un, .un, by omega, by omega, fun p hp _ => absurd hp (by omega), fun p hp hp0 => absurd hp (by omega), fun i hi => absurd hi (by omega), rfl⟩ ?_
  rintro w ρ ls' ⟨rfl, o, t, s, s5, s6, hw, hot, b1, b2, b3, rfl⟩
  have fin : ¬ (o < m.length ∧ t < m.length ∧ s < m.length) → wI (minD (.int (o : Nat)) (.int (t : Nat))) fun z => z = .int (k : Nat) := fun hend => by
    rw [minD_int]
    walk_at "ev"
    have e := end_min h hm hot b1 b2 b3 hend
    rw [← e]
    by_cases hto : t < o
    · rw [if_pos hto, if_pos (by omega)]
    · rw [if_neg hto, if_neg (by omega)]
  walk_at "ev"
  by_cases c1 : o < m.length
  · rw [decide_eq_true (show (o : Int) < M by omega)]
    simp only [if_true]
    walk_at "ev"
    by_cases c2 : t < m.length
    · rw [decide_eq_true (show (t : Int) < M by omega)]
      simp only [if_true]
      walk_at "ev"
      by_cases c3 : s < m.length
      · rw [decide_eq_true (show (s : Int) < M by omega)]
        simp only [if_true]
        refine ⟨by omega, ?_⟩
        obtain ⟨M1, hM1, a1⟩ := at_mod hmp o s
        obtain ⟨M2, hM2, a2⟩ := at_mod hmp t s
        have hM1 : M1 = M := by omega
        have hM2 : M2 = M := by omega
        subst hM1
        subst hM2
        walk_at "ev"
        rw [modD_int (by omega)]
        walk_at "ev"
        rw [a1]
        walk_at "ev"
        rw [modD_int (by omega)]
        walk_at "ev"
        rw [a2]
        walk_at "ev"
        by_cases e : xr m (o + s) = xr m (t + s)
        · rw [decide_eq_true e]
          walk_at "ev"
          refine ⟨o, t, s + 1, _, _, by omega, hot, b1, b2, fun i hi => ?_, rfl⟩
          rcases Nat.lt_succ_iff_lt_or_eq.mp hi with hi | rfl
          · exact b3 i hi
          · exact e
        · rw [decide_eq_false e]
          walk_at "ev"
          by_cases g : xr m (t + s) < xr m (o + s)
          · rw [decide_eq_true g]
            walk_at "ev"
            have bo : ∀ p, p < o + (s + 1) → p ≠ t → btn m p := fun p hp hpt => by
              by_cases hpo : p < o
              · exact b1 p hpo hpt
              · exact beat c3 b3 g (by omega) (by omega)
            by_cases ee : o + (s + 1) = t
            · rw [decide_eq_true (show (o : Int) + ((s : Int) + 1) = (t : Int) by omega)]
              walk_at "ev"
              refine ⟨o + (s + 1), t + 1, 0, _, _, by omega, by omega, fun p hp _ => bo p hp (by omega), fun p hp hpo => bo p (by omega) (by omega), fun i hi => absurd hi (by omega), rfl⟩
            · rw [decide_eq_false (show ¬ (o : Int) + ((s : Int) + 1) = (t : Int) by omega)]
              walk_at "ev"
              refine ⟨o + (s + 1), t, 0, _, _, by omega, ee, bo, fun p hp hpo => ?_, fun i hi => absurd hi (by omega), rfl⟩
              by_cases hp2 : p = o
              · subst hp2
                exact beat c3 b3 g (by omega) (by omega)
              · exact b2 p hp hp2
          · rw [decide_eq_false g]
            walk_at "ev"
            have g2 : xr m (o + s) < xr m (t + s) := by omega
            have b3' : ∀ i, i < s → xr m (t + i) = xr m (o + i) := fun i hi => (b3 i hi).symm
            have bt' : ∀ p, p < t + (s + 1) → p ≠ o → btn m p := fun p hp hpt => by
              by_cases hpo : p < t
              · exact b2 p hpo hpt
              · exact beat c3 b3' g2 (by omega) (by omega)
            by_cases ee : o = t + (s + 1)
            · rw [decide_eq_true (show (o : Int) = (t : Int) + ((s : Int) + 1) by omega)]
              walk_at "ev"
              refine ⟨o, t + (s + 1) + 1, 0, _, _, by omega, by omega, fun p hp hpt => ?_, fun p hp hpo => bt' p (by omega) hpo, fun i hi => absurd hi (by omega), rfl⟩
              by_cases hp2 : p = t
              · subst hp2
                exact beat c3 b3' g2 (by omega) (by omega)
              · exact b1 p hp hp2
            · rw [decide_eq_false (show ¬ (o : Int) = (t : Int) + ((s : Int) + 1) by omega)]
              walk_at "ev"
              refine ⟨o, t + (s + 1), 0, _, _, by omega, ee, fun p hp hpt => ?_, bt', fun i hi => absurd hi (by omega), rfl⟩
              by_cases hp2 : p = t
              · subst hp2
                exact beat c3 b3' g2 (by omega) (by omega)
              · exact b1 p hp hp2
      · rw [decide_eq_false (show ¬ (s : Int) < M by omega)]
        simp only [Bool.false_eq_true, if_false]
        exact fin (by omega)
    · rw [decide_eq_false (show ¬ (t : Int) < M by omega)]
      simp only [Bool.false_eq_true, if_false]
      exact fin (by omega)
  · rw [decide_eq_false (show ¬ (o : Int) < M by omega)]
    simp only [Bool.false_eq_true, if_false]
    exact fin (by omega)
end
end Pd

set_option Elab.async false
set_option linter.all false
set_option maxRecDepth 100000
set_option maxHeartbeats 4000000
/-! R2: rings, turners. -/
namespace Pd
open PySem PySem.Spec PyProof.Rows L2
theorem okq_rowsL {l : List (List Int)} : (D.lst (l.map row)).okq = true := okq_dq (show (l.map row).all (dq 7) = true from dq_rows)
theorem neD_rowsL {l m : List (List Int)} : neD (.lst (l.map row)) (.lst (m.map row)) = some (.bl (!decide (l = m))) := by
  rw [neD_of okq_rowsL okq_rowsL]
  show some (D.bl (!PyData.eqvAll (D.pyL (l.map row)) (D.pyL (m.map row)))) = _
  rw [eqL_rows]
theorem row_nil : D.tup [] = row [] := rfl
local macro_rules | `(tactic| walk_at "ev") => `(tactic| try simp only [wM_bnd, wM_ret, wM_opt, wI_some, wM_nam, nmI_dat, nmI_own, gvI_dat, gvI_own, owI_own, inI_int, itI_int, wM_lookd, wM_looks, wM_gived, wM_gives, wM_isB, wM_andM, wM_orM, wM_notM, wM_ifM, wM_andV, wM_orV, wM_notV, wM_bin, wM_uno, wM_dt, wM_ls1, wM_consM, wM_tupM, wM_lstM, wM_itemsM, wM_ritemsM, wM_callM, wM_keyM, wM_methM, wM_meth0M, wM_mthM, wM_chainM, wM_partM, wM_cutM, wP_seqP, wP_lift, wP_skip, wP_brk, wP_cnt, wP_rsP, wP_sto, wP_stoN, wP_setV, wP_setN, wP_retP, wP_drop, wP_ifP, wP_asgP, wP_par2, wP_par3, wP_par2I, wM_consD, wM_consL, stoI_d, stoI_n, wM_callN, wM_keyN, wM_takeM, wP_retN, wFN_k, wFN_x, eqD_zz, neD_zz, lenD_row, lenD_zs, isi_row, items_row, listD_row, tupleD_zs, cut_row, cut_zs, zs_len,  wP_augP, wP_forP, wM_caughtM, catI_mk, hide_nil, hide_cons, hideS_dat, hideS_own, hideS_un, ord2, ord3, lenD_lsk, isntD_bl, tgTup_eq, tgLst_eq, tgCons_eq, tgNil_eq, Option.bind_some, slD,
  addD_int, subD_int, ltD_int, leD_int, gtD_int, geD_int, negD_int, eqD_int, neD_int, neD_zs, eqD_zs, eqD_row, neD_row, isi_tt, lenD_tup, lenD_lst, tupleD_tup, tupleD_lst, listD_tup, listD_lst, itemsD_tup, itemsD_lst, ritemsD_tup, revD_tup, few_nil, few_1, few_2, few_3, few_4, tgName,
  ini, List.map_cons, List.map_nil, List.length_cons, List.length_nil, List.replicate, List.cons_append, List.nil_append, List.getElem?_cons_zero, List.getElem?_cons_succ, List.set_cons_zero, List.set_cons_succ, Nat.reduceAdd, Nat.reduceSub, Nat.reduceLT, Nat.zero_add, Nat.sub_self, if_true, if_false, reduceIte, true_and, and_true, and_self, wF_k, wF_x, Bool.not_true, Bool.not_false, Bool.false_eq_true, Nat.lt_irrefl])
section
variable {en : En} {ls : LS} {a : Addr} {T : List (Addr × Str)} {c : Nat} {G : D → LS → Prop} {E : EX} {n : Int} {l m : List Int} {k : Nat}
theorem sp_middle_of (hl : l.length ≤ 1000) : F_middle_of en [row l] ls = .ok (row (mid l (tl l))) ls := by
  have h := tl_len l
  refine wF_is ?_
  unfold F_middle_of
  rw [wF_end]
  unfold p_middle_of
  walk_at "ev"
  rw [sp_tail_of (tl_at l) hl]
  walk_at "ev"
  rw [show (l.length : Int) - (tl l : Int) = ((l.length - tl l : Nat) : Int) by omega, cutG_mid (by omega) (by omega), show l.length - tl l - tl l = l.length - 2 * tl l by omega]
  all_goals first | exact ⟨rfl, rfl⟩ | rfl
theorem sp_ring_in (hl : l.length ≤ 300) : F_ring_in en [row l] ls = .ok (row (rgl l)) ls := by
  have h := mid_le l (tl l)
  have hs := st_len l
  refine wF_is ?_
  unfold F_ring_in
  rw [wF_end]
  unfold p_ring_in
  walk_at "ev"
  rw [sp_middle_of (by omega)]
  walk_at "ev"
  rw [sp_least_start (st_at l) (by omega)]
  walk_at "ev"
  rw [cutG_from hs, cutG_to hs, addD_row (by rw [List.length_drop, List.length_take]; omega)]
  all_goals first | exact ⟨rfl, rfl⟩ | rfl
theorem sp_way (hl : l.length ≤ 300) : F_way_to_ring en [row l] ls = .ok (row (way l)) ls := by
  have h := mid_le l (tl l)
  refine wF_is ?_
  unfold F_way_to_ring
  rw [wF_end]
  unfold p_way_to_ring
  walk_at "ev"
  rw [sp_tail_of (tl_at l) (by omega)]
  walk_at "ev"
  rw [sp_middle_of (by omega)]
  walk_at "ev"
  rw [sp_least_start (st_at l) (by omega)]
  walk_at "ev"
  rw [← Int.natCast_add, cutG_to2]
  all_goals first | exact ⟨rfl, rfl⟩ | rfl
theorem sp_ring_of (hn : dOk n) (hf : fitL n l) (hl : l.length ≤ 200) : F_ring_of en [.int n, row l] ls = .ok (row (rgl (red l))) ls := by
  have hr := red_len l
  refine wF_is ?_
  unfold F_ring_of
  rw [wF_end]
  unfold p_ring_of
  walk_at "ev"
  rw [sp_nd hn]
  walk_at "ev"
  rw [sp_need_row hf hl]
  walk_at "ev"
  rw [sp_ring_in (by omega)]
  all_goals first | exact ⟨rfl, rfl⟩ | rfl
theorem sp_ring_ofX1 {d r : D} (hp : plainV d = true) (h : btw d 1 4 = false) : F_ring_of en [d, r] ls = .rs ⟨en.BadDeeds, none⟩ ls := by
  refine wF_rs ?_
  unfold F_ring_of
  rw [wF_end]
  unfold p_ring_of
  walk_at "ev"
  rw [sp_ndX hp h]
  all_goals first | exact ⟨rfl, rfl⟩ | rfl
theorem sp_ring_ofX2 {q : D} (hn : dOk n) (hp : plainR q = true) (hb : isRow n q = false) : F_ring_of en [.int n, q] ls = .rs ⟨en.BadRow, none⟩ ls := by
  refine wF_rs ?_
  unfold F_ring_of
  rw [wF_end]
  unfold p_ring_of
  walk_at "ev"
  rw [sp_nd hn]
  walk_at "ev"
  rw [sp_need_rowX hp hb]
  all_goals first | exact ⟨rfl, rfl⟩ | rfl
noncomputable def turnW (x y : List Int) : List Int := red (way y ++ und (way x))
noncomputable def turnD (x y : List Int) : D := if rgl x = rgl y then .tup [.str "turned", row (turnW x y)] else .tup [.str "unlike", row (rgl x), row (rgl y)]
theorem sp_turner {x y : List Int} (hn : dOk n) (hf : fitL n x) (hl : x.length ≤ 200) (hg : fitL n y) (hm : y.length ≤ 200) : F_turner en [.int n, row x, row y] ls = .ok (turnD (red x) (red y)) ls := by
  have hr := red_len x
  have hs := red_len y
  refine wF_is ?_
  unfold F_turner
  rw [wF_end]
  unfold p_turner
  walk_at "ev"
  rw [sp_nd hn]
  walk_at "ev"
  rw [sp_need_row hf hl]
  walk_at "ev"
  rw [sp_need_row hg hm]
  walk_at "ev"
  rw [sp_ring_in (by omega)]
  walk_at "ev"
  rw [sp_ring_in (by omega)]
  walk_at "ev"
  unfold turnD
  by_cases e : rgl (red x) = rgl (red y)
  · rw [decide_eq_true e, if_pos e]
    walk_at "ev"
    rw [sp_way (by omega)]
    walk_at "ev"
    rw [sp_way (by omega)]
    walk_at "ev"
    have w1 := way_len (red x)
    have w2 := way_len (red y)
    rw [sp_undone_of (by omega)]
    walk_at "ev"
    rw [show D.lst [row (way (red y)), row (und (way (red x)))] = .lst ([way (red y), und (way (red x))].map row) from rfl, sp_product_of (by simp [und_len]; omega)]
    walk_at "ev"
    simp [turnW]
  · rw [decide_eq_false e, if_neg e]
    walk_at "ev"
theorem sp_turnerX1 {d r q : D} (hp : plainV d = true) (h : btw d 1 4 = false) : F_turner en [d, r, q] ls = .rs ⟨en.BadDeeds, none⟩ ls := by
  refine wF_rs ?_
  unfold F_turner
  rw [wF_end]
  unfold p_turner
  walk_at "ev"
  rw [sp_ndX hp h]
  all_goals first | exact ⟨rfl, rfl⟩ | rfl
theorem sp_turnerX2 {r q : D} (hn : dOk n) (hp : plainR r = true) (hb : isRow n r = false) : F_turner en [.int n, r, q] ls = .rs ⟨en.BadRow, none⟩ ls := by
  refine wF_rs ?_
  unfold F_turner
  rw [wF_end]
  unfold p_turner
  walk_at "ev"
  rw [sp_nd hn]
  walk_at "ev"
  rw [sp_need_rowX hp hb]
  all_goals first | exact ⟨rfl, rfl⟩ | rfl
theorem sp_turnerX3 {q : D} (hn : dOk n) (hf : fitL n l) (hl : l.length ≤ 200) (hp : plainR q = true) (hb : isRow n q = false) : F_turner en [.int n, row l, q] ls = .rs ⟨en.BadRow, none⟩ ls := by
  refine wF_rs ?_
  unfold F_turner
  rw [wF_end]
  unfold p_turner
  walk_at "ev"
  rw [sp_nd hn]
  walk_at "ev"
  rw [sp_need_row hf hl]
  walk_at "ev"
  rw [sp_need_rowX hp hb]
  all_goals first | exact ⟨rfl, rfl⟩ | rfl
theorem isT_last {p : List Int} {i : Nat} (hi : 2 * i + 1 < p.length) : atD (.lst (zs (mid p i))) (.int (0 - 1)) = some (.int (p.getD (p.length - 1 - i) 0)) := by
  have hl := mid_len (l := p) (c := i) (by omega)
  have := mid_getD (l := p) (c := i) (i := p.length - 2 * i - 1) (by omega)
  rw [show i + (p.length - 2 * i - 1) = p.length - 1 - i by omega] at this
  rw [← this]
  refine atI_mapN ?_
  rw [List.getLast?_eq_getElem?, hl, List.getD_eq_getElem?_getD, List.getElem?_eq_getElem (by omega)]; rfl
theorem sp_mk_ring (hl : l.length ≤ 1000) (hr : (red l).length ≤ 300) : F_law_mk_ring en [row l] ls = .ok (row (rgl (red l))) ls := by
  obtain ⟨p, hp⟩ : ∃ p, p = red l := ⟨_, rfl⟩
  have tp := tl_at p
  have lp := tl_len p
  refine wF_is ?_
  unfold F_law_mk_ring
  rw [wF_end]
  unfold p_law_mk_ring
  obtain ⟨rn, hrn⟩ : ∃ rn, rn = rng1D := ⟨_, rfl⟩
  rw [← hrn]
  refine wP_seq (fun ρ l' => ls = l' ∧ ρ = [.dat (row l), .dat (.lst (zs p)), .un, .un]) ?_ ?_
  · walk_at "ev"
    rw [sp_mk_plain rfl (by omega), ← hp]
    walk_at "ev"
  rintro _ _ ⟨rfl, rfl⟩
  rw [← hp] at hr
  refine wP_seq (fun ρ l' => ls = l' ∧ ρ = [.dat (row l), .dat (.lst (zs (mid p (tl p)))), .un, .un]) ?_ ?_
  · refine wP_while (fun k ρ ls' => ls = ls' ∧ ∃ i : Nat, i + k = tl p ∧ ρ = [.dat (row l), .dat (.lst (zs (mid p i))), .un, .un]) (tl p) (by omega) ⟨rfl, 0, by omega, by rw [mid_zero]⟩ ?_
    rintro k ρ ls' ⟨rfl, i, hi, rfl⟩
    have ml := mid_len (l := p) (c := i) (by omega)
    walk_at "ev"
    by_cases h1 : 2 * i + 1 < p.length
    · rw [decide_eq_true (show (1 : Int) < ((mid p i).length : Int) by omega)]
      simp only [if_true]
      walk_at "ev"
      have a0 := atD_zsN (l := mid p i) (i := 0) (by omega)
      rw [mid_getD (by omega)] at a0
      rw [show atD (.lst (zs (mid p i))) (.int 0) = _ from a0]
      walk_at "ev"
      rw [isT_last h1]
      walk_at "ev"
      have e : decide (p.getD (i + 0) 0 = 0 - p.getD (p.length - 1 - i) 0) = isT p i := by
        unfold isT
        rw [decide_eq_true h1, Bool.true_and]; rfl
      rw [e]
      by_cases hk : 0 < k
      · rw [tp.1 i (by omega)]
        simp only [if_true]
        refine ⟨hk, ?_⟩
        walk_at "ev"
        rw [cutG_in (by omega), mid_succ h1]
        exact ⟨i + 1, by omega, rfl⟩
      · have ei : i = tl p := by omega
        subst ei
        rw [tp.2]
        simp only [Bool.false_eq_true, if_false]
    · rw [decide_eq_false (show ¬ (1 : Int) < ((mid p i).length : Int) by omega)]
      simp only [Bool.false_eq_true, if_false]
      by_cases hk : 0 < k
      · have := tp.1 i (by omega)
        unfold isT at this
        rw [decide_eq_false h1] at this
        cases this
      · have ei : i = tl p := by omega
        subst ei
        rfl
  rintro _ _ ⟨rfl, rfl⟩
  have ml := mid_len (l := p) (c := tl p) (by omega)
  obtain ⟨m, hm⟩ : ∃ m, m = mid p (tl p) := ⟨_, rfl⟩
  rw [← hm] at ml ⊢
  walk_at "ev"
  refine wM_lcp ?_
  walk_at "ev"
  rw [hrn, rng1D_int (by omega) (by omega), rangeL_zs]
  walk_at "ev"
  refine ⟨rfl, rfl, by rw [List.length_map, List.length_range]; exact top_of (by omega), fun _ => true, fun d => match d with | .int i => row (rot m i.toNat) | _ => .non, fun d hd => ?_, ?_⟩
  · obtain ⟨x, hx, rfl⟩ := zs_mem hd
    obtain ⟨j, hj, rfl⟩ := List.mem_map.mp hx
    have hj := List.mem_range.mp hj
    walk_at "ev"
    refine ⟨rfl, rfl, fun _ => wM_is ?_⟩
    show wM _ [.dat (row l), .dat (.lst (zs m)), .un, .dat (.int ((0 : Int) + (j : Int)))] ls _ _
    rw [Int.zero_add]
    walk_at "ev"
    rw [cutG_from (by omega), cutG_to (by omega), addD_lst (by rw [zs_len, zs_len, List.length_drop, List.length_take]; exact top_of (by omega)), zs_app]
    walk_at "ev"
    refine ⟨?_, rfl⟩
    rw [Int.toNat_natCast]; rfl
  · rw [filt_true]
    have e1 : (zs ((List.range (m.length : Int).toNat).map fun (i : Nat) => (0 : Int) + (i : Int))).map (fun d => match d with | .int i => row (rot m i.toNat) | _ => D.non) = ((List.range m.length).map (rot m)).map row := by
      unfold zs
      rw [List.map_map, List.map_map, List.map_map, Int.toNat_natCast]
      refine List.map_congr_left fun i _ => ?_
      show row (rot m ((0 : Int) + (i : Int)).toNat) = row (rot m i)
      rw [Int.zero_add, Int.toNat_natCast]
    rw [e1]
    walk_at "ev"
    rw [show D.lst [] = .lst (([] : List (List Int)).map row) from rfl, neD_rowsL]
    walk_at "ev"
    have hs := st_at p
    rw [← hm] at hs
    by_cases em : m = []
    · have e2 : (List.range m.length).map (rot m) = [] := by rw [em]; rfl
      rw [e2]
      walk_at "ev"
      have : rgl p = [] := by
        unfold rgl
        rw [← hm, em]
        show ([] : List Int).drop _ ++ ([] : List Int).take _ = []
        simp
      rw [← hp, this]
      simp [row_nil]
    · have e2 : ¬ (List.range m.length).map (rot m) = [] := by
        intro z
        have := congrArg List.length z
        rw [List.length_map, List.length_range, List.length_nil] at this
        exact em (List.length_eq_zero_iff.mp this)
      rw [decide_eq_false e2]
      walk_at "ev"
      have e3 : minLD (.lst (((List.range m.length).map (rot m)).map row)) = some (row (rot m (st p))) := by
        show (rowsOf _).bind _ = _
        rw [rowsOf_map]
        show (if _ then none else some _) = _
        rw [if_neg e2, minR_rot hs em]
      rw [e3]
      walk_at "ev"
      rw [← hp]
      unfold rgl
      rw [← hm]
end
end Pd

set_option Elab.async false
set_option linter.all false
set_option maxRecDepth 100000
set_option maxHeartbeats 4000000
/-! R3: what the law draws beside a row; the answers judged. -/
namespace Pd
open PySem PySem.Spec PyProof.Rows L2
local macro_rules | `(tactic| walk_at "ev") => `(tactic| try simp only [wM_bnd, wM_ret, wM_opt, wI_some, wM_nam, nmI_dat, nmI_own, gvI_dat, gvI_own, owI_own, inI_int, itI_int, wM_lookd, wM_looks, wM_gived, wM_gives, wM_isB, wM_andM, wM_orM, wM_notM, wM_ifM, wM_andV, wM_orV, wM_notV, wM_bin, wM_uno, wM_dt, wM_ls1, wM_consM, wM_tupM, wM_lstM, wM_itemsM, wM_ritemsM, wM_callM, wM_keyM, wM_methM, wM_meth0M, wM_mthM, wM_chainM, wM_partM, wM_cutM, wP_seqP, wP_lift, wP_skip, wP_brk, wP_cnt, wP_rsP, wP_sto, wP_stoN, wP_setV, wP_setN, wP_retP, wP_drop, wP_ifP, wP_asgP, wP_par2, wP_par3, wP_par2I, wM_consD, wM_consL, stoI_d, stoI_n, wM_callN, wM_keyN, wM_takeM, wP_retN, wFN_k, wFN_x, eqD_zz, neD_zz, lenD_row, lenD_zs, isi_row, items_row, listD_row, tupleD_zs, cut_row, cut_zs, zs_len,  wP_augP, wP_forP, wM_caughtM, catI_mk, hide_nil, hide_cons, hideS_dat, hideS_own, hideS_un, ord2, ord3, lenD_lsk, isntD_bl, tgTup_eq, tgLst_eq, tgCons_eq, tgNil_eq, Option.bind_some, slD,
  addD_int, subD_int, ltD_int, leD_int, gtD_int, geD_int, negD_int, eqD_int, neD_int, neD_zs, eqD_zs, eqD_row, neD_row, isi_tt, lenD_tup, lenD_lst, tupleD_tup, tupleD_lst, listD_tup, listD_lst, itemsD_tup, itemsD_lst, ritemsD_tup, revD_tup, few_nil, few_1, few_2, few_3, few_4, tgName,
  ini, List.map_cons, List.map_nil, List.length_cons, List.length_nil, List.replicate, List.cons_append, List.nil_append, List.getElem?_cons_zero, List.getElem?_cons_succ, List.set_cons_zero, List.set_cons_succ, Nat.reduceAdd, Nat.reduceSub, Nat.reduceLT, Nat.zero_add, Nat.sub_self, if_true, if_false, reduceIte, true_and, and_true, and_self, wF_k, wF_x, Bool.not_true, Bool.not_false, Bool.false_eq_true, Nat.lt_irrefl])
section
variable {en : En} {ls : LS} {a : Addr} {T : List (Addr × Str)} {c : Nat} {G : D → LS → Prop} {E : EX} {n : Int} {l m : List Int} {k : Nat}
theorem fitL_rgl (h : fitL n l) : fitL n (rgl l) := fun x hx => h x (rgl_mem hx)
theorem sp_mr_mate (hn : dOk n) (h : Sz a T (c + 300) ls) (hf : fitL n l) (hl : l.length ≤ 200) (hp : red l = l) (q : ∀ l' ls', fitL n l' → l'.length ≤ 300 → Sz a T c ls' → G (row l') ls') : wF (F_law_mr_mate en [.ref a, .int n, row l] ls) G E := by
  unfold F_law_mr_mate
  rw [wF_end]
  unfold p_law_mr_mate
  have gl := rgl_len l
  refine wP_seq (fun ρ ls => ∃ w : Int, 0 ≤ w ∧ w < 7 ∧ ρ = [.dat (.ref a), .dat (.int n), .dat (row l), .dat (.int w), .dat (row (rgl l)), .un] ∧ Sz a T (c + 299) ls) ?_ ?_
  · walk_at "ev"
    refine sp_draw (c := c + 299) h (by omega) (by omega) fun w l1 w0 w1 s1 => ?_
    walk_at "ev"
    rw [sp_mk_ring (by omega) (by rw [hp]; omega), hp]
    walk_at "ev"
    exact ⟨w, w0, w1, rfl, s1⟩
  rintro _ l1 ⟨w, w0, w1, rfl, s1⟩
  walk_at "ev"
  by_cases c1 : w < 2
  · rw [decide_eq_true c1]
    walk_at "ev"
    refine sp_mk_row (c := c + 279) hn (s1.mono (by omega)) (by omega) (by omega) (by omega) fun b l2 hb hb1 hb2 s2 => ?_
    walk_at "ev"
    rw [sp_mr_turned (by omega) (by omega)]
    walk_at "ev"
    have hb3 : b.length ≤ 4 := by omega
    have lr := red_len (b ++ l ++ und b)
    rw [List.length_append, List.length_append, und_len] at lr
    exact sp_mk_raw (c := c + 269) hn (s2.mono (by omega)) (fitL_red (fitL_app (fitL_app hb hf) (fitL_und hb))) (by omega) fun l' l3 hf' hl' s3 => q l' l3 hf' (by omega) (s3.mono (by omega))
  rw [decide_eq_false c1]
  walk_at "ev"
  by_cases c2 : w = 2
  · rw [decide_eq_true c2]
    walk_at "ev"
    rw [sp_mk_undone (by omega)]
    walk_at "ev"
    exact q _ l1 (fitL_und hf) (by rw [und_len]; omega) (s1.mono (by omega))
  rw [decide_eq_false c2]
  walk_at "ev"
  by_cases c3 : w = 3
  · rw [decide_eq_true c3]
    walk_at "ev"
    refine sp_shuffled (c := c) (l := l) (by omega) (s1.mono (by omega)) fun l' l2 hp' s2 => ?_
    walk_at "ev"
    refine q l' l2 (fun x hx => hf x (hp'.mem_iff.mp hx)) (by rw [hp'.length_eq]; omega) s2
  rw [decide_eq_false c3]
  walk_at "ev"
  have rest : (if decide (w = 5) = true then wF (F_law_mk_row en [D.ref a, D.int n, D.int 1, D.int 1] l1) (fun d ls => wI (addD (row l) d) fun z => wF (F_law_mk_plain en [z] ls) (fun d ls => G d ls) E) E
      else wF (F_law_mr_row en [D.ref a, D.int n] l1) (fun d ls => G d ls) E) := by
    by_cases c5 : w = 5
    · rw [decide_eq_true c5]
      walk_at "ev"
      refine sp_mk_row (c := c + 279) hn (s1.mono (by omega)) (by omega) (by omega) (by omega) fun b l2 hb hb1 hb2 s2 => ?_
      walk_at "ev"
      rw [addD_row (by omega)]
      walk_at "ev"
      have lr := red_len (l ++ b)
      rw [List.length_append] at lr
      rw [sp_mk_plain rfl (by rw [List.length_append]; omega)]
      walk_at "ev"
      exact q _ l2 (fitL_red (fitL_app hf hb)) (by omega) (s2.mono (by omega))
    · rw [decide_eq_false c5]
      walk_at "ev"
      exact sp_mr_row (c := c + 239) hn (s1.mono (by omega)) fun l' l2 hf' hl' s2 => q l' l2 hf' (by omega) (s2.mono (by omega))
  by_cases c4 : w = 4 ∧ ¬ rgl l = []
  · obtain ⟨c4, cr⟩ := c4
    rw [decide_eq_true c4]
    simp only [if_true]
    rw [row_nil, neD_row, decide_eq_false cr]
    walk_at "ev"
    have lr := List.length_pos_iff.mpr cr
    refine sp_draw (c := c + 298) s1 (by omega) (by omega) fun r l2 r0 r1 s2 => ?_
    obtain ⟨j, hj⟩ : ∃ j : Nat, r = j := ⟨r.toNat, by omega⟩
    subst hj
    walk_at "ev"
    rw [cutG_to (by omega)]
    obtain ⟨ls8, e8, f8, _, n8, _⟩ := sp_mk_letters (en := en) (ls := l2) hn
    rw [e8]
    walk_at "ev"
    refine sp_pick (c := c + 297) s2 ?_ (by rw [zs_len]; omega) fun d l3 hd s3 => ?_
    · intro z
      have := congrArg List.length z
      cases ls8 with
      | nil => cases n8
      | cons => cases z
    obtain ⟨y, hy, rfl⟩ := zs_mem hd
    rw [show D.tup [D.int y] = row [y] from rfl, addD_row (by rw [List.length_take, List.length_singleton]; omega)]
    walk_at "ev"
    rw [show (j : Int) + 1 = ((j + 1 : Nat) : Int) by omega, cutG_from (by omega), addD_row (by rw [List.length_append, List.length_take, List.length_drop, List.length_singleton]; omega)]
    walk_at "ev"
    refine q _ l3 (fitL_app (fitL_app (fun z hz => fitL_rgl hf z (List.mem_of_mem_take hz)) fun z hz => ?_) fun z hz => fitL_rgl hf z (List.mem_of_mem_drop hz)) (by rw [List.length_append, List.length_append, List.length_take, List.length_drop, List.length_singleton]; omega) (s3.mono (by omega))
    rw [List.mem_singleton.mp hz]
    exact f8 y hy
  · by_cases h4 : w = 4
    · have : rgl l = [] := Classical.byContradiction fun z => c4 ⟨h4, z⟩
      rw [decide_eq_true h4]
      simp only [if_true]
      rw [row_nil, neD_row, decide_eq_true this]
      walk_at "ev"
      exact rest
    · rw [decide_eq_false h4]
      walk_at "ev"
      exact rest
theorem filt_false {l : List D} : l.filter (fun _ => false) = [] := List.filter_eq_nil_iff.mpr fun _ _ => by simp
theorem eqD_nn : eqD (.lst []) (.lst []) = some (.bl true) := (eqD_zz (a := []) (b := [])).trans (by simp)
theorem neD_nn : neD (.lst []) (.lst []) = some (.bl false) := (neD_zz (a := []) (b := [])).trans (by simp)
theorem at2_0 {x y : D} : atD (.tup [x, y]) (.int 0) = some x := rfl
theorem at2_1 {x y : D} : atD (.tup [x, y]) (.int 1) = some y := rfl
theorem at3_0 {x y z : D} : atD (.tup [x, y, z]) (.int 0) = some x := rfl
theorem at3_1 {x y z : D} : atD (.tup [x, y, z]) (.int 1) = some y := rfl
theorem at3_2 {x y z : D} : atD (.tup [x, y, z]) (.int 2) = some z := rfl
theorem isi_str {x : Str} : isiD .str (.str x) = some (.bl true) := rfl
theorem te1 : eqD (.str "turned") (.str "turned") = some (.bl true) := by kernel_rfl
theorem te2 : eqD (.str "unlike") (.str "turned") = some (.bl false) := by kernel_rfl
theorem te3 : neD (.str "unlike") (.str "unlike") = some (.bl false) := by kernel_rfl
theorem nat2 : ((2 : Nat) : Int) = 2 := rfl
theorem nat3 : ((3 : Nat) : Int) = 3 := rfl
theorem dc1 : decide ((2 : Int) < 2) = false := by decide
theorem dc2 : decide ((3 : Int) < 2) = false := by decide
local macro_rules | `(tactic| walk_at "ev") => `(tactic| try simp only [wM_bnd, wM_ret, wM_opt, wI_some, wM_nam, nmI_dat, nmI_own, gvI_dat, gvI_own, owI_own, inI_int, itI_int, wM_lookd, wM_looks, wM_gived, wM_gives, wM_isB, wM_andM, wM_orM, wM_notM, wM_ifM, wM_andV, wM_orV, wM_notV, wM_bin, wM_uno, wM_dt, wM_ls1, wM_consM, wM_tupM, wM_lstM, wM_itemsM, wM_ritemsM, wM_callM, wM_keyM, wM_methM, wM_meth0M, wM_mthM, wM_chainM, wM_partM, wM_cutM, wP_seqP, wP_lift, wP_skip, wP_brk, wP_cnt, wP_rsP, wP_sto, wP_stoN, wP_setV, wP_setN, wP_retP, wP_drop, wP_ifP, wP_asgP, wP_par2, wP_par3, wP_par2I, wM_consD, wM_consL, stoI_d, stoI_n, wM_callN, wM_keyN, wM_takeM, wP_retN, wFN_k, wFN_x, eqD_zz, neD_zz, lenD_row, lenD_zs, isi_row, items_row, listD_row, tupleD_zs, cut_row, cut_zs, zs_len, at2_0, at2_1, at3_0, at3_1, at3_2, isi_str, te1, te2, te3, nat2, nat3, dc1, dc2, decide_true, eqD_nn, neD_nn,  wP_augP, wP_forP, wM_caughtM, catI_mk, hide_nil, hide_cons, hideS_dat, hideS_own, hideS_un, ord2, ord3, lenD_lsk, isntD_bl, tgTup_eq, tgLst_eq, tgCons_eq, tgNil_eq, Option.bind_some, slD,
  addD_int, subD_int, ltD_int, leD_int, gtD_int, geD_int, negD_int, eqD_int, neD_int, neD_zs, eqD_zs, eqD_row, neD_row, isi_tt, lenD_tup, lenD_lst, tupleD_tup, tupleD_lst, listD_tup, listD_lst, itemsD_tup, itemsD_lst, ritemsD_tup, revD_tup, few_nil, few_1, few_2, few_3, few_4, tgName,
  ini, List.map_cons, List.map_nil, List.length_cons, List.length_nil, List.replicate, List.cons_append, List.nil_append, List.getElem?_cons_zero, List.getElem?_cons_succ, List.set_cons_zero, List.set_cons_succ, Nat.reduceAdd, Nat.reduceSub, Nat.reduceLT, Nat.zero_add, Nat.sub_self, if_true, if_false, reduceIte, true_and, and_true, and_self, wF_k, wF_x, Bool.not_true, Bool.not_false, Bool.false_eq_true, Nat.lt_irrefl])
theorem sp_mr_is_row (hf : fitL n l) (hl : l.length ≤ 1000) (hp : red l = l) : F_law_mr_is_row en [.int n, row l] ls = .ok (.bl true) ls := by
  refine wF_is ?_
  unfold F_law_mr_is_row
  rw [wF_end]
  unfold p_law_mr_is_row
  refine wP_seq (fun ρ l' => ls = l' ∧ ρ = [.dat (.int n), .dat (row l), .un]) ?_ ?_
  · walk_at "ev"
    refine wM_lcp ?_
    walk_at "ev"
    refine ⟨rfl, rfl, top_of (by omega), fun _ => false, fun _ => .int 1, fun d hd => ?_, ?_⟩
    · obtain ⟨x, hx, rfl⟩ := zs_mem hd
      walk_at "ev"
      refine ⟨rfl, wM_is ?_, fun h => nomatch h⟩
      show wM _ [.dat (.int n), .dat (row l), .dat (.int x)] ls _ _
      walk_at "ev"
      rw [sp_mr_whole rfl]
      walk_at "ev"
      exact ⟨rfl, rfl⟩
    · rw [filt_false]
      walk_at "ev"
  rintro _ _ ⟨rfl, rfl⟩
  walk_at "ev"
  refine wM_lcp ?_
  walk_at "ev"
  refine ⟨rfl, rfl, top_of (by omega), fun _ => false, fun _ => .int 1, fun d hd => ?_, ?_⟩
  · obtain ⟨x, hx, rfl⟩ := zs_mem hd
    have hb := hf x hx
    walk_at "ev"
    refine ⟨rfl, wM_is ?_, fun h => nomatch h⟩
    show wM _ [.dat (.int n), .dat (row l), .dat (.int x)] ls _ _
    walk_at "ev"
    rw [decide_eq_false hb.2]
    walk_at "ev"
    rw [absD_int]
    walk_at "ev"
    rw [decide_eq_false (show ¬ n < (x.natAbs : Int) by omega)]
    all_goals first | exact ⟨rfl, rfl⟩ | rfl
  · rw [filt_false]
    walk_at "ev"
    rw [sp_mk_plain rfl (by omega), hp]
    walk_at "ev"
theorem sp_mr_is_turner {x y : List Int} (hx : red x = x) (hy : red y = y) (hf : fitL n x) (hg : fitL n y) (h1 : x.length ≤ 200) (h2 : y.length ≤ 200) : F_law_mr_is_turner en [.int n, row x, row y, turnD x y] ls = .ok (.bl true) ls := by
  refine wF_is ?_
  unfold F_law_mr_is_turner
  rw [wF_end]
  unfold p_law_mr_is_turner
  have g1 := rgl_len x
  have g2 := rgl_len y
  have w1 := way_len x
  have w2 := way_len y
  unfold turnD
  by_cases e : rgl x = rgl y
  · rw [if_pos e]
    obtain ⟨w, hw⟩ : ∃ w, w = turnW x y := ⟨_, rfl⟩
    have lw : w.length ≤ 400 := by
      have := red_len (way y ++ und (way x))
      rw [List.length_append, und_len] at this
      rw [hw]
      unfold turnW
      omega
    have hwr : red w = w := by rw [hw]; exact red_red _
    have hwf : fitL n w := by
      rw [hw]
      exact fitL_red (fitL_app (fun z hz => hg z (List.mem_of_mem_take hz)) (fitL_und fun z hz => hf z (List.mem_of_mem_take hz)))
    rw [← hw]
    walk_at "ev"
    rw [sp_mr_is_row hwf (by omega) hwr]
    walk_at "ev"
    rw [sp_mr_turned (by omega) (by omega), hw, show red (turnW x y ++ x ++ und (turnW x y)) = y from turn_ok hy e]
    walk_at "ev"
  · rw [if_neg e]
    walk_at "ev"
    rw [sp_mk_ring (by omega) (by rw [hx]; omega), hx]
    walk_at "ev"
    rw [sp_mk_ring (by omega) (by rw [hy]; omega), hy]
    walk_at "ev"
    rw [decide_eq_false e]
    walk_at "ev"
    rw [sp_mr_same (by omega)]
    walk_at "ev"
    rw [sp_mr_same (by omega)]
    walk_at "ev"
end
end Pd

set_option Elab.async false
set_option linter.all false
set_option maxRecDepth 100000
set_option maxHeartbeats 4000000
/-! R4: the law of rings. -/
namespace Pd
open PySem PySem.Spec PyProof.Rows L2
theorem neD_turn {x y : List Int} : neD (turnD x y) (turnD x y) = some (.bl false) := by
  unfold turnD
  by_cases e : rgl x = rgl y
  · rw [if_pos e]
    have h : (D.tup [.str "turned", row (turnW x y)]).okq = true := okq_dq (by
      show (dq 7 (.str "turned") && (dq 7 (row (turnW x y)) && true)) = true
      rw [dq_row]
      decide +kernel)
    rw [neD_of h h]
    have : eqb (D.tup [.str "turned", row (turnW x y)]) (D.tup [.str "turned", row (turnW x y)]) = true := by
      show (PyData.eqv (.str "turned") (.str "turned") && (eqb (row (turnW x y)) (row (turnW x y)) && true)) = true
      rw [eqb_row, decide_eq_true rfl]
      decide +kernel
    rw [this]; rfl
  · rw [if_neg e]
    have h : (D.tup [.str "unlike", row (rgl x), row (rgl y)]).okq = true := okq_dq (by
      show (dq 7 (.str "unlike") && (dq 7 (row (rgl x)) && (dq 7 (row (rgl y)) && true))) = true
      rw [dq_row, dq_row]
      decide +kernel)
    rw [neD_of h h]
    have : eqb (D.tup [.str "unlike", row (rgl x), row (rgl y)]) (D.tup [.str "unlike", row (rgl x), row (rgl y)]) = true := by
      show (PyData.eqv (.str "unlike") (.str "unlike") && (eqb (row (rgl x)) (row (rgl x)) && (eqb (row (rgl y)) (row (rgl y)) && true))) = true
      rw [eqb_row, eqb_row, decide_eq_true rfl, decide_eq_true rfl]
      decide +kernel
    rw [this]; rfl
theorem cut_200 {l : List Int} : cutD none (some 200) (row l) = some (row (l.take 200)) := by
  rw [cut_row, show (some (200 : Int)) = some ((200 : Nat) : Int) from rfl, cutG_to2]
local macro_rules | `(tactic| walk_at "ev") => `(tactic| try simp only [wM_bnd, wM_ret, wM_opt, wI_some, wM_nam, nmI_dat, nmI_own, gvI_dat, gvI_own, owI_own, inI_int, itI_int, wM_lookd, wM_looks, wM_gived, wM_gives, wM_isB, wM_andM, wM_orM, wM_notM, wM_ifM, wM_andV, wM_orV, wM_notV, wM_bin, wM_uno, wM_dt, wM_ls1, wM_consM, wM_tupM, wM_lstM, wM_itemsM, wM_ritemsM, wM_callM, wM_keyM, wM_methM, wM_meth0M, wM_mthM, wM_chainM, wM_partM, wM_cutM, wP_seqP, wP_lift, wP_skip, wP_brk, wP_cnt, wP_rsP, wP_sto, wP_stoN, wP_setV, wP_setN, wP_retP, wP_drop, wP_ifP, wP_asgP, wP_par2, wP_par3, wP_par2I, wM_consD, wM_consL, stoI_d, stoI_n, wM_callN, wM_keyN, wM_takeM, wP_retN, wFN_k, wFN_x, eqD_zz, neD_zz, lenD_row, lenD_zs, isi_row, items_row, listD_row, tupleD_zs, zs_len, cs_BadDeeds, cs_BadRow, isiE_BadDeeds, decide_true,  wP_augP, wP_forP, wM_caughtM, catI_mk, hide_nil, hide_cons, hideS_dat, hideS_own, hideS_un, ord2, ord3, lenD_lsk, isntD_bl, tgTup_eq, tgLst_eq, tgCons_eq, tgNil_eq, Option.bind_some, slD,
  addD_int, subD_int, ltD_int, leD_int, gtD_int, geD_int, negD_int, eqD_int, neD_int, neD_zs, eqD_zs, eqD_row, neD_row, isi_tt, lenD_tup, lenD_lst, tupleD_tup, tupleD_lst, listD_tup, listD_lst, itemsD_tup, itemsD_lst, ritemsD_tup, revD_tup, few_nil, few_1, few_2, few_3, few_4, tgName,
  ini, List.map_cons, List.map_nil, List.length_cons, List.length_nil, List.replicate, List.cons_append, List.nil_append, List.getElem?_cons_zero, List.getElem?_cons_succ, List.set_cons_zero, List.set_cons_succ, Nat.reduceAdd, Nat.reduceSub, Nat.reduceLT, Nat.zero_add, Nat.sub_self, if_true, if_false, reduceIte, true_and, and_true, and_self, wF_k, wF_x, Bool.not_true, Bool.not_false, Bool.false_eq_true, Nat.lt_irrefl])
section
variable {en : En} {ls : LS} {a : Addr} {T : List (Addr × Str)} {c : Nat} {n : Int}
theorem sp_law {ns : List Int} (dh : Dst en) (hns : ns.length ≤ 63) (h : Sz a en.T 20000 ls) : wP (p_law en) [.dat (.lsk (zs ns)), .dat (.ref a), .un, .un, .un, .un, .un, .un, .un, .un, .un, .un, .un] ls { nx := fun _ _ => False, bk := fun _ _ => False, ct := fun _ _ => False, rt := fun d _ => d = .bl true, rs := fun _ _ => False } := by
  unfold p_law
  refine wP_seq (fun ρ ls => True) ?_ ?_
  · rw [wP_forP]
    walk_at "ev"
    rw [minD_int]
    walk_at "ev"
    rw [rng1D_int (by split <;> omega) (by split <;> omega), rangeL_zs]
    walk_at "ev"
    have hlen : (zs ((List.range (4 + if (4 : Int) < (ns.length : Int) then 4 else (ns.length : Int)).toNat).map fun (i : Nat) => (0 : Int) + (i : Int))).length ≤ 8 := by
      rw [zs_len, List.length_map, List.length_range]
      split <;> omega
    refine wP_for (fun done ρ ls => Sz a en.T (20000 - 1000 * done.length) ls ∧ ∃ s2 s3 s4 s5 s6 s7 s8 s9 s10 s11 s12, ρ = [.dat (.lsk (zs ns)), .dat (.ref a), s2, s3, s4, s5, s6, s7, s8, s9, s10, s11, s12]) ⟨h, _, _, _, _, _, _, _, _, _, _, _, rfl⟩ ?_ ?_
    · rintro done d rest _ ls0 ed ⟨hs0, s2, s3, s4, s5, s6, s7, s8, s9, s10, s11, s12, rfl⟩
      have hd : done.length ≤ 7 := by rw [ed] at hlen; simp at hlen; omega
      obtain ⟨c, hc⟩ : ∃ c, 20000 - 1000 * done.length = c + 1000 := ⟨19000 - 1000 * done.length, by omega⟩
      rw [hc] at hs0
      have hback : ∀ l, Sz a en.T c l → Sz a en.T (20000 - 1000 * (done ++ [d]).length) l := fun l hl => hl.mono (by rw [List.length_append]; simp; omega)
      rw [tgName_at (by show 2 < 13; decide)]
      show wP _ [.dat (.lsk (zs ns)), .dat (.ref a), .dat d, s3, s4, s5, s6, s7, s8, s9, s10, s11, s12] _ _
      generalize (Sl.dat d) = s2
      -- deeds
      refine wP_seq (fun ρ l => ∃ n, dOk n ∧ Sz a en.T (c + 990) l ∧ ρ = [.dat (.lsk (zs ns)), .dat (.ref a), s2, .dat (.int n), s4, s5, s6, s7, s8, s9, s10, s11, s12]) ?_ ?_
      · walk_at "ev"
        refine sp_draw (c := c + 999) hs0 (by omega) (by omega) fun r l1 hr0 hr1 hs => ?_
        walk_at "ev"
        exact ⟨1 + r, ⟨by omega, by omega⟩, hs.mono (by omega), rfl⟩
      rintro _ l1 ⟨n, hn, hs1, rfl⟩
      -- the row
      refine wP_seq (fun ρ l => ∃ x, (fitL n x ∧ x.length ≤ 200) ∧ Sz a en.T (c + 900) l ∧ ρ = [.dat (.lsk (zs ns)), .dat (.ref a), s2, .dat (.int n), .dat (row x), s5, s6, s7, s8, s9, s10, s11, s12]) ?_ ?_
      · walk_at "ev"
        refine sp_mr_row (c := c + 900) hn (hs1.mono (by omega)) fun x l2 hf hl hs2 => ?_
        walk_at "ev"
        exact ⟨x, ⟨hf, by omega⟩, hs2, rfl⟩
      rintro _ l2 ⟨x, ⟨hfx, hlx⟩, hs2, rfl⟩
      refine wP_seq (fun ρ l => ∃ x, (fitL n x ∧ x.length ≤ 200) ∧ Sz a en.T (c + 800) l ∧ ρ = [.dat (.lsk (zs ns)), .dat (.ref a), s2, .dat (.int n), .dat (row x), s5, s6, s7, s8, s9, s10, s11, s12]) ?_ ?_
      · walk_at "ev"
        refine sp_draw (c := c + 899) hs2 (by omega) (by omega) fun r l3 hr0 hr1 hs3 => ?_
        walk_at "ev"
        by_cases h0 : r = 0
        · rw [decide_eq_true h0]
          walk_at "ev"
          refine sp_mr_long (c := c + 879) hn (hs3.mono (by omega)) fun m l4 hfm hlm hs4 => ?_
          walk_at "ev"
          have := red_len m
          rw [sp_mk_plain rfl (by omega)]
          walk_at "ev"
          exact ⟨_, ⟨fitL_red hfm, by omega⟩, hs4.mono (by omega), rfl⟩
        · rw [decide_eq_false h0]
          walk_at "ev"
          exact ⟨x, ⟨hfx, hlx⟩, hs3.mono (by omega), rfl⟩
      clear hfx hlx
      rintro _ l3 ⟨x, ⟨hfx, hlx⟩, hs3, rfl⟩
      have rx := red_len x
      -- one, mate, other
      refine wP_seq (fun ρ l => l3 = l ∧ ρ = [.dat (.lsk (zs ns)), .dat (.ref a), s2, .dat (.int n), .dat (row x), .dat (row (red x)), s6, s7, s8, s9, s10, s11, s12]) ?_ ?_
      · walk_at "ev"
        rw [sp_mk_plain rfl (by omega)]
        walk_at "ev"
      rintro _ _ ⟨rfl, rfl⟩
      refine wP_seq (fun ρ l => ∃ y, (fitL n y ∧ y.length ≤ 200) ∧ Sz a en.T (c + 500) l ∧ ρ = [.dat (.lsk (zs ns)), .dat (.ref a), s2, .dat (.int n), .dat (row x), .dat (row (red x)), .dat (row y), s7, s8, s9, s10, s11, s12]) ?_ ?_
      · walk_at "ev"
        refine sp_mr_mate (c := c + 500) hn hs3 (fitL_red hfx) (by omega) (red_red x) fun y l4 hfy hly hs4 => ?_
        walk_at "ev"
        rw [cut_200]
        walk_at "ev"
        exact ⟨_, ⟨fun z hz => hfy z (List.mem_of_mem_take hz), List.length_take_le _ _⟩, hs4, rfl⟩
      rintro _ l4 ⟨y, ⟨hfy, hly⟩, hs4, rfl⟩
      have ry := red_len y
      refine wP_seq (fun ρ l => l4 = l ∧ ρ = [.dat (.lsk (zs ns)), .dat (.ref a), s2, .dat (.int n), .dat (row x), .dat (row (red x)), .dat (row y), .dat (row (red y)), s8, s9, s10, s11, s12]) ?_ ?_
      · walk_at "ev"
        rw [sp_mk_plain rfl (by omega)]
        walk_at "ev"
      rintro _ _ ⟨rfl, rfl⟩
      have gx := rgl_len (red x)
      have gy := rgl_len (red y)
      -- rings
      refine wP_seq (fun ρ l => l4 = l ∧ ρ = [.dat (.lsk (zs ns)), .dat (.ref a), s2, .dat (.int n), .dat (row x), .dat (row (red x)), .dat (row y), .dat (row (red y)), s8, s9, s10, s11, s12]) ?_ ?_
      · walk_at "ev"
        rw [sp_ring_of hn hfx hlx]
        walk_at "ev"
        rw [sp_mk_ring (by omega) (by rw [red_red]; omega), red_red]
        walk_at "ev"
        rw [sp_mr_same (by omega)]
        walk_at "ev"
      rintro _ _ ⟨rfl, rfl⟩
      refine wP_seq (fun ρ l => l4 = l ∧ ρ = [.dat (.lsk (zs ns)), .dat (.ref a), s2, .dat (.int n), .dat (row x), .dat (row (red x)), .dat (row y), .dat (row (red y)), s8, s9, s10, s11, s12]) ?_ ?_
      · walk_at "ev"
        rw [sp_ring_of hn hfy hly]
        walk_at "ev"
        rw [sp_mk_ring (by omega) (by rw [red_red]; omega), red_red]
        walk_at "ev"
        rw [sp_mr_same (by omega)]
        walk_at "ev"
      rintro _ _ ⟨rfl, rfl⟩
      -- turners
      refine wP_seq (fun ρ l => l4 = l ∧ ρ = [.dat (.lsk (zs ns)), .dat (.ref a), s2, .dat (.int n), .dat (row x), .dat (row (red x)), .dat (row y), .dat (row (red y)), .dat (turnD (red x) (red y)), s9, s10, s11, s12]) ?_ ?_
      · walk_at "ev"
        rw [sp_turner hn hfx hlx hfy hly]
        walk_at "ev"
      rintro _ _ ⟨rfl, rfl⟩
      refine wP_seq (fun ρ l => l4 = l ∧ ρ = [.dat (.lsk (zs ns)), .dat (.ref a), s2, .dat (.int n), .dat (row x), .dat (row (red x)), .dat (row y), .dat (row (red y)), .dat (turnD (red x) (red y)), s9, s10, s11, s12]) ?_ ?_
      · walk_at "ev"
        rw [sp_mr_is_turner (red_red x) (red_red y) (fitL_red hfx) (fitL_red hfy) (by omega) (by omega)]
        walk_at "ev"
        rw [sp_turner hn hfx hlx hfy hly]
        walk_at "ev"
        rw [neD_turn]
        walk_at "ev"
      rintro _ _ ⟨rfl, rfl⟩
      refine wP_seq (fun ρ l => l4 = l ∧ ρ = [.dat (.lsk (zs ns)), .dat (.ref a), s2, .dat (.int n), .dat (row x), .dat (row (red x)), .dat (row y), .dat (row (red y)), .dat (turnD (red x) (red y)), s9, s10, s11, s12]) ?_ ?_
      · walk_at "ev"
        rw [sp_turner hn hfy hly hfx hlx]
        walk_at "ev"
        rw [sp_mr_is_turner (red_red y) (red_red x) (fitL_red hfy) (fitL_red hfx) (by omega) (by omega)]
        walk_at "ev"
      rintro _ _ ⟨rfl, rfl⟩
      -- faults
      refine wP_seq (fun ρ l => ∃ wr bd, (plainV wr = true ∧ btw wr 1 4 = false) ∧ (plainR bd = true ∧ isRow n bd = false) ∧ Sz a en.T (c + 498) l ∧ ρ = [.dat (.lsk (zs ns)), .dat (.ref a), s2, .dat (.int n), .dat (row x), .dat (row (red x)), .dat (row y), .dat (row (red y)), .dat (turnD (red x) (red y)), .dat wr, .dat bd, s11, s12]) ?_ ?_
      · walk_at "ev"
        refine sp_bad_deeds (c := c + 499) hs4 fun wr l5 pw bw hs5 => ?_
        walk_at "ev"
        refine sp_bad_row (c := c + 498) hn hs5 fun bd l6 pb bb hs6 => ?_
        walk_at "ev"
        exact ⟨wr, bd, ⟨pw, bw⟩, ⟨pb, bb⟩, hs6, rfl⟩
      rintro _ l6 ⟨wr, bd, ⟨pw, bw⟩, ⟨pb, bb⟩, hs6, rfl⟩
      have tb := hs6.tb
      generalize turnD (red x) (red y) = tdd
      refine wP_seq (fun ρ l => l6 = l ∧ ∃ s11 s12, ρ = [.dat (.lsk (zs ns)), .dat (.ref a), s2, .dat (.int n), .dat (row x), .dat (row (red x)), .dat (row y), .dat (row (red y)), .dat tdd, .dat wr, .dat bd, s11, s12]) ?_ ?_
      · rw [wP_forP]
        walk_at "ev"
        rw [wP_forL_cons]
        walk_at "ev"
        refine ⟨tb, ?_⟩
        rw [sp_turnerX2 hn pb bb]
        walk_at "ev"
        rw [isiE_BadRow dh]
        walk_at "ev"
        refine ⟨tb, ?_⟩
        rw [sp_turnerX1 pw bw]
        walk_at "ev"
        rw [wP_forL_cons]
        walk_at "ev"
        refine ⟨tb, ?_⟩
        rw [sp_turnerX3 hn hfx hlx pb bb]
        walk_at "ev"
        rw [isiE_BadRow dh]
        walk_at "ev"
        refine ⟨tb, ?_⟩
        rw [sp_turnerX1 pw bw]
        walk_at "ev"
        rw [wP_forL_cons]
        walk_at "ev"
        refine ⟨tb, ?_⟩
        rw [sp_turnerX2 hn pb bb]
        walk_at "ev"
        rw [isiE_BadRow dh]
        walk_at "ev"
        refine ⟨tb, ?_⟩
        rw [sp_turnerX1 pw bw]
        walk_at "ev"
        rw [wP_forL_nil]
        exact ⟨rfl, _, _, rfl⟩
      rintro _ _ ⟨rfl, t11, t12, rfl⟩
      walk_at "ev"
      refine ⟨tb, ?_⟩
      rw [sp_ring_ofX1 pw bw]
      walk_at "ev"
      refine ⟨tb, ?_⟩
      rw [sp_ring_ofX2 hn pb bb]
      walk_at "ev"
      rw [isiE_BadRow dh]
      walk_at "ev"
      exact ⟨hback _ (hs6.mono (by omega)), _, _, _, _, _, _, _, _, _, _, _, rfl⟩
    · intro _ _ _
      trivial
  · intro ρ ls _
    walk_at "ev"
end
end Pd

set_option Elab.async false
set_option linter.all false
set_option maxRecDepth 100000
set_option maxHeartbeats 4000000
/-! Wend: the law as a def. -/
namespace Pd
open PySem PySem.Spec PyProof.Rows L2
theorem cx_none {P : Program} : ∀ (w : World) (H : Hp) (s : Shared) (e : Value) (s' : Shared), L2.CX P w [] H s (fun _ _ _ => False) e s' → False := by
  rintro w H s e s' ⟨_, _, _, _, _, _, _, _, _, _, _, _, h⟩
  exact h
def oneH (H : Hp) (a : Addr) : Hp := fun b => if b = a then H a else none
theorem oneH_at {H : Hp} {a : Addr} : oneH H a a = H a := if_pos rfl
theorem oneH_ne {H : Hp} {a b : Addr} (h : ¬ b = a) : oneH H a b = none := if_neg h
def spLaw (K : PySem.W.Frag) (T : List (Addr × Str)) : Sp := fun vs H Q _ => ∃ (a : Addr) (ns : List Int), vs = [.ref a] ∧ SqL K H a (ns.map V.int) ∧ ns.length ≤ 63 ∧ LamX.Tabs T H ∧ ∀ H', Q (.bl true) H'
section
variable {P : Program} {w : World} {K : PySem.W.Frag} {mg : Str → Option Value} {base : Heap} {en : En}
theorem law_us {W : WX} {De : Ends} {a : Addr} {ns : List Int} {wd : Wd} {ls : LS} {H H' : Hp} (dh : Dst en) (hS : SqL K H a (ns.map V.int)) (hl : ns.length ≤ 63) (etb : ls.tb = en.T) (st : SOk wd ls H') (same : Same H H') (na : H wd.a = none) (ng : H wd.g = none) (nc : H wd.c = none) (ok : LSok 0 ls) (hD : ∀ H', De.rt (.bl true) H') :
    US K W (p_law en) De [some (.ref a), some (.ref wd.a), none, none, none, none, none, none, none, none, none, none, none] H' := by
  obtain ⟨Hd, d1, d2, d3, d4⟩ : ∃ Hd : Hp, Sub Hd H' ∧ (∀ b, wd.Z b → Hd b = none) ∧ (∀ b o, Hd b = some o → NT o) ∧ SqL K Hd a (ns.map V.int) := by
    rcases hS with (h | ⟨o, h⟩) | h
    · refine ⟨oneH H a, fun b u e => ?_, fun b z => ?_, fun b u e => ?_, .inl (.inl ?_)⟩
      · by_cases hb : b = a
        · subst hb; rw [oneH_at] at e; exact same _ _ e
        · rw [oneH_ne hb] at e; cases e
      · by_cases hb : b = a
        · subst hb
          rcases z with rfl | rfl | rfl
          · rw [na] at h; cases h
          · rw [ng] at h; cases h
          · rw [nc] at h; cases h
        · exact oneH_ne hb
      · by_cases hb : b = a
        · subst hb; rw [oneH_at, h] at e; cases e; exact NT.lst
        · rw [oneH_ne hb] at e; cases e
      · rw [oneH_at]; exact h
    · refine ⟨oneH H a, fun b u e => ?_, fun b z => ?_, fun b u e => ?_, .inl (.inr ⟨o, ?_⟩)⟩
      · by_cases hb : b = a
        · subst hb; rw [oneH_at] at e; exact same _ _ e
        · rw [oneH_ne hb] at e; cases e
      · by_cases hb : b = a
        · subst hb
          rcases z with rfl | rfl | rfl
          · rw [na] at h; cases h
          · rw [ng] at h; cases h
          · rw [nc] at h; cases h
        · exact oneH_ne hb
      · by_cases hb : b = a
        · subst hb; rw [oneH_at, h] at e; cases e; exact fun _ z => nomatch z
        · rw [oneH_ne hb] at e; cases e
      · rw [oneH_at]; exact h
    · exact ⟨fun _ => none, (fun b u e => nomatch e), fun _ _ => rfl, (fun b u e => nomatch e), .inr h⟩
  have E : EOk K wd (fun _ => none) (fun _ => none) Hd H' [some (.ref a), some (.ref wd.a), none, none, none, none, none, none, none, none, none, none, none] [.dat (.lsk (zs ns)), .dat (.ref wd.a), .un, .un, .un, .un, .un, .un, .un, .un, .un, .un, .un] ls := by
    refine ⟨(fun b o e => nomatch e), fun b _ => .of rfl, d1, (fun b o e => nomatch e), d2, d3, fun b o _ => .inr (.of rfl), st, rfl, fun i d e => ?_, fun i ds e => ?_, fun i j p ds es _ e _ => ?_⟩
    · match i, e with
      | 0, e => cases e; exact ⟨_, rfl, .lsk d4 (RpL.ints ns)⟩
      | 1, e => cases e; exact ⟨_, rfl, .ref _⟩
      | i + 2, e =>
        exfalso
        have e : ([.un, .un, .un, .un, .un, .un, .un, .un, .un, .un, .un] : Rho)[i]? = some (.dat d) := e
        have := List.mem_of_getElem? e
        simp at this
    · exfalso
      have := List.mem_of_getElem? e
      simp at this
    · exfalso
      have := List.mem_of_getElem? e
      simp at this
  refine ⟨wd, _, _, Hd, _, ls, E, ?_⟩
  have r := sp_law (en := en) (a := wd.a) (ls := ls) dh hl ⟨st.hs.symm, etb, ok.great, ok.cells, ok.rest, ok.t0, by have := ok.t1; omega⟩
  unfold wP at r
  cases e : p_law en [.dat (.lsk (zs ns)), .dat (.ref wd.a), .un, .un, .un, .un, .un, .un, .un, .un, .un, .un, .un] ls with
  | rt d l2 =>
    rw [e] at r
    have r : d = .bl true := r
    subst r
    exact fun v σ' Hd' H2 ρ' E' s' rv => by cases rv; exact hD H2
  | nx _ _ => rw [e] at r; exact r.elim
  | rtN _ _ => rw [e] at r; cases r
  | bk _ _ => rw [e] at r; exact r.elim
  | ct _ _ => rw [e] at r; exact r.elim
  | rs _ _ => rw [e] at r; exact r.elim
  | no => rw [e] at r; exact r.elim
theorem ok_lawfn (S : SF K mg en) {f fb c Pt g : Addr} {fdb fdc : FuncData} {oc kV doc pm ct : Value} {od an : Option Addr} {osl : Array (Option Value)} (lk : K.lookup f = some ⟨oc, od, .func (PySem.W.fnOf "law" "law" (defArgs s_law) (defBody s_law) (defScope s_law) .none kV doc pm an (.ref c) ct), osl⟩) (hcd : PySem.W.codeIn K (.ref c) "law" = true) (C : CaF K mg g fdc) (TB : LamX.TabB base mg c Pt) (hmT : (Pt, ("law.<locals>." : Str) ++ "<lambda>") ∈ en.T) (hu : ∀ p ∈ en.T, p.1 = Pt → p.2 = ("law.<locals>." : Str) ++ "<lambda>") (Gb : FnOk P w K mg base (L2.CX P w) 1 fb fdb ["_law_script"] (spBegun K en.T)) (gb : mg "_law_begun" = some (.ref fb)) (kb : PySem.W.keepIn K (.ref fb) = true) (bb : L2.Binds K fdb ["_law_script"] []) (dh : Dst en)  (G_law_draw : Has P w K mg base "_law_draw" ["_law_state", "_law_room"] 2 2 FDraw) (G_law_mk_bad_deeds : Has P w K mg base "_law_mk_bad_deeds" ["_law_state"] 4 1 (F_law_mk_bad_deeds en)) (G_law_mk_bad_row : Has P w K mg base "_law_mk_bad_row" ["_law_state", "_law_deeds"] 4 2 (F_law_mk_bad_row en)) (G_law_mk_plain : Has P w K mg base "_law_mk_plain" ["_law_letters"] 1 1 (F_law_mk_plain en)) (G_law_mk_ring : Has P w K mg base "_law_mk_ring" ["_law_row"] 2 1 (F_law_mk_ring en)) (G_law_mr_is_turner : Has P w K mg base "_law_mr_is_turner" ["_law_deeds", "_law_one", "_law_other", "_law_found"] 3 4 (F_law_mr_is_turner en)) (G_law_mr_long : Has P w K mg base "_law_mr_long" ["_law_state", "_law_deeds"] 5 2 (F_law_mr_long en)) (G_law_mr_mate : Has P w K mg base "_law_mr_mate" ["_law_state", "_law_deeds", "_law_row"] 6 3 (F_law_mr_mate en)) (G_law_mr_row : Has P w K mg base "_law_mr_row" ["_law_state", "_law_deeds"] 5 2 (F_law_mr_row en)) (G_law_mr_same : Has P w K mg base "_law_mr_same" ["_law_found", "_law_due"] 2 2 (F_law_mr_same en)) (G_ring_of : Has P w K mg base "ring_of" ["deeds", "row"] 6 2 (F_ring_of en)) (G_turner : Has P w K mg base "turner" ["deeds", "one", "other"] 6 3 (F_turner en)) (K_ring_of_0_deeds_row : HasK P w K mg base "ring_of" ["deeds", "row"] 6 2 (F_ring_of en) 0 ["deeds", "row"] [0, 1]) (K_turner_0_deeds_one_other : HasK P w K mg base "turner" ["deeds", "one", "other"] 6 3 (F_turner en) 0 ["deeds", "one", "other"] [0, 1, 2]) : FnOk P w K mg base (L2.CX P w) 9 f (PySem.W.fnOf "law" "law" (defArgs s_law) (defBody s_law) (defScope s_law) .none kV doc pm an (.ref c) ct) ["_law_script"] (spLaw K en.T) := by
  refine fn_of lk hcd sc_law (fun vs H Q E h => ?_) (fun A outer s H vs Q E hr h => ?_)
  · obtain ⟨a, ns, rfl, _⟩ := h
    rfl
  · obtain ⟨a, ns, rfl, hS, hl, hT, hq⟩ := h
    refine ⟨_, ok_lawbody S Gb gb kb bb C TB hmT hu hr G_law_draw G_law_mk_bad_deeds G_law_mk_bad_row G_law_mk_plain G_law_mk_ring G_law_mr_is_turner G_law_mr_long G_law_mr_mate G_law_mr_row G_law_mr_same G_ring_of G_turner K_ring_of_0_deeds_row K_turner_0_deeds_one_other, ?_⟩
    refine ⟨.ref a, rfl, a, ns, rfl, hS, hl, hT, fun wd ls H' etb st same na ng nc ok => ?_⟩
    exact law_us dh hS hl etb st same na ng nc ok hq
end
/-- a law one of whose defs makes lambdas -/
theorem walk_at {l : PySem.W.OpenLaw} {n k : Nat} {q : Program} {loose : List Str} {XP : (Str → Option Value) → Heap → Prop} {YP : World → Heap → Prop} {d : DefRec} {K : Params → PySem.W.Frag} {CX : World → CXT} {x : Str} (x1 : Str)
    (hn : l.most = some n) (hn2 : n ≤ sizeLine) (hdf : d.params.defaults = []) (hr : Room k callerA) (hrec : ((recsOf q).any fun e => e.name == x1) = true) (hY : ∀ (w : World) (h : Heap), YP w h → (K w.params).In h)
    (F : ∀ (w : World) (mg : Str → Option Value) (fa : Addr) (h : Heap), (K w.params).In h → h.Ns mainGlobals mg → mg d.name = some (.ref fa) → (∀ f1, mg x1 = some (.ref f1) → LamX.OwnTab (K w.params) f1 h) → LamX.LawAtS l w (K w.params) (CX w) k n x mg fa h)
    (hCX : ∀ (w : World) (H : Hp) (s : Shared) (e : Value) (s' : Shared), CX w [] H s (fun _ _ _ => False) e s' → False) : PySem.W.WalkO q loose XP YP l.row.toRowW d [] (fun f vs => PySem.call f vs) := by
  refine Att.attach_callB hn hdf fun w t0 t1 mg mb fa ob pm cd doc a vs ns G Y ho hd hcd hm hobj hi hlen hbits hg => ?_
  have KX := hY w _ Y
  have own : ∀ f1, mg x1 = some (.ref f1) → LamX.OwnTab (K w.params) f1 t1.heap := fun f1 hf c Pt u fd e dd us sl k1 k2 k3 k4 k5 => by
    obtain ⟨dL, m1, m2⟩ := List.any_eq_true.mp hrec
    obtain ⟨a', u', fd', c', P', y1, y2, y3, y4, y5, ⟨⟨oc, vc, z1, _, z3, z4⟩, hP⟩⟩ := G.T.tab dL m1
    rw [show dL.name = x1 from beq_iff_eq.mp m2, hf] at y1
    cases y1
    cases (KX _ _ k1).symm.trans y2
    cases k2.symm.trans y3
    cases k3.symm.trans y4
    cases (KX _ _ k4).symm.trans z1
    cases z3
    cases k5.symm.trans z4
    exact hP
  obtain ⟨fd, cs, sp, hT, nT, C, hb, hsp, hF⟩ := F w mg fa _ KX G.T.g hm own
  exact LamX.law_callTs KX G.T.g G.T.b G.T.builtins G.T.nolimit hg hT nT C G.T.bmain hobj hi (Nat.le_trans hlen hn2) hr hF hb (fun H hH hS => hsp H a ns hlen hbits hH hS) fun H e s' => hCX w H t1 e s'
end Pd

set_option Elab.async false
set_option linter.all false
set_option maxRecDepth 100000
set_option maxHeartbeats 4000000
/-! the end -/
namespace Pd
open PySem PySem.Spec PyProof.Rows L2
theorem all_mk {l : PySem.W.OpenLaw} {w : World} {K : PySem.W.Frag} {h : Heap} {mg : Str → Option Value} {fa : Addr} (X : K.In h) (G : h.Ns mainGlobals mg) (hfa : mg "law" = some (.ref fa))
    {f_law_begun : Addr} {od_law_begun an_law_begun : Option Addr} {sl_law_begun : Array (Option Value)} {oc_law_begun kV_law_begun dc_law_begun pm_law_begun cd_law_begun ct_law_begun : Value}
    {f_law_blended : Addr} {od_law_blended an_law_blended : Option Addr} {sl_law_blended : Array (Option Value)} {oc_law_blended kV_law_blended dc_law_blended pm_law_blended cd_law_blended ct_law_blended : Value}
    {f_law_draw : Addr} {od_law_draw an_law_draw : Option Addr} {sl_law_draw : Array (Option Value)} {oc_law_draw kV_law_draw dc_law_draw pm_law_draw cd_law_draw ct_law_draw : Value}
    {f_law_caught : Addr} {od_law_caught an_law_caught : Option Addr} {sl_law_caught : Array (Option Value)} {oc_law_caught kV_law_caught dc_law_caught pm_law_caught cd_law_caught ct_law_caught : Value}
    {f_is_whole : Addr} {od_is_whole an_is_whole : Option Addr} {sl_is_whole : Array (Option Value)} {oc_is_whole kV_is_whole dc_is_whole pm_is_whole cd_is_whole ct_is_whole : Value}
    {f_plain_of : Addr} {od_plain_of an_plain_of : Option Addr} {sl_plain_of : Array (Option Value)} {oc_plain_of kV_plain_of dc_plain_of pm_plain_of cd_plain_of ct_plain_of : Value}
    {f_undone_of : Addr} {od_undone_of an_undone_of : Option Addr} {sl_undone_of : Array (Option Value)} {oc_undone_of kV_undone_of dc_undone_of pm_undone_of cd_undone_of ct_undone_of : Value}
    {f_tail_of : Addr} {od_tail_of an_tail_of : Option Addr} {sl_tail_of : Array (Option Value)} {oc_tail_of kV_tail_of dc_tail_of pm_tail_of cd_tail_of ct_tail_of : Value}
    {f_least_start : Addr} {od_least_start an_least_start : Option Addr} {sl_least_start : Array (Option Value)} {oc_least_start kV_least_start dc_least_start pm_least_start cd_least_start ct_least_start : Value}
    {f_law_mk_plain : Addr} {od_law_mk_plain an_law_mk_plain : Option Addr} {sl_law_mk_plain : Array (Option Value)} {oc_law_mk_plain kV_law_mk_plain dc_law_mk_plain pm_law_mk_plain cd_law_mk_plain ct_law_mk_plain : Value}
    {f_law_mk_undone : Addr} {od_law_mk_undone an_law_mk_undone : Option Addr} {sl_law_mk_undone : Array (Option Value)} {oc_law_mk_undone kV_law_mk_undone dc_law_mk_undone pm_law_mk_undone cd_law_mk_undone ct_law_mk_undone : Value}
    {f_law_mk_letters : Addr} {od_law_mk_letters an_law_mk_letters : Option Addr} {sl_law_mk_letters : Array (Option Value)} {oc_law_mk_letters kV_law_mk_letters dc_law_mk_letters pm_law_mk_letters cd_law_mk_letters ct_law_mk_letters : Value}
    {f_law_mr_whole : Addr} {od_law_mr_whole an_law_mr_whole : Option Addr} {sl_law_mr_whole : Array (Option Value)} {oc_law_mr_whole kV_law_mr_whole dc_law_mr_whole pm_law_mr_whole cd_law_mr_whole ct_law_mr_whole : Value}
    {f_is_between : Addr} {od_is_between an_is_between : Option Addr} {sl_is_between : Array (Option Value)} {oc_is_between kV_is_between dc_is_between pm_is_between cd_is_between ct_is_between : Value}
    {f_product_of : Addr} {od_product_of an_product_of : Option Addr} {sl_product_of : Array (Option Value)} {oc_product_of kV_product_of dc_product_of pm_product_of cd_product_of ct_product_of : Value}
    {f_middle_of : Addr} {od_middle_of an_middle_of : Option Addr} {sl_middle_of : Array (Option Value)} {oc_middle_of kV_middle_of dc_middle_of pm_middle_of cd_middle_of ct_middle_of : Value}
    {f_law_mk_ring : Addr} {od_law_mk_ring an_law_mk_ring : Option Addr} {sl_law_mk_ring : Array (Option Value)} {oc_law_mk_ring kV_law_mk_ring dc_law_mk_ring pm_law_mk_ring cd_law_mk_ring ct_law_mk_ring : Value}
    {f_law_mr_same : Addr} {od_law_mr_same an_law_mr_same : Option Addr} {sl_law_mr_same : Array (Option Value)} {oc_law_mr_same kV_law_mr_same dc_law_mr_same pm_law_mr_same cd_law_mr_same ct_law_mr_same : Value}
    {f_law_mr_is_row : Addr} {od_law_mr_is_row an_law_mr_is_row : Option Addr} {sl_law_mr_is_row : Array (Option Value)} {oc_law_mr_is_row kV_law_mr_is_row dc_law_mr_is_row pm_law_mr_is_row cd_law_mr_is_row ct_law_mr_is_row : Value}
    {f_law_mr_times : Addr} {od_law_mr_times an_law_mr_times : Option Addr} {sl_law_mr_times : Array (Option Value)} {oc_law_mr_times kV_law_mr_times dc_law_mr_times pm_law_mr_times cd_law_mr_times ct_law_mr_times : Value}
    {f_law_mr_turned : Addr} {od_law_mr_turned an_law_mr_turned : Option Addr} {sl_law_mr_turned : Array (Option Value)} {oc_law_mr_turned kV_law_mr_turned dc_law_mr_turned pm_law_mr_turned cd_law_mr_turned ct_law_mr_turned : Value}
    {f_need_deeds : Addr} {od_need_deeds an_need_deeds : Option Addr} {sl_need_deeds : Array (Option Value)} {oc_need_deeds kV_need_deeds dc_need_deeds pm_need_deeds cd_need_deeds ct_need_deeds : Value}
    {f_fits_letter : Addr} {od_fits_letter an_fits_letter : Option Addr} {sl_fits_letter : Array (Option Value)} {oc_fits_letter kV_fits_letter dc_fits_letter pm_fits_letter cd_fits_letter ct_fits_letter : Value}
    {f_ring_in : Addr} {od_ring_in an_ring_in : Option Addr} {sl_ring_in : Array (Option Value)} {oc_ring_in kV_ring_in dc_ring_in pm_ring_in cd_ring_in ct_ring_in : Value}
    {f_way_to_ring : Addr} {od_way_to_ring an_way_to_ring : Option Addr} {sl_way_to_ring : Array (Option Value)} {oc_way_to_ring kV_way_to_ring dc_way_to_ring pm_way_to_ring cd_way_to_ring ct_way_to_ring : Value}
    {f_law_pick : Addr} {od_law_pick an_law_pick : Option Addr} {sl_law_pick : Array (Option Value)} {oc_law_pick kV_law_pick dc_law_pick pm_law_pick cd_law_pick ct_law_pick : Value}
    {f_law_shuffled : Addr} {od_law_shuffled an_law_shuffled : Option Addr} {sl_law_shuffled : Array (Option Value)} {oc_law_shuffled kV_law_shuffled dc_law_shuffled pm_law_shuffled cd_law_shuffled ct_law_shuffled : Value}
    {f_law_mr_is_turner : Addr} {od_law_mr_is_turner an_law_mr_is_turner : Option Addr} {sl_law_mr_is_turner : Array (Option Value)} {oc_law_mr_is_turner kV_law_mr_is_turner dc_law_mr_is_turner pm_law_mr_is_turner cd_law_mr_is_turner ct_law_mr_is_turner : Value}
    {f_fits_row : Addr} {od_fits_row an_fits_row : Option Addr} {sl_fits_row : Array (Option Value)} {oc_fits_row kV_fits_row dc_fits_row pm_fits_row cd_fits_row ct_fits_row : Value}
    {f_law_mk_row : Addr} {od_law_mk_row an_law_mk_row : Option Addr} {sl_law_mk_row : Array (Option Value)} {oc_law_mk_row kV_law_mk_row dc_law_mk_row pm_law_mk_row cd_law_mk_row ct_law_mk_row : Value}
    {f_law_mk_raw : Addr} {od_law_mk_raw an_law_mk_raw : Option Addr} {sl_law_mk_raw : Array (Option Value)} {oc_law_mk_raw kV_law_mk_raw dc_law_mk_raw pm_law_mk_raw cd_law_mk_raw ct_law_mk_raw : Value}
    {f_law_mk_bad_deeds : Addr} {od_law_mk_bad_deeds an_law_mk_bad_deeds : Option Addr} {sl_law_mk_bad_deeds : Array (Option Value)} {oc_law_mk_bad_deeds kV_law_mk_bad_deeds dc_law_mk_bad_deeds pm_law_mk_bad_deeds cd_law_mk_bad_deeds ct_law_mk_bad_deeds : Value}
    {f_law_mk_bad_row : Addr} {od_law_mk_bad_row an_law_mk_bad_row : Option Addr} {sl_law_mk_bad_row : Array (Option Value)} {oc_law_mk_bad_row kV_law_mk_bad_row dc_law_mk_bad_row pm_law_mk_bad_row cd_law_mk_bad_row ct_law_mk_bad_row : Value}
    {f_need_row : Addr} {od_need_row an_need_row : Option Addr} {sl_need_row : Array (Option Value)} {oc_need_row kV_need_row dc_need_row pm_need_row cd_need_row ct_need_row : Value}
    {f_law_mr_row : Addr} {od_law_mr_row an_law_mr_row : Option Addr} {sl_law_mr_row : Array (Option Value)} {oc_law_mr_row kV_law_mr_row dc_law_mr_row pm_law_mr_row cd_law_mr_row ct_law_mr_row : Value}
    {f_law_mr_long : Addr} {od_law_mr_long an_law_mr_long : Option Addr} {sl_law_mr_long : Array (Option Value)} {oc_law_mr_long kV_law_mr_long dc_law_mr_long pm_law_mr_long cd_law_mr_long ct_law_mr_long : Value}
    {f_ring_of : Addr} {od_ring_of an_ring_of : Option Addr} {sl_ring_of : Array (Option Value)} {oc_ring_of kV_ring_of dc_ring_of pm_ring_of cd_ring_of ct_ring_of : Value}
    {f_turner : Addr} {od_turner an_turner : Option Addr} {sl_turner : Array (Option Value)} {oc_turner kV_turner dc_turner pm_turner cd_turner ct_turner : Value}
    {f_law_mr_mate : Addr} {od_law_mr_mate an_law_mr_mate : Option Addr} {sl_law_mr_mate : Array (Option Value)} {oc_law_mr_mate kV_law_mr_mate dc_law_mr_mate pm_law_mr_mate cd_law_mr_mate ct_law_mr_mate : Value}
    {f_law : Addr} {od_law an_law : Option Addr} {sl_law : Array (Option Value)} {oc_law kV_law dc_law pm_law  ct_law : Value}
    {c_law Pt_law : Addr} {e_law : Value} {dd_law : Option Addr} {vs_law : Array Value} {cl_law : Array (Option Value)}
    {C_KeepError : Addr}
    {C_BadDeeds : Addr}
    {C_BadRow : Addr}
    {t_MOST_DEEDS : Tok}
    {t_MOST_IN_ROW : Tok}
    (a_law_begun : PySem.W.nsIn K mainGlobals "_law_begun" = some (some (.ref f_law_begun)))
    (l_law_begun : K.lookup f_law_begun = some ⟨oc_law_begun, od_law_begun, .func (PySem.W.fnOf "_law_begun" "_law_begun" (defArgs s_law_begun) (defBody s_law_begun) (defScope s_law_begun) .none kV_law_begun dc_law_begun pm_law_begun an_law_begun cd_law_begun ct_law_begun), sl_law_begun⟩)
    (c_law_begun : PySem.W.codeIn K cd_law_begun "_law_begun" = true)
    (k_law_begun : PySem.W.keepIn K (.ref f_law_begun) = true)
    (a_law_blended : PySem.W.nsIn K mainGlobals "_law_blended" = some (some (.ref f_law_blended)))
    (l_law_blended : K.lookup f_law_blended = some ⟨oc_law_blended, od_law_blended, .func (PySem.W.fnOf "_law_blended" "_law_blended" (defArgs s_law_blended) (defBody s_law_blended) (defScope s_law_blended) .none kV_law_blended dc_law_blended pm_law_blended an_law_blended cd_law_blended ct_law_blended), sl_law_blended⟩)
    (c_law_blended : PySem.W.codeIn K cd_law_blended "_law_blended" = true)
    (k_law_blended : PySem.W.keepIn K (.ref f_law_blended) = true)
    (a_law_draw : PySem.W.nsIn K mainGlobals "_law_draw" = some (some (.ref f_law_draw)))
    (l_law_draw : K.lookup f_law_draw = some ⟨oc_law_draw, od_law_draw, .func (PySem.W.fnOf "_law_draw" "_law_draw" (defArgs s_law_draw) (defBody s_law_draw) (defScope s_law_draw) .none kV_law_draw dc_law_draw pm_law_draw an_law_draw cd_law_draw ct_law_draw), sl_law_draw⟩)
    (c_law_draw : PySem.W.codeIn K cd_law_draw "_law_draw" = true)
    (k_law_draw : PySem.W.keepIn K (.ref f_law_draw) = true)
    (a_law_caught : PySem.W.nsIn K mainGlobals "_law_caught" = some (some (.ref f_law_caught)))
    (l_law_caught : K.lookup f_law_caught = some ⟨oc_law_caught, od_law_caught, .func (PySem.W.fnOf "_law_caught" "_law_caught" (defArgs s_law_caught) (defBody s_law_caught) (defScope s_law_caught) .none kV_law_caught dc_law_caught pm_law_caught an_law_caught cd_law_caught ct_law_caught), sl_law_caught⟩)
    (c_law_caught : PySem.W.codeIn K cd_law_caught "_law_caught" = true)
    (k_law_caught : PySem.W.keepIn K (.ref f_law_caught) = true)
    (a_is_whole : PySem.W.nsIn K mainGlobals "is_whole" = some (some (.ref f_is_whole)))
    (l_is_whole : K.lookup f_is_whole = some ⟨oc_is_whole, od_is_whole, .func (PySem.W.fnOf "is_whole" "is_whole" (defArgs s_is_whole) (defBody s_is_whole) (defScope s_is_whole) .none kV_is_whole dc_is_whole pm_is_whole an_is_whole cd_is_whole ct_is_whole), sl_is_whole⟩)
    (c_is_whole : PySem.W.codeIn K cd_is_whole "is_whole" = true)
    (k_is_whole : PySem.W.keepIn K (.ref f_is_whole) = true)
    (a_plain_of : PySem.W.nsIn K mainGlobals "plain_of" = some (some (.ref f_plain_of)))
    (l_plain_of : K.lookup f_plain_of = some ⟨oc_plain_of, od_plain_of, .func (PySem.W.fnOf "plain_of" "plain_of" (defArgs s_plain_of) (defBody s_plain_of) (defScope s_plain_of) .none kV_plain_of dc_plain_of pm_plain_of an_plain_of cd_plain_of ct_plain_of), sl_plain_of⟩)
    (c_plain_of : PySem.W.codeIn K cd_plain_of "plain_of" = true)
    (k_plain_of : PySem.W.keepIn K (.ref f_plain_of) = true)
    (a_undone_of : PySem.W.nsIn K mainGlobals "undone_of" = some (some (.ref f_undone_of)))
    (l_undone_of : K.lookup f_undone_of = some ⟨oc_undone_of, od_undone_of, .func (PySem.W.fnOf "undone_of" "undone_of" (defArgs s_undone_of) (defBody s_undone_of) (defScope s_undone_of) .none kV_undone_of dc_undone_of pm_undone_of an_undone_of cd_undone_of ct_undone_of), sl_undone_of⟩)
    (c_undone_of : PySem.W.codeIn K cd_undone_of "undone_of" = true)
    (k_undone_of : PySem.W.keepIn K (.ref f_undone_of) = true)
    (a_tail_of : PySem.W.nsIn K mainGlobals "tail_of" = some (some (.ref f_tail_of)))
    (l_tail_of : K.lookup f_tail_of = some ⟨oc_tail_of, od_tail_of, .func (PySem.W.fnOf "tail_of" "tail_of" (defArgs s_tail_of) (defBody s_tail_of) (defScope s_tail_of) .none kV_tail_of dc_tail_of pm_tail_of an_tail_of cd_tail_of ct_tail_of), sl_tail_of⟩)
    (c_tail_of : PySem.W.codeIn K cd_tail_of "tail_of" = true)
    (k_tail_of : PySem.W.keepIn K (.ref f_tail_of) = true)
    (a_least_start : PySem.W.nsIn K mainGlobals "least_start" = some (some (.ref f_least_start)))
    (l_least_start : K.lookup f_least_start = some ⟨oc_least_start, od_least_start, .func (PySem.W.fnOf "least_start" "least_start" (defArgs s_least_start) (defBody s_least_start) (defScope s_least_start) .none kV_least_start dc_least_start pm_least_start an_least_start cd_least_start ct_least_start), sl_least_start⟩)
    (c_least_start : PySem.W.codeIn K cd_least_start "least_start" = true)
    (k_least_start : PySem.W.keepIn K (.ref f_least_start) = true)
    (a_law_mk_plain : PySem.W.nsIn K mainGlobals "_law_mk_plain" = some (some (.ref f_law_mk_plain)))
    (l_law_mk_plain : K.lookup f_law_mk_plain = some ⟨oc_law_mk_plain, od_law_mk_plain, .func (PySem.W.fnOf "_law_mk_plain" "_law_mk_plain" (defArgs s_law_mk_plain) (defBody s_law_mk_plain) (defScope s_law_mk_plain) .none kV_law_mk_plain dc_law_mk_plain pm_law_mk_plain an_law_mk_plain cd_law_mk_plain ct_law_mk_plain), sl_law_mk_plain⟩)
    (c_law_mk_plain : PySem.W.codeIn K cd_law_mk_plain "_law_mk_plain" = true)
    (k_law_mk_plain : PySem.W.keepIn K (.ref f_law_mk_plain) = true)
    (a_law_mk_undone : PySem.W.nsIn K mainGlobals "_law_mk_undone" = some (some (.ref f_law_mk_undone)))
    (l_law_mk_undone : K.lookup f_law_mk_undone = some ⟨oc_law_mk_undone, od_law_mk_undone, .func (PySem.W.fnOf "_law_mk_undone" "_law_mk_undone" (defArgs s_law_mk_undone) (defBody s_law_mk_undone) (defScope s_law_mk_undone) .none kV_law_mk_undone dc_law_mk_undone pm_law_mk_undone an_law_mk_undone cd_law_mk_undone ct_law_mk_undone), sl_law_mk_undone⟩)
    (c_law_mk_undone : PySem.W.codeIn K cd_law_mk_undone "_law_mk_undone" = true)
    (k_law_mk_undone : PySem.W.keepIn K (.ref f_law_mk_undone) = true)
    (a_law_mk_letters : PySem.W.nsIn K mainGlobals "_law_mk_letters" = some (some (.ref f_law_mk_letters)))
    (l_law_mk_letters : K.lookup f_law_mk_letters = some ⟨oc_law_mk_letters, od_law_mk_letters, .func (PySem.W.fnOf "_law_mk_letters" "_law_mk_letters" (defArgs s_law_mk_letters) (defBody s_law_mk_letters) (defScope s_law_mk_letters) .none kV_law_mk_letters dc_law_mk_letters pm_law_mk_letters an_law_mk_letters cd_law_mk_letters ct_law_mk_letters), sl_law_mk_letters⟩)
    (c_law_mk_letters : PySem.W.codeIn K cd_law_mk_letters "_law_mk_letters" = true)
    (k_law_mk_letters : PySem.W.keepIn K (.ref f_law_mk_letters) = true)
    (a_law_mr_whole : PySem.W.nsIn K mainGlobals "_law_mr_whole" = some (some (.ref f_law_mr_whole)))
    (l_law_mr_whole : K.lookup f_law_mr_whole = some ⟨oc_law_mr_whole, od_law_mr_whole, .func (PySem.W.fnOf "_law_mr_whole" "_law_mr_whole" (defArgs s_law_mr_whole) (defBody s_law_mr_whole) (defScope s_law_mr_whole) .none kV_law_mr_whole dc_law_mr_whole pm_law_mr_whole an_law_mr_whole cd_law_mr_whole ct_law_mr_whole), sl_law_mr_whole⟩)
    (c_law_mr_whole : PySem.W.codeIn K cd_law_mr_whole "_law_mr_whole" = true)
    (k_law_mr_whole : PySem.W.keepIn K (.ref f_law_mr_whole) = true)
    (a_is_between : PySem.W.nsIn K mainGlobals "is_between" = some (some (.ref f_is_between)))
    (l_is_between : K.lookup f_is_between = some ⟨oc_is_between, od_is_between, .func (PySem.W.fnOf "is_between" "is_between" (defArgs s_is_between) (defBody s_is_between) (defScope s_is_between) .none kV_is_between dc_is_between pm_is_between an_is_between cd_is_between ct_is_between), sl_is_between⟩)
    (c_is_between : PySem.W.codeIn K cd_is_between "is_between" = true)
    (k_is_between : PySem.W.keepIn K (.ref f_is_between) = true)
    (a_product_of : PySem.W.nsIn K mainGlobals "product_of" = some (some (.ref f_product_of)))
    (l_product_of : K.lookup f_product_of = some ⟨oc_product_of, od_product_of, .func (PySem.W.fnOf "product_of" "product_of" (defArgs s_product_of) (defBody s_product_of) (defScope s_product_of) .none kV_product_of dc_product_of pm_product_of an_product_of cd_product_of ct_product_of), sl_product_of⟩)
    (c_product_of : PySem.W.codeIn K cd_product_of "product_of" = true)
    (k_product_of : PySem.W.keepIn K (.ref f_product_of) = true)
    (a_middle_of : PySem.W.nsIn K mainGlobals "middle_of" = some (some (.ref f_middle_of)))
    (l_middle_of : K.lookup f_middle_of = some ⟨oc_middle_of, od_middle_of, .func (PySem.W.fnOf "middle_of" "middle_of" (defArgs s_middle_of) (defBody s_middle_of) (defScope s_middle_of) .none kV_middle_of dc_middle_of pm_middle_of an_middle_of cd_middle_of ct_middle_of), sl_middle_of⟩)
    (c_middle_of : PySem.W.codeIn K cd_middle_of "middle_of" = true)
    (k_middle_of : PySem.W.keepIn K (.ref f_middle_of) = true)
    (a_law_mk_ring : PySem.W.nsIn K mainGlobals "_law_mk_ring" = some (some (.ref f_law_mk_ring)))
    (l_law_mk_ring : K.lookup f_law_mk_ring = some ⟨oc_law_mk_ring, od_law_mk_ring, .func (PySem.W.fnOf "_law_mk_ring" "_law_mk_ring" (defArgs s_law_mk_ring) (defBody s_law_mk_ring) (defScope s_law_mk_ring) .none kV_law_mk_ring dc_law_mk_ring pm_law_mk_ring an_law_mk_ring cd_law_mk_ring ct_law_mk_ring), sl_law_mk_ring⟩)
    (c_law_mk_ring : PySem.W.codeIn K cd_law_mk_ring "_law_mk_ring" = true)
    (k_law_mk_ring : PySem.W.keepIn K (.ref f_law_mk_ring) = true)
    (a_law_mr_same : PySem.W.nsIn K mainGlobals "_law_mr_same" = some (some (.ref f_law_mr_same)))
    (l_law_mr_same : K.lookup f_law_mr_same = some ⟨oc_law_mr_same, od_law_mr_same, .func (PySem.W.fnOf "_law_mr_same" "_law_mr_same" (defArgs s_law_mr_same) (defBody s_law_mr_same) (defScope s_law_mr_same) .none kV_law_mr_same dc_law_mr_same pm_law_mr_same an_law_mr_same cd_law_mr_same ct_law_mr_same), sl_law_mr_same⟩)
    (c_law_mr_same : PySem.W.codeIn K cd_law_mr_same "_law_mr_same" = true)
    (k_law_mr_same : PySem.W.keepIn K (.ref f_law_mr_same) = true)
    (a_law_mr_is_row : PySem.W.nsIn K mainGlobals "_law_mr_is_row" = some (some (.ref f_law_mr_is_row)))
    (l_law_mr_is_row : K.lookup f_law_mr_is_row = some ⟨oc_law_mr_is_row, od_law_mr_is_row, .func (PySem.W.fnOf "_law_mr_is_row" "_law_mr_is_row" (defArgs s_law_mr_is_row) (defBody s_law_mr_is_row) (defScope s_law_mr_is_row) .none kV_law_mr_is_row dc_law_mr_is_row pm_law_mr_is_row an_law_mr_is_row cd_law_mr_is_row ct_law_mr_is_row), sl_law_mr_is_row⟩)
    (c_law_mr_is_row : PySem.W.codeIn K cd_law_mr_is_row "_law_mr_is_row" = true)
    (k_law_mr_is_row : PySem.W.keepIn K (.ref f_law_mr_is_row) = true)
    (a_law_mr_times : PySem.W.nsIn K mainGlobals "_law_mr_times" = some (some (.ref f_law_mr_times)))
    (l_law_mr_times : K.lookup f_law_mr_times = some ⟨oc_law_mr_times, od_law_mr_times, .func (PySem.W.fnOf "_law_mr_times" "_law_mr_times" (defArgs s_law_mr_times) (defBody s_law_mr_times) (defScope s_law_mr_times) .none kV_law_mr_times dc_law_mr_times pm_law_mr_times an_law_mr_times cd_law_mr_times ct_law_mr_times), sl_law_mr_times⟩)
    (c_law_mr_times : PySem.W.codeIn K cd_law_mr_times "_law_mr_times" = true)
    (k_law_mr_times : PySem.W.keepIn K (.ref f_law_mr_times) = true)
    (a_law_mr_turned : PySem.W.nsIn K mainGlobals "_law_mr_turned" = some (some (.ref f_law_mr_turned)))
    (l_law_mr_turned : K.lookup f_law_mr_turned = some ⟨oc_law_mr_turned, od_law_mr_turned, .func (PySem.W.fnOf "_law_mr_turned" "_law_mr_turned" (defArgs s_law_mr_turned) (defBody s_law_mr_turned) (defScope s_law_mr_turned) .none kV_law_mr_turned dc_law_mr_turned pm_law_mr_turned an_law_mr_turned cd_law_mr_turned ct_law_mr_turned), sl_law_mr_turned⟩)
    (c_law_mr_turned : PySem.W.codeIn K cd_law_mr_turned "_law_mr_turned" = true)
    (k_law_mr_turned : PySem.W.keepIn K (.ref f_law_mr_turned) = true)
    (a_need_deeds : PySem.W.nsIn K mainGlobals "need_deeds" = some (some (.ref f_need_deeds)))
    (l_need_deeds : K.lookup f_need_deeds = some ⟨oc_need_deeds, od_need_deeds, .func (PySem.W.fnOf "need_deeds" "need_deeds" (defArgs s_need_deeds) (defBody s_need_deeds) (defScope s_need_deeds) .none kV_need_deeds dc_need_deeds pm_need_deeds an_need_deeds cd_need_deeds ct_need_deeds), sl_need_deeds⟩)
    (c_need_deeds : PySem.W.codeIn K cd_need_deeds "need_deeds" = true)
    (k_need_deeds : PySem.W.keepIn K (.ref f_need_deeds) = true)
    (a_fits_letter : PySem.W.nsIn K mainGlobals "fits_letter" = some (some (.ref f_fits_letter)))
    (l_fits_letter : K.lookup f_fits_letter = some ⟨oc_fits_letter, od_fits_letter, .func (PySem.W.fnOf "fits_letter" "fits_letter" (defArgs s_fits_letter) (defBody s_fits_letter) (defScope s_fits_letter) .none kV_fits_letter dc_fits_letter pm_fits_letter an_fits_letter cd_fits_letter ct_fits_letter), sl_fits_letter⟩)
    (c_fits_letter : PySem.W.codeIn K cd_fits_letter "fits_letter" = true)
    (k_fits_letter : PySem.W.keepIn K (.ref f_fits_letter) = true)
    (a_ring_in : PySem.W.nsIn K mainGlobals "ring_in" = some (some (.ref f_ring_in)))
    (l_ring_in : K.lookup f_ring_in = some ⟨oc_ring_in, od_ring_in, .func (PySem.W.fnOf "ring_in" "ring_in" (defArgs s_ring_in) (defBody s_ring_in) (defScope s_ring_in) .none kV_ring_in dc_ring_in pm_ring_in an_ring_in cd_ring_in ct_ring_in), sl_ring_in⟩)
    (c_ring_in : PySem.W.codeIn K cd_ring_in "ring_in" = true)
    (k_ring_in : PySem.W.keepIn K (.ref f_ring_in) = true)
    (a_way_to_ring : PySem.W.nsIn K mainGlobals "way_to_ring" = some (some (.ref f_way_to_ring)))
    (l_way_to_ring : K.lookup f_way_to_ring = some ⟨oc_way_to_ring, od_way_to_ring, .func (PySem.W.fnOf "way_to_ring" "way_to_ring" (defArgs s_way_to_ring) (defBody s_way_to_ring) (defScope s_way_to_ring) .none kV_way_to_ring dc_way_to_ring pm_way_to_ring an_way_to_ring cd_way_to_ring ct_way_to_ring), sl_way_to_ring⟩)
    (c_way_to_ring : PySem.W.codeIn K cd_way_to_ring "way_to_ring" = true)
    (k_way_to_ring : PySem.W.keepIn K (.ref f_way_to_ring) = true)
    (a_law_pick : PySem.W.nsIn K mainGlobals "_law_pick" = some (some (.ref f_law_pick)))
    (l_law_pick : K.lookup f_law_pick = some ⟨oc_law_pick, od_law_pick, .func (PySem.W.fnOf "_law_pick" "_law_pick" (defArgs s_law_pick) (defBody s_law_pick) (defScope s_law_pick) .none kV_law_pick dc_law_pick pm_law_pick an_law_pick cd_law_pick ct_law_pick), sl_law_pick⟩)
    (c_law_pick : PySem.W.codeIn K cd_law_pick "_law_pick" = true)
    (k_law_pick : PySem.W.keepIn K (.ref f_law_pick) = true)
    (a_law_shuffled : PySem.W.nsIn K mainGlobals "_law_shuffled" = some (some (.ref f_law_shuffled)))
    (l_law_shuffled : K.lookup f_law_shuffled = some ⟨oc_law_shuffled, od_law_shuffled, .func (PySem.W.fnOf "_law_shuffled" "_law_shuffled" (defArgs s_law_shuffled) (defBody s_law_shuffled) (defScope s_law_shuffled) .none kV_law_shuffled dc_law_shuffled pm_law_shuffled an_law_shuffled cd_law_shuffled ct_law_shuffled), sl_law_shuffled⟩)
    (c_law_shuffled : PySem.W.codeIn K cd_law_shuffled "_law_shuffled" = true)
    (k_law_shuffled : PySem.W.keepIn K (.ref f_law_shuffled) = true)
    (a_law_mr_is_turner : PySem.W.nsIn K mainGlobals "_law_mr_is_turner" = some (some (.ref f_law_mr_is_turner)))
    (l_law_mr_is_turner : K.lookup f_law_mr_is_turner = some ⟨oc_law_mr_is_turner, od_law_mr_is_turner, .func (PySem.W.fnOf "_law_mr_is_turner" "_law_mr_is_turner" (defArgs s_law_mr_is_turner) (defBody s_law_mr_is_turner) (defScope s_law_mr_is_turner) .none kV_law_mr_is_turner dc_law_mr_is_turner pm_law_mr_is_turner an_law_mr_is_turner cd_law_mr_is_turner ct_law_mr_is_turner), sl_law_mr_is_turner⟩)
    (c_law_mr_is_turner : PySem.W.codeIn K cd_law_mr_is_turner "_law_mr_is_turner" = true)
    (k_law_mr_is_turner : PySem.W.keepIn K (.ref f_law_mr_is_turner) = true)
    (a_fits_row : PySem.W.nsIn K mainGlobals "fits_row" = some (some (.ref f_fits_row)))
    (l_fits_row : K.lookup f_fits_row = some ⟨oc_fits_row, od_fits_row, .func (PySem.W.fnOf "fits_row" "fits_row" (defArgs s_fits_row) (defBody s_fits_row) (defScope s_fits_row) .none kV_fits_row dc_fits_row pm_fits_row an_fits_row cd_fits_row ct_fits_row), sl_fits_row⟩)
    (c_fits_row : PySem.W.codeIn K cd_fits_row "fits_row" = true)
    (k_fits_row : PySem.W.keepIn K (.ref f_fits_row) = true)
    (a_law_mk_row : PySem.W.nsIn K mainGlobals "_law_mk_row" = some (some (.ref f_law_mk_row)))
    (l_law_mk_row : K.lookup f_law_mk_row = some ⟨oc_law_mk_row, od_law_mk_row, .func (PySem.W.fnOf "_law_mk_row" "_law_mk_row" (defArgs s_law_mk_row) (defBody s_law_mk_row) (defScope s_law_mk_row) .none kV_law_mk_row dc_law_mk_row pm_law_mk_row an_law_mk_row cd_law_mk_row ct_law_mk_row), sl_law_mk_row⟩)
    (c_law_mk_row : PySem.W.codeIn K cd_law_mk_row "_law_mk_row" = true)
    (k_law_mk_row : PySem.W.keepIn K (.ref f_law_mk_row) = true)
    (a_law_mk_raw : PySem.W.nsIn K mainGlobals "_law_mk_raw" = some (some (.ref f_law_mk_raw)))
    (l_law_mk_raw : K.lookup f_law_mk_raw = some ⟨oc_law_mk_raw, od_law_mk_raw, .func (PySem.W.fnOf "_law_mk_raw" "_law_mk_raw" (defArgs s_law_mk_raw) (defBody s_law_mk_raw) (defScope s_law_mk_raw) .none kV_law_mk_raw dc_law_mk_raw pm_law_mk_raw an_law_mk_raw cd_law_mk_raw ct_law_mk_raw), sl_law_mk_raw⟩)
    (c_law_mk_raw : PySem.W.codeIn K cd_law_mk_raw "_law_mk_raw" = true)
    (k_law_mk_raw : PySem.W.keepIn K (.ref f_law_mk_raw) = true)
    (a_law_mk_bad_deeds : PySem.W.nsIn K mainGlobals "_law_mk_bad_deeds" = some (some (.ref f_law_mk_bad_deeds)))
    (l_law_mk_bad_deeds : K.lookup f_law_mk_bad_deeds = some ⟨oc_law_mk_bad_deeds, od_law_mk_bad_deeds, .func (PySem.W.fnOf "_law_mk_bad_deeds" "_law_mk_bad_deeds" (defArgs s_law_mk_bad_deeds) (defBody s_law_mk_bad_deeds) (defScope s_law_mk_bad_deeds) .none kV_law_mk_bad_deeds dc_law_mk_bad_deeds pm_law_mk_bad_deeds an_law_mk_bad_deeds cd_law_mk_bad_deeds ct_law_mk_bad_deeds), sl_law_mk_bad_deeds⟩)
    (c_law_mk_bad_deeds : PySem.W.codeIn K cd_law_mk_bad_deeds "_law_mk_bad_deeds" = true)
    (k_law_mk_bad_deeds : PySem.W.keepIn K (.ref f_law_mk_bad_deeds) = true)
    (a_law_mk_bad_row : PySem.W.nsIn K mainGlobals "_law_mk_bad_row" = some (some (.ref f_law_mk_bad_row)))
    (l_law_mk_bad_row : K.lookup f_law_mk_bad_row = some ⟨oc_law_mk_bad_row, od_law_mk_bad_row, .func (PySem.W.fnOf "_law_mk_bad_row" "_law_mk_bad_row" (defArgs s_law_mk_bad_row) (defBody s_law_mk_bad_row) (defScope s_law_mk_bad_row) .none kV_law_mk_bad_row dc_law_mk_bad_row pm_law_mk_bad_row an_law_mk_bad_row cd_law_mk_bad_row ct_law_mk_bad_row), sl_law_mk_bad_row⟩)
    (c_law_mk_bad_row : PySem.W.codeIn K cd_law_mk_bad_row "_law_mk_bad_row" = true)
    (k_law_mk_bad_row : PySem.W.keepIn K (.ref f_law_mk_bad_row) = true)
    (a_need_row : PySem.W.nsIn K mainGlobals "need_row" = some (some (.ref f_need_row)))
    (l_need_row : K.lookup f_need_row = some ⟨oc_need_row, od_need_row, .func (PySem.W.fnOf "need_row" "need_row" (defArgs s_need_row) (defBody s_need_row) (defScope s_need_row) .none kV_need_row dc_need_row pm_need_row an_need_row cd_need_row ct_need_row), sl_need_row⟩)
    (c_need_row : PySem.W.codeIn K cd_need_row "need_row" = true)
    (k_need_row : PySem.W.keepIn K (.ref f_need_row) = true)
    (a_law_mr_row : PySem.W.nsIn K mainGlobals "_law_mr_row" = some (some (.ref f_law_mr_row)))
    (l_law_mr_row : K.lookup f_law_mr_row = some ⟨oc_law_mr_row, od_law_mr_row, .func (PySem.W.fnOf "_law_mr_row" "_law_mr_row" (defArgs s_law_mr_row) (defBody s_law_mr_row) (defScope s_law_mr_row) .none kV_law_mr_row dc_law_mr_row pm_law_mr_row an_law_mr_row cd_law_mr_row ct_law_mr_row), sl_law_mr_row⟩)
    (c_law_mr_row : PySem.W.codeIn K cd_law_mr_row "_law_mr_row" = true)
    (k_law_mr_row : PySem.W.keepIn K (.ref f_law_mr_row) = true)
    (a_law_mr_long : PySem.W.nsIn K mainGlobals "_law_mr_long" = some (some (.ref f_law_mr_long)))
    (l_law_mr_long : K.lookup f_law_mr_long = some ⟨oc_law_mr_long, od_law_mr_long, .func (PySem.W.fnOf "_law_mr_long" "_law_mr_long" (defArgs s_law_mr_long) (defBody s_law_mr_long) (defScope s_law_mr_long) .none kV_law_mr_long dc_law_mr_long pm_law_mr_long an_law_mr_long cd_law_mr_long ct_law_mr_long), sl_law_mr_long⟩)
    (c_law_mr_long : PySem.W.codeIn K cd_law_mr_long "_law_mr_long" = true)
    (k_law_mr_long : PySem.W.keepIn K (.ref f_law_mr_long) = true)
    (a_ring_of : PySem.W.nsIn K mainGlobals "ring_of" = some (some (.ref f_ring_of)))
    (l_ring_of : K.lookup f_ring_of = some ⟨oc_ring_of, od_ring_of, .func (PySem.W.fnOf "ring_of" "ring_of" (defArgs s_ring_of) (defBody s_ring_of) (defScope s_ring_of) .none kV_ring_of dc_ring_of pm_ring_of an_ring_of cd_ring_of ct_ring_of), sl_ring_of⟩)
    (c_ring_of : PySem.W.codeIn K cd_ring_of "ring_of" = true)
    (k_ring_of : PySem.W.keepIn K (.ref f_ring_of) = true)
    (a_turner : PySem.W.nsIn K mainGlobals "turner" = some (some (.ref f_turner)))
    (l_turner : K.lookup f_turner = some ⟨oc_turner, od_turner, .func (PySem.W.fnOf "turner" "turner" (defArgs s_turner) (defBody s_turner) (defScope s_turner) .none kV_turner dc_turner pm_turner an_turner cd_turner ct_turner), sl_turner⟩)
    (c_turner : PySem.W.codeIn K cd_turner "turner" = true)
    (k_turner : PySem.W.keepIn K (.ref f_turner) = true)
    (a_law_mr_mate : PySem.W.nsIn K mainGlobals "_law_mr_mate" = some (some (.ref f_law_mr_mate)))
    (l_law_mr_mate : K.lookup f_law_mr_mate = some ⟨oc_law_mr_mate, od_law_mr_mate, .func (PySem.W.fnOf "_law_mr_mate" "_law_mr_mate" (defArgs s_law_mr_mate) (defBody s_law_mr_mate) (defScope s_law_mr_mate) .none kV_law_mr_mate dc_law_mr_mate pm_law_mr_mate an_law_mr_mate cd_law_mr_mate ct_law_mr_mate), sl_law_mr_mate⟩)
    (c_law_mr_mate : PySem.W.codeIn K cd_law_mr_mate "_law_mr_mate" = true)
    (k_law_mr_mate : PySem.W.keepIn K (.ref f_law_mr_mate) = true)
    (a_law : PySem.W.nsIn K mainGlobals "law" = some (some (.ref f_law)))
    (l_law : K.lookup f_law = some ⟨oc_law, od_law, .func (PySem.W.fnOf "law" "law" (defArgs s_law) (defBody s_law) (defScope s_law) .none kV_law dc_law pm_law an_law (.ref c_law) ct_law), sl_law⟩)
    (c_law_ : PySem.W.codeIn K (.ref c_law) "law" = true)
    (k_law : PySem.W.keepIn K (.ref f_law) = true)
    (lc_law : K.lookup c_law = some ⟨e_law, dd_law, .fields vs_law, cl_law⟩)
    (hP_law : vs_law[11]? = some (.ref Pt_law))
    (hh_law : PySem.W.codeHdIn K c_law Pt_law = true)
    (nP_law : K.lookup Pt_law = none)
    (aC_KeepError : PySem.W.nsIn K mainGlobals "KeepError" = some (some (.ref C_KeepError)))
    (aC_BadDeeds : PySem.W.nsIn K mainGlobals "BadDeeds" = some (some (.ref C_BadDeeds)))
    (aC_BadRow : PySem.W.nsIn K mainGlobals "BadRow" = some (some (.ref C_BadRow)))
    (kC_BadDeeds : PySem.W.keepIn K (.ref C_BadDeeds) = true)
    (xC_BadDeeds : PySem.W.excIn K C_BadDeeds [.type "ValueError", .type "Exception", .type "BaseException", .type "object"] "ValueError.__new__" = true)
    (bC_BadDeeds : PySem.W.subIn K (.ref C_BadDeeds) (.type "BaseException") = some true)
    (tC_BadDeeds : PySem.W.typeIn K (.ref C_BadDeeds) = some (.type "type"))
    (g1_BadDeeds : PySem.W.findIn K (.ref C_BadDeeds) "__getattribute__" = some (some (.builtin "BaseException.__getattribute__")))
    (g2_BadDeeds : PySem.W.findIn K (.ref C_BadDeeds) "__getattr__" = some none)
    (g3_BadDeeds : PySem.W.hasDictIn K C_BadDeeds = true)
    (g4_BadDeeds : PySem.W.findIn K (.ref C_BadDeeds) "__class__" = some (some (.builtin "object.__class__")))
    (g5_BadDeeds : PySem.W.mroIn K C_BadDeeds (.type "object") = some true)
    (ex_BadDeeds : PySem.W.exmOne K (.ref C_BadDeeds) (.ref C_KeepError) = some true)
    (ki_BadDeeds_BadDeeds : PySem.W.kitOne K (.ref C_BadDeeds) (.ref C_BadDeeds) = some true)
    (ki_BadDeeds_BadRow : PySem.W.kitOne K (.ref C_BadDeeds) (.ref C_BadRow) = some false)
    (kC_BadRow : PySem.W.keepIn K (.ref C_BadRow) = true)
    (xC_BadRow : PySem.W.excIn K C_BadRow [.type "ValueError", .type "Exception", .type "BaseException", .type "object"] "ValueError.__new__" = true)
    (bC_BadRow : PySem.W.subIn K (.ref C_BadRow) (.type "BaseException") = some true)
    (tC_BadRow : PySem.W.typeIn K (.ref C_BadRow) = some (.type "type"))
    (g1_BadRow : PySem.W.findIn K (.ref C_BadRow) "__getattribute__" = some (some (.builtin "BaseException.__getattribute__")))
    (g2_BadRow : PySem.W.findIn K (.ref C_BadRow) "__getattr__" = some none)
    (g3_BadRow : PySem.W.hasDictIn K C_BadRow = true)
    (g4_BadRow : PySem.W.findIn K (.ref C_BadRow) "__class__" = some (some (.builtin "object.__class__")))
    (g5_BadRow : PySem.W.mroIn K C_BadRow (.type "object") = some true)
    (ex_BadRow : PySem.W.exmOne K (.ref C_BadRow) (.ref C_KeepError) = some true)
    (ki_BadRow_BadDeeds : PySem.W.kitOne K (.ref C_BadRow) (.ref C_BadDeeds) = some false)
    (ki_BadRow_BadRow : PySem.W.kitOne K (.ref C_BadRow) (.ref C_BadRow) = some true)
    (u1 : PySem.W.specialIn K (.builtin "object.__class__") "__get__" = some (some (.builtin "getset_descriptor.__get__")))
    (u2 : PySem.W.takesIn K (.builtin "object.__class__") = some true)
    (z_abs : PySem.W.nsIn K mainGlobals "abs" = some none)
    (z_all : PySem.W.nsIn K mainGlobals "all" = some none)
    (z_bool : PySem.W.nsIn K mainGlobals "bool" = some none)
    (gi_MOST_DEEDS : PySem.W.nsIn K mainGlobals "MOST_DEEDS" = some (some (.int 4 t_MOST_DEEDS)))
    (gi_MOST_IN_ROW : PySem.W.nsIn K mainGlobals "MOST_IN_ROW" = some (some (.int 200 t_MOST_IN_ROW)))
    (z_int : PySem.W.nsIn K mainGlobals "int" = some none)
    (z_isinstance : PySem.W.nsIn K mainGlobals "isinstance" = some none)
    (z_len : PySem.W.nsIn K mainGlobals "len" = some none)
    (z_list : PySem.W.nsIn K mainGlobals "list" = some none)
    (z_min : PySem.W.nsIn K mainGlobals "min" = some none)
    (z_range : PySem.W.nsIn K mainGlobals "range" = some none)
    (z_reversed : PySem.W.nsIn K mainGlobals "reversed" = some none)
    (z_str : PySem.W.nsIn K mainGlobals "str" = some none)
    (z_tuple : PySem.W.nsIn K mainGlobals "tuple" = some none)
    (ow_law : LamX.OwnTab K f_law h) :
    LamX.LawAtS l w K (L2.CX l.prog w) 9 63 "_law_script" mg fa h := by
  have e := hfa.symm.trans (PySem.W.mg_of X G a_law)
  cases e
  obtain ⟨en, hen⟩ : ∃ en : En, en = ⟨[(Pt_law, ("law.<locals>." : Str) ++ "<lambda>")], C_KeepError, C_BadDeeds, C_BadRow⟩ := ⟨_, rfl⟩
  have S : SF K mg en := by
    subst hen
    constructor
    · exact PySem.W.mg_none_of X G z_abs
    · exact PySem.W.mg_none_of X G z_all
    · exact PySem.W.mg_none_of X G z_bool
    · exact ⟨_, PySem.W.mg_of X G gi_MOST_DEEDS⟩
    · exact ⟨_, PySem.W.mg_of X G gi_MOST_IN_ROW⟩
    · exact PySem.W.mg_none_of X G z_int
    · exact PySem.W.mg_none_of X G z_isinstance
    · exact PySem.W.mg_none_of X G z_len
    · exact PySem.W.mg_none_of X G z_list
    · exact PySem.W.mg_none_of X G z_min
    · exact PySem.W.mg_none_of X G z_range
    · exact PySem.W.mg_none_of X G z_reversed
    · exact PySem.W.mg_none_of X G z_str
    · exact PySem.W.mg_none_of X G z_tuple
    · exact ⟨PySem.W.mg_of X G aC_BadDeeds, kC_BadDeeds, xC_BadDeeds, bC_BadDeeds, tC_BadDeeds⟩
    · exact ⟨PySem.W.mg_of X G aC_BadRow, kC_BadRow, xC_BadRow, bC_BadRow, tC_BadRow⟩
    · exact PySem.W.mg_of X G aC_KeepError
    · intro C hC
      simp only [En.cs, List.mem_cons, List.not_mem_nil, or_false] at hC
      rcases hC with rfl | rfl
      · exact ex_BadDeeds
      · exact ex_BadRow
    · intro p hp
      simp only [En.t_BadDeeds, List.mem_cons, List.not_mem_nil, or_false] at hp
      rcases hp with rfl | rfl
      · exact ⟨⟨g1_BadDeeds, g2_BadDeeds, bC_BadDeeds, g3_BadDeeds, g4_BadDeeds, u1, u2, g5_BadDeeds⟩, ki_BadDeeds_BadDeeds⟩
      · exact ⟨⟨g1_BadRow, g2_BadRow, bC_BadRow, g3_BadRow, g4_BadRow, u1, u2, g5_BadRow⟩, ki_BadRow_BadDeeds⟩
    · intro p hp
      simp only [En.t_BadRow, List.mem_cons, List.not_mem_nil, or_false] at hp
      rcases hp with rfl | rfl
      · exact ⟨⟨g1_BadDeeds, g2_BadDeeds, bC_BadDeeds, g3_BadDeeds, g4_BadDeeds, u1, u2, g5_BadDeeds⟩, ki_BadDeeds_BadRow⟩
      · exact ⟨⟨g1_BadRow, g2_BadRow, bC_BadRow, g3_BadRow, g4_BadRow, u1, u2, g5_BadRow⟩, ki_BadRow_BadRow⟩
  have dh : Dst en := by
    subst hen
    exact ⟨(fun z => by have z : C_BadDeeds = C_BadRow := z; rw [z] at ki_BadDeeds_BadRow; cases ki_BadDeeds_BadRow.symm.trans ki_BadRow_BadRow)⟩
  have U_law_begun := fun_mk (st := s_law_begun) l_law_begun c_law_begun k_law_begun
  have U_law_blended := fun_mk (st := s_law_blended) l_law_blended c_law_blended k_law_blended
  have U_law_draw := fun_mk (st := s_law_draw) l_law_draw c_law_draw k_law_draw
  have U_law_caught := fun_mk (st := s_law_caught) l_law_caught c_law_caught k_law_caught
  have U_is_whole := fun_mk (st := s_is_whole) l_is_whole c_is_whole k_is_whole
  have U_plain_of := fun_mk (st := s_plain_of) l_plain_of c_plain_of k_plain_of
  have U_undone_of := fun_mk (st := s_undone_of) l_undone_of c_undone_of k_undone_of
  have U_tail_of := fun_mk (st := s_tail_of) l_tail_of c_tail_of k_tail_of
  have U_least_start := fun_mk (st := s_least_start) l_least_start c_least_start k_least_start
  have U_law_mk_plain := fun_mk (st := s_law_mk_plain) l_law_mk_plain c_law_mk_plain k_law_mk_plain
  have U_law_mk_undone := fun_mk (st := s_law_mk_undone) l_law_mk_undone c_law_mk_undone k_law_mk_undone
  have U_law_mk_letters := fun_mk (st := s_law_mk_letters) l_law_mk_letters c_law_mk_letters k_law_mk_letters
  have U_law_mr_whole := fun_mk (st := s_law_mr_whole) l_law_mr_whole c_law_mr_whole k_law_mr_whole
  have U_is_between := fun_mk (st := s_is_between) l_is_between c_is_between k_is_between
  have U_product_of := fun_mk (st := s_product_of) l_product_of c_product_of k_product_of
  have U_middle_of := fun_mk (st := s_middle_of) l_middle_of c_middle_of k_middle_of
  have U_law_mk_ring := fun_mk (st := s_law_mk_ring) l_law_mk_ring c_law_mk_ring k_law_mk_ring
  have U_law_mr_same := fun_mk (st := s_law_mr_same) l_law_mr_same c_law_mr_same k_law_mr_same
  have U_law_mr_is_row := fun_mk (st := s_law_mr_is_row) l_law_mr_is_row c_law_mr_is_row k_law_mr_is_row
  have U_law_mr_times := fun_mk (st := s_law_mr_times) l_law_mr_times c_law_mr_times k_law_mr_times
  have U_law_mr_turned := fun_mk (st := s_law_mr_turned) l_law_mr_turned c_law_mr_turned k_law_mr_turned
  have U_need_deeds := fun_mk (st := s_need_deeds) l_need_deeds c_need_deeds k_need_deeds
  have U_fits_letter := fun_mk (st := s_fits_letter) l_fits_letter c_fits_letter k_fits_letter
  have U_ring_in := fun_mk (st := s_ring_in) l_ring_in c_ring_in k_ring_in
  have U_way_to_ring := fun_mk (st := s_way_to_ring) l_way_to_ring c_way_to_ring k_way_to_ring
  have U_law_pick := fun_mk (st := s_law_pick) l_law_pick c_law_pick k_law_pick
  have U_law_shuffled := fun_mk (st := s_law_shuffled) l_law_shuffled c_law_shuffled k_law_shuffled
  have U_law_mr_is_turner := fun_mk (st := s_law_mr_is_turner) l_law_mr_is_turner c_law_mr_is_turner k_law_mr_is_turner
  have U_fits_row := fun_mk (st := s_fits_row) l_fits_row c_fits_row k_fits_row
  have U_law_mk_row := fun_mk (st := s_law_mk_row) l_law_mk_row c_law_mk_row k_law_mk_row
  have U_law_mk_raw := fun_mk (st := s_law_mk_raw) l_law_mk_raw c_law_mk_raw k_law_mk_raw
  have U_law_mk_bad_deeds := fun_mk (st := s_law_mk_bad_deeds) l_law_mk_bad_deeds c_law_mk_bad_deeds k_law_mk_bad_deeds
  have U_law_mk_bad_row := fun_mk (st := s_law_mk_bad_row) l_law_mk_bad_row c_law_mk_bad_row k_law_mk_bad_row
  have U_need_row := fun_mk (st := s_need_row) l_need_row c_need_row k_need_row
  have U_law_mr_row := fun_mk (st := s_law_mr_row) l_law_mr_row c_law_mr_row k_law_mr_row
  have U_law_mr_long := fun_mk (st := s_law_mr_long) l_law_mr_long c_law_mr_long k_law_mr_long
  have U_ring_of := fun_mk (st := s_ring_of) l_ring_of c_ring_of k_ring_of
  have U_turner := fun_mk (st := s_turner) l_turner c_turner k_turner
  have U_law_mr_mate := fun_mk (st := s_law_mr_mate) l_law_mr_mate c_law_mr_mate k_law_mr_mate
  refine ⟨PySem.W.fnOf "law" "law" (defArgs s_law) (defBody s_law) (defScope s_law) .none kV_law dc_law pm_law an_law (.ref c_law) ct_law, [(c_law, Pt_law)], spLaw K en.T, ?_, ?_, ?_, fun s v => .of_eq rfl, fun H a ns hl _ hT hS => ⟨a, ns, rfl, hS, hl, ?_, fun _ => rfl⟩, fun base bk bn tb => ?_⟩
  · intro p hp
    simp only [List.mem_cons, List.not_mem_nil, or_false] at hp
    rcases hp with rfl
    · exact ow_law _ _ _ _ _ _ _ _ l_law rfl rfl lc_law hP_law
  · intro p hp
    simp only [List.mem_cons, List.not_mem_nil, or_false] at hp
    rcases hp with rfl
    · exact nP_law
  · intro p hp
    simp only [List.mem_cons, List.not_mem_nil, or_false] at hp
    rcases hp with rfl
    · exact PySem.W.codeHd_of_K X hh_law
  · subst hen
    intro p hp
    simp only [List.mem_cons, List.not_mem_nil, or_false] at hp
    rcases hp with rfl
    · exact LamX.TabS.nil (hT (c_law, Pt_law) (by simp))
  · have G0 := G
    have G_law_blended : Has l.prog w K mg base "_law_blended" ["_law_state"] 1 1 FBlend := ⟨_, _, PySem.W.mg_of X G a_law_blended, k_law_blended, U_law_blended.binds (ps := ["_law_state"]) fun _ _ _ _ _ _ us hl => match us, hl with | [_], _ => rfl, ok_blended U_law_blended (PySem.W.mg_none_of X G z_int)⟩
    have G_law_draw : Has l.prog w K mg base "_law_draw" ["_law_state", "_law_room"] 2 2 FDraw := ⟨_, _, PySem.W.mg_of X G a_law_draw, k_law_draw, U_law_draw.binds (ps := ["_law_state", "_law_room"]) fun _ _ _ _ _ _ us hl => match us, hl with | [_, _], _ => rfl, ok_draw U_law_draw G_law_blended (PySem.W.mg_none_of X G z_int)⟩
    have G_is_whole : Has l.prog w K mg base "is_whole" ["value"] 1 1 (F_is_whole en) := ⟨_, _, PySem.W.mg_of X G a_is_whole, k_is_whole, U_is_whole.binds (ps := ["value"]) fun _ _ _ _ _ _ us hl => match us, hl with | [_], _ => rfl, ok_is_whole S U_is_whole  ⟩
    have G_plain_of : Has l.prog w K mg base "plain_of" ["letters"] 1 1 (F_plain_of en) := ⟨_, _, PySem.W.mg_of X G a_plain_of, k_plain_of, U_plain_of.binds (ps := ["letters"]) fun _ _ _ _ _ _ us hl => match us, hl with | [_], _ => rfl, ok_plain_of S U_plain_of  ⟩
    have G_undone_of : Has l.prog w K mg base "undone_of" ["row"] 1 1 (F_undone_of en) := ⟨_, _, PySem.W.mg_of X G a_undone_of, k_undone_of, U_undone_of.binds (ps := ["row"]) fun _ _ _ _ _ _ us hl => match us, hl with | [_], _ => rfl, ok_undone_of S U_undone_of  ⟩
    have G_tail_of : Has l.prog w K mg base "tail_of" ["row"] 1 1 (F_tail_of en) := ⟨_, _, PySem.W.mg_of X G a_tail_of, k_tail_of, U_tail_of.binds (ps := ["row"]) fun _ _ _ _ _ _ us hl => match us, hl with | [_], _ => rfl, ok_tail_of S U_tail_of  ⟩
    have G_least_start : Has l.prog w K mg base "least_start" ["row"] 1 1 (F_least_start en) := ⟨_, _, PySem.W.mg_of X G a_least_start, k_least_start, U_least_start.binds (ps := ["row"]) fun _ _ _ _ _ _ us hl => match us, hl with | [_], _ => rfl, ok_least_start S U_least_start  ⟩
    have G_law_mk_plain : Has l.prog w K mg base "_law_mk_plain" ["_law_letters"] 1 1 (F_law_mk_plain en) := ⟨_, _, PySem.W.mg_of X G a_law_mk_plain, k_law_mk_plain, U_law_mk_plain.binds (ps := ["_law_letters"]) fun _ _ _ _ _ _ us hl => match us, hl with | [_], _ => rfl, ok_law_mk_plain S U_law_mk_plain  ⟩
    have G_law_mk_undone : Has l.prog w K mg base "_law_mk_undone" ["_law_row"] 1 1 (F_law_mk_undone en) := ⟨_, _, PySem.W.mg_of X G a_law_mk_undone, k_law_mk_undone, U_law_mk_undone.binds (ps := ["_law_row"]) fun _ _ _ _ _ _ us hl => match us, hl with | [_], _ => rfl, ok_law_mk_undone S U_law_mk_undone  ⟩
    have G_law_mk_letters : Has l.prog w K mg base "_law_mk_letters" ["_law_deeds"] 1 1 (F_law_mk_letters en) := ⟨_, _, PySem.W.mg_of X G a_law_mk_letters, k_law_mk_letters, U_law_mk_letters.binds (ps := ["_law_deeds"]) fun _ _ _ _ _ _ us hl => match us, hl with | [_], _ => rfl, ok_law_mk_letters S U_law_mk_letters  ⟩
    have G_law_mr_whole : Has l.prog w K mg base "_law_mr_whole" ["_law_thing"] 1 1 (F_law_mr_whole en) := ⟨_, _, PySem.W.mg_of X G a_law_mr_whole, k_law_mr_whole, U_law_mr_whole.binds (ps := ["_law_thing"]) fun _ _ _ _ _ _ us hl => match us, hl with | [_], _ => rfl, ok_law_mr_whole S U_law_mr_whole  ⟩
    have G_is_between : Has l.prog w K mg base "is_between" ["value", "low", "high"] 2 3 (F_is_between en) := ⟨_, _, PySem.W.mg_of X G a_is_between, k_is_between, U_is_between.binds (ps := ["value", "low", "high"]) fun _ _ _ _ _ _ us hl => match us, hl with | [_, _, _], _ => rfl, ok_is_between S U_is_between G_is_whole ⟩
    have G_product_of : Has l.prog w K mg base "product_of" ["some"] 2 1 (F_product_of en) := ⟨_, _, PySem.W.mg_of X G a_product_of, k_product_of, U_product_of.binds (ps := ["some"]) fun _ _ _ _ _ _ us hl => match us, hl with | [_], _ => rfl, ok_product_of S U_product_of G_plain_of ⟩
    have G_middle_of : Has l.prog w K mg base "middle_of" ["row"] 2 1 (F_middle_of en) := ⟨_, _, PySem.W.mg_of X G a_middle_of, k_middle_of, U_middle_of.binds (ps := ["row"]) fun _ _ _ _ _ _ us hl => match us, hl with | [_], _ => rfl, ok_middle_of S U_middle_of G_tail_of ⟩
    have G_law_mk_ring : Has l.prog w K mg base "_law_mk_ring" ["_law_row"] 2 1 (F_law_mk_ring en) := ⟨_, _, PySem.W.mg_of X G a_law_mk_ring, k_law_mk_ring, U_law_mk_ring.binds (ps := ["_law_row"]) fun _ _ _ _ _ _ us hl => match us, hl with | [_], _ => rfl, ok_law_mk_ring S U_law_mk_ring G_law_mk_plain ⟩
    have G_law_mr_same : Has l.prog w K mg base "_law_mr_same" ["_law_found", "_law_due"] 2 2 (F_law_mr_same en) := ⟨_, _, PySem.W.mg_of X G a_law_mr_same, k_law_mr_same, U_law_mr_same.binds (ps := ["_law_found", "_law_due"]) fun _ _ _ _ _ _ us hl => match us, hl with | [_, _], _ => rfl, ok_law_mr_same S U_law_mr_same G_law_mr_whole ⟩
    have G_law_mr_is_row : Has l.prog w K mg base "_law_mr_is_row" ["_law_deeds", "_law_thing"] 2 2 (F_law_mr_is_row en) := ⟨_, _, PySem.W.mg_of X G a_law_mr_is_row, k_law_mr_is_row, U_law_mr_is_row.binds (ps := ["_law_deeds", "_law_thing"]) fun _ _ _ _ _ _ us hl => match us, hl with | [_, _], _ => rfl, ok_law_mr_is_row S U_law_mr_is_row G_law_mk_plain G_law_mr_whole ⟩
    have G_law_mr_times : Has l.prog w K mg base "_law_mr_times" ["_law_row", "_law_many"] 2 2 (F_law_mr_times en) := ⟨_, _, PySem.W.mg_of X G a_law_mr_times, k_law_mr_times, U_law_mr_times.binds (ps := ["_law_row", "_law_many"]) fun _ _ _ _ _ _ us hl => match us, hl with | [_, _], _ => rfl, ok_law_mr_times S U_law_mr_times G_law_mk_plain G_law_mk_undone ⟩
    have G_law_mr_turned : Has l.prog w K mg base "_law_mr_turned" ["_law_row", "_law_by"] 2 2 (F_law_mr_turned en) := ⟨_, _, PySem.W.mg_of X G a_law_mr_turned, k_law_mr_turned, U_law_mr_turned.binds (ps := ["_law_row", "_law_by"]) fun _ _ _ _ _ _ us hl => match us, hl with | [_, _], _ => rfl, ok_law_mr_turned S U_law_mr_turned G_law_mk_plain G_law_mk_undone ⟩
    have G_need_deeds : Has l.prog w K mg base "need_deeds" ["deeds"] 3 1 (F_need_deeds en) := ⟨_, _, PySem.W.mg_of X G a_need_deeds, k_need_deeds, U_need_deeds.binds (ps := ["deeds"]) fun _ _ _ _ _ _ us hl => match us, hl with | [_], _ => rfl, ok_need_deeds S U_need_deeds G_is_between ⟩
    have G_fits_letter : Has l.prog w K mg base "fits_letter" ["deeds", "value"] 3 2 (F_fits_letter en) := ⟨_, _, PySem.W.mg_of X G a_fits_letter, k_fits_letter, U_fits_letter.binds (ps := ["deeds", "value"]) fun _ _ _ _ _ _ us hl => match us, hl with | [_, _], _ => rfl, ok_fits_letter S U_fits_letter G_is_between ⟩
    have G_ring_in : Has l.prog w K mg base "ring_in" ["row"] 3 1 (F_ring_in en) := ⟨_, _, PySem.W.mg_of X G a_ring_in, k_ring_in, U_ring_in.binds (ps := ["row"]) fun _ _ _ _ _ _ us hl => match us, hl with | [_], _ => rfl, ok_ring_in S U_ring_in G_least_start G_middle_of ⟩
    have G_way_to_ring : Has l.prog w K mg base "way_to_ring" ["row"] 3 1 (F_way_to_ring en) := ⟨_, _, PySem.W.mg_of X G a_way_to_ring, k_way_to_ring, U_way_to_ring.binds (ps := ["row"]) fun _ _ _ _ _ _ us hl => match us, hl with | [_], _ => rfl, ok_way_to_ring S U_way_to_ring G_least_start G_middle_of G_tail_of ⟩
    have G_law_pick : Has l.prog w K mg base "_law_pick" ["_law_state", "_law_some"] 3 2 (F_law_pick en) := ⟨_, _, PySem.W.mg_of X G a_law_pick, k_law_pick, U_law_pick.binds (ps := ["_law_state", "_law_some"]) fun _ _ _ _ _ _ us hl => match us, hl with | [_, _], _ => rfl, ok_law_pick S U_law_pick G_law_draw ⟩
    have G_law_shuffled : Has l.prog w K mg base "_law_shuffled" ["_law_state", "_law_some"] 3 2 (F_law_shuffled en) := ⟨_, _, PySem.W.mg_of X G a_law_shuffled, k_law_shuffled, U_law_shuffled.binds (ps := ["_law_state", "_law_some"]) fun _ _ _ _ _ _ us hl => match us, hl with | [_, _], _ => rfl, ok_law_shuffled S U_law_shuffled G_law_draw ⟩
    have G_law_mr_is_turner : Has l.prog w K mg base "_law_mr_is_turner" ["_law_deeds", "_law_one", "_law_other", "_law_found"] 3 4 (F_law_mr_is_turner en) := ⟨_, _, PySem.W.mg_of X G a_law_mr_is_turner, k_law_mr_is_turner, U_law_mr_is_turner.binds (ps := ["_law_deeds", "_law_one", "_law_other", "_law_found"]) fun _ _ _ _ _ _ us hl => match us, hl with | [_, _, _, _], _ => rfl, ok_law_mr_is_turner S U_law_mr_is_turner G_law_mk_ring G_law_mr_is_row G_law_mr_same G_law_mr_turned ⟩
    have G_fits_row : Has l.prog w K mg base "fits_row" ["deeds", "value"] 4 2 (F_fits_row en) := ⟨_, _, PySem.W.mg_of X G a_fits_row, k_fits_row, U_fits_row.binds (ps := ["deeds", "value"]) fun _ _ _ _ _ _ us hl => match us, hl with | [_, _], _ => rfl, ok_fits_row S U_fits_row G_fits_letter ⟩
    have G_law_mk_row : Has l.prog w K mg base "_law_mk_row" ["_law_state", "_law_deeds", "_law_least", "_law_most"] 4 4 (F_law_mk_row en) := ⟨_, _, PySem.W.mg_of X G a_law_mk_row, k_law_mk_row, U_law_mk_row.binds (ps := ["_law_state", "_law_deeds", "_law_least", "_law_most"]) fun _ _ _ _ _ _ us hl => match us, hl with | [_, _, _, _], _ => rfl, ok_law_mk_row S U_law_mk_row G_law_draw G_law_mk_letters G_law_pick ⟩
    have G_law_mk_raw : Has l.prog w K mg base "_law_mk_raw" ["_law_state", "_law_deeds", "_law_row"] 4 3 (F_law_mk_raw en) := ⟨_, _, PySem.W.mg_of X G a_law_mk_raw, k_law_mk_raw, U_law_mk_raw.binds (ps := ["_law_state", "_law_deeds", "_law_row"]) fun _ _ _ _ _ _ us hl => match us, hl with | [_, _, _], _ => rfl, ok_law_mk_raw S U_law_mk_raw G_law_draw G_law_mk_letters G_law_pick ⟩
    have G_law_mk_bad_deeds : Has l.prog w K mg base "_law_mk_bad_deeds" ["_law_state"] 4 1 (F_law_mk_bad_deeds en) := ⟨_, _, PySem.W.mg_of X G a_law_mk_bad_deeds, k_law_mk_bad_deeds, U_law_mk_bad_deeds.binds (ps := ["_law_state"]) fun _ _ _ _ _ _ us hl => match us, hl with | [_], _ => rfl, ok_law_mk_bad_deeds S U_law_mk_bad_deeds G_law_pick ⟩
    have G_law_mk_bad_row : Has l.prog w K mg base "_law_mk_bad_row" ["_law_state", "_law_deeds"] 4 2 (F_law_mk_bad_row en) := ⟨_, _, PySem.W.mg_of X G a_law_mk_bad_row, k_law_mk_bad_row, U_law_mk_bad_row.binds (ps := ["_law_state", "_law_deeds"]) fun _ _ _ _ _ _ us hl => match us, hl with | [_, _], _ => rfl, ok_law_mk_bad_row S U_law_mk_bad_row G_law_pick ⟩
    have G_need_row : Has l.prog w K mg base "need_row" ["deeds", "row"] 5 2 (F_need_row en) := ⟨_, _, PySem.W.mg_of X G a_need_row, k_need_row, U_need_row.binds (ps := ["deeds", "row"]) fun _ _ _ _ _ _ us hl => match us, hl with | [_, _], _ => rfl, ok_need_row S U_need_row G_fits_row G_plain_of ⟩
    have G_law_mr_row : Has l.prog w K mg base "_law_mr_row" ["_law_state", "_law_deeds"] 5 2 (F_law_mr_row en) := ⟨_, _, PySem.W.mg_of X G a_law_mr_row, k_law_mr_row, U_law_mr_row.binds (ps := ["_law_state", "_law_deeds"]) fun _ _ _ _ _ _ us hl => match us, hl with | [_, _], _ => rfl, ok_law_mr_row S U_law_mr_row G_law_draw G_law_mk_raw G_law_mk_row G_law_mr_times G_law_mr_turned ⟩
    have G_law_mr_long : Has l.prog w K mg base "_law_mr_long" ["_law_state", "_law_deeds"] 5 2 (F_law_mr_long en) := ⟨_, _, PySem.W.mg_of X G a_law_mr_long, k_law_mr_long, U_law_mr_long.binds (ps := ["_law_state", "_law_deeds"]) fun _ _ _ _ _ _ us hl => match us, hl with | [_, _], _ => rfl, ok_law_mr_long S U_law_mr_long G_law_mk_row ⟩
    have G_ring_of : Has l.prog w K mg base "ring_of" ["deeds", "row"] 6 2 (F_ring_of en) := ⟨_, _, PySem.W.mg_of X G a_ring_of, k_ring_of, U_ring_of.binds (ps := ["deeds", "row"]) fun _ _ _ _ _ _ us hl => match us, hl with | [_, _], _ => rfl, ok_ring_of S U_ring_of G_need_deeds G_need_row G_ring_in ⟩
    have K_ring_of_0_deeds_row : HasK l.prog w K mg base "ring_of" ["deeds", "row"] 6 2 (F_ring_of en) 0 ["deeds", "row"] [0, 1] := ⟨_, _, PySem.W.mg_of X G a_ring_of, k_ring_of, ⟨fun s us ws h1 h2 => match us, ws, h1, h2 with | [], [_, _], _, _ => .of_eq rfl⟩, ok_ring_of S U_ring_of G_need_deeds G_need_row G_ring_in ⟩
    have G_turner : Has l.prog w K mg base "turner" ["deeds", "one", "other"] 6 3 (F_turner en) := ⟨_, _, PySem.W.mg_of X G a_turner, k_turner, U_turner.binds (ps := ["deeds", "one", "other"]) fun _ _ _ _ _ _ us hl => match us, hl with | [_, _, _], _ => rfl, ok_turner S U_turner G_need_deeds G_need_row G_product_of G_ring_in G_undone_of G_way_to_ring ⟩
    have K_turner_0_deeds_one_other : HasK l.prog w K mg base "turner" ["deeds", "one", "other"] 6 3 (F_turner en) 0 ["deeds", "one", "other"] [0, 1, 2] := ⟨_, _, PySem.W.mg_of X G a_turner, k_turner, ⟨fun s us ws h1 h2 => match us, ws, h1, h2 with | [], [_, _, _], _, _ => .of_eq rfl⟩, ok_turner S U_turner G_need_deeds G_need_row G_product_of G_ring_in G_undone_of G_way_to_ring ⟩
    have G_law_mr_mate : Has l.prog w K mg base "_law_mr_mate" ["_law_state", "_law_deeds", "_law_row"] 6 3 (F_law_mr_mate en) := ⟨_, _, PySem.W.mg_of X G a_law_mr_mate, k_law_mr_mate, U_law_mr_mate.binds (ps := ["_law_state", "_law_deeds", "_law_row"]) fun _ _ _ _ _ _ us hl => match us, hl with | [_, _, _], _ => rfl, ok_law_mr_mate S U_law_mr_mate G_law_draw G_law_mk_letters G_law_mk_plain G_law_mk_raw G_law_mk_ring G_law_mk_row G_law_mk_undone G_law_mr_row G_law_mr_turned G_law_pick G_law_shuffled ⟩
    exact ok_lawfn S l_law c_law_ ⟨U_law_caught, PySem.W.mg_of X G a_law_caught, U_law_caught.binds (ps := ["_law_action"]) fun _ _ _ _ _ _ us hl => match us, hl with | [_], _ => rfl⟩ (tb (c_law, Pt_law) (by simp)) (by subst hen; simp) (by subst hen; intro p hp _; simp at hp; rw [hp]) (ok_begun U_law_begun (PySem.W.mg_none_of X G z_abs)) (PySem.W.mg_of X G a_law_begun) k_law_begun (U_law_begun.binds (ps := ["_law_script"]) fun _ _ _ _ _ _ us hl => match us, hl with | [_], _ => rfl) dh G_law_draw G_law_mk_bad_deeds G_law_mk_bad_row G_law_mk_plain G_law_mk_ring G_law_mr_is_turner G_law_mr_long G_law_mr_mate G_law_mr_row G_law_mr_same G_ring_of G_turner K_ring_of_0_deeds_row K_turner_0_deeds_one_other
end Pd
open PySem PySem.W PyProof.Rows
set_option maxHeartbeats 0 in
theorem PySem.Challenge.cw_meankept_k01_rings_and_turned_rows_holds : PySem.Challenge.rw_meankept_k01_rings_and_turned_rows.Holds := by
  w_on; o_law; k_head; (case hw => w_witness2)
  k_fill
  refine Pd.walk_at (l := PySem.Challenge.rw_meankept_k01_rings_and_turned_rows) (n := 63) (k := 9) (x := "_law_script") (CX := fun w => L2.CX (PySem.Challenge.rw_meankept_k01_rings_and_turned_rows).prog w) "law" rfl (by decide) rfl ⟨rfl, by decide, by decide⟩ (by rfl) (fun w h Y => PySem.W.km_in_of Y) ?F Pd.cx_none
  case F =>
    intro w mg fa h KX G hmg ow
    refine' Pd.all_mk KX G hmg ?a_law_begun ?l_law_begun ?c_law_begun ?k_law_begun ?a_law_blended ?l_law_blended ?c_law_blended ?k_law_blended ?a_law_draw ?l_law_draw ?c_law_draw ?k_law_draw ?a_law_caught ?l_law_caught ?c_law_caught ?k_law_caught ?a_is_whole ?l_is_whole ?c_is_whole ?k_is_whole ?a_plain_of ?l_plain_of ?c_plain_of ?k_plain_of ?a_undone_of ?l_undone_of ?c_undone_of ?k_undone_of ?a_tail_of ?l_tail_of ?c_tail_of ?k_tail_of ?a_least_start ?l_least_start ?c_least_start ?k_least_start ?a_law_mk_plain ?l_law_mk_plain ?c_law_mk_plain ?k_law_mk_plain ?a_law_mk_undone ?l_law_mk_undone ?c_law_mk_undone ?k_law_mk_undone ?a_law_mk_letters ?l_law_mk_letters ?c_law_mk_letters ?k_law_mk_letters ?a_law_mr_whole ?l_law_mr_whole ?c_law_mr_whole ?k_law_mr_whole ?a_is_between ?l_is_between ?c_is_between ?k_is_between ?a_product_of ?l_product_of ?c_product_of ?k_product_of ?a_middle_of ?l_middle_of ?c_middle_of ?k_middle_of ?a_law_mk_ring ?l_law_mk_ring ?c_law_mk_ring ?k_law_mk_ring ?a_law_mr_same ?l_law_mr_same ?c_law_mr_same ?k_law_mr_same ?a_law_mr_is_row ?l_law_mr_is_row ?c_law_mr_is_row ?k_law_mr_is_row ?a_law_mr_times ?l_law_mr_times ?c_law_mr_times ?k_law_mr_times ?a_law_mr_turned ?l_law_mr_turned ?c_law_mr_turned ?k_law_mr_turned ?a_need_deeds ?l_need_deeds ?c_need_deeds ?k_need_deeds ?a_fits_letter ?l_fits_letter ?c_fits_letter ?k_fits_letter ?a_ring_in ?l_ring_in ?c_ring_in ?k_ring_in ?a_way_to_ring ?l_way_to_ring ?c_way_to_ring ?k_way_to_ring ?a_law_pick ?l_law_pick ?c_law_pick ?k_law_pick ?a_law_shuffled ?l_law_shuffled ?c_law_shuffled ?k_law_shuffled ?a_law_mr_is_turner ?l_law_mr_is_turner ?c_law_mr_is_turner ?k_law_mr_is_turner ?a_fits_row ?l_fits_row ?c_fits_row ?k_fits_row ?a_law_mk_row ?l_law_mk_row ?c_law_mk_row ?k_law_mk_row ?a_law_mk_raw ?l_law_mk_raw ?c_law_mk_raw ?k_law_mk_raw ?a_law_mk_bad_deeds ?l_law_mk_bad_deeds ?c_law_mk_bad_deeds ?k_law_mk_bad_deeds ?a_law_mk_bad_row ?l_law_mk_bad_row ?c_law_mk_bad_row ?k_law_mk_bad_row ?a_need_row ?l_need_row ?c_need_row ?k_need_row ?a_law_mr_row ?l_law_mr_row ?c_law_mr_row ?k_law_mr_row ?a_law_mr_long ?l_law_mr_long ?c_law_mr_long ?k_law_mr_long ?a_ring_of ?l_ring_of ?c_ring_of ?k_ring_of ?a_turner ?l_turner ?c_turner ?k_turner ?a_law_mr_mate ?l_law_mr_mate ?c_law_mr_mate ?k_law_mr_mate ?a_law ?l_law ?c_law_ ?k_law ?lc_law ?hP_law ?hh_law ?nP_law ?aC_KeepError ?aC_BadDeeds ?aC_BadRow ?kC_BadDeeds ?xC_BadDeeds ?bC_BadDeeds ?tC_BadDeeds ?g1_BadDeeds ?g2_BadDeeds ?g3_BadDeeds ?g4_BadDeeds ?g5_BadDeeds ?ex_BadDeeds ?ki_BadDeeds_BadDeeds ?ki_BadDeeds_BadRow ?kC_BadRow ?xC_BadRow ?bC_BadRow ?tC_BadRow ?g1_BadRow ?g2_BadRow ?g3_BadRow ?g4_BadRow ?g5_BadRow ?ex_BadRow ?ki_BadRow_BadDeeds ?ki_BadRow_BadRow ?u1 ?u2 ?z_abs ?z_all ?z_bool ?gi_MOST_DEEDS ?gi_MOST_IN_ROW ?z_int ?z_isinstance ?z_len ?z_list ?z_min ?z_range ?z_reversed ?z_str ?z_tuple ?ow
    (case a_law_begun => k_is)
    (case l_law_begun => k_is)
    (case c_law_begun => k_is)
    (case k_law_begun => k_is)
    (case a_law_blended => k_is)
    (case l_law_blended => k_is)
    (case c_law_blended => k_is)
    (case k_law_blended => k_is)
    (case a_law_draw => k_is)
    (case l_law_draw => k_is)
    (case c_law_draw => k_is)
    (case k_law_draw => k_is)
    (case a_law_caught => k_is)
    (case l_law_caught => k_is)
    (case c_law_caught => k_is)
    (case k_law_caught => k_is)
    (case a_is_whole => k_is)
    (case l_is_whole => k_is)
    (case c_is_whole => k_is)
    (case k_is_whole => k_is)
    (case a_plain_of => k_is)
    (case l_plain_of => k_is)
    (case c_plain_of => k_is)
    (case k_plain_of => k_is)
    (case a_undone_of => k_is)
    (case l_undone_of => k_is)
    (case c_undone_of => k_is)
    (case k_undone_of => k_is)
    (case a_tail_of => k_is)
    (case l_tail_of => k_is)
    (case c_tail_of => k_is)
    (case k_tail_of => k_is)
    (case a_least_start => k_is)
    (case l_least_start => k_is)
    (case c_least_start => k_is)
    (case k_least_start => k_is)
    (case a_law_mk_plain => k_is)
    (case l_law_mk_plain => k_is)
    (case c_law_mk_plain => k_is)
    (case k_law_mk_plain => k_is)
    (case a_law_mk_undone => k_is)
    (case l_law_mk_undone => k_is)
    (case c_law_mk_undone => k_is)
    (case k_law_mk_undone => k_is)
    (case a_law_mk_letters => k_is)
    (case l_law_mk_letters => k_is)
    (case c_law_mk_letters => k_is)
    (case k_law_mk_letters => k_is)
    (case a_law_mr_whole => k_is)
    (case l_law_mr_whole => k_is)
    (case c_law_mr_whole => k_is)
    (case k_law_mr_whole => k_is)
    (case a_is_between => k_is)
    (case l_is_between => k_is)
    (case c_is_between => k_is)
    (case k_is_between => k_is)
    (case a_product_of => k_is)
    (case l_product_of => k_is)
    (case c_product_of => k_is)
    (case k_product_of => k_is)
    (case a_middle_of => k_is)
    (case l_middle_of => k_is)
    (case c_middle_of => k_is)
    (case k_middle_of => k_is)
    (case a_law_mk_ring => k_is)
    (case l_law_mk_ring => k_is)
    (case c_law_mk_ring => k_is)
    (case k_law_mk_ring => k_is)
    (case a_law_mr_same => k_is)
    (case l_law_mr_same => k_is)
    (case c_law_mr_same => k_is)
    (case k_law_mr_same => k_is)
    (case a_law_mr_is_row => k_is)
    (case l_law_mr_is_row => k_is)
    (case c_law_mr_is_row => k_is)
    (case k_law_mr_is_row => k_is)
    (case a_law_mr_times => k_is)
    (case l_law_mr_times => k_is)
    (case c_law_mr_times => k_is)
    (case k_law_mr_times => k_is)
    (case a_law_mr_turned => k_is)
    (case l_law_mr_turned => k_is)
    (case c_law_mr_turned => k_is)
    (case k_law_mr_turned => k_is)
    (case a_need_deeds => k_is)
    (case l_need_deeds => k_is)
    (case c_need_deeds => k_is)
    (case k_need_deeds => k_is)
    (case a_fits_letter => k_is)
    (case l_fits_letter => k_is)
    (case c_fits_letter => k_is)
    (case k_fits_letter => k_is)
    (case a_ring_in => k_is)
    (case l_ring_in => k_is)
    (case c_ring_in => k_is)
    (case k_ring_in => k_is)
    (case a_way_to_ring => k_is)
    (case l_way_to_ring => k_is)
    (case c_way_to_ring => k_is)
    (case k_way_to_ring => k_is)
    (case a_law_pick => k_is)
    (case l_law_pick => k_is)
    (case c_law_pick => k_is)
    (case k_law_pick => k_is)
    (case a_law_shuffled => k_is)
    (case l_law_shuffled => k_is)
    (case c_law_shuffled => k_is)
    (case k_law_shuffled => k_is)
    (case a_law_mr_is_turner => k_is)
    (case l_law_mr_is_turner => k_is)
    (case c_law_mr_is_turner => k_is)
    (case k_law_mr_is_turner => k_is)
    (case a_fits_row => k_is)
    (case l_fits_row => k_is)
    (case c_fits_row => k_is)
    (case k_fits_row => k_is)
    (case a_law_mk_row => k_is)
    (case l_law_mk_row => k_is)
    (case c_law_mk_row => k_is)
    (case k_law_mk_row => k_is)
    (case a_law_mk_raw => k_is)
    (case l_law_mk_raw => k_is)
    (case c_law_mk_raw => k_is)
    (case k_law_mk_raw => k_is)
    (case a_law_mk_bad_deeds => k_is)
    (case l_law_mk_bad_deeds => k_is)
    (case c_law_mk_bad_deeds => k_is)
    (case k_law_mk_bad_deeds => k_is)
    (case a_law_mk_bad_row => k_is)
    (case l_law_mk_bad_row => k_is)
    (case c_law_mk_bad_row => k_is)
    (case k_law_mk_bad_row => k_is)
    (case a_need_row => k_is)
    (case l_need_row => k_is)
    (case c_need_row => k_is)
    (case k_need_row => k_is)
    (case a_law_mr_row => k_is)
    (case l_law_mr_row => k_is)
    (case c_law_mr_row => k_is)
    (case k_law_mr_row => k_is)
    (case a_law_mr_long => k_is)
    (case l_law_mr_long => k_is)
    (case c_law_mr_long => k_is)
    (case k_law_mr_long => k_is)
    (case a_ring_of => k_is)
    (case l_ring_of => k_is)
    (case c_ring_of => k_is)
    (case k_ring_of => k_is)
    (case a_turner => k_is)
    (case l_turner => k_is)
    (case c_turner => k_is)
    (case k_turner => k_is)
    (case a_law_mr_mate => k_is)
    (case l_law_mr_mate => k_is)
    (case c_law_mr_mate => k_is)
    (case k_law_mr_mate => k_is)
    (case a_law => k_is)
    (case l_law => k_is)
    (case c_law_ => k_is)
    (case k_law => k_is)
    (case lc_law => k_is)
    (case hP_law => first | rfl | k_is)
    (case hh_law => kernel_rfl)
    (case nP_law => kernel_rfl)
    (case aC_KeepError => k_is)
    (case aC_BadDeeds => k_is)
    (case aC_BadRow => k_is)
    (case kC_BadDeeds => k_is)
    (case xC_BadDeeds => first | k_exc | k_is)
    (case bC_BadDeeds => k_is)
    (case tC_BadDeeds => k_is)
    (case g1_BadDeeds => k_is)
    (case g2_BadDeeds => k_is)
    (case g3_BadDeeds => k_is)
    (case g4_BadDeeds => k_is)
    (case g5_BadDeeds => k_is)
    (case ex_BadDeeds => first | rfl | k_is)
    (case ki_BadDeeds_BadDeeds => first | rfl | k_is)
    (case ki_BadDeeds_BadRow => first | rfl | k_is)
    (case kC_BadRow => k_is)
    (case xC_BadRow => first | k_exc | k_is)
    (case bC_BadRow => k_is)
    (case tC_BadRow => k_is)
    (case g1_BadRow => k_is)
    (case g2_BadRow => k_is)
    (case g3_BadRow => k_is)
    (case g4_BadRow => k_is)
    (case g5_BadRow => k_is)
    (case ex_BadRow => first | rfl | k_is)
    (case ki_BadRow_BadDeeds => first | rfl | k_is)
    (case ki_BadRow_BadRow => first | rfl | k_is)
    (case u1 => first | rfl | k_is)
    (case u2 => first | rfl | k_is)
    (case z_abs => k_is)
    (case z_all => k_is)
    (case z_bool => k_is)
    (case gi_MOST_DEEDS => k_is)
    (case gi_MOST_IN_ROW => k_is)
    (case z_int => k_is)
    (case z_isinstance => k_is)
    (case z_len => k_is)
    (case z_list => k_is)
    (case z_min => k_is)
    (case z_range => k_is)
    (case z_reversed => k_is)
    (case z_str => k_is)
    (case z_tuple => k_is)
    (case ow => exact ow _ (PySem.W.mg_of KX G (by k_is)))
