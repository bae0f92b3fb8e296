import PyProof.Rows.All
import Wide.All
import PySem.Challenge.RW_meankept_k17_whole_lengths_behind_all_mo
import HandS.ForMost
import HandS.CallSlots
import HandS.Lambda
import HandS.TupAny
import HandS.TupMul
import HandS.Rev
import HandS.IsInst
import HandS.Conv
import HandS.Style
import HandS.ExcOwn
import HandS.ForExc
import HandS.Comp
import HandS.Iter
import HandS.ExcValue
import HandS.ExcIs
import HandS.SetFor
import HandS.Strs
import HandS.SortInts
import KE.DataMinMax
import KE.SortData
import HandS.DictComp
import HandS.EndOwn
set_option Elab.async false
set_option linter.all false
set_option maxRecDepth 100000
set_option maxHeartbeats 4000000
/-! Pd00: tuples whose object is known (no dict), so that their methods may be called. -/
namespace Pd
open PySem PySem.Spec PyProof.Rows L2
/-- a tuple at a, its object known -/
def TupK (H : Hp) (a : Addr) (xs : List V) : Prop := ∃ o : Obj, H a = some (.frz o (.tup xs)) ∧ o.cls = .type "tuple" ∧ o.dict = none
theorem TupK.sq {K : PySem.W.Frag} {H : Hp} {a : Addr} {xs : List V} (h : TupK H a xs) : SqT K H a xs := by
  obtain ⟨o, e, _⟩ := h
  exact .inl (.inr ⟨o, e⟩)
/-- a new one -/
def NewT (H : Hp) (xs : List V) (Q : VK) : Prop := ∀ (p : Addr) (o : Obj), H p = none → o.cls = .type "tuple" → o.dict = none → Q (.ref p) (upd H p (.frz o (.tup xs)))
section
variable {X : Cx} {pins : List (Addr × Obj)} {σ : L2.St} {H : Hp} {s : Shared} {Q : VK}
theorem Inv.newT {xs : List V} {its : List Value} (I : Inv X pins σ H s) (hz : xs.length ≤ sizeLine) (r : Vals xs its) (q : NewT H xs Q) : EP X pins σ Q (.ref s.heap.objs.size) { s with heap := s.heap.push { cls := .type "tuple", data := .seq its.toArray } } :=
  ⟨.ref s.heap.objs.size, upd H s.heap.objs.size (.frz { cls := .type "tuple", data := .seq its.toArray } (.tup xs)), I.laid (t' := s.toks) (fun _ _ e => Heap.get?_push_of_some _ e) (Nat.le_refl _) ⟨Heap.get?_push_size _ rfl, hz, its, r, IsTup.new _ _⟩, rfl, q _ _ (I.hok.fresh (Nat.le_refl _)) rfl rfl⟩
/-- a tuple of written items -/
def tTupK (t : TA) : TE := fun σ H Q => t σ H fun xs H1 => xs.length ≤ sizeLine ∧ NewT H1 xs Q
theorem pe_tupK {es : List Expr} {k : Nat} {pos : Pos} {t : TA} (h : PA X es t) : PE X (.Tuple es k pos) (tTupK t) := ⟨fun pins s σ H Q I hq =>
  wpAny_Tuple_spliced (thn (h.run pos pins s σ H _ I hq) fun us s1 hh => by
    obtain ⟨xs, H1, I1, r, z, q⟩ := hh
    exact ⟨by rw [← r.length]; exact z, Inv.newT I1 z r q⟩)⟩
/-- tuple(x) -/
theorem call_tupK : CallR X (.type "tuple") (fun xs H Q => ∃ p ys, xs = [.ref p] ∧ ((SqL X.K H p ys ∧ NewT H ys Q) ∨ (SqT X.K H p ys ∧ Q (.ref p) H))) := by
  intro pins s σ H xs us Q I r h
  obtain ⟨p, ys, rfl, h⟩ := h
  obtain ⟨u, rfl, rx⟩ := vals1 r
  cases rx
  rcases h with ⟨hq, q⟩ | ⟨hq, q⟩
  · obtain ⟨its, r', pl, hz⟩ := I.list hq
    refine call_tuple_list pl.isList (fun h' kp => ?_) (by rw [List.size_toArray, ← r'.length]; exact hz)
    exact Inv.newT (s := { s with heap := h' }) (I.kept (t' := s.toks) kp) hz r' q
  · obtain ⟨its, r', pl, _⟩ := I.tuple hq
    exact call_tuple_same pl ⟨.ref p, _, I, rfl, q⟩
/-- t + u -/
def rCatK (K : PySem.W.Frag) : R2 := fun x y H Q => ∃ a b xs ys, x = .ref a ∧ y = .ref b ∧ SqT K H a xs ∧ SqT K H b ys ∧ xs.length + ys.length ≤ sizeLine ∧ (xs = [] → Q (.ref b) H) ∧ (xs ≠ [] → ys = [] → Q (.ref a) H) ∧ (xs ≠ [] → ys ≠ [] → NewT H (xs ++ ys) Q)
theorem op_catK : OpR X (binaryOp .Add) (rCatK X.K) := by
  intro pins s σ H x y v u Q I rx ry h
  obtain ⟨a, b, xs, ys, rfl, rfl, ha, hb, hz, q0, q1, q2⟩ := h
  cases rx
  cases ry
  obtain ⟨its, r1, p1, _⟩ := I.tuple ha
  obtain ⟨its2, r2, p2, _⟩ := I.tuple hb
  by_cases hx : xs = []
  · subst hx
    cases r1
    exact cat_tup0 p1 p2 ⟨.ref b, _, I, rfl, q0 rfl⟩
  · refine HT.cat_tup p1 p2 (fun z => hx (r1.nil_iff.mp z)) (fun z => ⟨.ref a, _, I, rfl, q1 hx (r2.nil_iff.mp z)⟩) (fun z => ?_) (by rw [← r1.length, ← r2.length]; exact hz)
    exact Inv.newT I (by rw [List.length_append]; exact hz) (r1.append r2) (q2 hx fun w => z (r2.nil_iff.mpr w))
/-- t[lo:hi] -/
def rSlK (K : PySem.W.Frag) : V → Option Int → Option Int → Hp → VK → Prop := fun x lo hi H Q => ∃ a xs, x = .ref a ∧ SqT K H a xs ∧
  (HT.sIx xs.length 0 lo = 0 ∧ HT.sIx xs.length xs.length hi = xs.length → Q (.ref a) H) ∧ (¬ (HT.sIx xs.length 0 lo = 0 ∧ HT.sIx xs.length xs.length hi = xs.length) → NewT H (cutV xs lo hi) Q)
theorem sl_tupK : SlR X (rSlK X.K) := by
  intro pins s σ H x v vl vu lo hi sl Q I rx hs pl pu h
  obtain ⟨a, xs, rfl, hx, q1, q2⟩ := h
  cases rx
  obtain ⟨its, r, ht, hz⟩ := I.tuple hx
  have hlen : its.toArray.size = xs.length := by rw [List.size_toArray]; exact r.length.symm
  refine ⟨"tuple", _, PyProof.Rows.slot_tuple_getitem.lookup, ht.typeIs, ?_⟩
  by_cases hw : HT.sIx xs.length 0 lo = 0 ∧ HT.sIx xs.length xs.length hi = xs.length
  · exact getItem_tuple_whole ht hs pl pu (by rw [hlen]; exact hw) ⟨.ref a, _, I, rfl, q1 hw⟩
  · refine HT.getItem_tuple_cut ht hs pl pu (by rw [hlen]; exact hw) ?_ (by rw [hlen]; exact hz)
    rw [hlen]
    exact Inv.newT I (Nat.le_trans (cutV_length xs lo hi) hz) ((r.drop _).take _) (q2 hw)
/-- a method of a tuple -/
def tMt (r : V → List V → Hp → VK → Prop) (to : TE) (t : TA) : TE := fun σ H Q => to σ H fun x H1 => (∃ a xs, x = .ref a ∧ TupK H1 a xs) ∧ t σ H1 fun xs H2 => r x xs H2 Q
theorem pe_mt {o e : Expr} {to : TE} {t : TA} {name : Str} {apos cpos : Pos} {id : String} {r : V → List V → Hp → VK → Prop} (slot : Slot "tuple" name id) (hty : typeOf (.builtin id) = pure (.type "method_descriptor")) (hm : MtR X id r) (ho : PE X o to) (ha : PA X [e] t)
    (hbase : attributeBase o name X.env (eval o X.env) = eval o X.env)
    (hfew : ((backTo cpos (starEach [e] X.env)).all (fun x => !x.1) && (backToKw cpos (keywordEach [] X.env)).all (fun x => x.1.isSome) && decide ([e].length + ([] : List Keyword).length + (if ([] : List Keyword).isEmpty then 0 else 1) < 30)) = true)
    (hline : (apos.endLine == cpos.line) = true) (hs : starEach [e] X.env = (false, eval e X.env) :: starEach [] X.env) (hplain : (backTo cpos (starEach [] X.env)).any (·.1) = false) :
    PE X (.Call (.Attribute o name apos) [e] [] cpos) (tMt r to t) := ⟨fun pins s σ H Q I h => by
  refine wpAny_Call_method_late hbase hfew hline rfl (thn (ho.run pins s σ H _ I h) fun v s1 hh => ?_)
  obtain ⟨x, H1, I1, r1, ⟨a, ys, rfl, ob, hob, hc, hd⟩, q1⟩ := hh
  cases r1
  have hg : s1.heap.get? a = some ob := (I1.hok a _ hob).1
  refine ⟨"tuple", id, PySem.F.plainAttrs_tuple, slot, hty, ⟨ob, hg, hc⟩, fun b e => by cases e; exact ⟨ob, hg, hd⟩, ?_⟩
  have hA := ha.run cpos pins s1 σ H1 _ I1 q1
  rw [hs] at hA ⊢
  refine Calls.callWith_builtin (by show (false || (backTo cpos (starEach [] X.env)).any (·.1)) = false; rw [hplain] <;> rfl) (Calls.evalArgs_plain (thn hA fun us s2 hh => ?_))
  obtain ⟨vs, H2, I2, r2, q2⟩ := hh
  exact hm pins s2 σ H2 (.ref a) vs _ us Q I2 rfl r2 q2⟩
end
end Pd

set_option Elab.async false
set_option linter.all false
set_option maxRecDepth 100000
set_option maxHeartbeats 4000000
/-! Pd0: pure data over the hand layer: values D, environments of slots, monadic programs and their readings. -/
namespace Pd
open PySem PySem.Spec PyProof.Rows L2

/-! ### data -/
inductive D where
  | non | bl (b : Bool) | int (i : Int) | str (s : Str) | tup (l : List D) | lst (l : List D) | lsk (l : List D) | ref (a : Addr) | exn (c : Addr) | dct (ks vs : List D) | ktp (l : List D) | dcf (ks vs : List D)

/-- a dict's key -/
def keyD : Key → D
  | .inl i => .int i
  | .inr x => .str x
/-- a caught exception of the class c, at a -/
def ExI (c a : Addr) : HO := .ext fun h => ∃ (oe : Obj) (vs : Array Value), h.get? a = some oe ∧ Zc (.ref c) none oe ∧ oe.data = .fields vs
mutual
inductive Rp (K : PySem.W.Frag) (H : Hp) : V → D → Prop
  | non : Rp K H .non .non
  | bl (b : Bool) : Rp K H (.bl b) (.bl b)
  | int (i : Int) : Rp K H (.int i) (.int i)
  | str (x : Str) : Rp K H (.str x) (.str x)
  | ref (a : Addr) : Rp K H (.ref a) (.ref a)
  | tup {a : Addr} {xs : List V} {ds : List D} : TupK H a xs → RpL K H xs ds → Rp K H (.ref a) (.tup ds)
  | lst {a : Addr} {xs : List V} {ds : List D} : H a = some (.lst xs) → RpL K H xs ds → Rp K H (.ref a) (.lst ds)
  | lsk {a : Addr} {xs : List V} {ds : List D} : SqL K H a xs → RpL K H xs ds → Rp K H (.ref a) (.lsk ds)
  | exn {a c : Addr} : H a = some (ExI c a) → Rp K H (.ref a) (.exn c)
  | dK {a : Addr} {kvs : List (Key × V)} {us : List V} {ks es : List D} : H a = some (.dK kvs) → us = kvs.map (·.2) → ks = kvs.map (fun p => keyD p.1) → RpL K H us es → Rp K H (.ref a) (.dct ks es)
  | dT {a : Addr} {kvs : List (List Key × V)} {us : List V} {ks es : List D} {o : Obj} : H a = some (.frz o (.dT kvs)) → us = kvs.map (·.2) → ks = kvs.map (fun p => .ktp (p.1.map keyD)) → RpL K H us es → Rp K H (.ref a) (.dcf ks es)
  | ktp {a : Addr} {xs : List V} {ds : List D} : H a = some (.tup xs) → RpL K H xs ds → Rp K H (.ref a) (.ktp ds)
inductive RpL (K : PySem.W.Frag) (H : Hp) : List V → List D → Prop
  | nil : RpL K H [] []
  | cons {v : V} {vs : List V} {d : D} {ds : List D} : Rp K H v d → RpL K H vs ds → RpL K H (v :: vs) (d :: ds)
end

/-- what H tells H' tells -/
def Sub (H H' : Hp) : Prop := ∀ b o, H b = some o → H' b = some o
theorem Sub.refl (H : Hp) : Sub H H := fun _ _ h => h
theorem Sub.trans {H H1 H2 : Hp} (a : Sub H H1) (b : Sub H1 H2) : Sub H H2 := fun x o h => b x o (a x o h)
theorem Sub.upd {H : Hp} {p : Addr} {o : HO} (h : H p = none) : Sub H (upd H p o) := fun b u e => by
  rw [upd_ne (ne_of_none e h)]; exact e
theorem Sub.rd {H H' : Hp} {a : Addr} {u : HO} (e : Sub H H') (h : Rd H a u) : Rd H' a u := by
  rcases h with h | ⟨o, h⟩
  · exact .inl (e _ _ h)
  · exact .inr ⟨o, e _ _ h⟩
theorem Sub.sqL {K : PySem.W.Frag} {H H' : Hp} {a : Addr} {xs : List V} (e : Sub H H') (h : SqL K H a xs) : SqL K H' a xs := by
  rcases h with h | h
  · exact .inl (e.rd h)
  · exact .inr h
theorem Sub.tk {H H' : Hp} {a : Addr} {xs : List V} (e : Sub H H') (h : TupK H a xs) : TupK H' a xs := by
  obtain ⟨o, h, r⟩ := h
  exact ⟨o, e _ _ h, r⟩
theorem Sub.sqT {K : PySem.W.Frag} {H H' : Hp} {a : Addr} {xs : List V} (e : Sub H H') (h : SqT K H a xs) : SqT K H' a xs := by
  rcases h with h | h
  · exact .inl (e.rd h)
  · exact .inr h
mutual
theorem Rp.mono {K : PySem.W.Frag} {H H' : Hp} (e : Sub H H') : ∀ {v : V} {d : D}, Rp K H v d → Rp K H' v d
  | _, _, .non => .non
  | _, _, .bl b => .bl b
  | _, _, .int i => .int i
  | _, _, .str x => .str x
  | _, _, .ref a => .ref a
  | _, _, .tup h r => .tup (e.tk h) (RpL.mono e r)
  | _, _, .lst h r => .lst (e _ _ h) (RpL.mono e r)
  | _, _, .lsk h r => .lsk (e.sqL h) (RpL.mono e r)
  | _, _, .exn h => .exn (e _ _ h)
  | _, _, .dK h a b r => .dK (e _ _ h) a b (RpL.mono e r)
  | _, _, .dT h a b r => .dT (e _ _ h) a b (RpL.mono e r)
  | _, _, .ktp h r => .ktp (e _ _ h) (RpL.mono e r)
theorem RpL.mono {K : PySem.W.Frag} {H H' : Hp} (e : Sub H H') : ∀ {vs : List V} {ds : List D}, RpL K H vs ds → RpL K H' vs ds
  | _, _, .nil => .nil
  | _, _, .cons a r => .cons (Rp.mono e a) (RpL.mono e r)
end
theorem RpL.length {K : PySem.W.Frag} {H : Hp} : ∀ {vs : List V} {ds : List D}, RpL K H vs ds → vs.length = ds.length
  | _, _, .nil => rfl
  | _, _, .cons _ r => by simp [RpL.length r]
theorem RpL.get {K : PySem.W.Frag} {H : Hp} : ∀ {vs : List V} {ds : List D} {i : Nat} {d : D}, RpL K H vs ds → ds[i]? = some d → ∃ v, vs[i]? = some v ∧ Rp K H v d
  | _, _, _, _, .nil, h => by simp at h
  | _, _, 0, d, .cons a _, h => by simp at h; subst h; exact ⟨_, rfl, a⟩
  | _, _, i + 1, d, .cons _ r, h => by
    obtain ⟨v, h1, h2⟩ := RpL.get (i := i) (d := d) r (by simpa using h)
    exact ⟨v, by simpa using h1, h2⟩
theorem RpL.getV {K : PySem.W.Frag} {H : Hp} : ∀ {vs : List V} {ds : List D} {i : Nat} {v : V}, RpL K H vs ds → vs[i]? = some v → ∃ d, ds[i]? = some d ∧ Rp K H v d
  | _, _, _, _, .nil, h => by simp at h
  | _, _, 0, d, .cons a _, h => by simp at h; subst h; exact ⟨_, rfl, a⟩
  | _, _, i + 1, v, .cons _ r, h => by
    obtain ⟨d, h1, h2⟩ := RpL.getV (i := i) (v := v) r (by simpa using h)
    exact ⟨d, by simpa using h1, h2⟩
theorem RpL.append {K : PySem.W.Frag} {H : Hp} : ∀ {vs us : List V} {ds es : List D}, RpL K H vs ds → RpL K H us es → RpL K H (vs ++ us) (ds ++ es)
  | _, _, _, _, .nil, r => r
  | _, _, _, _, .cons a t, r => .cons a (RpL.append t r)
theorem RpL.take {K : PySem.W.Frag} {H : Hp} : ∀ {vs : List V} {ds : List D} (n : Nat), RpL K H vs ds → RpL K H (vs.take n) (ds.take n)
  | _, _, 0, _ => .nil
  | _, _, _ + 1, .nil => .nil
  | _, _, n + 1, .cons a r => .cons a (RpL.take n r)
theorem RpL.drop {K : PySem.W.Frag} {H : Hp} : ∀ {vs : List V} {ds : List D} (n : Nat), RpL K H vs ds → RpL K H (vs.drop n) (ds.drop n)
  | _, _, 0, r => r
  | _, _, _ + 1, .nil => .nil
  | _, _, n + 1, .cons _ r => RpL.drop n r
theorem RpL.set {K : PySem.W.Frag} {H : Hp} {v : V} {d : D} (a : Rp K H v d) : ∀ {vs : List V} {ds : List D} (i : Nat), RpL K H vs ds → RpL K H (vs.set i v) (ds.set i d)
  | _, _, _, .nil => .nil
  | _, _, 0, .cons _ r => .cons a r
  | _, _, i + 1, .cons b r => .cons b (RpL.set a i r)
theorem RpL.reverse {K : PySem.W.Frag} {H : Hp} : ∀ {vs : List V} {ds : List D}, RpL K H vs ds → RpL K H vs.reverse ds.reverse
  | _, _, .nil => .nil
  | _, _, .cons a r => by
    rw [List.reverse_cons, List.reverse_cons]
    exact (RpL.reverse r).append (.cons a .nil)
theorem RpL.eraseIdx {K : PySem.W.Frag} {H : Hp} : ∀ {vs : List V} {ds : List D} (i : Nat), RpL K H vs ds → RpL K H (vs.eraseIdx i) (ds.eraseIdx i)
  | _, _, _, .nil => .nil
  | _, _, 0, .cons _ r => r
  | _, _, i + 1, .cons b r => .cons b (RpL.eraseIdx i r)
theorem RpL.flatRep {K : PySem.W.Frag} {H : Hp} {vs : List V} {ds : List D} (h : RpL K H vs ds) : ∀ n : Nat, RpL K H (List.replicate n vs).flatten (List.replicate n ds).flatten
  | 0 => .nil
  | n + 1 => by
    rw [List.replicate_succ, List.replicate_succ, List.flatten_cons, List.flatten_cons]
    exact h.append (RpL.flatRep h n)
/-- lists of ints -/
theorem RpL.ints {K : PySem.W.Frag} {H : Hp} : ∀ (ns : List Int), RpL K H (ns.map V.int) (ns.map D.int)
  | [] => .nil
  | n :: ns => .cons (.int n) (RpL.ints ns)
theorem RpL.ofInts {K : PySem.W.Frag} {H : Hp} : ∀ {vs : List V} (ns : List Int), RpL K H vs (ns.map D.int) → vs = ns.map V.int
  | _, [], .nil => rfl
  | _, n :: ns, .cons (.int _) r => by rw [RpL.ofInts ns r]; rfl

/-! ### the world of a law: the state of its draws -/
structure Wd where
  a : Addr
  g : Addr
  c : Addr
def Wd.Z (w : Wd) (b : Addr) : Prop := b = w.a ∨ b = w.g ∨ b = w.c
structure LS where
  self : Addr
  tb : List (Addr × Str)
  great : List Int
  cells : List Int
  rest : Int
  turn : Int
structure SOk (w : Wd) (ls : LS) (H : Hp) : Prop where
  hs : w.a = ls.self
  ha : H w.a = some (.dK [(.inr "great", .ref w.g), (.inr "cells", .ref w.c), (.inr "rest", .int ls.rest), (.inr "turn", .int ls.turn)])
  hg : H w.g = some (.lst (ls.great.map V.int))
  hc : H w.c = some (.lst (ls.cells.map V.int))
  hcg : w.c ≠ w.g
  tabs : LamX.Tabs ls.tb H
def NT (o : HO) : Prop := ∀ ps, o ≠ .tbl ps
theorem NT.lst {xs : List V} : NT (.lst xs) := fun _ h => by cases h
theorem NT.tup {o : Obj} {xs : List V} : NT (.frz o (.tup xs)) := fun _ h => by cases h
/-- B tells nothing at p, but a table perhaps -/
def NB (B : Hp) (p : Addr) : Prop := ∀ o, B p = some o → ¬ NT o
theorem NB.of {B : Hp} {p : Addr} (h : B p = none) : NB B p := fun o e => by rw [h] at e; cases e
theorem NB.lst {B : Hp} {p : Addr} {xs : List V} (h : NB B p) (e : B p = some (.lst xs)) : False := h _ e NT.lst
theorem NB.ne {B : Hp} {p b : Addr} {o : HO} (h : NB B p) (e : B b = some o) (t : NT o) : b ≠ p := fun z => h o (z ▸ e) t
theorem NB.up {B : Hp} {p b : Addr} {o : HO} (hb : b ≠ p) : NB (upd B p o) b ↔ NB B b := by
  unfold NB; rw [upd_ne hb]
theorem NB.atL {B : Hp} {p b : Addr} {xs : List V} (h : NB (upd B p (.lst xs)) b) : b ≠ p := fun z => h _ (by rw [z]; exact upd_same) NT.lst
/-- a thing that the tables don't hang on -/
def Lo (o : HO) : Prop := (∀ ps, o ≠ .tbl ps) ∧ ∀ c q, o ≠ LamX.CodeO c q
theorem Lo.lst {xs : List V} : Lo (.lst xs) := ⟨(fun _ h => nomatch h), (fun _ _ h => nomatch h)⟩
theorem Lo.dT {kvs : List (List Key × V)} : Lo (.dT kvs) := ⟨(fun _ h => nomatch h), (fun _ _ h => nomatch h)⟩
theorem Lo.dK {kvs : List (Key × V)} : Lo (.dK kvs) := ⟨(fun _ h => nomatch h), (fun _ _ h => nomatch h)⟩
theorem tabs_keep {T : List (Addr × Str)} {H H' : Hp} (t : LamX.Tabs T H) (h : ∀ b o, H b = some o → (∃ ps, o = .tbl ps) ∨ (∃ c q, o = LamX.CodeO c q) → H' b = some o) : LamX.Tabs T H' := fun p hp => by
  obtain ⟨ps, h1, h2, h3⟩ := t p hp
  refine ⟨ps, h _ _ h1 (.inl ⟨ps, rfl⟩), h2, fun pos cv hc => ?_⟩
  obtain ⟨c, e1, e2⟩ := h3 pos cv hc
  exact ⟨c, e1, h _ _ e2 (.inr ⟨_, _, rfl⟩)⟩
/-- an update at a place that was free or held a thing of that kind -/
theorem tabs_upd {T : List (Addr × Str)} {H : Hp} {p : Addr} {o : HO} (t : LamX.Tabs T H) (h : ∀ u, H p = some u → Lo u) : LamX.Tabs T (upd H p o) := tabs_keep t fun b u e k => by
  have hb : b ≠ p := fun z => by
    obtain ⟨l1, l2⟩ := h u (z ▸ e)
    rcases k with ⟨ps, k⟩ | ⟨c, q, k⟩
    · exact l1 ps k
    · exact l2 c q k
  rw [upd_ne hb]; exact e
theorem lo_none {H : Hp} {p : Addr} (h : H p = none) : ∀ u, H p = some u → Lo u := fun u e => by rw [h] at e; cases e
theorem lo_lst {H : Hp} {p : Addr} {xs : List V} (h : H p = some (.lst xs)) : ∀ u, H p = some u → Lo u := fun u e => by rw [h] at e; cases e; exact Lo.lst
theorem lo_dK {H : Hp} {p : Addr} {kvs : List (Key × V)} (h : H p = some (.dK kvs)) : ∀ u, H p = some u → Lo u := fun u e => by rw [h] at e; cases e; exact Lo.dK

/-! ### slots -/
/-- what a slot owns: a list, a dict of tuples -/
inductive Ow where
  | l (ds : List D) | d (ks es : List D)
inductive Sl where
  | un | dat (d : D) | ow (o : Ow)
abbrev Sl.own (l : List D) : Sl := .ow (.l l)
def OwR (K : PySem.W.Frag) (Hd : Hp) (u : HO) : Ow → Prop
  | .l ds => ∃ xs, u = .lst xs ∧ RpL K Hd xs ds
  | .d ks es => ∃ kvs : List (List Key × V), u = .dT kvs ∧ ks = kvs.map (fun p => .ktp (p.1.map keyD)) ∧ RpL K Hd (kvs.map (·.2)) es
theorem OwR.mono {K : PySem.W.Frag} {Hd Hd' : Hp} {u : HO} {o : Ow} (h : OwR K Hd u o) (s : Sub Hd Hd') : OwR K Hd' u o := by
  cases o with
  | l ds => obtain ⟨xs, e, r⟩ := h; exact ⟨xs, e, r.mono s⟩
  | d ks es => obtain ⟨kvs, e, k, r⟩ := h; exact ⟨kvs, e, k, r.mono s⟩
theorem OwR.lo {K : PySem.W.Frag} {Hd : Hp} {u : HO} {o : Ow} (h : OwR K Hd u o) : Lo u := by
  cases o with
  | l ds => obtain ⟨xs, rfl, _⟩ := h; exact Lo.lst
  | d ks es => obtain ⟨kvs, rfl, _⟩ := h; exact Lo.dT
theorem OwR.notup {K : PySem.W.Frag} {Hd : Hp} {xs : List V} {o : Ow} (h : OwR K Hd (.tup xs) o) : False := by
  cases o with
  | l ds => obtain ⟨xs, e, _⟩ := h; cases e
  | d ks es => obtain ⟨kvs, e, _⟩ := h; cases e
theorem OwR.nt {K : PySem.W.Frag} {Hd : Hp} {u : HO} {o : Ow} (h : OwR K Hd u o) : NT u := h.lo.1
abbrev Rho := List Sl

/-- what is known since: new, or a tuple -/
def Nw (B : Hp) (b : Addr) (o : HO) : Prop := NB B b ∨ ∃ xs, o = .tup xs
structure EOk (K : PySem.W.Frag) (w : Wd) (B D0 Hd H : Hp) (σ : L2.St) (ρ : Rho) (ls : LS) : Prop where
  base : ∀ b o, B b = some o → ¬ w.Z b → NT o → H b = some o
  dom : ∀ b, H b = none → NB B b
  sub : Sub Hd H
  sub0 : Sub D0 Hd
  noz : ∀ b, w.Z b → Hd b = none
  nt : ∀ b o, Hd b = some o → NT o
  fr : ∀ b o, Hd b = some o → D0 b = some o ∨ Nw B b o
  st : SOk w ls H
  len : σ.length = ρ.length
  dat : ∀ (i : Nat) (d : D), ρ[i]? = some (.dat d) → ∃ v, σ[i]? = some (some v) ∧ Rp K Hd v d
  ow : ∀ (i : Nat) (o : Ow), ρ[i]? = some (.ow o) → ∃ p u, σ[i]? = some (some (.ref p)) ∧ H p = some u ∧ OwR K Hd u o ∧ Hd p = none ∧ NB B p ∧ ¬ w.Z p
  apa : ∀ (i j : Nat) (p : Addr) (o o' : Ow), i ≠ j → ρ[i]? = some (.ow o) → ρ[j]? = some (.ow o') → σ[i]? = some (some (.ref p)) → σ[j]? = some (some (.ref p)) → False

/-- p holds a list that nothing else knows -/
structure FreshO (w : Wd) (B Hd H : Hp) (σ : L2.St) (ρ : Rho) (p : Addr) (u : HO) : Prop where
  at_ : H p = some u
  nd : Hd p = none
  nb : NB B p
  nz : ¬ w.Z p
  ns : ∀ (i : Nat) (o : Ow), ρ[i]? = some (.ow o) → σ[i]? ≠ some (some (.ref p))
abbrev Fresh (w : Wd) (B Hd H : Hp) (σ : L2.St) (ρ : Rho) (p : Addr) (xs : List V) : Prop := FreshO w B Hd H σ ρ p (.lst xs)

section
variable {K : PySem.W.Frag} {w : Wd} {B D0 Hd H : Hp} {σ : L2.St} {ρ : Rho} {ls : LS}

theorem EOk.own (E : EOk K w B D0 Hd H σ ρ ls) (i : Nat) (ds : List D) (h : ρ[i]? = some (.own ds)) : ∃ p xs, σ[i]? = some (some (.ref p)) ∧ H p = some (.lst xs) ∧ RpL K Hd xs ds ∧ Hd p = none ∧ NB B p ∧ ¬ w.Z p := by
  obtain ⟨p, u, h1, h2, ⟨xs, rfl, h3⟩, h4⟩ := E.ow i _ h
  exact ⟨p, xs, h1, h2, h3, h4⟩
theorem EOk.ownD (E : EOk K w B D0 Hd H σ ρ ls) (i : Nat) (ks es : List D) (h : ρ[i]? = some (.ow (.d ks es))) : ∃ (p : Addr) (kvs : List (List Key × V)), σ[i]? = some (some (.ref p)) ∧ H p = some (.dT kvs) ∧ ks = kvs.map (fun p => .ktp (p.1.map keyD)) ∧ RpL K Hd (kvs.map (·.2)) es ∧ Hd p = none ∧ NB B p ∧ ¬ w.Z p := by
  obtain ⟨p, u, h1, h2, ⟨kvs, rfl, hk, h3⟩, h4⟩ := E.ow i _ h
  exact ⟨p, kvs, h1, h2, hk, h3, h4⟩
theorem SOk.keep {H' : Hp} (s : SOk w ls H) (h : ∀ b, w.Z b → H' b = H b) (t : LamX.Tabs ls.tb H') : SOk w ls H' :=
  ⟨s.hs, (h _ (.inl rfl)).trans s.ha, (h _ (.inr (.inl rfl))).trans s.hg, (h _ (.inr (.inr rfl))).trans s.hc, s.hcg, t⟩
theorem SOk.inH (s : SOk w ls H) {b : Addr} (z : w.Z b) : ∃ o, H b = some o := by
  rcases z with rfl | rfl | rfl
  · exact ⟨_, s.ha⟩
  · exact ⟨_, s.hg⟩
  · exact ⟨_, s.hc⟩
theorem EOk.nz_new (E : EOk K w B D0 Hd H σ ρ ls) {p : Addr} (h : H p = none) : ¬ w.Z p := fun z => by
  obtain ⟨o, e⟩ := E.st.inH z
  rw [h] at e; cases e
theorem EOk.nd_new (E : EOk K w B D0 Hd H σ ρ ls) {p : Addr} (h : H p = none) : Hd p = none := by
  cases e : Hd p with
  | none => rfl
  | some o => rw [E.sub _ _ e] at h; cases h
/-- a new object of data -/
theorem EOk.newDat (E : EOk K w B D0 Hd H σ ρ ls) {p : Addr} {o : HO} (h : H p = none) (n : NT o) : EOk K w B D0 (upd Hd p o) (upd H p o) σ ρ ls := by
  have hd := E.nd_new h
  have nz := E.nz_new h
  have sd : Sub Hd (upd Hd p o) := .upd hd
  refine ⟨fun b u e z t => ?_, fun b e => ?_, fun b u e => ?_, E.sub0.trans sd, fun b z => ?_, fun b u e => ?_, fun b u e => ?_, E.st.keep (fun b z => ?_) (tabs_upd E.st.tabs (lo_none h)), E.len, fun i d e => ?_, fun i ds e => ?_, E.apa⟩
  · rw [upd_ne (ne_of_none (E.base b u e z t) h)]; exact E.base b u e z t
  · by_cases hb : b = p
    · subst hb; rw [upd_same] at e; cases e
    · rw [upd_ne hb] at e; exact E.dom b e
  · by_cases hb : b = p
    · subst hb; rw [upd_same] at e ⊢; exact e
    · rw [upd_ne hb] at e ⊢; exact E.sub b u e
  · rw [upd_ne (show b ≠ p from fun q => nz (q ▸ z))]; exact E.noz b z
  · by_cases hb : b = p
    · subst hb; rw [upd_same] at e; cases e; exact n
    · rw [upd_ne hb] at e; exact E.nt b u e
  · by_cases hb : b = p
    · subst hb; exact .inr (.inl (E.dom _ h))
    · rw [upd_ne hb] at e; exact E.fr b u e
  · exact upd_ne fun q => nz (q ▸ z)
  · obtain ⟨v, h1, h2⟩ := E.dat i d e
    exact ⟨v, h1, h2.mono sd⟩
  · obtain ⟨q, xs, h1, h2, h3, h4, h5, h6⟩ := E.ow i ds e
    have hq : q ≠ p := ne_of_none h2 h
    exact ⟨q, xs, h1, by rw [upd_ne hq]; exact h2, h3.mono sd, by rw [upd_ne hq]; exact h4, h5, h6⟩
/-- a new list that is nobody's yet -/
theorem EOk.newOb (E : EOk K w B D0 Hd H σ ρ ls) {p : Addr} {u0 : HO} (h : H p = none) : EOk K w B D0 Hd (upd H p u0) σ ρ ls ∧ FreshO w B Hd (upd H p u0) σ ρ p u0 := by
  have hd := E.nd_new h
  have nz := E.nz_new h
  refine ⟨⟨fun b u e z t => ?_, fun b e => ?_, fun b u e => ?_, E.sub0, E.noz, E.nt, E.fr, E.st.keep (fun b z => upd_ne fun q => nz (q ▸ z)) (tabs_upd E.st.tabs (lo_none h)), E.len, E.dat, fun i ds e => ?_, E.apa⟩, ⟨upd_same, hd, E.dom _ h, nz, fun i ds e q => ?_⟩⟩
  · rw [upd_ne (ne_of_none (E.base b u e z t) h)]; exact E.base b u e z t
  · by_cases hb : b = p
    · subst hb; rw [upd_same] at e; cases e
    · rw [upd_ne hb] at e; exact E.dom b e
  · rw [upd_ne (ne_of_none (E.sub b u e) h)]; exact E.sub b u e
  · obtain ⟨q, ys, h1, h2, h3, h4, h5, h6⟩ := E.ow i ds e
    exact ⟨q, ys, h1, by rw [upd_ne (ne_of_none h2 h)]; exact h2, h3, h4, h5, h6⟩
  · obtain ⟨r, ys, h1, h2, _⟩ := E.ow i ds e
    rw [h1] at q; cases q
    rw [h] at h2; cases h2
theorem EOk.newList (E : EOk K w B D0 Hd H σ ρ ls) {p : Addr} {xs : List V} (h : H p = none) : EOk K w B D0 Hd (upd H p (.lst xs)) σ ρ ls ∧ Fresh w B Hd (upd H p (.lst xs)) σ ρ p xs := E.newOb h
/-- a list that nobody knows becomes data -/
theorem EOk.freezeO {p : Addr} {u0 : HO} (E : EOk K w B D0 Hd H σ ρ ls) (F : FreshO w B Hd H σ ρ p u0) (nt : NT u0) : EOk K w B D0 (upd Hd p u0) H σ ρ ls := by
  have sd : Sub Hd (upd Hd p u0) := .upd F.nd
  refine ⟨E.base, E.dom, fun b u e => ?_, E.sub0.trans sd, fun b z => ?_, fun b u e => ?_, fun b u e => ?_, E.st, E.len, fun i d e => ?_, fun i ds e => ?_, E.apa⟩
  · by_cases hb : b = p
    · subst hb; rw [upd_same] at e; cases e; exact F.at_
    · rw [upd_ne hb] at e; exact E.sub b u e
  · rw [upd_ne (show b ≠ p from fun q => F.nz (q ▸ z))]; exact E.noz b z
  · by_cases hb : b = p
    · subst hb; rw [upd_same] at e; cases e; exact nt
    · rw [upd_ne hb] at e; exact E.nt b u e
  · by_cases hb : b = p
    · subst hb; exact .inr (.inl F.nb)
    · rw [upd_ne hb] at e; exact E.fr b u e
  · obtain ⟨v, h1, h2⟩ := E.dat i d e
    exact ⟨v, h1, h2.mono sd⟩
  · obtain ⟨q, ys, h1, h2, h3, h4, h5, h6⟩ := E.ow i ds e
    have hq : q ≠ p := fun z => F.ns i ds e (z ▸ h1)
    exact ⟨q, ys, h1, h2, h3.mono sd, by rw [upd_ne hq]; exact h4, h5, h6⟩
theorem EOk.freeze {p : Addr} {xs : List V} (E : EOk K w B D0 Hd H σ ρ ls) (F : Fresh w B Hd H σ ρ p xs) : EOk K w B D0 (upd Hd p (.lst xs)) H σ ρ ls := E.freezeO F NT.lst
theorem getSet {α : Type} {l : List α} {i j : Nat} {a b : α} (h : (l.set i a)[j]? = some b) : (j = i ∧ i < l.length ∧ b = a) ∨ (j ≠ i ∧ l[j]? = some b) := by
  by_cases e : j = i
  · subst e
    have hl : j < (l.set j a).length := (List.getElem?_eq_some_iff.mp h).1
    rw [List.length_set] at hl
    rw [List.getElem?_set_self hl] at h
    exact .inl ⟨rfl, hl, (Option.some.inj h).symm⟩
  · rw [List.getElem?_set_ne (Ne.symm e)] at h
    exact .inr ⟨e, h⟩
/-- a slot's list is given away: data from now on -/
theorem EOk.leak {i : Nat} {ds : List D} (E : EOk K w B D0 Hd H σ ρ ls) (h : ρ[i]? = some (.own ds)) :
    ∃ p xs, σ[i]? = some (some (.ref p)) ∧ H p = some (.lst xs) ∧ Hd p = none ∧ EOk K w B D0 (upd Hd p (.lst xs)) H σ (ρ.set i (.dat (.lst ds))) ls ∧ Rp K (upd Hd p (.lst xs)) (.ref p) (.lst ds) := by
  obtain ⟨p, xs, h1, h2, h3, h4, h5, h6⟩ := E.own i ds h
  have sd : Sub Hd (upd Hd p (.lst xs)) := .upd h4
  have rp : Rp K (upd Hd p (.lst xs)) (.ref p) (.lst ds) := .lst upd_same (h3.mono sd)
  refine ⟨p, xs, h1, h2, h4, ⟨E.base, E.dom, fun b u e => ?_, E.sub0.trans sd, fun b z => ?_, fun b u e => ?_, fun b u e => ?_, E.st, by simpa using E.len, fun j d e => ?_, fun j es e => ?_, fun j k q es fs ne e1 e2 => ?_⟩, rp⟩
  · by_cases hb : b = p
    · subst hb; rw [upd_same] at e; cases e; exact h2
    · rw [upd_ne hb] at e; exact E.sub b u e
  · rw [upd_ne (show b ≠ p from fun q => h6 (q ▸ z))]; exact E.noz b z
  · by_cases hb : b = p
    · subst hb; rw [upd_same] at e; cases e; exact NT.lst
    · rw [upd_ne hb] at e; exact E.nt b u e
  · by_cases hb : b = p
    · subst hb; exact .inr (.inl h5)
    · rw [upd_ne hb] at e; exact E.fr b u e
  · rcases getSet e with ⟨rfl, _, q⟩ | ⟨_, e⟩
    · cases q; exact ⟨_, h1, rp⟩
    · obtain ⟨v, g1, g2⟩ := E.dat j d e
      exact ⟨v, g1, g2.mono sd⟩
  · rcases getSet e with ⟨_, _, q⟩ | ⟨ne, e⟩
    · cases q
    · obtain ⟨q, ys, g1, g2, g3, g4, g5, g6⟩ := E.ow j es e
      have hq : q ≠ p := fun z => E.apa j i p es (.l ds) ne e h (z ▸ g1) h1
      exact ⟨q, ys, g1, g2, g3.mono sd, by rw [upd_ne hq]; exact g4, g5, g6⟩
  · rcases getSet e1 with ⟨_, _, z⟩ | ⟨_, e1⟩
    · cases z
    · rcases getSet e2 with ⟨_, _, z⟩ | ⟨_, e2⟩
      · cases z
      · exact E.apa j k q es fs ne e1 e2
/-- a slot's list is changed -/
theorem EOk.changeO {i : Nat} {ds es : Ow} {p : Addr} {y : HO} (E : EOk K w B D0 Hd H σ ρ ls) (h : ρ[i]? = some (.ow ds)) (hp : σ[i]? = some (some (.ref p))) (r : OwR K Hd y es) :
    EOk K w B D0 Hd (upd H p y) σ (ρ.set i (.ow es)) ls := by
  obtain ⟨p', xs, h1, h2, h3, h4, h5, h6⟩ := E.ow i ds h
  rw [hp] at h1; cases h1
  have hi : i < ρ.length := (List.getElem?_eq_some_iff.mp h).1
  refine ⟨fun b u e z t => ?_, fun b e => ?_, fun b u e => ?_, E.sub0, E.noz, E.nt, E.fr, E.st.keep (fun b z => upd_ne fun q => h6 (q ▸ z)) (tabs_upd E.st.tabs (fun u e => by rw [h2] at e; cases e; exact h3.lo)), by simpa using E.len, fun j d e => ?_, fun j es' e => ?_, fun j k q as bs ne e1 e2 s1 s2 => ?_⟩
  · rw [upd_ne (h5.ne e t)]; exact E.base b u e z t
  · by_cases hb : b = p
    · subst hb; rw [upd_same] at e; cases e
    · rw [upd_ne hb] at e; exact E.dom b e
  · rw [upd_ne (fun q => by subst q; rw [h4] at e; cases e)]; exact E.sub b u e
  · rcases getSet e with ⟨_, _, q⟩ | ⟨_, e⟩
    · cases q
    · exact E.dat j d e
  · rcases getSet e with ⟨rfl, _, q⟩ | ⟨ne, e⟩
    · cases q; exact ⟨p, y, hp, upd_same, r, h4, h5, h6⟩
    · obtain ⟨q, zs, g1, g2, g3, g4, g5, g6⟩ := E.ow j es' e
      have hq : q ≠ p := fun z => E.apa j i p es' ds ne e h (z ▸ g1) hp
      exact ⟨q, zs, g1, by rw [upd_ne hq]; exact g2, g3, g4, g5, g6⟩
  · have old : ∀ (m : Nat) (as : Ow), (ρ.set i (.ow es))[m]? = some (.ow as) → ∃ as', ρ[m]? = some (.ow as') := fun m as e => by
      rcases getSet e with ⟨rfl, _, _⟩ | ⟨_, e⟩
      · exact ⟨ds, h⟩
      · exact ⟨as, e⟩
    obtain ⟨as', e1⟩ := old j as e1
    obtain ⟨bs', e2⟩ := old k bs e2
    exact E.apa j k q as' bs' ne e1 e2 s1 s2
theorem EOk.change {i : Nat} {ds es : List D} {p : Addr} {ys : List V} (E : EOk K w B D0 Hd H σ ρ ls) (h : ρ[i]? = some (.own ds)) (hp : σ[i]? = some (some (.ref p))) (r : RpL K Hd ys es) :
    EOk K w B D0 Hd (upd H p (.lst ys)) σ (ρ.set i (.own es)) ls := E.changeO h hp ⟨_, rfl, r⟩
/-- a name gets data -/
theorem EOk.store {i : Nat} {v : V} {d : D} (E : EOk K w B D0 Hd H σ ρ ls) (hi : i < ρ.length) (r : Rp K Hd v d) : EOk K w B D0 Hd H (σ.set i (some v)) (ρ.set i (.dat d)) ls := by
  refine ⟨E.base, E.dom, E.sub, E.sub0, E.noz, E.nt, E.fr, E.st, by simpa using E.len, fun j e h => ?_, fun j es h => ?_, fun j k q as bs ne e1 e2 s1 s2 => ?_⟩
  · rcases getSet h with ⟨rfl, _, q⟩ | ⟨ne, h⟩
    · cases q; exact ⟨v, List.getElem?_set_self (by rw [E.len]; exact hi), r⟩
    · rw [List.getElem?_set_ne (Ne.symm ne)]; exact E.dat j e h
  · rcases getSet h with ⟨_, _, q⟩ | ⟨ne, h⟩
    · cases q
    · rw [List.getElem?_set_ne (Ne.symm ne)]; exact E.ow j es h
  · rcases getSet e1 with ⟨_, _, z⟩ | ⟨n1, e1⟩
    · cases z
    · rcases getSet e2 with ⟨_, _, z⟩ | ⟨n2, e2⟩
      · cases z
      · rw [List.getElem?_set_ne (Ne.symm n1)] at s1
        rw [List.getElem?_set_ne (Ne.symm n2)] at s2
        exact E.apa j k q as bs ne e1 e2 s1 s2
/-- a name gets a list that nobody knows -/
theorem EOk.storeOw {i : Nat} {p : Addr} {u0 : HO} {ds : Ow} (E : EOk K w B D0 Hd H σ ρ ls) (hi : i < ρ.length) (F : FreshO w B Hd H σ ρ p u0) (r : OwR K Hd u0 ds) : EOk K w B D0 Hd H (σ.set i (some (.ref p))) (ρ.set i (.ow ds)) ls := by
  have hs : (σ.set i (some (V.ref p)))[i]? = some (some (.ref p)) := List.getElem?_set_self (by rw [E.len]; exact hi)
  refine ⟨E.base, E.dom, E.sub, E.sub0, E.noz, E.nt, E.fr, E.st, by simpa using E.len, fun j e h => ?_, fun j es h => ?_, fun j k q as bs ne e1 e2 s1 s2 => ?_⟩
  · rcases getSet h with ⟨_, _, q⟩ | ⟨ne, h⟩
    · cases q
    · rw [List.getElem?_set_ne (Ne.symm ne)]; exact E.dat j e h
  · rcases getSet h with ⟨rfl, _, q⟩ | ⟨ne, h⟩
    · cases q; exact ⟨p, u0, hs, F.at_, r, F.nd, F.nb, F.nz⟩
    · rw [List.getElem?_set_ne (Ne.symm ne)]; exact E.ow j es h
  · rcases getSet e1 with ⟨hj, _, z⟩ | ⟨n1, e1'⟩
    · rw [hj, hs] at s1; cases s1
      rcases getSet e2 with ⟨z2, _, _⟩ | ⟨n2, e2'⟩
      · exact ne (hj.trans z2.symm)
      · rw [List.getElem?_set_ne (Ne.symm n2)] at s2
        exact F.ns k bs e2' s2
    · rw [List.getElem?_set_ne (Ne.symm n1)] at s1
      rcases getSet e2 with ⟨hk, _, _⟩ | ⟨n2, e2'⟩
      · rw [hk, hs] at s2; cases s2
        exact F.ns j as e1' s1
      · rw [List.getElem?_set_ne (Ne.symm n2)] at s2
        exact E.apa j k q as bs ne e1' e2' s1 s2
theorem EOk.storeOwn {i : Nat} {p : Addr} {xs : List V} {ds : List D} (E : EOk K w B D0 Hd H σ ρ ls) (hi : i < ρ.length) (F : Fresh w B Hd H σ ρ p xs) (r : RpL K Hd xs ds) : EOk K w B D0 Hd H (σ.set i (some (.ref p))) (ρ.set i (.own ds)) ls := E.storeOw hi F ⟨_, rfl, r⟩
end
end Pd

set_option Elab.async false
set_option linter.all false
set_option maxRecDepth 100000
set_option maxHeartbeats 4000000
/-! Pd1: programs over environments, and their readings. -/
namespace Pd
open PySem PySem.Spec PyProof.Rows L2

/-- an exception: its class, its int field -/
structure XV where
  cls : Addr
  fld : Option (Str × Int)
inductive Out (α : Type) where
  | ok (a : α) (ρ : Rho) (ls : LS) | rs (x : XV) (ls : LS) | no
abbrev M (α : Type) := Rho → LS → Out α
def ret {α : Type} (a : α) : M α := fun ρ ls => .ok a ρ ls
def bnd {α β : Type} (f : M α) (g : α → M β) : M β := fun ρ ls => match f ρ ls with
  | .ok a ρ' ls' => g a ρ' ls'
  | .rs x ls' => .rs x ls'
  | .no => .no
def opt {α : Type} : Option α → M α
  | some a => ret a
  | none => fun _ _ => .no
/-- what an expression gives: data, or the list of a slot -/
inductive Rf where
  | d (x : D) | sl (i : Nat)
def slD : Option Sl → Option D
  | some (.own ds) => some (.lst ds)
  | some (.dat x) => some x
  | _ => none
def den (ρ : Rho) : Rf → Option D
  | .d x => some x
  | .sl i => slD ρ[i]?
/-- its data as it stands -/
def look (r : Rf) : M D := fun ρ ls => opt (den ρ r) ρ ls
/-- its data, given away -/
def giveS (i : Nat) (ρ : Rho) (ls : LS) : Option Sl → Out D
  | some (.own ds) => .ok (.lst ds) (ρ.set i (.dat (.lst ds))) ls
  | some (.dat x) => .ok x ρ ls
  | _ => .no
def give : Rf → M D
  | .d x => ret x
  | .sl i => fun ρ ls => giveS i ρ ls ρ[i]?

structure XOk (w : Wd) (B H' : Hp) (ls' : LS) (x : XV) (cls : Value) (dd : Option Addr) : Prop where
  base : ∀ b o, B b = some o → ¬ w.Z b → NT o → H' b = some o
  st : SOk w ls' H'
  cls : cls = .ref x.cls
  non : x.fld = none → dd = none
  fld : ∀ n i, x.fld = some (n, i) → ∃ a, dd = some a ∧ H' a = some (.xd [(n, .int i)])

def Go {α : Type} (K : PySem.W.Frag) (W : WX) (w : Wd) (B D0 : Hp) (σ : L2.St) (Hd : Hp) (o : Out α) (P : Hp → Hp → Rho → LS → α → Prop) : Prop := match o with
  | .ok a ρ' ls' => ∀ Hd' H', EOk K w B D0 Hd' H' σ ρ' ls' → Sub Hd Hd' → P Hd' H' ρ' ls' a
  | .rs x ls' => ∀ H' cls dd, XOk w B H' ls' x cls dd → W cls dd σ H'
  | .no => False
abbrev PostT (α : Type) := Wd → Hp → Hp → Hp → Hp → Rho → LS → α → Prop
def Ru {α : Type} (K : PySem.W.Frag) (W : WX) (f : M α) (σ : L2.St) (H : Hp) (P : PostT α) : Prop :=
  ∃ w B D0 Hd ρ ls, EOk K w B D0 Hd H σ ρ ls ∧ Go K W w B D0 σ Hd (f ρ ls) (P w B D0)

def RfOk (K : PySem.W.Frag) (Hd : Hp) (σ : L2.St) (v : V) : Rf → Prop
  | .d x => Rp K Hd v x
  | .sl i => σ[i]? = some (some v)
/-- an expression -/
def U (K : PySem.W.Frag) (W : WX) (f : M Rf) : TE := fun σ H Q => Ru K W f σ H fun _ _ _ Hd' H' _ _ r => ∀ v, RfOk K Hd' σ v r → Q v H'
/-- an expression, its data -/
def UV (K : PySem.W.Frag) (W : WX) (f : M D) : TE := fun σ H Q => Ru K W f σ H fun _ _ _ Hd' H' _ _ d => ∀ v, Rp K Hd' v d → Q v H'
/-- an expression that makes a list -/
def UN (K : PySem.W.Frag) (W : WX) (f : M (List D)) : TE := fun σ H Q => Ru K W f σ H fun w B _ Hd' H' ρ' _ ds => ∀ p xs, Fresh w B Hd' H' σ ρ' p xs → RpL K Hd' xs ds → Q (.ref p) H'
/-- arguments -/
def UA (K : PySem.W.Frag) (W : WX) (f : M (List D)) : TA := fun σ H Q => Ru K W f σ H fun _ _ _ Hd' H' _ _ ds => ∀ vs, RpL K Hd' vs ds → Q vs H'
/-- a test -/
def UT (K : PySem.W.Frag) (W : WX) (f : M Bool) : TT := fun σ H Q => Ru K W f σ H fun _ _ _ _ H' _ _ b => Q b H'

section
variable {X : Cx} {K : PySem.W.Frag} {W : WX} {α β : Type} {w : Wd} {B D0 Hd H : Hp} {σ : L2.St} {ρ : Rho} {ls : LS}

theorem Go.imp {o : Out α} {P P' : Hp → Hp → Rho → LS → α → Prop} (h : Go K W w B D0 σ Hd o P) (i : ∀ Hd' H' ρ' ls' a, EOk K w B D0 Hd' H' σ ρ' ls' → Sub Hd Hd' → P Hd' H' ρ' ls' a → P' Hd' H' ρ' ls' a) : Go K W w B D0 σ Hd o P' := by
  cases o with
  | ok a ρ' ls' => exact fun Hd' H' E s => i _ _ _ _ _ E s (h Hd' H' E s)
  | rs x ls' => exact h
  | no => exact h
theorem Go.xBnd {f : M α} {g : α → M β} {P : Hp → Hp → Rho → LS → β → Prop} (h : Go K W w B D0 σ Hd (bnd f g ρ ls) P) :
    Go K W w B D0 σ Hd (f ρ ls) fun Hd1 _ ρ1 ls1 a => Go K W w B D0 σ Hd1 (g a ρ1 ls1) P := by
  unfold bnd at h
  cases e : f ρ ls with
  | ok a ρ' ls' =>
    rw [e] at h
    intro Hd1 H1 E1 s1
    refine Go.imp (P := P) ?_ fun _ _ _ _ _ _ _ q => q
    simp only at h
    cases e2 : g a ρ' ls' with
    | ok b ρ2 ls2 => rw [e2] at h; exact fun Hd' H' E s => h Hd' H' E (s1.trans s)
    | rs x ls2 => rw [e2] at h; exact h
    | no => rw [e2] at h; exact h
  | rs x ls' => rw [e] at h; exact h
  | no => rw [e] at h; exact h
theorem Ru.xBnd {f : M α} {g : α → M β} {P : PostT β} (h : Ru K W (bnd f g) σ H P) :
    Ru K W f σ H fun w B D0 Hd1 _ ρ1 ls1 a => Go K W w B D0 σ Hd1 (g a ρ1 ls1) (P w B D0) := by
  obtain ⟨w, B, D0, Hd, ρ, ls, E, h⟩ := h
  exact ⟨w, B, D0, Hd, ρ, ls, E, h.xBnd⟩
theorem Go.ru {f : M α} {P : PostT α} (E : EOk K w B D0 Hd H σ ρ ls) (h : Go K W w B D0 σ Hd (f ρ ls) (P w B D0)) : Ru K W f σ H P := ⟨w, B, D0, Hd, ρ, ls, E, h⟩
theorem Ru.imp {f : M α} {P P' : PostT α} (h : Ru K W f σ H P) (i : ∀ w B D0 Hd' H' ρ' ls' a, EOk K w B D0 Hd' H' σ ρ' ls' → P w B D0 Hd' H' ρ' ls' a → P' w B D0 Hd' H' ρ' ls' a) : Ru K W f σ H P' := by
  obtain ⟨w, B, D0, Hd, ρ, ls, E, h⟩ := h
  exact ⟨w, B, D0, Hd, ρ, ls, E, h.imp fun Hd' H' ρ' ls' a E' _ q => i _ _ _ _ _ _ _ _ E' q⟩

/-! ### another reading -/
theorem pe_imp {e : Expr} {t t' : TE} (h : PE X e t) (i : ∀ σ H Q, t' σ H Q → t σ H Q) : PE X e t' := ⟨fun pins s σ H Q I q => h.run pins s σ H Q I (i σ H Q q)⟩
theorem pt_imp {e : Expr} {t t' : TT} (h : PT X e t) (i : ∀ σ H Q, t' σ H Q → t σ H Q) : PT X e t' := ⟨fun pins s σ H Q I q => h.run pins s σ H Q I (i σ H Q q)⟩
theorem pw_imp {e : Expr} {t t' : TT} (h : PW X e t) (i : ∀ σ H Q, t' σ H Q → t σ H Q) : PW X e t' := ⟨fun wh pins s σ H Q I q => h.run wh pins s σ H Q I (i σ H Q q)⟩
theorem pa_imp {es : List Expr} {t t' : TA} (h : PA X es t) (i : ∀ σ H Q, t' σ H Q → t σ H Q) : PA X es t' := ⟨fun pos pins s σ H Q I q => h.run pos pins s σ H Q I (i σ H Q q)⟩
theorem ps_imp {st : Stmt} {t t' : TS} (h : PS X st t) (i : ∀ D σ H, t' D σ H → t D σ H) : PS X st t' := ⟨fun pins s σ H D I q => h.run pins s σ H D I (i D σ H q)⟩
theorem pss_imp {st : List Stmt} {t t' : TS} (h : PSs X st t) (i : ∀ D σ H, t' D σ H → t D σ H) : PSs X st t' := ⟨fun pins s σ H D I q => h.run pins s σ H D I (i D σ H q)⟩

/-! ### what is read -/
/-- v is x: a list's items are data -/
def RpS (K : PySem.W.Frag) (Hd H : Hp) (v : V) (x : D) : Prop := match x with
  | .lst ds => ∃ p xs, v = .ref p ∧ H p = some (.lst xs) ∧ RpL K Hd xs ds
  | x => Rp K Hd v x
theorem RpS.of {v : V} {x : D} (s : Sub Hd H) (h : Rp K Hd v x) : RpS K Hd H v x := by
  cases h with
  | lst e r => exact ⟨_, _, rfl, s _ _ e, r⟩
  | non => exact .non
  | bl b => exact .bl b
  | int i => exact .int i
  | str x => exact .str x
  | ref a => exact .ref a
  | tup e r => exact .tup e r
  | lsk e r => exact .lsk e r
  | exn h => exact .exn h
  | dK h a b r => exact .dK h a b r
  | dT h a b r => exact .dT h a b r
  | ktp h r => exact .ktp h r
theorem RpS.rp {v : V} {x : D} (s : Sub Hd H) (h : RpS K Hd H v x) : Rp K H v x := by
  cases x with
  | lst ds =>
    obtain ⟨p, xs, rfl, e, r⟩ := h
    exact .lst e (r.mono s)
  | non => exact Rp.mono s h
  | bl b => exact Rp.mono s h
  | int i => exact Rp.mono s h
  | str x => exact Rp.mono s h
  | ref a => exact Rp.mono s h
  | tup l => exact Rp.mono s h
  | lsk l => exact Rp.mono s h
  | exn c => exact Rp.mono s h
  | dct ks es => exact Rp.mono s h
  | ktp l => exact Rp.mono s h
  | dcf _ _ => exact Rp.mono s h
theorem RfOk.mono {Hd' : Hp} {v : V} {r : Rf} (s : Sub Hd Hd') (h : RfOk K Hd σ v r) : RfOk K Hd' σ v r := by
  cases r with
  | d x => exact Rp.mono s h
  | sl i => exact h
theorem EOk.xDen (E : EOk K w B D0 Hd H σ ρ ls) {v : V} {r : Rf} {x : D} (h : RfOk K Hd σ v r) (e : den ρ r = some x) : RpS K Hd H v x := by
  cases r with
  | d y => cases e; exact RpS.of E.sub h
  | sl i =>
    have h : σ[i]? = some (some v) := h
    have e : slD ρ[i]? = some x := e
    cases q : ρ[i]? with
    | none => rw [q] at e; cases e
    | some s =>
      rw [q] at e
      cases s with
      | un => cases e
      | dat y =>
        cases e
        obtain ⟨v', h1, h2⟩ := E.dat i _ q
        rw [h] at h1; cases h1
        exact RpS.of E.sub h2
      | ow o =>
        cases o with
        | d _ _ => cases e
        | l ds =>
          cases e
          obtain ⟨p, xs, h1, h2, h3, _⟩ := E.own i _ q
          rw [h] at h1; cases h1
          exact ⟨p, xs, rfl, h2, h3⟩
/-- a look: nothing changes -/
theorem Go.xLook {r : Rf} {P : Hp → Hp → Rho → LS → D → Prop} (h : Go K W w B D0 σ Hd (look r ρ ls) P) (E : EOk K w B D0 Hd H σ ρ ls) {v : V} (hv : RfOk K Hd σ v r) : ∃ x, RpS K Hd H v x ∧ P Hd H ρ ls x := by
  have h : Go K W w B D0 σ Hd (opt (den ρ r) ρ ls) P := h
  cases e : den ρ r with
  | none => rw [e] at h; exact False.elim h
  | some x => rw [e] at h; exact ⟨x, E.xDen hv e, h Hd H E (Sub.refl _)⟩
theorem Go.xLookB {r : Rf} {g : D → M β} {P : Hp → Hp → Rho → LS → β → Prop} (h : Go K W w B D0 σ Hd (bnd (look r) g ρ ls) P) (E : EOk K w B D0 Hd H σ ρ ls) {v : V} (hv : RfOk K Hd σ v r) :
    ∃ x, RpS K Hd H v x ∧ Go K W w B D0 σ Hd (g x ρ ls) P := h.xBnd.xLook E hv
theorem Go.xGive {r : Rf} {P : Hp → Hp → Rho → LS → D → Prop} (h : Go K W w B D0 σ Hd (give r ρ ls) P) (E : EOk K w B D0 Hd H σ ρ ls) {v : V} (hv : RfOk K Hd σ v r) :
    ∃ x Hd' ρ', Rp K Hd' v x ∧ Sub Hd Hd' ∧ EOk K w B D0 Hd' H σ ρ' ls ∧ P Hd' H ρ' ls x := by
  cases r with
  | d x => exact ⟨x, Hd, ρ, hv, Sub.refl _, E, h Hd H E (Sub.refl _)⟩
  | sl i =>
    have hv : σ[i]? = some (some v) := hv
    have h : Go K W w B D0 σ Hd (giveS i ρ ls ρ[i]?) P := h
    cases q : ρ[i]? with
    | none => rw [q] at h; exact False.elim h
    | some s =>
      rw [q] at h
      cases s with
      | un => exact False.elim h
      | dat y =>
        obtain ⟨v', h1, h2⟩ := E.dat i _ q
        rw [hv] at h1; cases h1
        exact ⟨y, Hd, ρ, h2, Sub.refl _, E, h Hd H E (Sub.refl _)⟩
      | ow o =>
        cases o with
        | d _ _ => exact False.elim h
        | l ds =>
          obtain ⟨p, xs, h1, h2, h3, E', r'⟩ := E.leak q
          rw [hv] at h1; cases h1
          exact ⟨_, _, _, r', .upd h3, E', h _ _ E' (.upd h3)⟩
theorem Go.xOpt {o : Option α} {g : α → M β} {P : Hp → Hp → Rho → LS → β → Prop} (h : Go K W w B D0 σ Hd (bnd (opt o) g ρ ls) P) : ∃ a, o = some a ∧ Go K W w B D0 σ Hd (g a ρ ls) P := by
  cases o with
  | none => exact False.elim h
  | some a => exact ⟨a, rfl, h⟩
theorem Go.xOpt1 {o : Option α} {P : Hp → Hp → Rho → LS → α → Prop} (h : Go K W w B D0 σ Hd (opt o ρ ls) P) : ∃ a, o = some a ∧ ∀ Hd' H', EOk K w B D0 Hd' H' σ ρ ls → Sub Hd Hd' → P Hd' H' ρ ls a := by
  cases o with
  | none => exact False.elim h
  | some a => exact ⟨a, rfl, h⟩

/-! ### from one reading to the other -/
theorem UV.of {f : M Rf} {Q : VK} (h : UV K W (bnd f give) σ H Q) : U K W f σ H Q := by
  refine Ru.imp h.xBnd fun w B D0 Hd' H' ρ' ls' r E q v hv => ?_
  obtain ⟨x, Hd2, ρ2, h1, h2, E2, q⟩ := q.xGive E hv
  exact q v h1
theorem u_give {e : Expr} {f : M Rf} (h : PE X e (U K W f)) : PE X e (UV K W (bnd f give)) := pe_imp h fun _ _ _ q => UV.of q
/-- data as what is given -/
def dt (f : M D) : M Rf := bnd f fun d => ret (.d d)
theorem u_dt {e : Expr} {f : M D} (h : PE X e (UV K W f)) : PE X e (U K W (dt f)) := pe_imp h fun σ H Q q => by
  refine Ru.imp q.xBnd fun w B D0 Hd' H' ρ' ls' d E q v hv => ?_
  exact q Hd' H' E (Sub.refl _) v hv
/-- a list that is made, as data -/
def ls1 (f : M (List D)) : M D := bnd f fun l => ret (.lst l)
theorem u_ls {e : Expr} {f : M (List D)} (h : PE X e (UN K W f)) : PE X e (UV K W (ls1 f)) := pe_imp h fun σ H Q q => by
  refine Ru.imp q.xBnd fun w B D0 Hd' H' ρ' ls' ds E q p xs F r => ?_
  have sd : Sub Hd' (upd Hd' p (.lst xs)) := .upd F.nd
  exact q _ H' (E.freeze F) sd (.ref p) (.lst upd_same (r.mono sd))

/-! ### names, constants -/
def namS (i : Nat) (ρ : Rho) (ls : LS) : Option Sl → Out Rf
  | some (.dat x) => .ok (.d x) ρ ls
  | some (.own _) => .ok (.sl i) ρ ls
  | _ => .no
def nam (i : Nat) : M Rf := fun ρ ls => namS i ρ ls ρ[i]?
theorem u_nam {e : Expr} (i : Nat) (h : PE X e (tVar i)) : PE X e (U K W (nam i)) := pe_imp h fun σ H Q q => by
  obtain ⟨w, B, D0, Hd, ρ, ls, E, q⟩ := q
  have q : Go K W w B D0 σ Hd (namS i ρ ls ρ[i]?) fun Hd' H' _ _ r => ∀ v, RfOk K Hd' σ v r → Q v H' := q
  cases e : ρ[i]? with
  | none => rw [e] at q; exact False.elim q
  | some s =>
    rw [e] at q
    cases s with
    | un => exact False.elim q
    | dat x =>
      obtain ⟨v, h1, h2⟩ := E.dat i _ e
      exact ⟨v, h1, q Hd H E (Sub.refl _) v h2⟩
    | ow o =>
      cases o with
      | d _ _ => exact False.elim q
      | l ds =>
        obtain ⟨p, xs, h1, _⟩ := E.own i _ e
        exact ⟨.ref p, h1, q Hd H E (Sub.refl _) _ h1⟩
theorem u_con {e : Expr} {v : V} {d : D} (h : PE X e (tC v)) (r : ∀ H, Rp K H v d) : PE X e (UV K W (ret d)) := pe_imp h fun σ H Q q => by
  obtain ⟨w, B, D0, Hd, ρ, ls, E, q⟩ := q
  exact q Hd H E (Sub.refl _) v (r _)
theorem u_int {i : Int} {j pos} : PE X (.Constant (.int i) j pos) (UV K W (ret (.int i))) := u_con pe_int fun _ => .int i
theorem u_str {x : Str} {j pos} : PE X (.Constant (.str x) j pos) (UV K W (ret (.str x))) := u_con pe_str fun _ => .str x
theorem u_bl {b : Bool} {j pos} : PE X (.Constant (.bool b) j pos) (UV K W (ret (.bl b))) := u_con pe_bl fun _ => .bl b
theorem u_non {j pos} : PE X (.Constant .none j pos) (UV K W (ret .non)) := u_con pe_non fun _ => .non

/-! ### operations -/
/-- what a two-place operation's reading asks, in data -/
structure OpD (K : PySem.W.Frag) (r : R2) (op : D → D → Option D) : Prop where
  run : ∀ {w : Wd} {B D0 Hd H : Hp} {σ : L2.St} {ρ : Rho} {ls : LS} {v u : V} {x y z : D}, EOk K w B D0 Hd H σ ρ ls → RpS K Hd H v x → RpS K Hd H u y → op x y = some z →
  ∀ Q : VK, (∀ t Hd' H', EOk K w B D0 Hd' H' σ ρ ls → Sub Hd Hd' → Rp K Hd' t z → Q t H') → r v u H Q
structure OpN (K : PySem.W.Frag) (r : R2) (op : D → D → Option (List D)) : Prop where
  run : ∀ {w : Wd} {B D0 Hd H : Hp} {σ : L2.St} {ρ : Rho} {ls : LS} {v u : V} {x y : D} {z : List D}, EOk K w B D0 Hd H σ ρ ls → RpS K Hd H v x → RpS K Hd H u y → op x y = some z →
  ∀ Q : VK, (∀ p xs H', EOk K w B D0 Hd H' σ ρ ls → Fresh w B Hd H' σ ρ p xs → RpL K Hd xs z → Q (.ref p) H') → r v u H Q
/-- two operands, then an operation on what they are -/
def bin {α : Type} (op : D → D → Option α) (f g : M Rf) : M α := bnd f fun r => bnd g fun s => bnd (look r) fun x => bnd (look s) fun y => opt (op x y)
variable {a b : Expr} {ta tb : TE} {pos : Pos} {f g : M Rf} {r : R2}
theorem read_bin {op : D → D → Option D} (h : OpD K r op) {Q : VK} (q : UV K W (bin op f g) σ H Q) : tOp r (U K W f) (U K W g) σ H Q := by
  refine Ru.imp q.xBnd fun w B D0 Hd1 H1 ρ1 ls1 r1 E1 q1 v hv => ?_
  refine Go.ru (P := fun _ _ _ Hd' H' _ _ r => ∀ v_1, RfOk K Hd' σ v_1 r → _) E1 ?_
  refine q1.xBnd.imp fun Hd2 H2 ρ2 ls2 r2 E2 s2 q2 u hu => ?_
  obtain ⟨x, hx, q3⟩ := q2.xLookB E2 (hv.mono s2)
  obtain ⟨y, hy, q4⟩ := q3.xLookB E2 hu
  obtain ⟨z, hz, q5⟩ := q4.xOpt1
  exact h.run E2 hx hy hz Q fun t Hd' H' E' s' r' => q5 Hd' H' E' s' t r'
theorem read_binN {op : D → D → Option (List D)} (h : OpN K r op) {Q : VK} (q : UN K W (bin op f g) σ H Q) : tOp r (U K W f) (U K W g) σ H Q := by
  refine Ru.imp q.xBnd fun w B D0 Hd1 H1 ρ1 ls1 r1 E1 q1 v hv => ?_
  refine Go.ru (P := fun _ _ _ Hd' H' _ _ r => ∀ v_1, RfOk K Hd' σ v_1 r → _) E1 ?_
  refine q1.xBnd.imp fun Hd2 H2 ρ2 ls2 r2 E2 s2 q2 u hu => ?_
  obtain ⟨x, hx, q3⟩ := q2.xLookB E2 (hv.mono s2)
  obtain ⟨y, hy, q4⟩ := q3.xLookB E2 hu
  obtain ⟨z, hz, q5⟩ := q4.xOpt1
  exact h.run E2 hx hy hz Q fun p xs H' E' F r' => q5 Hd2 H' E' (Sub.refl _) p xs F r'
theorem u_op {o : Operator} {op : D → D → Option D} (ho : OpR X (binaryOp o) r) (h : OpD K r op) (ha : PE X a (U K W f)) (hb : PE X b (U K W g)) : PE X (.BinOp a o b pos) (UV K W (bin op f g)) := pe_imp (pe_op ho ha hb) fun _ _ _ q => read_bin h q
theorem u_opN {o : Operator} {op : D → D → Option (List D)} (ho : OpR X (binaryOp o) r) (h : OpN K r op) (ha : PE X a (U K W f)) (hb : PE X b (U K W g)) : PE X (.BinOp a o b pos) (UN K W (bin op f g)) := pe_imp (pe_op ho ha hb) fun _ _ _ q => read_binN h q
theorem u_cmp {o : CmpOp} {op : D → D → Option D} (ho : OpR X (compareOp o) r) (h : OpD K r op) (ha : PE X a (U K W f)) (hb : PE X b (U K W g)) (hm : behindInMarks o b = false) : PE X (.Compare a [o] [b] pos) (UV K W (bin op f g)) := pe_imp (pe_cmpR ho ha hb hm) fun _ _ _ q => read_bin h q
/-- a bool that data is -/
def D.bool? : D → Option Bool
  | .bl b => some b
  | _ => none
def isB (d : D) : M Bool := opt d.bool?
theorem Go.xB {d : D} {P : Hp → Hp → Rho → LS → Bool → Prop} {v : V} (h : Go K W w B D0 σ Hd (isB d ρ ls) P) (E : EOk K w B D0 Hd H σ ρ ls) (r : Rp K Hd v d) : ∃ b, v = .bl b ∧ P Hd H ρ ls b := by
  obtain ⟨b, e, h⟩ := Go.xOpt1 h
  cases r with
  | bl c => cases e; exact ⟨_, rfl, h _ _ E (Sub.refl _)⟩
  | _ => cases e
theorem read_tst {f : M D} {t : TE} (ht : ∀ σ H Q, UV K W f σ H Q → t σ H Q) {Q : Bool → Hp → Prop} (q : UT K W (bnd f isB) σ H Q) : tTest t σ H Q := by
  refine ht _ _ _ (Ru.imp q.xBnd fun w B D0 Hd1 H1 ρ1 ls1 d E1 q1 v hv => ?_)
  exact q1.xB E1 hv
theorem ut_cmp {o : CmpOp} {op : D → D → Option D} (ho : OpR X (compareOp o) r) (h : OpD K r op) (ha : PE X a (U K W f)) (hb : PE X b (U K W g)) (hm : behindInMarks o b = false) : PT X (.Compare a [o] [b] pos) (UT K W (bnd (bin op f g) isB)) :=
  pt_imp (pt_cmpR ho ha hb hm) fun _ _ _ q => read_tst (fun _ _ _ q => read_bin h q) q
theorem ut_val {e : Expr} {f : M D} (h : PE X e (UV K W f)) (he : ∀ whole, isTrue e X.env whole = (do let v ← whole; standAt e.pos; holding [v] (truthy v)) := by intro _; rfl) : PT X e (UT K W (bnd f isB)) :=
  pt_imp (pt_val h he) fun _ _ _ q => read_tst (fun _ _ _ q => q) q
variable {p q : M Bool} {rest : List Expr}
def andM (p q : M Bool) : M Bool := bnd p fun c => if c = true then q else ret false
def orM (p q : M Bool) : M Bool := bnd p fun c => if c = true then ret true else q
def notM (p : M Bool) : M Bool := bnd p fun c => ret (!c)
theorem ut_and1 (h : PT X a (UT K W p)) : PW X (.BoolOp .And [a] pos) (UT K W p) := pw_and1 h
theorem ut_or1 (h : PT X a (UT K W p)) : PW X (.BoolOp .Or [a] pos) (UT K W p) := pw_or1 h
theorem ut_and (ha : PT X a (UT K W p)) (hb : PW X (.BoolOp .And (b :: rest) pos) (UT K W q)) : PW X (.BoolOp .And (a :: b :: rest) pos) (UT K W (andM p q)) := pw_imp (pw_and ha hb) fun σ H Q h => by
  refine Ru.imp h.xBnd fun w B D0 Hd1 H1 ρ1 ls1 c E1 q1 => ?_
  cases c with
  | true => exact Go.ru (P := fun _ _ _ _ H' _ _ b => Q b H') E1 q1
  | false => exact q1 _ _ E1 (Sub.refl _)
theorem ut_or (ha : PT X a (UT K W p)) (hb : PW X (.BoolOp .Or (b :: rest) pos) (UT K W q)) : PW X (.BoolOp .Or (a :: b :: rest) pos) (UT K W (orM p q)) := pw_imp (pw_or ha hb) fun σ H Q h => by
  refine Ru.imp h.xBnd fun w B D0 Hd1 H1 ρ1 ls1 c E1 q1 => ?_
  cases c with
  | false => exact Go.ru (P := fun _ _ _ _ H' _ _ b => Q b H') E1 q1
  | true => exact q1 _ _ E1 (Sub.refl _)
theorem ut_not (ha : PT X a (UT K W p)) : PT X (.UnaryOp .Not a pos) (UT K W (notM p)) := pt_imp (pt_not ha) fun σ H Q h => by
  refine Ru.imp h.xBnd fun w B D0 Hd1 H1 ρ1 ls1 c E1 q1 => ?_
  exact q1 _ _ E1 (Sub.refl _)
variable {fv gv : M D}
def andV (f g : M D) : M D := bnd f fun d => bnd (isB d) fun c => if c = true then g else ret (.bl false)
def orV (f g : M D) : M D := bnd f fun d => bnd (isB d) fun c => if c = true then ret (.bl true) else g
def notV (f : M D) : M D := bnd f fun d => bnd (isB d) fun c => ret (.bl (!c))
theorem u_one {op} (h : PE X a (UV K W fv)) : PE X (.BoolOp op [a] pos) (UV K W fv) := pe_one h
theorem u_and (ha : PE X a (UV K W fv)) (hb : PE X (.BoolOp .And (b :: rest) pos) (UV K W gv)) : PE X (.BoolOp .And (a :: b :: rest) pos) (UV K W (andV fv gv)) := pe_imp (pe_and ha hb) fun σ H Q h => by
  refine Ru.imp h.xBnd fun w B D0 Hd1 H1 ρ1 ls1 d E1 q1 v hv => ?_
  obtain ⟨c, rfl, q2⟩ := q1.xBnd.xB E1 hv
  refine ⟨c, rfl, ?_⟩
  cases c with
  | true => exact Go.ru (P := fun _ _ _ Hd' H' _ _ d => ∀ v, Rp K Hd' v d → Q v H') E1 q2
  | false => exact q2 _ _ E1 (Sub.refl _) _ (.bl false)
theorem u_or (ha : PE X a (UV K W fv)) (hb : PE X (.BoolOp .Or (b :: rest) pos) (UV K W gv)) : PE X (.BoolOp .Or (a :: b :: rest) pos) (UV K W (orV fv gv)) := pe_imp (pe_or ha hb) fun σ H Q h => by
  refine Ru.imp h.xBnd fun w B D0 Hd1 H1 ρ1 ls1 d E1 q1 v hv => ?_
  obtain ⟨c, rfl, q2⟩ := q1.xBnd.xB E1 hv
  refine ⟨c, rfl, ?_⟩
  cases c with
  | false => exact Go.ru (P := fun _ _ _ Hd' H' _ _ d => ∀ v, Rp K Hd' v d → Q v H') E1 q2
  | true => exact q2 _ _ E1 (Sub.refl _) _ (.bl true)
theorem u_not (ha : PE X a (UV K W fv)) : PE X (.UnaryOp .Not a pos) (UV K W (notV fv)) := pe_imp (pe_not ha) fun σ H Q h => by
  refine Ru.imp h.xBnd fun w B D0 Hd1 H1 ρ1 ls1 d E1 q1 v hv => ?_
  obtain ⟨c, rfl, q2⟩ := q1.xBnd.xB E1 hv
  exact ⟨c, rfl, q2 _ _ E1 (Sub.refl _) _ (.bl _)⟩
/-- a if t else b -/
def ifM {α : Type} (p : M Bool) (f g : M α) : M α := bnd p fun c => if c = true then f else g
theorem u_if {c : Expr} (hc : PT X c (UT K W p)) (ha : PE X a (UV K W fv)) (hb : PE X b (UV K W gv)) : PE X (.IfExp c a b pos) (UV K W (ifM p fv gv)) := pe_imp (pe_ifExp hc ha hb) fun σ H Q h => by
  refine Ru.imp h.xBnd fun w B D0 Hd1 H1 ρ1 ls1 c E1 q1 => ?_
  cases c with
  | true => exact Go.ru (P := fun _ _ _ Hd' H' _ _ d => ∀ v, Rp K Hd' v d → Q v H') E1 q1
  | false => exact Go.ru (P := fun _ _ _ Hd' H' _ _ d => ∀ v, Rp K Hd' v d → Q v H') E1 q1
/-! ### arguments, displays -/
variable {ga : M (List D)} {es : List Expr}
def consM (f : M D) (g : M (List D)) : M (List D) := bnd f fun d => bnd g fun ds => ret (d :: ds)
theorem ua_nil : PA X [] (UA K W (ret [])) := pa_imp pa_nil fun σ H Q h => by
  obtain ⟨w, B, D0, Hd, ρ, ls, E, q⟩ := h
  exact q Hd H E (Sub.refl _) [] .nil
theorem ua_cons (ha : PE X a (UV K W fv)) (hr : PA X es (UA K W ga)) (hs : starEach (a :: es) X.env = (false, eval a X.env) :: starEach es X.env := by rfl) : PA X (a :: es) (UA K W (consM fv ga)) := pa_imp (pa_cons ha hr hs) fun σ H Q h => by
  refine Ru.imp h.xBnd fun w B D0 Hd1 H1 ρ1 ls1 d E1 q1 v hv => ?_
  refine Go.ru (P := fun _ _ _ Hd' H' _ _ ds => ∀ vs, RpL K Hd' vs ds → Q (v :: vs) H') E1 ?_
  exact q1.xBnd.imp fun Hd2 H2 ρ2 ls2 ds E2 s2 q2 vs hvs => q2 _ _ E2 (Sub.refl _) _ (.cons (hv.mono s2) hvs)
/-- a bound on a list's length that is asked everywhere -/
def top : Nat := 100000
theorem top_le {n : Nat} (h : n ≤ top) : n ≤ sizeLine := Nat.le_trans h (by decide)
theorem top_lt {n : Nat} (h : n < top) : n < sizeLine := Nat.lt_of_lt_of_le h (by decide)
def few {α : Type} (l : List α) : Option (List α) := if l.length ≤ top then some l else none
def tupM (g : M (List D)) : M D := bnd g fun ds => bnd (opt (few ds)) fun ds => ret (.tup ds)
def lstM (g : M (List D)) : M (List D) := bnd g fun ds => opt (few ds)
theorem few_some {α : Type} {l l' : List α} (h : few l = some l') : l' = l ∧ l.length ≤ top := by
  unfold few at h
  split at h
  · cases h; exact ⟨rfl, by assumption⟩
  · cases h
theorem u_tup {k : Nat} (h : PA X es (UA K W ga)) : PE X (.Tuple es k pos) (UV K W (tupM ga)) := pe_imp (pe_tupK h) fun σ H Q h => by
  refine Ru.imp h.xBnd fun w B D0 Hd1 H1 ρ1 ls1 ds E1 q1 vs hv => ?_
  obtain ⟨l, e, q2⟩ := q1.xOpt
  obtain ⟨rfl, hl⟩ := few_some e
  refine ⟨by rw [hv.length]; exact top_le hl, fun p o hp h1 h2 => ?_⟩
  have sd : Sub Hd1 (upd Hd1 p (.frz o (.tup vs))) := .upd (E1.nd_new hp)
  exact q2 _ _ (E1.newDat hp NT.tup) sd _ (.tup ⟨o, upd_same, h1, h2⟩ (hv.mono sd))
theorem u_lst (h : PA X es (UA K W ga)) : PE X (.List es pos) (UN K W (lstM ga)) := pe_imp (pe_lst h) fun σ H Q h => by
  refine Ru.imp h.xBnd fun w B D0 Hd1 H1 ρ1 ls1 ds E1 q1 vs hv => ?_
  obtain ⟨l, e, q2⟩ := q1.xOpt1
  obtain ⟨rfl, hl⟩ := few_some e
  refine ⟨by rw [hv.length]; exact top_le hl, fun p hp => ?_⟩
  obtain ⟨E2, F⟩ := E1.newList (xs := vs) hp
  exact q2 _ _ E2 (Sub.refl _) p vs F hv
end
end Pd

set_option Elab.async false
set_option linter.all false
set_option maxRecDepth 100000
set_option maxHeartbeats 4000000
/-! Pd2: operations on data. -/
namespace Pd
open PySem PySem.Spec PyProof.Rows L2

section
variable {X : Cx} {K : PySem.W.Frag} {W : WX} {w : Wd} {B D0 Hd H : Hp} {σ : L2.St} {ρ : Rho} {ls : LS} {v u : V} {x y z : D}

theorem noneE {α : Type} {z : α} {P : Prop} (h : (none : Option α) = some z) : P := nomatch h
theorem RpS.int_inv {i : Int} (h : RpS K Hd H v (.int i)) : v = .int i := by cases (show Rp K Hd v (.int i) from h); rfl
theorem RpS.bl_inv {b : Bool} (h : RpS K Hd H v (.bl b)) : v = .bl b := by cases (show Rp K Hd v (.bl b) from h); rfl
theorem RpS.str_inv {s : Str} (h : RpS K Hd H v (.str s)) : v = .str s := by cases (show Rp K Hd v (.str s) from h); rfl
theorem RpS.non_inv (h : RpS K Hd H v .non) : v = .non := by cases (show Rp K Hd v .non from h); rfl
theorem RpS.ref_inv {a : Addr} (h : RpS K Hd H v (.ref a)) : v = .ref a := by cases (show Rp K Hd v (.ref a) from h); rfl
theorem RpS.tup_inv {ds : List D} (h : RpS K Hd H v (.tup ds)) : ∃ a xs, v = .ref a ∧ TupK Hd a xs ∧ RpL K Hd xs ds := by
  cases (show Rp K Hd v (.tup ds) from h) with
  | tup e r => exact ⟨_, _, rfl, e, r⟩
theorem RpS.lst_inv {ds : List D} (h : RpS K Hd H v (.lst ds)) : ∃ p xs, v = .ref p ∧ H p = some (.lst xs) ∧ RpL K Hd xs ds := h
theorem RpS.lsk_inv {ds : List D} (h : RpS K Hd H v (.lsk ds)) : ∃ a xs, v = .ref a ∧ SqL K Hd a xs ∧ RpL K Hd xs ds := by
  cases (show Rp K Hd v (.lsk ds) from h) with
  | lsk e r => exact ⟨_, _, rfl, e, r⟩

theorem RpS.ktp_inv {ds : List D} (h : RpS K Hd H v (.ktp ds)) : ∃ a xs, v = .ref a ∧ Hd a = some (.tup xs) ∧ RpL K Hd xs ds := by
  cases (show Rp K Hd v (.ktp ds) from h) with
  | ktp e r => exact ⟨_, _, rfl, e, r⟩

theorem RpS.dcf_inv {ks es : List D} (h : RpS K Hd H v (.dcf ks es)) : ∃ (a : Addr) (o : Obj) (kvs : List (List Key × V)), v = .ref a ∧ Hd a = some (.frz o (.dT kvs)) ∧ ks = kvs.map (fun p => .ktp (p.1.map keyD)) ∧ RpL K Hd (kvs.map (·.2)) es := by
  cases (show Rp K Hd v (.dcf ks es) from h) with
  | dT e h1 h2 r => exact ⟨_, _, _, rfl, e, h2, h1 ▸ r⟩

/-! ### ints -/
def intOp (c : Int → Int → Bool) (g : Int → Int → D) : D → D → Option D
  | .int i, .int j => if c i j then some (g i j) else none
  | _, _ => none
theorem opd_int {C : Int → Int → Prop} {c : Int → Int → Bool} {g : Int → Int → V} {gd : Int → Int → D} (hc : ∀ i j, c i j = true → C i j) (hg : ∀ i j H, Rp K H (g i j) (gd i j)) : OpD K (rI C g) (intOp c gd) := by
  refine ⟨?_⟩
  intro w B D0 Hd H σ ρ ls v u x y z E hx hy e Q q
  cases x <;> cases y <;> try (exact noneE e)
  rename_i i j
  cases hx.int_inv; cases hy.int_inv
  have e : (if c i j then some (gd i j) else none) = some z := e
  split at e
  · rename_i hcc
    cases e
    exact ⟨i, j, rfl, rfl, hc _ _ hcc, q _ Hd H E (Sub.refl _) (hg _ _ _)⟩
  · cases e
theorem opd_int0 {g : Int → Int → V} {gd : Int → Int → D} (hg : ∀ i j H, Rp K H (g i j) (gd i j)) : OpD K (rI0 g) (intOp (fun _ _ => true) gd) := by
  refine ⟨?_⟩
  intro w B D0 Hd H σ ρ ls v u x y z E hx hy e Q q
  cases x <;> cases y <;> try (exact noneE e)
  rename_i i j
  cases hx.int_inv; cases hy.int_inv
  have e : some (gd i j) = some z := e
  cases e
  exact ⟨i, j, rfl, rfl, q _ Hd H E (Sub.refl _) (hg _ _ _)⟩
theorem OpD.or {r r' : R2} {op op' : D → D → Option D} (h : OpD K r op) (h' : OpD K r' op') : OpD K (fun x y H Q => r x y H Q ∨ r' x y H Q) (fun x y => (op x y).or (op' x y)) := by
  refine ⟨?_⟩
  intro w B D0 Hd H σ ρ ls v u x y z E hx hy e Q q
  have e : (op x y).or (op' x y) = some z := e
  cases e1 : op x y with
  | some z1 =>
    rw [e1] at e
    have e : some z1 = some z := e
    cases e
    exact .inl (h.run E hx hy e1 Q q)
  | none =>
    rw [e1] at e
    exact .inr (h'.run E hx hy e Q q)
theorem OpD.imp {r r' : R2} {op : D → D → Option D} (h : OpD K r op) (i : ∀ x y H Q, r x y H Q → r' x y H Q) : OpD K r' op := by
  refine ⟨?_⟩
  intro w B D0 Hd H σ ρ ls v u x y z E hx hy e Q q
  exact i _ _ _ _ (h.run E hx hy e Q q)
theorem OpD.cong {r : R2} {op op' : D → D → Option D} (h : OpD K r op) (i : ∀ x y, op' x y = op x y) : OpD K r op' := by
  refine ⟨?_⟩
  intro w B D0 Hd H σ ρ ls v u x y z E hx hy e Q q
  exact h.run E hx hy (by rw [← i]; exact e) Q q

def subD : D → D → Option D := intOp (fun _ _ => true) fun i j => .int (i - j)
def modD : D → D → Option D := intOp (fun _ j => decide (0 < j)) fun i j => .int (i % j)
def fdivD : D → D → Option D := intOp (fun _ j => decide (0 < j) && decide (j < 1073741824)) fun i j => .int (i / j)
def mulI : D → D → Option D := intOp (fun i j => (decide (-(2 ^ 64) < i) && decide (i < 2 ^ 64)) || (decide (-(2 ^ 64) < j) && decide (j < 2 ^ 64))) fun i j => .int (i * j)
def ltD : D → D → Option D := intOp (fun _ _ => true) fun i j => .bl (decide (i < j))
def leD : D → D → Option D := intOp (fun _ _ => true) fun i j => .bl (decide (i ≤ j))
def gtD : D → D → Option D := intOp (fun _ _ => true) fun i j => .bl (decide (j < i))
def geD : D → D → Option D := intOp (fun _ _ => true) fun i j => .bl (decide (j ≤ i))
theorem od_sub : OpD K (rI0 fun i j => .int (i - j)) subD := opd_int0 fun _ _ _ => .int _
theorem od_mod : OpD K (rI (fun _ j => 0 < j) fun i j => .int (i % j)) modD := opd_int (fun _ _ h => of_decide_eq_true h) fun _ _ _ => .int _
theorem od_fdiv : OpD K (rI CDiv fun i j => .int (i / j)) fdivD := opd_int (fun i j h => by
  rw [Bool.and_eq_true] at h
  exact ⟨of_decide_eq_true h.1, of_decide_eq_true h.2⟩) fun _ _ _ => .int _
theorem od_mulI : OpD K (rI CMul fun i j => .int (i * j)) mulI := opd_int (fun i j h => by
  rw [Bool.or_eq_true, Bool.and_eq_true, Bool.and_eq_true] at h
  rcases h with h | h
  · exact .inl ⟨of_decide_eq_true h.1, of_decide_eq_true h.2⟩
  · exact .inr ⟨of_decide_eq_true h.1, of_decide_eq_true h.2⟩) fun _ _ _ => .int _
theorem od_lt : OpD K (rI0 fun i j => .bl (decide (i < j))) ltD := opd_int0 fun _ _ _ => .bl _
theorem od_le : OpD K (rI0 fun i j => .bl (decide (i ≤ j))) leD := opd_int0 fun _ _ _ => .bl _
theorem od_gt : OpD K (rI0 fun i j => .bl (decide (j < i))) gtD := opd_int0 fun _ _ _ => .bl _
theorem od_ge : OpD K (rI0 fun i j => .bl (decide (j ≤ i))) geD := opd_int0 fun _ _ _ => .bl _

/-! ### plus -/
def addT : D → D → Option D
  | .tup a, .tup b => if a.length + b.length ≤ top then some (.tup (a ++ b)) else none
  | _, _ => none
def addL : D → D → Option (List D)
  | .lst a, .lst b => if a.length + b.length ≤ top then some (a ++ b) else none
  | _, _ => none
def addS : D → D → Option D
  | .str a, .str b => if a.length + b.length ≤ top then some (.str (a ++ b)) else none
  | _, _ => none
def addI : D → D → Option D := intOp (fun _ _ => true) fun i j => .int (i + j)
theorem od_addI : OpD K (rI0 fun i j => .int (i + j)) addI := opd_int0 fun _ _ _ => .int _
theorem od_addS : OpD K (fun x y H Q => ∃ i j, x = V.str i ∧ y = V.str j ∧ i.length + j.length ≤ sizeLine ∧ Q (.str (i ++ j)) H) addS := by
  refine ⟨?_⟩
  intro w B D0 Hd H σ ρ ls v u x y z E hx hy e Q q
  cases x <;> cases y <;> try (exact noneE e)
  rename_i i j
  cases hx.str_inv; cases hy.str_inv
  have e : (if i.length + j.length ≤ top then some (D.str (i ++ j)) else none) = some z := e
  split at e
  · cases e
    exact ⟨i, j, rfl, rfl, top_le (by assumption), q _ Hd H E (Sub.refl _) (.str _)⟩
  · cases e
theorem od_addT : OpD K (rCatK K) addT := by
  refine ⟨?_⟩
  intro w B D0 Hd H σ ρ ls v u x y z E hx hy e Q q
  cases x <;> cases y <;> try (exact noneE e)
  rename_i da db
  obtain ⟨a, xs, rfl, ha, ra⟩ := hx.tup_inv
  obtain ⟨b, ys, rfl, hb, rb⟩ := hy.tup_inv
  have e : (if da.length + db.length ≤ top then some (D.tup (da ++ db)) else none) = some z := e
  split at e
  · rename_i hl
    cases e
    refine ⟨a, b, xs, ys, rfl, rfl, (E.sub.tk ha).sq, (E.sub.tk hb).sq, by rw [ra.length, rb.length]; exact top_le hl, fun e => ?_, fun _ e => ?_, fun _ _ p o hp h1 h2 => ?_⟩
    · subst e
      cases ra
      exact q _ Hd H E (Sub.refl _) (.tup hb rb)
    · subst e
      cases rb
      rw [List.append_nil] at q
      exact q _ Hd H E (Sub.refl _) (.tup ha ra)
    · have sd : Sub Hd (upd Hd p (.frz o (.tup (xs ++ ys)))) := .upd (E.nd_new hp)
      exact q _ _ _ (E.newDat hp NT.tup) sd (.tup ⟨o, upd_same, h1, h2⟩ ((ra.append rb).mono sd))
  · cases e
theorem on_addL : OpN K rCat addL := by
  refine ⟨?_⟩
  intro w B D0 Hd H σ ρ ls v u x y z E hx hy e Q q
  cases x <;> cases y <;> try (exact noneE e)
  rename_i da db
  obtain ⟨a, xs, rfl, ha, ra⟩ := hx.lst_inv
  obtain ⟨b, ys, rfl, hb, rb⟩ := hy.lst_inv
  have e : (if da.length + db.length ≤ top then some (da ++ db) else none) = some z := e
  split at e
  · rename_i hl
    cases e
    refine ⟨a, b, xs, ys, rfl, rfl, ha, hb, by rw [ra.length, rb.length]; exact top_le hl, fun p hp => ?_⟩
    obtain ⟨E2, F⟩ := E.newList (xs := xs ++ ys) hp
    exact q p _ _ E2 F (ra.append rb)
  · cases e
/-- a list-making operation whose list is data at once -/
def asL (op : D → D → Option (List D)) : D → D → Option D := fun x y => (op x y).map .lst
theorem OpN.data {r : R2} {op : D → D → Option (List D)} (h : OpN K r op) : OpD K r (asL op) := by
  refine ⟨?_⟩
  intro w B D0 Hd H σ ρ ls v u x y z E hx hy e Q q
  unfold asL at e
  cases e1 : op x y with
  | none => rw [e1] at e; cases e
  | some l =>
    rw [e1] at e
    have e : some (D.lst l) = some z := e
    cases e
    refine h.run E hx hy e1 Q fun p xs H' E' F r => ?_
    have sd : Sub Hd (upd Hd p (.lst xs)) := .upd F.nd
    exact q _ _ _ (E'.freeze F) sd (.lst upd_same (r.mono sd))
def addD : D → D → Option D := fun x y => (addI x y).or ((addT x y).or ((asL addL x y).or (addS x y)))
theorem od_add : OpD K (fun x y H Q => rI0 (fun i j => .int (i + j)) x y H Q ∨ rCatK K x y H Q ∨ rCat x y H Q ∨ (∃ i j, x = V.str i ∧ y = V.str j ∧ i.length + j.length ≤ sizeLine ∧ Q (.str (i ++ j)) H)) addD :=
  od_addI.or (od_addT.or (on_addL.data.or od_addS))
theorem op_addU : OpR X (binaryOp .Add) (fun x y H Q => rI0 (fun i j => .int (i + j)) x y H Q ∨ rCatK X.K x y H Q ∨ rCat x y H Q ∨ (∃ i j, x = V.str i ∧ y = V.str j ∧ i.length + j.length ≤ sizeLine ∧ Q (.str (i ++ j)) H)) :=
  op_add.or (op_catK.or (op_cat.or op_add_str))

/-! ### times of a list -/
def mulL : D → D → Option (List D)
  | .lst a, .int k => if decide (k ≤ 1000) && decide (a.length ≤ 1000) && decide (0 - 1000 ≤ k) then some (List.replicate k.toNat a).flatten else none
  | _, _ => none
theorem top_eq : top = 100000 := rfl
theorem flat_len {α : Type} (a : List α) (n : Nat) : (List.replicate n a).flatten.length = n * a.length := by
  induction n with
  | zero => simp
  | succ n ih => rw [List.replicate_succ, List.flatten_cons, List.length_append, ih, Nat.succ_mul]; omega
theorem on_mulL : OpN K rRep mulL := by
  refine ⟨?_⟩
  intro w B D0 Hd H σ ρ ls v u x y z E hx hy e Q q
  cases x <;> cases y <;> try (exact noneE e)
  rename_i da k
  obtain ⟨a, xs, rfl, ha, ra⟩ := hx.lst_inv
  cases hy.int_inv
  have e : (if decide (k ≤ 1000) && decide (da.length ≤ 1000) && decide (0 - 1000 ≤ k) then some (List.replicate k.toNat da).flatten else none) = some z := e
  split at e
  · rename_i hl
    cases e
    rw [Bool.and_eq_true, Bool.and_eq_true] at hl
    have h1 := of_decide_eq_true hl.1.1
    have h2 := of_decide_eq_true hl.1.2
    have h3 := of_decide_eq_true hl.2
    have hz : xs.length * k.toNat ≤ sizeLine := by
      rw [ra.length, sizeLine_eq]
      have a1 : da.length * k.toNat ≤ 1000 * 1000 := Nat.mul_le_mul h2 (by omega)
      omega
    refine ⟨a, k, xs, rfl, rfl, ha, by omega, by omega, hz, fun p hp => ?_⟩
    obtain ⟨E2, F⟩ := E.newList (xs := (List.replicate k.toNat xs).flatten) hp
    exact q p _ _ E2 F (ra.flatRep _)
  · cases e

/-! ### equality -/
mutual
def D.py : D → PyData
  | .non => .none
  | .bl b => .bool b
  | .int i => .int i
  | .str s => .str s
  | .tup l => .tuple (D.pyL l)
  | .lst l => .list (D.pyL l)
  | .lsk l => .list (D.pyL l)
  | .ref _ => .none
  | .exn _ => .none
  | .dct _ _ => .none
  | .ktp l => .tuple (D.pyL l)
  | .dcf _ _ => .none
def D.pyL : List D → List PyData
  | [] => []
  | d :: ds => D.py d :: D.pyL ds
end
mutual
def D.pure : D → Bool
  | .tup l => D.pureL l
  | .lst l => D.pureL l
  | .lsk l => D.pureL l
  | .ref _ => false
  | .exn _ => false
  | .dct _ _ => false
  | .ktp l => D.pureL l
  | .dcf _ _ => false
  | _ => true
def D.pureL : List D → Bool
  | [] => true
  | d :: ds => D.pure d && D.pureL ds
end
mutual
theorem Rp.dp : ∀ {v : V} {d : D}, Rp K H v d → d.pure = true → Dp K H v d.py
  | _, _, .non, _ => .non
  | _, _, .bl b, _ => .bl b
  | _, _, .int i, _ => .int i
  | _, _, .str x, _ => .str x
  | _, _, .ref a, h => nomatch h
  | _, _, .exn _, h => nomatch h
  | _, _, .dK _ _ _ _, h => nomatch h
  | _, _, .dT _ _ _ _, h => nomatch h
  | _, _, .tup e r, h => .tup e.sq (RpL.dp r h)
  | _, _, .lst e r, h => .lst (SqL.of e) (RpL.dp r h)
  | _, _, .lsk e r, h => .lst e (RpL.dp r h)
  | _, _, .ktp e r, h => .tup (.inl (.inl e)) (RpL.dp r h)
theorem RpL.dp : ∀ {vs : List V} {ds : List D}, RpL K H vs ds → D.pureL ds = true → DpAll K H vs (D.pyL ds)
  | _, _, .nil, _ => .nil
  | _, _, .cons a r, h => by
    have h : (D.pure _ && D.pureL _) = true := h
    rw [Bool.and_eq_true] at h
    exact .cons (Rp.dp a h.1) (RpL.dp r h.2)
end
def D.okq (d : D) : Bool := d.pure && SeqAt.shaped d.py
def eqb (x y : D) : Bool := PyData.eqv x.py y.py
def eqD (x y : D) : Option D := if x.okq && y.okq then some (.bl (eqb x y)) else none
def neD (x y : D) : Option D := if x.okq && y.okq then some (.bl (!eqb x y)) else none
theorem okq_of {x y : D} (h : (x.okq && y.okq) = true) : (x.pure = true ∧ SeqAt.shaped x.py = true) ∧ (y.pure = true ∧ SeqAt.shaped y.py = true) := by
  unfold D.okq at h
  rw [Bool.and_eq_true, Bool.and_eq_true, Bool.and_eq_true] at h
  exact h
theorem od_eq : OpD K (rEqD K) eqD := by
  refine ⟨?_⟩
  intro w B D0 Hd H σ ρ ls v u x y z E hx hy e Q q
  unfold eqD at e
  split at e
  · rename_i h
    cases e
    obtain ⟨⟨p1, s1⟩, p2, s2⟩ := okq_of h
    exact ⟨_, _, (hx.rp E.sub).dp p1, (hy.rp E.sub).dp p2, s1, s2, q _ Hd H E (Sub.refl _) (.bl _)⟩
  · cases e
theorem od_ne : OpD K (rNeD K) neD := by
  refine ⟨?_⟩
  intro w B D0 Hd H σ ρ ls v u x y z E hx hy e Q q
  unfold neD at e
  split at e
  · rename_i h
    cases e
    obtain ⟨⟨p1, s1⟩, p2, s2⟩ := okq_of h
    exact ⟨_, _, (hx.rp E.sub).dp p1, (hy.rp E.sub).dp p2, s1, s2, q _ Hd H E (Sub.refl _) (.bl _)⟩
  · cases e

/-! ### subscripts -/
def atD : D → D → Option D
  | .tup l, .int i => atI l i
  | .lst l, .int i => atI l i
  | .lsk l, .int i => atI l i
  | .ktp l, .int i => atI l i
  | _, _ => none
theorem RpL.atI {H : Hp} {xs : List V} {ds : List D} {i : Int} {d : D} (r : RpL K H xs ds) (h : L2.atI ds i = some d) : ∃ v, L2.atI xs i = some v ∧ Rp K H v d := by
  unfold L2.atI at h ⊢
  rw [r.length]
  cases e : ixN ds.length i with
  | none => rw [e] at h; cases h
  | some j =>
    rw [e] at h
    exact r.get h
theorem od_at : OpD K (fun x y H Q => rIxL K x y H Q ∨ rIxT K x y H Q) atD := by
  refine ⟨?_⟩
  intro w B D0 Hd H σ ρ ls v u x y z E hx hy e Q q
  cases x <;> cases y <;> try (exact noneE e)
  · rename_i l i
    obtain ⟨a, xs, rfl, ha, r⟩ := hx.tup_inv
    cases hy.int_inv
    obtain ⟨t, h1, h2⟩ := r.atI e
    exact .inr ⟨a, xs, i, t, rfl, rfl, (E.sub.tk ha).sq, h1, q _ Hd H E (Sub.refl _) h2⟩
  · rename_i l i
    obtain ⟨a, xs, rfl, ha, r⟩ := hx.lst_inv
    cases hy.int_inv
    obtain ⟨t, h1, h2⟩ := r.atI e
    exact .inl ⟨a, xs, i, t, rfl, rfl, SqL.of ha, h1, q _ Hd H E (Sub.refl _) h2⟩
  · rename_i l i
    obtain ⟨a, xs, rfl, ha, r⟩ := hx.lsk_inv
    cases hy.int_inv
    obtain ⟨t, h1, h2⟩ := r.atI e
    exact .inl ⟨a, xs, i, t, rfl, rfl, E.sub.sqL ha, h1, q _ Hd H E (Sub.refl _) h2⟩
  · rename_i l i
    obtain ⟨a, xs, rfl, ha, r⟩ := hx.ktp_inv
    cases hy.int_inv
    obtain ⟨t, h1, h2⟩ := r.atI e
    exact .inr ⟨a, xs, i, t, rfl, rfl, .inl (.inl (E.sub _ _ ha)), h1, q _ Hd H E (Sub.refl _) h2⟩
variable {a b : Expr} {pos : Pos} {f g : M Rf}
theorem u_at (ha : PE X a (U X.K W f)) (hb : PE X b (U X.K W g)) (hs : PlainIx b) : PE X (.Subscript a b pos) (UV X.K W (bin atD f g)) := pe_imp (pe_ix (ix_list.or ix_tup) ha hb hs) fun _ _ _ q => read_bin od_at q

/-! ### one operand -/
structure One (K : PySem.W.Frag) (r : V → Hp → VK → Prop) (op : D → Option D) : Prop where
  run : ∀ {w : Wd} {B D0 Hd H : Hp} {σ : L2.St} {ρ : Rho} {ls : LS} {v : V} {x z : D}, EOk K w B D0 Hd H σ ρ ls → RpS K Hd H v x → op x = some z →
  ∀ Q : VK, (∀ t Hd' H', EOk K w B D0 Hd' H' σ ρ ls → Sub Hd Hd' → Rp K Hd' t z → Q t H') → r v H Q
structure OneN (K : PySem.W.Frag) (r : V → Hp → VK → Prop) (op : D → Option (List D)) : Prop where
  run : ∀ {w : Wd} {B D0 Hd H : Hp} {σ : L2.St} {ρ : Rho} {ls : LS} {v : V} {x : D} {z : List D}, EOk K w B D0 Hd H σ ρ ls → RpS K Hd H v x → op x = some z →
  ∀ Q : VK, (∀ p xs H', EOk K w B D0 Hd H' σ ρ ls → Fresh w B Hd H' σ ρ p xs → RpL K Hd xs z → Q (.ref p) H') → r v H Q
def uno {α : Type} (op : D → Option α) (f : M Rf) : M α := bnd f fun r => bnd (look r) fun x => opt (op x)
theorem read_uno {r : V → Hp → VK → Prop} {op : D → Option D} (h : One K r op) {Q : VK} (q : UV K W (uno op f) σ H Q) : U K W f σ H (fun v H1 => r v H1 Q) := by
  refine Ru.imp q.xBnd fun w B D0 Hd1 H1 ρ1 ls1 r1 E1 q1 v hv => ?_
  obtain ⟨x, hx, q2⟩ := q1.xLookB E1 hv
  obtain ⟨z, hz, q3⟩ := q2.xOpt1
  exact h.run E1 hx hz Q fun t Hd' H' E' s' r' => q3 Hd' H' E' s' t r'
theorem read_unoN {r : V → Hp → VK → Prop} {op : D → Option (List D)} (h : OneN K r op) {Q : VK} (q : UN K W (uno op f) σ H Q) : U K W f σ H (fun v H1 => r v H1 Q) := by
  refine Ru.imp q.xBnd fun w B D0 Hd1 H1 ρ1 ls1 r1 E1 q1 v hv => ?_
  obtain ⟨x, hx, q2⟩ := q1.xLookB E1 hv
  obtain ⟨z, hz, q3⟩ := q2.xOpt1
  exact h.run E1 hx hz Q fun p xs H' E' F r' => q3 Hd1 H' E' (Sub.refl _) p xs F r'
def negD : D → Option D
  | .int i => some (.int (-i))
  | _ => none
theorem one_neg : One K (rU fun i => .int (-i)) negD := by
  refine ⟨?_⟩
  intro w B D0 Hd H σ ρ ls v x z E hx e Q q
  cases x <;> try (exact noneE e)
  cases hx.int_inv
  cases e
  exact ⟨_, rfl, q _ Hd H E (Sub.refl _) (.int _)⟩
theorem u_neg (ha : PE X a (U K W f)) : PE X (.UnaryOp .USub a pos) (UV K W (uno negD f)) := pe_imp (pe_un un_neg ha) fun _ _ _ q => read_uno one_neg q
variable {xn : Str} {p : Pos} {id T : String} {r : List V → Hp → VK → Prop}
theorem u_callB {op : D → Option D} (hc : CallR X (.builtin id) r) (h : One K (fun v => r [v]) op) (hm : X.mg xn = none) (hv : bootBuiltins xn = some (.builtin id)) (ha : PE X a (U K W f)) (hg : Gl X xn := by rfl) (hn : xn ≠ "__name__" := by decide) (hdb : (xn == ("__debug__" : Str)) = false := by decide)
    (he : starEach [a] X.env = (false, eval a X.env) :: starEach [] X.env := by rfl) (hpl : (backTo pos (starEach [] X.env)).any (·.1) = false := by rfl) : PE X (.Call (.Name xn p) [a] [] pos) (UV K W (uno op f)) :=
  pe_imp (pe_callB hc hg hm hv (pa_cons ha pa_nil he) hn hdb he hpl) fun _ _ _ q => read_uno h q
theorem u_callT {op : D → Option D} (hc : CallR X (.type T) r) (h : One K (fun v => r [v]) op) (hm : X.mg xn = none) (hv : bootBuiltins xn = some (.type T)) (ha : PE X a (U K W f)) (hg : Gl X xn := by rfl) (hn : xn ≠ "__name__" := by decide) (hdb : (xn == ("__debug__" : Str)) = false := by decide)
    (he : starEach [a] X.env = (false, eval a X.env) :: starEach [] X.env := by rfl) (hpl : (backTo pos (starEach [] X.env)).any (·.1) = false := by rfl) : PE X (.Call (.Name xn p) [a] [] pos) (UV K W (uno op f)) :=
  pe_imp (pe_callTy hc hg hm hv (pa_cons ha pa_nil he) hn hdb he hpl) fun _ _ _ q => read_uno h q
theorem u_callTN {op : D → Option (List D)} (hc : CallR X (.type T) r) (h : OneN K (fun v => r [v]) op) (hm : X.mg xn = none) (hv : bootBuiltins xn = some (.type T)) (ha : PE X a (U K W f)) (hg : Gl X xn := by rfl) (hn : xn ≠ "__name__" := by decide) (hdb : (xn == ("__debug__" : Str)) = false := by decide)
    (he : starEach [a] X.env = (false, eval a X.env) :: starEach [] X.env := by rfl) (hpl : (backTo pos (starEach [] X.env)).any (·.1) = false := by rfl) : PE X (.Call (.Name xn p) [a] [] pos) (UN K W (uno op f)) :=
  pe_imp (pe_callTy hc hg hm hv (pa_cons ha pa_nil he) hn hdb he hpl) fun _ _ _ q => read_unoN h q
def lenD : D → Option D
  | .tup l => some (.int l.length)
  | .lst l => some (.int l.length)
  | .lsk l => some (.int l.length)
  | .ktp l => some (.int l.length)
  | _ => none
theorem one_len : One K (fun v H Q => ∃ p ys, [v] = [V.ref p] ∧ (SqL K H p ys ∨ SqT K H p ys) ∧ Q (.int ys.length) H) lenD := by
  refine ⟨?_⟩
  intro w B D0 Hd H σ ρ ls v x z E hx e Q q
  cases x <;> try (exact noneE e)
  · cases e
    obtain ⟨a, xs, rfl, ha, r⟩ := hx.tup_inv
    exact ⟨a, xs, rfl, .inr ((E.sub.tk ha).sq), by rw [r.length]; exact q _ Hd H E (Sub.refl _) (.int _)⟩
  · cases e
    obtain ⟨a, xs, rfl, ha, r⟩ := hx.lst_inv
    exact ⟨a, xs, rfl, .inl (SqL.of ha), by rw [r.length]; exact q _ Hd H E (Sub.refl _) (.int _)⟩
  · cases e
    obtain ⟨a, xs, rfl, ha, r⟩ := hx.lsk_inv
    exact ⟨a, xs, rfl, .inl (E.sub.sqL ha), by rw [r.length]; exact q _ Hd H E (Sub.refl _) (.int _)⟩
  · cases e
    obtain ⟨a, xs, rfl, ha, r⟩ := hx.ktp_inv
    exact ⟨a, xs, rfl, .inr (.inl (.inl (E.sub _ _ ha))), by rw [r.length]; exact q _ Hd H E (Sub.refl _) (.int _)⟩
theorem u_len (hm : X.mg "len" = none) (ha : PE X a (U X.K W f)) (hg : Gl X "len" := by rfl) (he : starEach [a] X.env = (false, eval a X.env) :: starEach [] X.env := by rfl) (hpl : (backTo pos (starEach [] X.env)).any (·.1) = false := by rfl) : PE X (.Call (.Name "len" p) [a] [] pos) (UV X.K W (uno lenD f)) :=
  u_callB call_len_seq one_len hm PySem.boot_len ha hg (by decide) (by decide) he hpl
def absD : D → Option D
  | .int i => some (.int (if i < 0 then -i else i))
  | _ => none
theorem one_abs : One K (fun v H Q => ∃ i, [v] = [V.int i] ∧ Q (.int (if i < 0 then -i else i)) H) absD := by
  refine ⟨?_⟩
  intro w B D0 Hd H σ ρ ls v x z E hx e Q q
  cases x <;> try (exact noneE e)
  cases hx.int_inv
  cases e
  exact ⟨_, rfl, q _ Hd H E (Sub.refl _) (.int _)⟩
theorem u_abs (hm : X.mg "abs" = none) (ha : PE X a (U X.K W f)) (hg : Gl X "abs" := by rfl) (he : starEach [a] X.env = (false, eval a X.env) :: starEach [] X.env := by rfl) (hpl : (backTo pos (starEach [] X.env)).any (·.1) = false := by rfl) : PE X (.Call (.Name "abs" p) [a] [] pos) (UV X.K W (uno absD f)) :=
  u_callB call_abs one_abs hm (by decide +kernel) ha hg (by decide) (by decide) he hpl
/-- tuple(list), tuple(tuple) -/
def tupleD : D → Option D
  | .tup l => some (.tup l)
  | .lst l => some (.tup l)
  | .lsk l => some (.tup l)
  | _ => none
theorem one_tuple : One K (fun v H Q => ∃ p ys, [v] = [V.ref p] ∧ ((SqL K H p ys ∧ NewT H ys Q) ∨ (SqT K H p ys ∧ Q (.ref p) H))) tupleD := by
  refine ⟨?_⟩
  intro w B D0 Hd H σ ρ ls v x z E hx e Q q
  cases x <;> try (exact noneE e)
  · cases e
    obtain ⟨a, xs, rfl, ha, r⟩ := hx.tup_inv
    exact ⟨a, xs, rfl, .inr ⟨(E.sub.tk ha).sq, q _ Hd H E (Sub.refl _) (.tup ha r)⟩⟩
  · cases e
    obtain ⟨a, xs, rfl, ha, r⟩ := hx.lst_inv
    refine ⟨a, xs, rfl, .inl ⟨SqL.of ha, fun l o hl h1 h2 => ?_⟩⟩
    have sd : Sub Hd (upd Hd l (.frz o (.tup xs))) := .upd (E.nd_new hl)
    exact q _ _ _ (E.newDat hl NT.tup) sd (.tup ⟨o, upd_same, h1, h2⟩ (r.mono sd))
  · cases e
    obtain ⟨a, xs, rfl, ha, r⟩ := hx.lsk_inv
    refine ⟨a, xs, rfl, .inl ⟨E.sub.sqL ha, fun l o hl h1 h2 => ?_⟩⟩
    have sd : Sub Hd (upd Hd l (.frz o (.tup xs))) := .upd (E.nd_new hl)
    exact q _ _ _ (E.newDat hl NT.tup) sd (.tup ⟨o, upd_same, h1, h2⟩ (r.mono sd))
theorem u_tuple (hm : X.mg "tuple" = none) (ha : PE X a (U X.K W f)) (hg : Gl X "tuple" := by rfl) (he : starEach [a] X.env = (false, eval a X.env) :: starEach [] X.env := by rfl) (hpl : (backTo pos (starEach [] X.env)).any (·.1) = false := by rfl) : PE X (.Call (.Name "tuple" p) [a] [] pos) (UV X.K W (uno tupleD f)) :=
  u_callT call_tupK one_tuple hm (by decide +kernel) ha hg (by decide) (by decide) he hpl
def listD : D → Option (List D)
  | .tup l => some l
  | .lst l => some l
  | .lsk l => some l
  | _ => none
theorem one_list : OneN K (fun v H Q => ∃ p ys, [v] = [V.ref p] ∧ (SqL K H p ys ∨ SqT K H p ys) ∧ ∀ l, H l = none → Q (.ref l) (upd H l (.lst ys))) listD := by
  refine ⟨?_⟩
  intro w B D0 Hd H σ ρ ls v x z E hx e Q q
  cases x <;> try (exact noneE e)
  · cases e
    obtain ⟨a, xs, rfl, ha, r⟩ := hx.tup_inv
    refine ⟨a, xs, rfl, .inr ((E.sub.tk ha).sq), fun l hl => ?_⟩
    obtain ⟨E2, F⟩ := E.newList (xs := xs) hl
    exact q _ _ _ E2 F r
  · cases e
    obtain ⟨a, xs, rfl, ha, r⟩ := hx.lst_inv
    refine ⟨a, xs, rfl, .inl (SqL.of ha), fun l hl => ?_⟩
    obtain ⟨E2, F⟩ := E.newList (xs := xs) hl
    exact q _ _ _ E2 F r
  · cases e
    obtain ⟨a, xs, rfl, ha, r⟩ := hx.lsk_inv
    refine ⟨a, xs, rfl, .inl (E.sub.sqL ha), fun l hl => ?_⟩
    obtain ⟨E2, F⟩ := E.newList (xs := xs) hl
    exact q _ _ _ E2 F r
theorem u_list (hm : X.mg "list" = none) (ha : PE X a (U X.K W f)) (hg : Gl X "list" := by rfl) (he : starEach [a] X.env = (false, eval a X.env) :: starEach [] X.env := by rfl) (hpl : (backTo pos (starEach [] X.env)).any (·.1) = false := by rfl) : PE X (.Call (.Name "list" p) [a] [] pos) (UN X.K W (uno listD f)) :=
  u_callTN call_list_of one_list hm (by decide +kernel) ha hg (by decide) (by decide) he hpl
/-- all, any of a list of bools -/
def boolsD : List D → Option (List Bool)
  | [] => some []
  | .bl b :: l => (boolsD l).map (b :: ·)
  | _ :: _ => none
theorem RpL.bools : ∀ {ds : List D} {xs : List V} {bs : List Bool}, RpL K H xs ds → boolsD ds = some bs → xs = bs.map V.bl
  | [], _, _, .nil, e => by cases e; rfl
  | d :: ds, _, bs, .cons a r, e => by
    cases a with
    | bl b =>
      have e : (boolsD ds).map (b :: ·) = some bs := e
      cases e1 : boolsD ds with
      | none => rw [e1] at e; cases e
      | some bs' =>
        rw [e1] at e
        cases e
        rw [RpL.bools r e1]; rfl
    | _ => cases e
def allD : D → Option D
  | .lst l => (boolsD l).map fun bs => .bl (bs.all fun b => b)
  | _ => none
def anyD : D → Option D
  | .lst l => (boolsD l).map fun bs => .bl (bs.any fun b => b)
  | _ => none
theorem one_all : One K (fun v => rAll K [v]) allD := by
  refine ⟨?_⟩
  intro w B D0 Hd H σ ρ ls v x z E hx e Q q
  cases x <;> try (exact noneE e)
  obtain ⟨a, xs, rfl, ha, r⟩ := hx.lst_inv
  rename_i l
  have e : (boolsD l).map (fun bs => D.bl (bs.all fun b => b)) = some z := e
  cases e1 : boolsD l with
  | none => rw [e1] at e; cases e
  | some bs =>
    rw [e1] at e; cases e
    exact ⟨a, bs, rfl, by rw [← r.bools e1]; exact SqL.of ha, q _ Hd H E (Sub.refl _) (.bl _)⟩
theorem one_any : One K (fun v => rAny K [v]) anyD := by
  refine ⟨?_⟩
  intro w B D0 Hd H σ ρ ls v x z E hx e Q q
  cases x <;> try (exact noneE e)
  obtain ⟨a, xs, rfl, ha, r⟩ := hx.lst_inv
  rename_i l
  have e : (boolsD l).map (fun bs => D.bl (bs.any fun b => b)) = some z := e
  cases e1 : boolsD l with
  | none => rw [e1] at e; cases e
  | some bs =>
    rw [e1] at e; cases e
    exact ⟨a, bs, rfl, by rw [← r.bools e1]; exact SqL.of ha, q _ Hd H E (Sub.refl _) (.bl _)⟩
theorem u_all (hm : X.mg "all" = none) (hc : X.calm = true) (ha : PE X a (U X.K W f)) (hg : Gl X "all" := by rfl) (he : starEach [a] X.env = (false, eval a X.env) :: starEach [] X.env := by rfl) (hpl : (backTo pos (starEach [] X.env)).any (·.1) = false := by rfl) : PE X (.Call (.Name "all" p) [a] [] pos) (UV X.K W (uno allD f)) :=
  u_callB (cr_all hc) one_all hm (by decide +kernel) ha hg (by decide) (by decide) he hpl
theorem u_any (hm : X.mg "any" = none) (hc : X.calm = true) (ha : PE X a (U X.K W f)) (hg : Gl X "any" := by rfl) (he : starEach [a] X.env = (false, eval a X.env) :: starEach [] X.env := by rfl) (hpl : (backTo pos (starEach [] X.env)).any (·.1) = false := by rfl) : PE X (.Call (.Name "any" p) [a] [] pos) (UV X.K W (uno anyD f)) :=
  u_callB (cr_any hc) one_any hm (by decide +kernel) ha hg (by decide) (by decide) he hpl
variable {f2 : M Rf} {a2 : Expr}
theorem read_call2 {r2 : List V → Hp → VK → Prop} {op : D → D → Option D} (h : OpD K (fun v u => r2 [v, u]) op) {Q : VK} (q : UV K W (bin op f f2) σ H Q) : tCB r2 (tCons (U K W f) (tCons (U K W f2) tNil)) σ H Q := read_bin (r := fun v u => r2 [v, u]) h q
def minD : D → D → Option D := intOp (fun _ _ => true) fun i j => .int (if j < i then j else i)
def maxD : D → D → Option D := intOp (fun _ _ => true) fun i j => .int (if j > i then j else i)
theorem od_min : OpD K (fun v u H Q => ∃ i j, [v, u] = [V.int i, V.int j] ∧ Q (.int (if j < i then j else i)) H) minD :=
  (opd_int0 (g := fun i j => .int (if j < i then j else i)) fun _ _ _ => .int _).imp fun x y H Q ⟨i, j, h1, h2, q⟩ => ⟨i, j, by rw [h1, h2], q⟩
theorem od_max : OpD K (fun v u H Q => ∃ i j, [v, u] = [V.int i, V.int j] ∧ Q (.int (if j > i then j else i)) H) maxD :=
  (opd_int0 (g := fun i j => .int (if j > i then j else i)) fun _ _ _ => .int _).imp fun x y H Q ⟨i, j, h1, h2, q⟩ => ⟨i, j, by rw [h1, h2], q⟩
theorem u_min (hm : X.mg "min" = none) (hc : X.calm = true) (ha : PE X a (U X.K W f)) (hb : PE X a2 (U X.K W f2)) (hg : Gl X "min" := by rfl) (he : starEach [a, a2] X.env = (false, eval a X.env) :: starEach [a2] X.env := by rfl) (he2 : starEach [a2] X.env = (false, eval a2 X.env) :: starEach [] X.env := by rfl) (hpl : (backTo pos (starEach [a2] X.env)).any (·.1) = false := by rfl) :
    PE X (.Call (.Name "min" p) [a, a2] [] pos) (UV X.K W (bin minD f f2)) := pe_imp (pe_callB (call_min2 hc) hg hm (by decide +kernel) (pa_cons ha (pa_cons hb pa_nil he2) he) (by decide) (by decide) he hpl) fun _ _ _ q => read_call2 od_min q
theorem u_max (hm : X.mg "max" = none) (hc : X.calm = true) (ha : PE X a (U X.K W f)) (hb : PE X a2 (U X.K W f2)) (hg : Gl X "max" := by rfl) (he : starEach [a, a2] X.env = (false, eval a X.env) :: starEach [a2] X.env := by rfl) (he2 : starEach [a2] X.env = (false, eval a2 X.env) :: starEach [] X.env := by rfl) (hpl : (backTo pos (starEach [a2] X.env)).any (·.1) = false := by rfl) :
    PE X (.Call (.Name "max" p) [a, a2] [] pos) (UV X.K W (bin maxD f f2)) := pe_imp (pe_callB (call_max2 hc) hg hm (by decide +kernel) (pa_cons ha (pa_cons hb pa_nil he2) he) (by decide) (by decide) he hpl) fun _ _ _ q => read_call2 od_max q
end
end Pd

set_option Elab.async false
set_option linter.all false
set_option maxRecDepth 100000
set_option maxHeartbeats 4000000
/-! Pd3: statements, loops, defs. -/
namespace Pd
open PySem PySem.Spec PyProof.Rows L2

inductive PO where
  | nx (ρ : Rho) (ls : LS) | bk (ρ : Rho) (ls : LS) | ct (ρ : Rho) (ls : LS) | rt (d : D) (ls : LS) | rtN (l : List D) (ls : LS) | rs (x : XV) (ls : LS) | no
abbrev PM := Rho → LS → PO
def lift {α : Type} (f : M α) (k : α → PM) : PM := fun ρ ls => match f ρ ls with
  | .ok a ρ' ls' => k a ρ' ls'
  | .rs x ls' => .rs x ls'
  | .no => .no
def skip : PM := fun ρ ls => .nx ρ ls
def seqP (p q : PM) : PM := fun ρ ls => match p ρ ls with
  | .nx ρ' ls' => q ρ' ls'
  | o => o
def never : PM := fun _ _ => .no

def GoS (K : PySem.W.Frag) (W : WX) (w : Wd) (B D0 Hd : Hp) (D : Ends) : PO → Prop
  | .nx ρ' ls' => ∀ σ' Hd' H', EOk K w B D0 Hd' H' σ' ρ' ls' → Sub Hd Hd' → D.nx σ' H'
  | .bk ρ' ls' => ∀ σ' Hd' H', EOk K w B D0 Hd' H' σ' ρ' ls' → Sub Hd Hd' → D.bk σ' H'
  | .ct ρ' ls' => ∀ σ' Hd' H', EOk K w B D0 Hd' H' σ' ρ' ls' → Sub Hd Hd' → D.ct σ' H'
  | .rt d ls' => ∀ v σ' Hd' H' ρ', EOk K w B D0 Hd' H' σ' ρ' ls' → Sub Hd Hd' → Rp K Hd' v d → D.rt v H'
  | .rtN l ls' => ∀ p xs σ' Hd' H' ρ', EOk K w B D0 Hd' H' σ' ρ' ls' → Sub Hd Hd' → Fresh w B Hd' H' σ' ρ' p xs → RpL K Hd' xs l → D.rt (.ref p) H'
  | .rs x ls' => ∀ H' cls dd σ', XOk w B H' ls' x cls dd → W cls dd σ' H'
  | .no => False
def US (K : PySem.W.Frag) (W : WX) (p : PM) : TS := fun D σ H => ∃ w B D0 Hd ρ ls, EOk K w B D0 Hd H σ ρ ls ∧ GoS K W w B D0 Hd D (p ρ ls)

section
variable {X : Cx} {K : PySem.W.Frag} {W : WX} {α : Type} {w : Wd} {B D0 Hd Hd1 H : Hp} {σ : L2.St} {ρ : Rho} {ls : LS} {D : Ends} {p q : PM} {pos : Pos}

theorem GoS.sub {o : PO} (s : Sub Hd Hd1) (h : GoS K W w B D0 Hd D o) : GoS K W w B D0 Hd1 D o := by
  cases o with
  | nx ρ ls => exact fun σ' Hd' H' E s' => h σ' Hd' H' E (s.trans s')
  | bk ρ ls => exact fun σ' Hd' H' E s' => h σ' Hd' H' E (s.trans s')
  | ct ρ ls => exact fun σ' Hd' H' E s' => h σ' Hd' H' E (s.trans s')
  | rt d ls => exact fun v σ' Hd' H' ρ' E s' => h v σ' Hd' H' ρ' E (s.trans s')
  | rtN l ls => exact fun p xs σ' Hd' H' ρ' E s' => h p xs σ' Hd' H' ρ' E (s.trans s')
  | rs x ls => exact h
  | no => exact h
/-- an expression ahead of a program -/
theorem GoS.lift {f : M α} {k : α → PM} (h : GoS K W w B D0 Hd D (lift f k ρ ls)) : Go K W w B D0 σ Hd (f ρ ls) fun Hd' _ ρ' ls' a => GoS K W w B D0 Hd' D (k a ρ' ls') := by
  unfold Pd.lift at h
  cases e : f ρ ls with
  | ok a ρ' ls' => rw [e] at h; exact fun Hd' H' E s => GoS.sub s h
  | rs x ls' => rw [e] at h; exact fun H' cls dd xo => h H' cls dd σ xo
  | no => rw [e] at h; exact h
theorem US.lift {f : M α} {k : α → PM} (h : US K W (lift f k) D σ H) : Ru K W f σ H fun w B D0 Hd' _ ρ' ls' a => GoS K W w B D0 Hd' D (k a ρ' ls') := by
  obtain ⟨w, B, D0, Hd, ρ, ls, E, h⟩ := h
  exact ⟨w, B, D0, Hd, ρ, ls, E, h.lift⟩
theorem GoS.seq (h : GoS K W w B D0 Hd D (seqP p q ρ ls)) : GoS K W w B D0 Hd { D with nx := US K W q D } (p ρ ls) := by
  unfold seqP at h
  cases e : p ρ ls with
  | nx ρ' ls' => rw [e] at h; exact fun σ' Hd' H' E s => ⟨w, B, D0, Hd', ρ', ls', E, GoS.sub s h⟩
  | bk ρ' ls' => rw [e] at h; exact h
  | ct ρ' ls' => rw [e] at h; exact h
  | rt d ls' => rw [e] at h; exact h
  | rtN l ls' => rw [e] at h; exact h
  | rs x ls' => rw [e] at h; exact h
  | no => rw [e] at h; exact h
theorem us_nil : PSs X [] (US K W skip) := pss_imp pss_nil fun D σ H h => by
  obtain ⟨w, B, D0, Hd, ρ, ls, E, h⟩ := h
  exact h σ Hd H E (Sub.refl _)
theorem us_cons {st : Stmt} {rest : List Stmt} (h1 : PS X st (US K W p)) (h2 : PSs X rest (US K W q)) : PSs X (st :: rest) (US K W (seqP p q)) := pss_imp (pss_cons h1 h2) fun D σ H h => by
  obtain ⟨w, B, D0, Hd, ρ, ls, E, h⟩ := h
  exact ⟨w, B, D0, Hd, ρ, ls, E, h.seq⟩
theorem us_one {st : Stmt} (h : PS X st (US K W p)) : PSs X [st] (US K W p) := pss_one h
theorem us_never {st : Stmt} : PS X st (US K W never) := ps_imp ps_never fun D σ H ⟨_, _, _, _, _, _, _, h⟩ => h
theorem us_pass : PS X (.Pass pos) (US K W skip) := ps_imp ps_pass fun D σ H h => by
  obtain ⟨w, B, D0, Hd, ρ, ls, E, h⟩ := h
  exact h σ Hd H E (Sub.refl _)
def brk : PM := fun ρ ls => .bk ρ ls
def cnt : PM := fun ρ ls => .ct ρ ls
theorem us_break : PS X (.Break pos) (US K W brk) := ps_imp ps_break fun D σ H h => by
  obtain ⟨w, B, D0, Hd, ρ, ls, E, h⟩ := h
  exact h σ Hd H E (Sub.refl _)
theorem us_continue : PS X (.Continue pos) (US K W cnt) := ps_imp ps_continue fun D σ H h => by
  obtain ⟨w, B, D0, Hd, ρ, ls, E, h⟩ := h
  exact h σ Hd H E (Sub.refl _)

/-! ### stores -/
/-- name i := d -/
def sto (i : Nat) (d : Pd.D) : PM := fun ρ ls => if i < ρ.length then .nx (ρ.set i (.dat d)) ls else .no
def stoN (i : Nat) (l : List Pd.D) : PM := fun ρ ls => if i < ρ.length then .nx (ρ.set i (.own l)) ls else .no
theorem GoS.sto {i : Nat} {d : Pd.D} {v : V} (h : GoS K W w B D0 Hd D (sto i d ρ ls)) (E : EOk K w B D0 Hd H σ ρ ls) (r : Rp K Hd v d) : D.nx (σ.set i (some v)) H := by
  unfold Pd.sto at h
  split at h
  · rename_i hi
    exact h _ Hd H (E.store hi r) (Sub.refl _)
  · exact h.elim
def setV (i : Nat) (f : M Pd.D) : PM := lift f (sto i)
def setN (i : Nat) (f : M (List Pd.D)) : PM := lift f (stoN i)
variable {e : Expr} {te : TE} {f : M Pd.D} {fl : M (List Pd.D)} {i : Nat}
theorem read_set (ht : ∀ Q, UV K W f σ H Q → te σ H Q) (h : US K W (setV i f) D σ H) : tAsg te (gName i) D σ H :=
  ht _ (Ru.imp (US.lift h) fun w B D0 Hd' H' ρ' ls' d E q v r => q.sto E r)
theorem read_setN (ht : ∀ Q, UN K W fl σ H Q → te σ H Q) (h : US K W (setN i fl) D σ H) : tAsg te (gName i) D σ H :=
  ht _ (Ru.imp (US.lift h) fun w B D0 Hd' H' ρ' ls' d E q p xs F r => by
    unfold stoN at q
    split at q
    · rename_i hi
      exact q _ Hd' H' (E.storeOwn hi F r) (Sub.refl _)
    · exact q.elim)
theorem us_set {x : Str} {pos' : Pos} (i : Nat) (hN : X.N.Nodup) (he : PE X e (UV K W f)) (hi : X.N[i]? = some x := by rfl) (hx : Loc X.env.scope x := by first | exact Or.inl rfl | exact Or.inr rfl) (hs : swapsWith e (some (.Name x pos')) pos.line X.env = pure false := by rfl) (hf : X.fn x = true ∨ X.env.scope.names.lookup x = some .local := by first | exact .inl rfl | exact .inr rfl | assumption) :
    PS X (.Assign [.Name x pos'] e pos) (US K W (setV i f)) := ps_imp (ps_set hN hi hx he hs hf) fun D σ H h => read_set (fun _ q => q) h
theorem us_setN {x : Str} {pos' : Pos} (i : Nat) (hN : X.N.Nodup) (he : PE X e (UN K W fl)) (hi : X.N[i]? = some x := by rfl) (hx : Loc X.env.scope x := by first | exact Or.inl rfl | exact Or.inr rfl) (hs : swapsWith e (some (.Name x pos')) pos.line X.env = pure false := by rfl) (hf : X.fn x = true ∨ X.env.scope.names.lookup x = some .local := by first | exact .inl rfl | exact .inr rfl | assumption) :
    PS X (.Assign [.Name x pos'] e pos) (US K W (setN i fl)) := ps_imp (ps_set hN hi hx he hs hf) fun D σ H h => read_setN (fun _ q => q) h
/-- return e -/
def retP (f : M Pd.D) : PM := lift f fun d _ ls => .rt d ls
theorem us_ret (he : PE X e (UV K W f)) : PS X (.Return (some e) pos) (US K W (retP f)) := ps_imp (ps_ret he) fun D σ H h =>
  Ru.imp (US.lift h) fun w B D0 Hd' H' ρ' ls' d E q v r => q v σ Hd' H' ρ' E (Sub.refl _) r
/-- return e, a list that nobody knows -/
def retN (f : M (List Pd.D)) : PM := lift f fun l _ ls => .rtN l ls
theorem us_retN {f : M (List Pd.D)} (he : PE X e (UN K W f)) : PS X (.Return (some e) pos) (US K W (retN f)) := ps_imp (ps_ret he) fun D σ H h =>
  Ru.imp (US.lift h) fun w B D0 Hd' H' ρ' ls' l E q p xs F r => q p xs σ Hd' H' ρ' E (Sub.refl _) F r
/-- a name's list, given out of hand -/
def takeS (i : Nat) (ρ : Rho) (ls : LS) : Option Sl → Out (List Pd.D)
  | some (.own ds) => .ok ds (ρ.set i .un) ls
  | _ => .no
def takeM (i : Nat) : M (List Pd.D) := fun ρ ls => takeS i ρ ls ρ[i]?
theorem EOk.drop1 {i : Nat} (E : EOk K w B D0 Hd H σ ρ ls) : EOk K w B D0 Hd H σ (ρ.set i .un) ls := by
  have old : ∀ (j : Nat) (s : Sl), s ≠ .un → (ρ.set i .un)[j]? = some s → j ≠ i ∧ ρ[j]? = some s := fun j s ns h => by
    rcases getSet h with ⟨_, _, z⟩ | z
    · exact absurd z ns
    · exact z
  refine ⟨E.base, E.dom, E.sub, E.sub0, E.noz, E.nt, E.fr, E.st, by simpa using E.len, fun j d h => E.dat j d (old j _ (by simp) h).2, fun j ds h => E.ow j ds (old j _ (by simp) h).2, fun j k q as bs ne e1 e2 => E.apa j k q as bs ne (old j _ (by simp) e1).2 (old k _ (by simp) e2).2⟩
theorem u_take {e : Expr} (i : Nat) (h : PE X e (tVar i)) : PE X e (UN K W (takeM i)) := pe_imp h fun σ H Q q => by
  obtain ⟨w, B, D0, Hd, ρ, ls, E, q⟩ := q
  have q : Go K W w B D0 σ Hd (takeS i ρ ls ρ[i]?) fun Hd' H' ρ' _ ds => ∀ p xs, Fresh w B Hd' H' σ ρ' p xs → RpL K Hd' xs ds → Q (.ref p) H' := q
  cases e : ρ[i]? with
  | none => rw [e] at q; exact False.elim q
  | some s =>
    rw [e] at q
    cases s with
    | un => exact False.elim q
    | dat x => exact False.elim q
    | ow o =>
      cases o with
      | d _ _ => exact False.elim q
      | l ds =>
        obtain ⟨p, xs, h1, h2, h3, h4, h5, h6⟩ := E.own i _ e
        refine ⟨.ref p, h1, q Hd H E.drop1 (Sub.refl _) p xs ⟨h2, h4, h5, h6, fun j es hj z => ?_⟩ h3⟩
        rcases getSet hj with ⟨_, _, y⟩ | ⟨ne, hj⟩
        · cases y
        · exact E.apa j i p es (.l ds) ne hj e z h1
/-- an expression alone -/
def drop (f : M Pd.D) : PM := lift f fun _ => skip
theorem us_expr (he : PE X e (UV K W f)) (hs : swapsWith e none pos.line X.env = pure false := by rfl) : PS X (.Expr e pos) (US K W (drop f)) := ps_imp (ps_expr he hs) fun D σ H h =>
  Ru.imp (US.lift h) fun w B D0 Hd' H' ρ' ls' d E q v r => q σ Hd' H' E (Sub.refl _)
def ifP (c : M Bool) (p q : PM) : PM := lift c fun b => if b = true then p else q
theorem us_if {c : Expr} {tc : M Bool} {a b : List Stmt} (hc : PT X c (UT K W tc)) (ha : PSs X a (US K W p)) (hb : PSs X b (US K W q)) : PS X (.If c a b pos) (US K W (ifP tc p q)) := ps_imp (ps_if hc ha hb) fun D σ H h =>
  Ru.imp (US.lift h) fun w B D0 Hd' H' ρ' ls' t E r => by
    cases t with
    | true => exact ⟨w, B, D0, Hd', ρ', ls', E, r⟩
    | false => exact ⟨w, B, D0, Hd', ρ', ls', E, r⟩
/-! ### targets -/
/-- σ' is σ but at some places -/
structure Sames (is : List Nat) (σ σ' : L2.St) : Prop where
  len : σ'.length = σ.length
  out : ∀ (j : Nat), j ∉ is → σ'[j]? = σ[j]?
theorem Sames.trans {is js : List Nat} {a b c : L2.St} (h : Sames is a b) (h' : Sames js b c) : Sames (is ++ js) a c := ⟨h'.len.trans h.len, fun j hj => (h'.out j fun q => hj (List.mem_append_right _ q)).trans (h.out j fun q => hj (List.mem_append_left _ q))⟩
structure TgOk (K : PySem.W.Frag) (g : TG) (t : Pd.D → Rho → Option Rho) (is : List Nat) : Prop where
  run : ∀ {w : Wd} {B D0 Hd H : Hp} {σ : L2.St} {ρ ρ' : Rho} {ls : LS} {v : V} {d : Pd.D}, EOk K w B D0 Hd H σ ρ ls → Rp K Hd v d → t d ρ = some ρ' → ∀ Q : L2.St → Hp → Prop, (∀ σ', EOk K w B D0 Hd H σ' ρ' ls → Sames is σ σ' → Q σ' H) → g v σ H Q
structure TgsOk (K : PySem.W.Frag) (g : TGs) (t : List Pd.D → Rho → Option Rho) (is : List Nat) : Prop where
  run : ∀ {w : Wd} {B D0 Hd H : Hp} {σ : L2.St} {ρ ρ' : Rho} {ls : LS} {vs : List V} {ds : List Pd.D}, EOk K w B D0 Hd H σ ρ ls → RpL K Hd vs ds → t ds ρ = some ρ' → ∀ Q : L2.St → Hp → Prop, (∀ σ', EOk K w B D0 Hd H σ' ρ' ls → Sames is σ σ' → Q σ' H) → g vs σ H Q
def tgName (i : Nat) : Pd.D → Rho → Option Rho := fun d ρ => if i < ρ.length then some (ρ.set i (.dat d)) else none
theorem tg_name {i : Nat} : TgOk K (gName i) (tgName i) [i] := ⟨fun {w B D0 Hd H σ ρ ρ' ls v d} E r e Q q => by
  unfold tgName at e
  split at e
  · rename_i hi
    cases e
    exact q _ (E.store hi r) ⟨List.length_set, fun j hj => List.getElem?_set_ne (fun z => hj (by rw [z]; exact List.mem_cons_self))⟩
  · cases e⟩
def tgNil : List Pd.D → Rho → Option Rho
  | [], ρ => some ρ
  | _, _ => none
def tgCons (t : Pd.D → Rho → Option Rho) (u : List Pd.D → Rho → Option Rho) : List Pd.D → Rho → Option Rho
  | d :: ds, ρ => (t d ρ).bind (u ds)
  | _, _ => none
theorem tg_nil : TgsOk K gNil tgNil [] := ⟨fun {w B D0 Hd H σ ρ ρ' ls vs ds} E r e Q q => by
  cases r with
  | nil => cases e; exact ⟨rfl, q _ E ⟨rfl, fun _ _ => rfl⟩⟩
  | cons _ _ => exact noneE e⟩
theorem tg_cons {g : TG} {gs : TGs} {t : Pd.D → Rho → Option Rho} {u : List Pd.D → Rho → Option Rho} {is js : List Nat} (h1 : TgOk K g t is) (h2 : TgsOk K gs u js) : TgsOk K (gCons g gs) (tgCons t u) (is ++ js) := ⟨fun {w B D0 Hd H σ ρ ρ' ls vs ds} E r e Q q => by
  cases r with
  | nil => exact noneE e
  | @cons v vs d ds a r =>
    have e : (t d ρ).bind (u ds) = some ρ' := e
    cases e1 : t d ρ with
    | none => rw [e1] at e; exact noneE e
    | some ρ1 =>
      rw [e1] at e
      exact ⟨_, _, rfl, h1.run E a e1 _ fun σ1 E1 s1 => h2.run E1 r e Q fun σ2 E2 s2 => q σ2 E2 (s1.trans s2)⟩⟩
def tgTup (u : List Pd.D → Rho → Option Rho) : Pd.D → Rho → Option Rho
  | .tup ds, ρ => u ds ρ
  | .ktp ds, ρ => u ds ρ
  | _, _ => none
theorem tgs_len {u : List Pd.D → Rho → Option Rho} {n : Nat} (hn : ∀ ds ρ ρ', u ds ρ = some ρ' → ds.length = n) {gs : TGs} {is : List Nat} (h : TgsOk K gs u is) : TgOk K (gTup K n gs) (tgTup u) is := ⟨fun {w B D0 Hd H σ ρ ρ' ls v d} E r e Q q => by
  cases r with
  | tup hs r =>
    rename_i a xs ds
    have e : u ds ρ = some ρ' := e
    exact ⟨a, xs, rfl, E.sub.sqT hs.sq, by rw [r.length]; exact hn _ _ _ e, h.run E r e Q q⟩
  | ktp hs r =>
    rename_i a xs ds
    have e : u ds ρ = some ρ' := e
    exact ⟨a, xs, rfl, .inl (.inl (E.sub _ _ hs)), by rw [r.length]; exact hn _ _ _ e, h.run E r e Q q⟩
  | _ => exact noneE e⟩
theorem tgn0 : ∀ (ds : List Pd.D) (ρ ρ' : Rho), tgNil ds ρ = some ρ' → ds.length = 0
  | [], _, _, _ => rfl
  | _ :: _, _, _, e => noneE e
theorem tgnS {t : Pd.D → Rho → Option Rho} {u : List Pd.D → Rho → Option Rho} {n : Nat} (h : ∀ (ds : List Pd.D) (ρ ρ' : Rho), u ds ρ = some ρ' → ds.length = n) : ∀ (ds : List Pd.D) (ρ ρ' : Rho), tgCons t u ds ρ = some ρ' → ds.length = n + 1
  | [], _, _, e => noneE e
  | d :: ds, ρ, ρ', e => by
    have e : (t d ρ).bind (u ds) = some ρ' := e
    cases e1 : t d ρ with
    | none => rw [e1] at e; exact noneE e
    | some ρ1 => rw [e1] at e; rw [List.length_cons, h _ _ _ e]
/-- target = e -/
def asgP (t : Pd.D → Rho → Option Rho) (d : Pd.D) : PM := fun ρ ls => match t d ρ with
  | some ρ' => .nx ρ' ls
  | none => .no
theorem us_asg {tg : Expr} {g : TG} {t : Pd.D → Rho → Option Rho} (he : PE X e (UV K W f)) {is : List Nat} (hg : PG X tg g) (h : TgOk K g t is) (hs : swapsWithSole [tg] e pos.line X.env = pure false := by rfl) (hw : swappedStores [tg] e X.env = pure none := by rfl)
    (h1 : (assignEach [tg] X.env).map (·.2) = [assign tg X.env] := by rfl) : PS X (.Assign [tg] e pos) (US K W (lift f (asgP t))) := ps_imp (ps_asg he hg hs hw h1) fun D σ H q =>
  Ru.imp (US.lift q) fun w B D0 Hd' H' ρ' ls' d E q v r => by
    unfold asgP at q
    cases e1 : t d ρ' with
    | none => rw [e1] at q; exact q.elim
    | some ρ2 => rw [e1] at q; exact h.run E r e1 _ fun σ' E' _ => q σ' Hd' H' E' (Sub.refl _)
/-- a, b = x, y: two plain local names -/
def par2 (i j : Nat) (ga : M (List Pd.D)) : PM := lift ga fun ds => match ds with
  | [x, y] => seqP (sto i x) (sto j y)
  | _ => never
theorem us_par {x y : Str} {a b : Expr} {ga : M (List Pd.D)} {px py pt : Pos} {kt k2 pt2} (i j : Nat) (hc : X.calm = true) (hN : X.N.Nodup) (ha : PA X [a, b] (UA K W ga)) (hi : X.N[i]? = some x := by rfl) (hj : X.N[j]? = some y := by rfl) (hij : i ≠ j := by decide)
    (hx : X.env.scope.names.lookup x = some .local := by rfl) (hy : X.env.scope.names.lookup y = some .local := by rfl)
    (hw : swappedStores [.Tuple [.Name x px, .Name y py] kt pt] (.Tuple [a, b] k2 pt2) X.env = pure (some [x, y]) := by rfl)
    (hs : swapsWithSole [.Tuple [.Name x px, .Name y py] kt pt] (.Tuple [a, b] k2 pt2) pos.line X.env = pure false := by rfl) :
    PS X (.Assign [.Tuple [.Name x px, .Name y py] kt pt] (.Tuple [a, b] k2 pt2) pos) (US K W (par2 i j ga)) := ps_imp (ps_par hc hN hi hj hij hx hy ha hw hs) fun D σ H h =>
  Ru.imp (US.lift h) fun w B D0 Hd' H' ρ' ls' ds E q vs r => by
    cases r with
    | nil => exact q.elim
    | cons a r =>
      cases r with
      | nil => exact q.elim
      | cons b r =>
        cases r with
        | nil =>
          refine ⟨_, _, rfl, ?_⟩
          have q : GoS K W w B D0 Hd' D (seqP (sto i _) (sto j _) ρ' ls') := q
          unfold seqP at q
          by_cases hi : i < ρ'.length
          · have e1 : ∀ d, sto i d ρ' ls' = .nx (ρ'.set i (.dat d)) ls' := fun d => if_pos hi
            rw [e1] at q
            exact GoS.sto q (E.store hi a) b
          · have e1 : ∀ d, sto i d ρ' ls' = .no := fun d => if_neg hi
            rw [e1] at q
            exact q.elim
        | cons _ _ => exact q.elim
/-- x += e, ints -/
def augM (i : Nat) (op : Pd.D → Pd.D → Option Pd.D) (f : M Rf) : PM := lift (bin op (nam i) f) (sto i)
end
end Pd

set_option Elab.async false
set_option linter.all false
set_option maxRecDepth 100000
set_option maxHeartbeats 4000000
/-! Pd4: lists that change, loops. -/
namespace Pd
open PySem PySem.Spec PyProof.Rows L2

section
variable {X : Cx} {K : PySem.W.Frag} {W : WX} {α : Type} {w : Wd} {B D0 Hd Hd1 H : Hp} {σ : L2.St} {ρ : Rho} {ls : LS} {D : Ends} {p q : PM} {pos : Pos} {e : Expr} {te : TE} {f : M Pd.D} {i : Nat}

/-! ### x += e -/
def augK (i : Nat) (g : Int → Int → Int) (a : Int) : Pd.D → PM
  | .int b => sto i (.int (g a b))
  | _ => never
def augS (i : Nat) (g : Int → Int → Int) (f : M Pd.D) (ρ : Rho) (ls : LS) : Option Sl → PO
  | some (.dat (.int a)) => lift f (augK i g a) ρ ls
  | _ => .no
def augP (i : Nat) (g : Int → Int → Int) (f : M Pd.D) : PM := fun ρ ls => augS i g f ρ ls ρ[i]?
theorem us_aug {x : Str} {op : Operator} {g : Int → Int → Int} {pos' : Pos} (i : Nat) (ho : PIp X op (ipI g)) (hN : X.N.Nodup) (he : PE X e (UV K W f)) (hi : X.N[i]? = some x := by rfl) (hx : Loc X.env.scope x := by first | exact Or.inl rfl | exact Or.inr rfl)
    (hf : X.fn x = true ∨ X.env.scope.names.lookup x = some .local := by first | exact .inl rfl | exact .inr rfl | assumption) : PS X (.AugAssign (.Name x pos') op e pos) (US K W (augP i g f)) := ps_imp (ps_aug hN hi hx he ho hf) fun D σ H h => by
  obtain ⟨w, B, D0, Hd, ρ, ls, E, h⟩ := h
  have h : GoS K W w B D0 Hd D (augS i g f ρ ls ρ[i]?) := h
  cases e1 : ρ[i]? with
  | none => rw [e1] at h; exact h.elim
  | some s =>
    rw [e1] at h
    cases s with
    | un => exact h.elim
    | ow o => cases o <;> exact h.elim
    | dat d =>
      cases d with
      | int a =>
        have h : GoS K W w B D0 Hd D (lift f (augK i g a) ρ ls) := h
        obtain ⟨v, h1, h2⟩ := E.dat i _ e1
        cases h2
        refine ⟨.int a, h1, w, B, D0, Hd, ρ, ls, E, h.lift.imp fun Hd' H' ρ' ls' d E' _ q u r => ?_⟩
        cases r with
        | int b => exact ⟨a, b, rfl, rfl, GoS.sto q E' (.int _)⟩
        | _ => exact q.elim
      | _ => exact h.elim

/-! ### xs.append(e), xs.pop(), xs.pop(k), xs[i] = e, xs.extend(e) -/
def ownAt {α : Type} (k : List Pd.D → α) (n : α) : Option Sl → α
  | some (.own ds) => k ds
  | _ => n
theorem ownAt_some {α : Type} {k : List Pd.D → α} {n : α} {o : Option Sl} {P : α → Prop} (hn : ¬ P n) (h : P (ownAt k n o)) : ∃ ds, o = some (.own ds) ∧ P (k ds) := by
  cases o with
  | none => exact absurd h hn
  | some s =>
    cases s with
    | un => exact absurd h hn
    | dat _ => exact absurd h hn
    | ow o => cases o with
      | l ds => exact ⟨ds, rfl, h⟩
      | d _ _ => exact absurd h hn

/-- a method of a list that changes it: data in, what comes back, what the list is then -/
structure MutD (K : PySem.W.Frag) (r : V → List V → Hp → VK → Prop) (op : List Pd.D → Pd.D → Option (Pd.D × List Pd.D)) : Prop where
  run : ∀ {Hd H : Hp} {p : Addr} {xs : List V} {ds es : List Pd.D} {v : V} {d z : Pd.D}, Sub Hd H → H p = some (.lst xs) → RpL K Hd xs ds → Rp K Hd v d → op ds d = some (z, es) →
    ∀ Q : VK, (∀ ys t, RpL K Hd ys es → Rp K Hd t z → Q t (upd H p (.lst ys))) → r (.ref p) [v] H Q
structure Mut0 (K : PySem.W.Frag) (r : V → List V → Hp → VK → Prop) (op : List Pd.D → Option (Pd.D × List Pd.D)) : Prop where
  run : ∀ {Hd H : Hp} {p : Addr} {xs : List V} {ds es : List Pd.D} {z : Pd.D}, Sub Hd H → H p = some (.lst xs) → RpL K Hd xs ds → op ds = some (z, es) →
    ∀ Q : VK, (∀ ys t, RpL K Hd ys es → Rp K Hd t z → Q t (upd H p (.lst ys))) → r (.ref p) [] H Q
def mutE (i : Nat) : Option (Pd.D × List Pd.D) → M Pd.D
  | some (z, es) => fun ρ ls => .ok z (ρ.set i (.own es)) ls
  | none => fun _ _ => .no
def mut1 (i : Nat) (op : List Pd.D → Pd.D → Option (Pd.D × List Pd.D)) (d : Pd.D) : M Pd.D := fun ρ ls => ownAt (fun ds => mutE i (op ds d) ρ ls) .no ρ[i]?
def methM (i : Nat) (op : List Pd.D → Pd.D → Option (Pd.D × List Pd.D)) (f : M Pd.D) : M Pd.D := fun ρ ls => ownAt (fun _ => bnd f (mut1 i op) ρ ls) .no ρ[i]?
def meth0M (i : Nat) (op : List Pd.D → Option (Pd.D × List Pd.D)) : M Pd.D := fun ρ ls => ownAt (fun ds => mutE i (op ds) ρ ls) .no ρ[i]?
theorem goNo {α : Type} {P : Hp → Hp → Rho → LS → α → Prop} : ¬ Go K W w B D0 σ Hd (.no : Out α) P := id
theorem Go.xOwn {α : Type} {k : List Pd.D → Out α} {o : Option Sl} {P : Hp → Hp → Rho → LS → α → Prop} (h : Go K W w B D0 σ Hd (ownAt k .no o) P) : ∃ ds, o = some (.own ds) ∧ Go K W w B D0 σ Hd (k ds) P :=
  ownAt_some (P := fun a => Go K W w B D0 σ Hd a P) goNo h
theorem Go.xMut {o : Option (Pd.D × List Pd.D)} {P : Hp → Hp → Rho → LS → Pd.D → Prop} (h : Go K W w B D0 σ Hd (mutE i o ρ ls) P) : ∃ z es, o = some (z, es) ∧ ∀ Hd' H', EOk K w B D0 Hd' H' σ (ρ.set i (.own es)) ls → Sub Hd Hd' → P Hd' H' (ρ.set i (.own es)) ls z := by
  cases o with
  | none => exact h.elim
  | some a => obtain ⟨z, es⟩ := a; exact ⟨z, es, rfl, h⟩
theorem read_meth {r : V → List V → Hp → VK → Prop} {op : List Pd.D → Pd.D → Option (Pd.D × List Pd.D)} (h : MutD K r op) {Q : VK} (q : UV K W (methM i op f) σ H Q) : tBM K "list" r (tVar i) (tCons (UV K W f) tNil) σ H Q := by
  obtain ⟨w, B, D0, Hd, ρ, ls, E, q⟩ := q
  obtain ⟨ds, e1, q⟩ := Go.xOwn q
  obtain ⟨p, xs, h1, h2, _⟩ := E.own i _ e1
  refine ⟨.ref p, h1, .inl ⟨rfl, _, SqL.of h2⟩, w, B, D0, Hd, ρ, ls, E, ?_⟩
  refine Go.imp q.xBnd fun Hd' H' ρ' ls' d E' s' q2 v hv => ?_
  obtain ⟨ds', e2, q3⟩ := Go.xOwn q2
  obtain ⟨z, es, e3, q4⟩ := q3.xMut
  obtain ⟨p', xs', g1, g2, g3, _⟩ := E'.own i _ e2
  rw [h1] at g1; cases g1
  exact h.run E'.sub g2 g3 hv e3 Q fun ys t ry rt => q4 Hd' _ (E'.change e2 h1 ry) (Sub.refl _) t rt
theorem read_meth0 {r : V → List V → Hp → VK → Prop} {op : List Pd.D → Option (Pd.D × List Pd.D)} (h : Mut0 K r op) {Q : VK} (q : UV K W (meth0M i op) σ H Q) : tBM0 K "list" r (tVar i) σ H Q := by
  obtain ⟨w, B, D0, Hd, ρ, ls, E, q⟩ := q
  obtain ⟨ds, e1, q⟩ := Go.xOwn q
  obtain ⟨p, xs, h1, h2, h3, _⟩ := E.own i _ e1
  obtain ⟨z, es, e3, q4⟩ := q.xMut
  exact ⟨.ref p, h1, .inl ⟨rfl, _, SqL.of h2⟩, h.run E.sub h2 h3 e3 Q fun ys t ry rt => q4 Hd _ (E.change e1 h1 ry) (Sub.refl _) t rt⟩
def appD (ds : List Pd.D) (d : Pd.D) : Option (Pd.D × List Pd.D) := if ds.length < top then some (.non, ds ++ [d]) else none
theorem md_append : MutD K rAppend appD := ⟨fun {Hd H p xs ds es v d z} s h r a e Q q => by
  unfold appD at e
  split at e
  · rename_i hl
    cases e
    exact ⟨p, xs, v, rfl, rfl, h, by rw [r.length]; exact top_lt hl, q _ _ (r.append (.cons a .nil)) .non⟩
  · cases e⟩
def extD (ds : List Pd.D) : Pd.D → Option (Pd.D × List Pd.D)
  | .lst es => if ds.length + es.length ≤ top then some (.non, ds ++ es) else none
  | _ => none
theorem md_extend : MutD K rExtend extD := ⟨fun {Hd H p xs ds es v d z} s h r a e Q q => by
  cases a with
  | @lst b zs l hb rb =>
    have e : (if ds.length + l.length ≤ top then some (Pd.D.non, ds ++ l) else none) = some (z, es) := e
    split at e
    · rename_i hl
      cases e
      exact ⟨p, b, xs, zs, rfl, rfl, h, s _ _ hb, by rw [r.length, rb.length]; exact top_le hl, q _ _ (r.append rb) .non⟩
    · cases e
  | _ => exact noneE e⟩
def popD (ds : List Pd.D) : Option (Pd.D × List Pd.D) := match ds[ds.length - 1]? with
  | some d => some (d, ds.dropLast)
  | none => none
theorem RpL.dropLast {H : Hp} {vs : List V} {ds : List Pd.D} (r : RpL K H vs ds) : RpL K H vs.dropLast ds.dropLast := by
  rw [List.dropLast_eq_take, List.dropLast_eq_take, r.length]
  exact r.take _
theorem md_pop : Mut0 K rPop popD := ⟨fun {Hd H p xs ds es z} s h r e Q q => by
  unfold popD at e
  cases e1 : ds[ds.length - 1]? with
  | none => rw [e1] at e; cases e
  | some d =>
    rw [e1] at e
    cases e
    obtain ⟨t, h1, h2⟩ := r.get e1
    exact ⟨p, xs, t, rfl, rfl, h, by rw [r.length]; exact h1, q _ _ r.dropLast h2⟩⟩
def popAtD (ds : List Pd.D) : Pd.D → Option (Pd.D × List Pd.D)
  | .int k => if decide (0 ≤ k) && decide (k < 1000000) then match ds[k.toNat]? with
    | some d => some (d, ds.eraseIdx k.toNat)
    | none => none
    else none
  | _ => none
theorem md_popAt : MutD K rPopAt popAtD := ⟨fun {Hd H p xs ds es v d z} s h r a e Q q => by
  cases a with
  | int k =>
    have e : (if decide (0 ≤ k) && decide (k < 1000000) then match ds[k.toNat]? with
      | some d => some (d, ds.eraseIdx k.toNat)
      | none => none
      else none) = some (z, es) := e
    split at e
    · rename_i hk
      rw [Bool.and_eq_true] at hk
      have k0 := of_decide_eq_true hk.1
      have k1 := of_decide_eq_true hk.2
      cases e1 : ds[k.toNat]? with
      | none => rw [e1] at e; cases e
      | some d =>
        rw [e1] at e
        cases e
        obtain ⟨t, h1, h2⟩ := r.get e1
        have hlt : k.toNat < xs.length := (List.getElem?_eq_some_iff.mp h1).1
        have hx : seqIndex? k xs.length = some k.toNat := (ixN_seq (by unfold ixN; rw [if_pos k0, if_pos (by omega)])).1
        exact ⟨p, xs, k, k.toNat, t, rfl, rfl, h, by omega, by omega, hx, h1, q _ _ (r.eraseIdx _) h2⟩
    · cases e
  | _ => exact noneE e⟩
variable {o : Expr} {apos cpos epos : Pos}
theorem u_append (i : Nat) (hv : PE X o (tVar i)) (he : PE X e (UV X.K W f)) (hbase : attributeBase o "append" X.env (eval o X.env) = eval o X.env := by rfl)
    (hfew : ((backTo cpos (starEach [e] X.env)).all (fun x => !x.1) && (backToKw cpos (keywordEach [] X.env)).all (fun x => x.1.isSome) && decide ([e].length + ([] : List Keyword).length + (if ([] : List Keyword).isEmpty then 0 else 1) < 30)) = true := by rfl)
    (hline : (apos.endLine == cpos.line) = true := by rfl) (hs : starEach [e] X.env = (false, eval e X.env) :: starEach [] X.env := by rfl) (hplain : (backTo cpos (starEach [] X.env)).any (·.1) = false := by rfl) :
    PE X (.Call (.Attribute o "append" apos) [e] [] cpos) (UV X.K W (methM i appD f)) := pe_imp (pe_bm PySem.F.plainAttrs_list PySem.F.slot_list_append PySem.F.type_list_append mt_append hv (pa_cons he pa_nil hs) hbase hfew hline hs hplain) fun _ _ _ q => read_meth md_append q
theorem u_extend (i : Nat) (hv : PE X o (tVar i)) (he : PE X e (UV X.K W f)) (hbase : attributeBase o "extend" X.env (eval o X.env) = eval o X.env := by rfl)
    (hfew : ((backTo cpos (starEach [e] X.env)).all (fun x => !x.1) && (backToKw cpos (keywordEach [] X.env)).all (fun x => x.1.isSome) && decide ([e].length + ([] : List Keyword).length + (if ([] : List Keyword).isEmpty then 0 else 1) < 30)) = true := by rfl)
    (hline : (apos.endLine == cpos.line) = true := by rfl) (hs : starEach [e] X.env = (false, eval e X.env) :: starEach [] X.env := by rfl) (hplain : (backTo cpos (starEach [] X.env)).any (·.1) = false := by rfl) :
    PE X (.Call (.Attribute o "extend" apos) [e] [] cpos) (UV X.K W (methM i extD f)) := pe_imp (pe_bm PySem.F.plainAttrs_list PySem.F.slot_list_extend PySem.F.type_list_extend mt_extend hv (pa_cons he pa_nil hs) hbase hfew hline hs hplain) fun _ _ _ q => read_meth md_extend q
theorem u_popAt (i : Nat) (hv : PE X o (tVar i)) (he : PE X e (UV X.K W f)) (hbase : attributeBase o "pop" X.env (eval o X.env) = eval o X.env := by rfl)
    (hfew : ((backTo cpos (starEach [e] X.env)).all (fun x => !x.1) && (backToKw cpos (keywordEach [] X.env)).all (fun x => x.1.isSome) && decide ([e].length + ([] : List Keyword).length + (if ([] : List Keyword).isEmpty then 0 else 1) < 30)) = true := by rfl)
    (hline : (apos.endLine == cpos.line) = true := by rfl) (hs : starEach [e] X.env = (false, eval e X.env) :: starEach [] X.env := by rfl) (hplain : (backTo cpos (starEach [] X.env)).any (·.1) = false := by rfl) :
    PE X (.Call (.Attribute o "pop" apos) [e] [] cpos) (UV X.K W (methM i popAtD f)) := pe_imp (pe_bm PySem.F.plainAttrs_list PySem.F.slot_list_pop PySem.F.type_list_pop mt_popAt hv (pa_cons he pa_nil hs) hbase hfew hline hs hplain) fun _ _ _ q => read_meth md_popAt q
theorem u_pop (i : Nat) (hv : PE X o (tVar i)) (hbase : attributeBase o "pop" X.env (eval o X.env) = eval o X.env := by rfl) (hline : (apos.endLine == cpos.line) = true := by rfl) :
    PE X (.Call (.Attribute o "pop" apos) [] [] cpos) (UV X.K W (meth0M i popD)) := pe_imp (pe_bm0 PySem.F.plainAttrs_list PySem.F.slot_list_pop PySem.F.type_list_pop mt_pop hv hbase hline) fun _ _ _ q => read_meth0 md_pop q
/-- xs[k] = e -/
def setAtD (ds : List Pd.D) (k : Int) (d : Pd.D) : Option (List Pd.D) := (ixN ds.length k).map fun j => ds.set j d
def setE (i : Nat) : Option (List Pd.D) → PM
  | some es => fun ρ ls => .nx (ρ.set i (.own es)) ls
  | none => never
def set2 (i : Nat) (d : Pd.D) : Pd.D → PM
  | .int k => fun ρ ls => ownAt (fun ds => setE i (setAtD ds k d) ρ ls) .no ρ[i]?
  | _ => never
def setAtP (i : Nat) (f g : M Pd.D) : PM := lift f fun d => fun ρ ls => ownAt (fun _ => lift g (set2 i d) ρ ls) .no ρ[i]?
theorem gosNo : ¬ GoS K W w B D0 Hd D .no := id
theorem GoS.xOwn {k : List Pd.D → PO} {o : Option Sl} (h : GoS K W w B D0 Hd D (ownAt k .no o)) : ∃ ds, o = some (.own ds) ∧ GoS K W w B D0 Hd D (k ds) := ownAt_some (P := fun a => GoS K W w B D0 Hd D a) gosNo h
theorem us_setAt {ix : Expr} {g : M Pd.D} {spos : Pos} (i : Nat) (hv : PE X o (tVar i)) (he : PE X e (UV X.K W f)) (hi : PE X ix (UV X.K W g))
    (ha : ∀ v, assign (.Subscript o ix spos) X.env v = (do
      let ov ← holding [v] (eval o X.env)
      let iv ← holding [v, ov] (eval ix X.env)
      standAt spos
      holding [v, ov, iv] (setItem ov iv v)
      release [v, ov, iv] []) := by intro _; rfl)
    (hs : swapsWithSole [.Subscript o ix spos] e pos.line X.env = pure false := by rfl) (hw : swappedStores [.Subscript o ix spos] e X.env = pure none := by rfl)
    (h1 : (assignEach [.Subscript o ix spos] X.env).map (·.2) = [assign (.Subscript o ix spos) X.env] := by rfl) :
    PS X (.Assign [.Subscript o ix spos] e pos) (US X.K W (setAtP i f g)) := ps_imp (ps_asg he (pg_sub hv hi set_list ha) hs hw h1) fun D σ H h => by
  refine Ru.imp (US.lift h) fun w B D0 Hd' H' ρ' ls' d E q v r => ?_
  obtain ⟨ds, e1, q⟩ := GoS.xOwn q
  obtain ⟨p, xs, h1, h2, h3, _⟩ := E.own i _ e1
  refine ⟨.ref p, h1, w, B, D0, Hd', ρ', ls', E, q.lift.imp fun Hd2 H2 ρ2 ls2 k E2 s2 q2 u ru => ?_⟩
  cases ru with
  | int n =>
    obtain ⟨ds2, e2, q3⟩ := GoS.xOwn q2
    obtain ⟨p', xs', g1, g2, g3, _⟩ := E2.own i _ e2
    rw [h1] at g1; cases g1
    unfold setAtD at q3
    cases e3 : ixN ds2.length n with
    | none => rw [e3] at q3; exact q3.elim
    | some j =>
      rw [e3] at q3
      exact ⟨p, xs', n, j, rfl, rfl, g2, by rw [g3.length]; exact e3, q3 σ Hd2 _ (E2.change e2 h1 (g3.set (r.mono s2) j)) (Sub.refl _)⟩
  | _ => exact q2.elim

/-! ### what is walked -/
structure ItOk (K : PySem.W.Frag) (J : It) (Hd : Hp) (ds : List Pd.D) : Prop where
  go : ∀ (i : Nat) H, i < ds.length → Sub Hd H → J.go i H
  stop : ∀ (i : Nat) H, ds.length ≤ i → Sub Hd H → J.stop i H
  yld : ∀ {w : Wd} {B D0 Hd1 H : Hp} {σ : L2.St} {ρ : Rho} {ls : LS} (i : Nat) (x : V) (H' : Hp) (d : Pd.D), EOk K w B D0 Hd1 H σ ρ ls → Sub Hd Hd1 → J.yld i H x H' → ds[i]? = some d → ∃ Hd2, EOk K w B D0 Hd2 H' σ ρ ls ∧ Sub Hd1 Hd2 ∧ Rp K Hd2 x d ∧ (∀ p o, H p = some o → H' p = some o)
def UI (K : PySem.W.Frag) (W : WX) (f : M (List Pd.D)) : TI := fun σ H R => Ru K W f σ H fun _ _ _ Hd' H' _ _ ds => ∀ J, ItOk K J Hd' ds → R J H'
theorem pi_imp {tg e : Expr} {t t' : TI} (h : PI X tg e t) (i : ∀ σ H R, t' σ H R → t σ H R) : PI X tg e t' := ⟨fun pins s σ H R I q => h.run pins s σ H R I (i σ H R q)⟩
theorem pi_or {tg e : Expr} {t t' : TI} (h : PI X tg e t) (h' : PI X tg e t') : PI X tg e (fun σ H R => t σ H R ∨ t' σ H R) := ⟨fun pins s σ H R I q => q.elim (h.run pins s σ H R I) (h'.run pins s σ H R I)⟩
theorem it_list {a : Addr} {xs : List V} {ds : List Pd.D} (h : SqL K Hd a xs) (r : RpL K Hd xs ds) : ItOk K (Itl K a) Hd ds where
  go := fun i H hi s => by
    have hx : i < xs.length := by rw [r.length]; exact hi
    exact ⟨xs, xs[i], s.sqL h, List.getElem?_eq_getElem hx⟩
  stop := fun i H hi s => ⟨xs, s.sqL h, by rw [r.length]; exact hi⟩
  yld := fun i x H' d E s y e => by
    obtain ⟨rfl, hx⟩ := y
    obtain ⟨v, h1, h2⟩ := r.get e
    have := hx xs (E.sub.sqL (s.sqL h))
    rw [h1] at this; cases this
    exact ⟨_, E, Sub.refl _, h2.mono s, fun _ _ q => q⟩
theorem it_tup {a : Addr} {xs : List V} {ds : List Pd.D} (h : SqT K Hd a xs) (r : RpL K Hd xs ds) : ItOk K (Itt K a) Hd ds where
  go := fun i H hi s => by
    have hx : i < xs.length := by rw [r.length]; exact hi
    exact ⟨xs, xs[i], s.sqT h, List.getElem?_eq_getElem hx⟩
  stop := fun i H hi s => ⟨xs, s.sqT h, by rw [r.length]; exact hi⟩
  yld := fun i x H' d E s y e => by
    obtain ⟨rfl, hx⟩ := y
    obtain ⟨v, h1, h2⟩ := r.get e
    have := hx xs (E.sub.sqT (s.sqT h))
    rw [h1] at this; cases this
    exact ⟨_, E, Sub.refl _, h2.mono s, fun _ _ q => q⟩
def rangeL (lo : Int) (n : Nat) : List Pd.D := (List.range n).map fun (i : Nat) => Pd.D.int (lo + i)
theorem rangeL_len (lo : Int) (n : Nat) : (rangeL lo n).length = n := by unfold rangeL; rw [List.length_map, List.length_range]
theorem it_range (lo : Int) (n : Nat) : ItOk K (Itr lo n) Hd (rangeL lo n) where
  go := fun i H hi s => by rw [rangeL_len] at hi; exact hi
  stop := fun i H hi s => by rw [rangeL_len] at hi; exact hi
  yld := fun i x H' d E s y e => by
    obtain ⟨rfl, rfl⟩ := y
    unfold rangeL at e
    rw [List.getElem?_map] at e
    cases e1 : (List.range n)[i]? with
    | none => rw [e1] at e; cases e
    | some j =>
      rw [e1] at e
      cases e
      have : j = i := by
        obtain ⟨_, h⟩ := List.getElem?_eq_some_iff.mp e1
        rw [List.getElem_range] at h; exact h.symm
      subst this
      exact ⟨_, E, Sub.refl _, .int _, fun _ _ q => q⟩
def itemsD : Pd.D → Option (List Pd.D)
  | .tup l => some l
  | .lst l => some l
  | .lsk l => some l
  | .ktp l => some l
  | _ => none
def itemsM (f : M Pd.D) : M (List Pd.D) := bnd f fun d => opt (itemsD d)
theorem ui_seq {tg : Expr} (h : PE X e (UV X.K W f)) : PI X tg e (UI X.K W (itemsM f)) := pi_imp (pi_or (pi_list h) (pi_tup h)) fun σ H R q => by
  obtain ⟨w, B, D0, Hd, ρ, ls, E, q⟩ := q
  have q := q.xBnd
  cases e1 : f ρ ls with
  | no => rw [e1] at q; exact q.elim
  | rs x ls' => rw [e1] at q; exact .inl ⟨w, B, D0, Hd, ρ, ls, E, by rw [e1]; exact q⟩
  | ok d ρ' ls' =>
    rw [e1] at q
    cases d with
    | tup l =>
      refine .inr ⟨w, B, D0, Hd, ρ, ls, E, by
        rw [e1]
        intro Hd' H' E' s' v hv
        cases hv with
        | tup a r => exact ⟨_, rfl, ⟨_, E'.sub.sqT a.sq⟩, by
            obtain ⟨l', e2, q2⟩ := (q Hd' H' E' s').xOpt1
            cases e2
            exact q2 Hd' H' E' (Sub.refl _) _ (it_tup a.sq r)⟩⟩
    | lst l =>
      refine .inl ⟨w, B, D0, Hd, ρ, ls, E, by
        rw [e1]
        intro Hd' H' E' s' v hv
        cases hv with
        | lst a r => exact ⟨_, rfl, ⟨_, SqL.of (E'.sub _ _ a)⟩, by
            obtain ⟨l', e2, q2⟩ := (q Hd' H' E' s').xOpt1
            cases e2
            exact q2 Hd' H' E' (Sub.refl _) _ (it_list (SqL.of a) r)⟩⟩
    | ktp l =>
      refine .inr ⟨w, B, D0, Hd, ρ, ls, E, by
        rw [e1]
        intro Hd' H' E' s' v hv
        cases hv with
        | ktp a r => exact ⟨_, rfl, ⟨_, .inl (.inl (E'.sub _ _ a))⟩, by
            obtain ⟨l', e2, q2⟩ := (q Hd' H' E' s').xOpt1
            cases e2
            exact q2 Hd' H' E' (Sub.refl _) _ (it_tup (.inl (.inl a)) r)⟩⟩
    | lsk l =>
      refine .inl ⟨w, B, D0, Hd, ρ, ls, E, by
        rw [e1]
        intro Hd' H' E' s' v hv
        cases hv with
        | lsk a r => exact ⟨_, rfl, ⟨_, E'.sub.sqL a⟩, by
            obtain ⟨l', e2, q2⟩ := (q Hd' H' E' s').xOpt1
            cases e2
            exact q2 Hd' H' E' (Sub.refl _) _ (it_list a r)⟩⟩
    | _ =>
      refine .inl ⟨w, B, D0, Hd, ρ, ls, E, by
        rw [e1]
        intro Hd' H' E' s' v hv
        obtain ⟨l', e2, _⟩ := (q Hd' H' E' s').xOpt1
        cases e2⟩
/-- range(n), range(a, b) -/
def rng1D : List Pd.D → Option (List Pd.D)
  | [.int n] => if decide (n < 1000000) && decide (0 - 1000000 < n) then some (rangeL 0 n.toNat) else none
  | _ => none
def rng2D : List Pd.D → Option (List Pd.D)
  | [.int a, .int b] => if (decide (a < 1000000) && decide (0 - 1000000 < a)) && (decide (b < 1000000) && decide (0 - 1000000 < b)) then some (rangeL a (b - a).toNat) else none
  | _ => none
theorem rng1_inv {ds l : List Pd.D} (h : rng1D ds = some l) : ∃ n : Int, ds = [.int n] ∧ n < 1000000 ∧ 0 - 1000000 < n ∧ l = rangeL 0 n.toNat := by
  unfold rng1D at h
  split at h
  · split at h
    · rename_i n hc
      rw [Bool.and_eq_true] at hc
      cases h
      exact ⟨n, rfl, of_decide_eq_true hc.1, of_decide_eq_true hc.2, rfl⟩
    · cases h
  · cases h
theorem rng2_inv {ds l : List Pd.D} (h : rng2D ds = some l) : ∃ a b : Int, ds = [.int a, .int b] ∧ (a < 1000000 ∧ 0 - 1000000 < a) ∧ (b < 1000000 ∧ 0 - 1000000 < b) ∧ l = rangeL a (b - a).toNat := by
  unfold rng2D at h
  split at h
  · split at h
    · rename_i a b hc
      rw [Bool.and_eq_true, Bool.and_eq_true, Bool.and_eq_true] at hc
      cases h
      exact ⟨a, b, rfl, ⟨of_decide_eq_true hc.1.1, of_decide_eq_true hc.1.2⟩, ⟨of_decide_eq_true hc.2.1, of_decide_eq_true hc.2.2⟩, rfl⟩
    · cases h
  · cases h
variable {a b : Expr} {ga : M (List Pd.D)} {p : Pos}
theorem ui_range1 {tg : Expr} (hm : X.mg "range" = none) (ha : PA X [a] (UA X.K W ga)) (hg : Gl X "range" := by rfl) (hs : starEach [a] X.env = [(false, eval a X.env)] := by rfl) : PI X tg (.Call (.Name "range" p) [a] [] pos) (UI X.K W (bnd ga fun ds => opt (rng1D ds))) := pi_imp (pi_range1 hg hm ha hs) fun σ H R q => by
  refine Ru.imp q.xBnd fun w B D0 Hd' H' ρ' ls' ds E q vs r => ?_
  obtain ⟨l, e1, q2⟩ := q.xOpt1
  obtain ⟨n, rfl, h1, h2, rfl⟩ := rng1_inv e1
  cases r with
  | cons rd r =>
    cases rd; cases r
    exact ⟨n, rfl, by omega, by omega, q2 Hd' H' E (Sub.refl _) _ (it_range 0 n.toNat)⟩
theorem ui_range2 {tg : Expr} (hm : X.mg "range" = none) (ha : PA X [a, b] (UA X.K W ga)) (hg : Gl X "range" := by rfl) (hs : starEach [a, b] X.env = [(false, eval a X.env), (false, eval b X.env)] := by rfl) (hs2 : starEach [b] X.env = [(false, eval b X.env)] := by rfl) :
    PI X tg (.Call (.Name "range" p) [a, b] [] pos) (UI X.K W (bnd ga fun ds => opt (rng2D ds))) := pi_imp (pi_range2 hg hm ha hs hs2) fun σ H R q => by
  refine Ru.imp q.xBnd fun w B D0 Hd' H' ρ' ls' ds E q vs r => ?_
  obtain ⟨l, e1, q2⟩ := q.xOpt1
  obtain ⟨a, b, rfl, h1, h2, rfl⟩ := rng2_inv e1
  cases r with
  | cons ra r =>
    cases r with
    | cons rb r =>
      cases ra; cases rb; cases r
      exact ⟨a, b, rfl, ⟨by omega, by omega, by omega, by omega⟩, q2 Hd' H' E (Sub.refl _) _ (it_range a (b - a).toNat)⟩
/-- list(range(a, b)) -/
theorem rgV_rp (a b : Int) : RpL K Hd (rgV a b) (rangeL a (b - a).toNat) := by
  unfold rgV rangeL
  have go : ∀ l : List Nat, RpL K Hd (l.map fun i => V.int (a + (i : Nat))) (l.map fun (i : Nat) => Pd.D.int (a + i)) := by
    intro l
    induction l with
    | nil => exact .nil
    | cons i l ih => exact .cons (.int _) ih
  exact go _
def lr2D : Pd.D → Pd.D → Option (List Pd.D)
  | .int a, .int b => if (decide (a < 1000000) && decide (0 - 1000000 < a)) && (decide (b < 1000000) && decide (0 - 1000000 < b)) then some (rangeL a (b - a).toNat) else none
  | _, _ => none
def lr1D : Pd.D → Option (List Pd.D)
  | .int b => if (decide (b < 1000000) && decide (0 - 1000000 < b)) then some (rangeL 0 b.toNat) else none
  | _ => none
theorem ofb {c : Bool} {α : Type} {x : α} {y : Option α} (h : (if c = true then y else none) = some x) : c = true ∧ y = some x := by
  cases c with
  | true => exact ⟨rfl, h⟩
  | false => exact noneE h
variable {fa fb : M Rf} {p2 : Pos}
theorem u_listRange2 (hc : X.calm = true) (hm : X.mg "list" = none) (hm2 : X.mg "range" = none) (ha : PE X a (U X.K W fa)) (hb : PE X b (U X.K W fb)) (hg : Gl X "list" := by rfl) (hg2 : Gl X "range" := by rfl)
    (na : starEach [a, b] X.env = (false, eval a X.env) :: starEach [b] X.env := by rfl) (nb : starEach [b] X.env = (false, eval b X.env) :: starEach [] X.env := by rfl)
    (nc : starEach [.Call (.Name "range" p2) [a, b] [] pos] X.env = (false, eval (.Call (.Name "range" p2) [a, b] [] pos) X.env) :: starEach [] X.env := by rfl) (hpl : (backTo pos (starEach [b] X.env)).any (·.1) = false := by rfl) :
    PE X (.Call (.Name "list" p) [.Call (.Name "range" p2) [a, b] [] pos] [] epos) (UN X.K W (bin lr2D fa fb)) := pe_imp (pe_listRg hc hg hm (prg_2 hg2 hm2 ha hb na nb hpl) nc) fun σ H Q q => by
  refine Ru.imp q.xBnd fun w B D0 Hd1 H1 ρ1 ls1 r1 E1 q1 v hv => ?_
  refine Go.ru (P := fun _ _ _ Hd' H' _ _ r => ∀ v_1, RfOk X.K Hd' σ v_1 r → _) E1 ?_
  refine q1.xBnd.imp fun Hd2 H2 ρ2 ls2 r2 E2 s2 q2 u hu => ?_
  obtain ⟨x, hx, q3⟩ := q2.xLookB E2 (hv.mono s2)
  obtain ⟨y, hy, q4⟩ := q3.xLookB E2 hu
  obtain ⟨z, hz, q5⟩ := q4.xOpt1
  cases x <;> cases y <;> try (exact noneE hz)
  rename_i i j
  cases hx.int_inv; cases hy.int_inv
  obtain ⟨hcc, e⟩ := ofb hz
  cases e
  rw [Bool.and_eq_true, Bool.and_eq_true, Bool.and_eq_true] at hcc
  have c1 := of_decide_eq_true hcc.1.1
  have c2 := of_decide_eq_true hcc.1.2
  have c3 := of_decide_eq_true hcc.2.1
  have c4 := of_decide_eq_true hcc.2.2
  refine ⟨i, j, rfl, rfl, ⟨by omega, by omega, by omega, by omega, by omega⟩, fun l hl => ?_⟩
  obtain ⟨E3, F⟩ := E2.newList (xs := rgV i j) hl
  exact q5 _ _ E3 (Sub.refl _) l _ F (rgV_rp i j)
end
end Pd

set_option Elab.async false
set_option linter.all false
set_option maxRecDepth 100000
set_option maxHeartbeats 4000000
/-! Pd5: for, while, calls, defs. -/
namespace Pd
open PySem PySem.Spec PyProof.Rows L2

section
variable {X : Cx} {K : PySem.W.Frag} {W : WX} {α : Type} {w : Wd} {B D0 Hd Hd1 H : Hp} {σ : L2.St} {ρ : Rho} {ls : LS} {De : Ends} {p q : PM} {pos : Pos} {e : Expr} {te : TE} {f : M D} {i : Nat}

/-! ### for -/
def forL (t : D → Rho → Option Rho) (b : PM) : List D → PM
  | [] => skip
  | d :: ds => fun ρ ls => match seqP (asgP t d) b ρ ls with
    | .nx ρ' ls' => forL t b ds ρ' ls'
    | .ct ρ' ls' => forL t b ds ρ' ls'
    | .bk ρ' ls' => .nx ρ' ls'
    | o => o
def forP (t : D → Rho → Option Rho) (f : M (List D)) (b : PM) : PM := lift f (forL t b)
theorem forL_cons {t : D → Rho → Option Rho} {b : PM} {d : D} {ds : List D} {ρ1 : Rho} (e : t d ρ = some ρ1) : forL t b (d :: ds) ρ ls = match b ρ1 ls with
    | .nx ρ' ls' => forL t b ds ρ' ls'
    | .ct ρ' ls' => forL t b ds ρ' ls'
    | .bk ρ' ls' => .nx ρ' ls'
    | o => o := by
  have h : seqP (asgP t d) b ρ ls = b ρ1 ls := by
    unfold seqP asgP
    rw [e]
  show (match seqP (asgP t d) b ρ ls with
    | .nx ρ' ls' => forL t b ds ρ' ls'
    | .ct ρ' ls' => forL t b ds ρ' ls'
    | .bk ρ' ls' => .nx ρ' ls'
    | o => o) = _
  rw [h]
theorem forL_none {t : D → Rho → Option Rho} {b : PM} {d : D} {ds : List D} (e : t d ρ = none) : forL t b (d :: ds) ρ ls = .no := by
  have h : seqP (asgP t d) b ρ ls = .no := by
    unfold seqP asgP
    rw [e]
  show (match seqP (asgP t d) b ρ ls with
    | .nx ρ' ls' => forL t b ds ρ' ls'
    | .ct ρ' ls' => forL t b ds ρ' ls'
    | .bk ρ' ls' => .nx ρ' ls'
    | o => o) = _
  rw [h]
/-- a body of a loop -/
theorem body_go {N : L2.St → Hp → Prop} {k : Rho → LS → PO} {o : PO} (h : GoS K W w B D0 Hd De (match o with
    | .nx ρ' ls' => k ρ' ls'
    | .ct ρ' ls' => k ρ' ls'
    | .bk ρ' ls' => .nx ρ' ls'
    | o => o)) (hN : ∀ ρ' ls', o = .nx ρ' ls' ∨ o = .ct ρ' ls' → ∀ σ' Hd' H', EOk K w B D0 Hd' H' σ' ρ' ls' → Sub Hd Hd' → GoS K W w B D0 Hd' De (k ρ' ls') → N σ' H') : GoS K W w B D0 Hd { De with nx := N, ct := N, bk := De.nx } o := by
  cases o with
  | nx ρ' ls' => exact fun σ' Hd' H' E s => hN ρ' ls' (.inl rfl) σ' Hd' H' E s (GoS.sub s h)
  | ct ρ' ls' => exact fun σ' Hd' H' E s => hN ρ' ls' (.inr rfl) σ' Hd' H' E s (GoS.sub s h)
  | bk ρ' ls' => exact h
  | rt d ls' => exact h
  | rtN l ls' => exact h
  | rs x ls' => exact h
  | no => exact h
theorem read_for {wi : TI} {g : TG} {t : D → Rho → Option Rho} {fl : M (List D)} {b : PM} (hi : ∀ R, UI K W fl σ H R → wi σ H R) {is : List Nat} (hg : TgOk K g t is) (h : US K W (forP t fl b) De σ H) : tFor wi g (US K W b) De σ H := by
  refine hi _ (Ru.imp (US.lift h) fun w B D0 Hd1 H1 ρ1 ls1 ds E1 q J ok => ?_)
  refine ⟨fun i m σ' H' => i + m = ds.length ∧ ∃ Hd' ρ' ls', EOk K w B D0 Hd' H' σ' ρ' ls' ∧ Sub Hd1 Hd' ∧ GoS K W w B D0 Hd' De (forL t b (ds.drop i) ρ' ls'), ⟨ds.length, Nat.zero_add _, Hd1, ρ1, ls1, E1, Sub.refl _, q⟩, ?_⟩
  rintro i m σ' H' ⟨hm, Hd', ρ', ls', E, s, q⟩
  by_cases hlt : i < ds.length
  · have ed : ds.drop i = ds[i] :: ds.drop (i + 1) := List.drop_eq_getElem_cons hlt
    have e1 : ds[i]? = some ds[i] := List.getElem?_eq_getElem hlt
    refine .inr ⟨ok.go i H' hlt (s.trans E.sub), fun σ2 H2 => ∃ m', m' < m ∧ i + 1 + m' = ds.length ∧ ∃ Hd' ρ' ls', EOk K w B D0 Hd' H2 σ2 ρ' ls' ∧ Sub Hd1 Hd' ∧ GoS K W w B D0 Hd' De (forL t b (ds.drop (i + 1)) ρ' ls'), fun σ2 H2 ⟨m', h1, h2, h3⟩ => ⟨m', h1, h2, h3⟩, fun x H2 y => ?_⟩
    obtain ⟨Hd2, E2, s2, r2, _⟩ := ok.yld i x H2 ds[i] E s y e1
    rw [ed] at q
    cases et : t ds[i] ρ' with
    | none => rw [forL_none et] at q; exact q.elim
    | some ρ2 =>
      rw [forL_cons et] at q
      refine hg.run E2 r2 et _ fun σ3 E3 _ => ⟨w, B, D0, Hd2, ρ2, ls', E3, ?_⟩
      exact body_go (GoS.sub s2 q) fun ρ4 ls4 _ σ4 Hd4 H4 E4 s4 q4 => ⟨m - 1, by omega, by omega, Hd4, ρ4, ls4, E4, (s.trans s2).trans s4, q4⟩
  · refine .inl ⟨ok.stop i H' (by omega) (s.trans E.sub), ?_⟩
    have ed : ds.drop i = [] := List.drop_eq_nil_of_le (by omega)
    rw [ed] at q
    exact q σ' Hd' H' E (Sub.refl _)
theorem us_for {tg iter : Expr} {body : List Stmt} {g : TG} {t : D → Rho → Option Rho} {fl : M (List D)} {b : PM} (hp : PassesOwn (model X.prog X.w) X.A X.env X.xe) (hc : X.calm = true) (hi : PI X tg iter (UI K W fl)) {is : List Nat} (hg : PG X tg g) (ht : TgOk K g t is) (hb : PSs X body (US K W b))
    (hs : ∀ x, foldedSetIterable iter X.env x = pure x := by intro _; rfl) : PS X (.For tg iter body [] pos) (US K W (forP t fl b)) := ps_imp (ps_for hp hc hi hg hb hs) fun D σ H h => read_for (fun _ q => q) ht h

/-! ### while -/
def whileP (c : M Bool) (b : PM) : Nat → PM
  | 0 => never
  | n + 1 => lift c fun t => if t = true then fun ρ ls => match b ρ ls with
      | .nx ρ' ls' => whileP c b n ρ' ls'
      | .ct ρ' ls' => whileP c b n ρ' ls'
      | .bk ρ' ls' => .nx ρ' ls'
      | o => o
    else skip
theorem us_while {c : Expr} {body : List Stmt} {tc : M Bool} {b : PM} (n : Nat) (hp : PassesOwn (model X.prog X.w) X.A X.env X.xe) (hc : PT X c (UT K W tc)) (hb : PSs X body (US K W b)) : PS X (.While c body [] pos) (US K W (whileP tc b n)) := ps_imp (ps_while hp hc hb) fun De σ H h => by
  obtain ⟨w, B, D0, Hd, ρ, ls, E, h⟩ := h
  refine ⟨fun m σ' H' => ∃ Hd' ρ' ls', EOk K w B D0 Hd' H' σ' ρ' ls' ∧ Sub Hd Hd' ∧ GoS K W w B D0 Hd' De (whileP tc b m ρ' ls'), ⟨n, Hd, ρ, ls, E, Sub.refl _, h⟩, ?_⟩
  rintro m σ' H' ⟨Hd', ρ', ls', E', s', q⟩
  cases m with
  | zero => exact q.elim
  | succ m =>
    refine ⟨w, B, D0, Hd', ρ', ls', E', (GoS.lift q).imp fun Hd2 H2 ρ2 ls2 t E2 s2 q2 => ?_⟩
    cases t with
    | false => exact q2 σ' Hd2 H2 E2 (Sub.refl _)
    | true =>
      refine ⟨fun σ3 H3 => ∃ m', m' < m + 1 ∧ ∃ Hd' ρ' ls', EOk K w B D0 Hd' H3 σ3 ρ' ls' ∧ Sub Hd Hd' ∧ GoS K W w B D0 Hd' De (whileP tc b m' ρ' ls'), fun σ3 H3 h => h, w, B, D0, Hd2, ρ2, ls2, E2, ?_⟩
      exact body_go (k := whileP tc b m) q2 fun ρ4 ls4 _ σ4 Hd4 H4 E4 s4 q4 => ⟨m, Nat.lt_succ_self m, Hd4, ρ4, ls4, E4, (s'.trans s2).trans s4, q4⟩

/-! ### defs and their calls -/
inductive FO where
  | ok (d : D) (ls : LS) | okN (l : List D) (ls : LS) | rs (x : XV) (ls : LS) | no
abbrev FS := List D → LS → FO
/-- behind a call -/
structure Post (K : PySem.W.Frag) (w : Wd) (Hd H Hd' H' : Hp) (ls' : LS) : Prop where
  ext : ∀ b o, H b = some o → ¬ w.Z b → NT o → H' b = some o
  dom : ∀ b, H' b = none → NB H b
  mono : Sub Hd Hd'
  sub : Sub Hd' H'
  new : ∀ b o, Hd' b = some o → Hd b = some o ∨ Nw H b o
  noz : ∀ b, w.Z b → Hd' b = none
  nt : ∀ b o, Hd' b = some o → NT o
  st : SOk w ls' H'
/-- a list at p that nobody knew -/
structure NewL (w : Wd) (H Hd' H' : Hp) (p : Addr) (xs : List V) : Prop where
  at_ : H' p = some (.lst xs)
  nd : Hd' p = none
  nb : NB H p
  nz : ¬ w.Z p
def GoF (K : PySem.W.Frag) (w : Wd) (Hd H : Hp) (Q : VK) (E : XK) : FO → Prop
  | .ok d ls' => ∀ v Hd' H', Post K w Hd H Hd' H' ls' → Rp K Hd' v d → Q v H'
  | .okN l ls' => ∀ p xs Hd' H', Post K w Hd H Hd' H' ls' → NewL w H Hd' H' p xs → RpL K Hd' xs l → Q (.ref p) H'
  | .rs x ls' => ∀ H' cls dd, XOk w H H' ls' x cls dd → E cls dd H'
  | .no => False
def spD (K : PySem.W.Frag) (n : Nat) (F : FS) : Sp := fun vs H Q E => ∃ w Hd ds ls, Sub Hd H ∧ (∀ b, w.Z b → Hd b = none) ∧ (∀ b o, Hd b = some o → NT o) ∧ SOk w ls H ∧ RpL K Hd vs ds ∧ ds.length = n ∧ GoF K w Hd H Q E (F ds ls)
theorem Post.eok {Hd' H' : Hp} {ls' : LS} (P : Post K w Hd H Hd' H' ls') (E : EOk K w B D0 Hd H σ ρ ls) : EOk K w B D0 Hd' H' σ ρ ls' := by
  have nbh : ∀ b, ¬ w.Z b → NB H b → NB B b := fun b z h o e t => h o (E.base b o e z t) t
  refine ⟨fun b o e z t => P.ext b o (E.base b o e z t) z t, fun b e => nbh b (fun z => by obtain ⟨o, q⟩ := P.st.inH z; rw [e] at q; cases q) (P.dom b e), P.sub, E.sub0.trans P.mono, P.noz, P.nt, fun b o e => ?_, P.st, E.len, fun i d e => ?_, fun i ds e => ?_, E.apa⟩
  · rcases P.new b o e with h | h
    · exact E.fr b o h
    · exact .inr (h.imp (nbh b (fun z => by rw [P.noz b z] at e; cases e)) id)
  · obtain ⟨v, h1, h2⟩ := E.dat i d e
    exact ⟨v, h1, h2.mono P.mono⟩
  · obtain ⟨p, xs, h1, h2, h3, h4, h5, h6⟩ := E.ow i ds e
    refine ⟨p, xs, h1, P.ext p _ h2 h6 h3.nt, h3.mono P.mono, ?_, h5, h6⟩
    cases e2 : Hd' p with
    | none => rfl
    | some o =>
      rcases P.new p o e2 with h | h
      · rw [h4] at h; cases h
      · rcases h with h | ⟨ys, rfl⟩
        · exact absurd h3.nt (h _ h2)
        · have := P.sub p _ e2
          rw [P.ext p _ h2 h6 h3.nt] at this
          cases this
          exact h3.notup.elim
theorem Post.fresh {Hd' H' : Hp} {ls' : LS} {p : Addr} {xs : List V} (E : EOk K w B D0 Hd H σ ρ ls) (N : NewL w H Hd' H' p xs) : Fresh w B Hd' H' σ ρ p xs := by
  refine ⟨N.at_, N.nd, fun o e t => N.nb o (E.base p o e N.nz t) t, N.nz, fun i ds e z => ?_⟩
  obtain ⟨q, ys, h1, h2, h3, _⟩ := E.ow i ds e
  rw [h1] at z
  cases z
  exact absurd h3.nt (N.nb _ h2)
def callF (o : FO) : M D := fun ρ ls => match o with
  | .ok d ls' => .ok d ρ ls'
  | .rs x ls' => .rs x ls'
  | _ => .no
def callM (n : Nat) (F : FS) (ga : M (List D)) : M D := bnd ga fun ds ρ ls => if ds.length = n then callF (F ds ls) ρ ls else .no
theorem read_call {n : Nat} {F : FS} {ga : M (List D)} {ta : TA} (ht : ∀ R, UA K W ga σ H R → ta σ H R) {Q : VK} (h : UV K W (callM n F ga) σ H Q) : tCallS (spD K n F) (WE W) ta σ H Q := by
  refine ht _ (Ru.imp h.xBnd fun w B D0 Hd1 H1 ρ1 ls1 ds E1 q vs r => ?_)
  have q : Go K W w B D0 σ Hd1 (if ds.length = n then callF (F ds ls1) ρ1 ls1 else .no) fun Hd' H' _ _ d => ∀ v, Rp K Hd' v d → Q v H' := q
  by_cases hn : ds.length = n
  · rw [if_pos hn] at q
    refine ⟨w, Hd1, ds, ls1, E1.sub, E1.noz, E1.nt, E1.st, r, hn, ?_⟩
    unfold callF at q
    cases e : F ds ls1 with
    | ok d ls' =>
      rw [e] at q
      exact fun v Hd' H' P rv => q Hd' H' (P.eok E1) P.mono v rv
    | okN l ls' => rw [e] at q; exact q.elim
    | rs x ls' =>
      rw [e] at q
      exact fun H' cls dd xo => q H' cls dd ⟨fun b o eb z t => xo.base b o (E1.base b o eb z t) z t, xo.st, xo.cls, xo.non, xo.fld⟩
    | no => rw [e] at q; exact q
  · rw [if_neg hn] at q
    exact q.elim
/-- a call that gives a new list -/
def callFN (o : FO) : M (List D) := fun ρ ls => match o with
  | .okN l ls' => .ok l ρ ls'
  | .rs x ls' => .rs x ls'
  | _ => .no
def callN (n : Nat) (F : FS) (ga : M (List D)) : M (List D) := bnd ga fun ds ρ ls => if ds.length = n then callFN (F ds ls) ρ ls else .no
theorem read_callN {n : Nat} {F : FS} {ga : M (List D)} {ta : TA} (ht : ∀ R, UA K W ga σ H R → ta σ H R) {Q : VK} (h : UN K W (callN n F ga) σ H Q) : tCallS (spD K n F) (WE W) ta σ H Q := by
  refine ht _ (Ru.imp h.xBnd fun w B D0 Hd1 H1 ρ1 ls1 ds E1 q vs r => ?_)
  have q : Go K W w B D0 σ Hd1 (if ds.length = n then callFN (F ds ls1) ρ1 ls1 else .no) fun Hd' H' ρ' _ l => ∀ p xs, Fresh w B Hd' H' σ ρ' p xs → RpL K Hd' xs l → Q (.ref p) H' := q
  by_cases hn : ds.length = n
  · rw [if_pos hn] at q
    refine ⟨w, Hd1, ds, ls1, E1.sub, E1.noz, E1.nt, E1.st, r, hn, ?_⟩
    unfold callFN at q
    cases e : F ds ls1 with
    | ok d ls' => rw [e] at q; exact q.elim
    | okN l ls' =>
      rw [e] at q
      exact fun p xs Hd' H' P N r' => q Hd' H' (P.eok E1) P.mono p xs (Post.fresh (ls' := ls') E1 N) r'
    | rs x ls' =>
      rw [e] at q
      exact fun H' cls dd xo => q H' cls dd ⟨fun b o eb z t => xo.base b o (E1.base b o eb z t) z t, xo.st, xo.cls, xo.non, xo.fld⟩
    | no => rw [e] at q; exact q
  · rw [if_neg hn] at q
    exact q.elim
theorem u_call {k : Nat} {fa : Addr} {fd : FuncData} {ps : List Str} {x : Str} {n : Nat} {F : FS} {ga : M (List D)} {pp : Pos} {es : List Expr} (G : FnOk X.prog X.w X.K X.mg X.base (L2.CX X.prog X.w) k fa fd ps (spD X.K n F)) (hr : Room k X.A) (hm : X.mg x = some (.ref fa)) (hk : PySem.W.keepIn X.K (.ref fa) = true)
    (hb : Binds X.K fd ps []) (tk : Takes X W) (ha : PA X (e :: es) (UA X.K W ga)) (hg : Gl X x := by rfl) (hdb : (x == ("__debug__" : Str)) = false := by decide) (he : starEach (e :: es) X.env = (false, eval e X.env) :: starEach es X.env := by rfl) (hpl : (backTo pos (starEach es X.env)).any (·.1) = false := by rfl) :
    PE X (.Call (.Name x pp) (e :: es) [] pos) (UV X.K W (callM n F ga)) := pe_imp (pe_callS G hr hg hm hk hb (fun σ => passAt tk σ) ha hdb he hpl) fun σ H Q h => read_call (fun _ q => q) h
/-- a def keeps its promise: its body is a program, and the program gives what F tells -/
def ini (N : Nat) (ds : List D) : Rho := ds.map Sl.dat ++ List.replicate (N - ds.length) Sl.un
theorem EOk.start {N : List Str} {vs : List V} {ds : List D} (s : Sub Hd H) (z : ∀ b, w.Z b → Hd b = none) (t : ∀ b o, Hd b = some o → NT o) (st : SOk w ls H) (r : RpL K Hd vs ds) : EOk K w H Hd Hd H (L2.start N vs) (ini N.length ds) ls := by
  have hl := r.length
  have noOwn : ∀ (i : Nat) (l : Ow), (ini N.length ds)[i]? ≠ some (.ow l) := fun i l e => by
    unfold ini at e
    by_cases hi : i < ds.length
    · rw [List.getElem?_append_left (by simpa using hi), List.getElem?_map] at e
      cases e1 : ds[i]? with
      | none => rw [e1] at e; cases e
      | some d => rw [e1] at e; cases e
    · rw [List.getElem?_append_right (by simpa using hi), List.getElem?_replicate] at e
      split at e <;> cases e
  refine ⟨fun b o e _ _ => e, fun b e => .of e, s, Sub.refl _, z, t, fun b o e => .inl e, st, ?_, fun i d e => ?_, fun i l e => absurd e (noOwn i l), fun i j p l l' ne e _ => absurd e (noOwn i l)⟩
  · unfold L2.start ini
    simp [hl]
  · unfold ini at e
    by_cases hi : i < ds.length
    · rw [List.getElem?_append_left (by simpa using hi), List.getElem?_map] at e
      cases e1 : ds[i]? with
      | none => rw [e1] at e; cases e
      | some d' =>
        rw [e1] at e
        cases e
        obtain ⟨v, h1, h2⟩ := r.get e1
        refine ⟨v, ?_, h2⟩
        unfold L2.start
        rw [List.getElem?_append_left (by rw [List.length_map, hl]; exact hi), List.getElem?_map, h1]
        rfl
    · rw [List.getElem?_append_right (by simpa using hi), List.getElem?_replicate] at e
      split at e <;> cases e
/-- what a program's end is for a caller -/
def endF : PO → FO
  | .nx _ ls => .ok .non ls
  | .rt d ls => .ok d ls
  | .rtN l ls => .okN l ls
  | .rs x ls => .rs x ls
  | _ => .no
def Does (N n : Nat) (p : PM) (F : FS) : Prop := ∀ ds ls, ds.length = n → F ds ls = .no ∨ endF (p (ini N ds) ls) = F ds ls
theorem fn_does {N ps : List Str} {vs : List V} {Q : VK} {E : XK} {p : PM} {F : FS} {n : Nat} (hd : Does N.length n p F) (h : spD K n F vs H Q E) : US K (fun cls d _ H => E cls d H) p { nx := fun _ H' => Q .non H', rt := Q } (L2.start N vs) H := by
  obtain ⟨w, Hd, ds, ls, s, z, t, st, r, hn, g⟩ := h
  refine ⟨w, H, Hd, Hd, _, ls, EOk.start s z t st r, ?_⟩
  have post : ∀ {σ' Hd' H' ρ' ls'}, EOk K w H Hd Hd' H' σ' ρ' ls' → Sub Hd Hd' → Post K w Hd H Hd' H' ls' := fun E s => ⟨fun b o e z t => E.base b o e z t, E.dom, s, E.sub, E.fr, E.noz, E.nt, E.st⟩
  rcases hd ds ls hn with h | h
  · rw [h] at g; exact g.elim
  · rw [← h] at g
    cases e : p (ini N.length ds) ls with
    | nx ρ' ls' => rw [e] at g; exact fun σ' Hd' H' E s => g .non Hd' H' (post E s) .non
    | rt d ls' => rw [e] at g; exact fun v σ' Hd' H' ρ' E s rv => g v Hd' H' (post E s) rv
    | rtN l ls' => rw [e] at g; exact fun p xs σ' Hd' H' ρ' E s F r => g p xs Hd' H' (post E s) ⟨F.at_, F.nd, F.nb, F.nz⟩ r
    | rs x ls' => rw [e] at g; exact fun H' cls dd σ' xo => g H' cls dd xo
    | bk ρ' ls' => rw [e] at g; exact g.elim
    | ct ρ' ls' => rw [e] at g; exact g.elim
    | no => rw [e] at g; exact g.elim
theorem fn_ok {P : Program} {w : World} {mg : Str → Option Value} {base : Heap} {x : Str} {st : Stmt} {fa : Addr} {fd : FuncData} {N ps : List Str} {k n : Nat} {F : FS} {p : PM} (T : Fun K x x st fa fd) (S : FnScope N ps (defScope st)) (hn : ps.length = n)
    (body : ∀ (cdv : Value) (A : Around) (outer : List Env) (s : Shared) (H : Hp) (E : XK), Room k (A.deeper (envOfC x (defScope st) s.heap.objs.size fa cdv)) → PSs (cxOf (L2.CX P w) P w K mg base N x (defScope st) fa cdv A outer s H E) (defBody st) (US K (fun cls d _ H => E cls d H) p))
    (hd : Does N.length n p F) : FnOk P w K mg base (L2.CX P w) (k + 1) fa fd ps (spD K n F) := by
  refine T.okX S (fun vs H Q E h => ?_) (fun cdv A outer s H vs Q E hr h => ⟨_, body cdv A outer s H E hr, fn_does (ps := ps) hd h⟩)
  obtain ⟨w, Hd, ds, ls, _, _, _, _, r, h2, _⟩ := h
  rw [r.length, h2, hn]
end
end Pd

set_option Elab.async false
set_option linter.all false
set_option maxRecDepth 100000
set_option maxHeartbeats 4000000
/-! Pd6: list comprehensions. -/
namespace Pd
open PySem PySem.Spec PyProof.Rows L2

/-- no exception is wished -/
abbrev W0 : WX := fun _ _ _ _ => False
/-- the slots of a block forgotten -/
def wipeR (ρ : Rho) : List Nat → Rho
  | [] => ρ
  | v :: vs => (wipeR ρ vs).set v .un
def isOwn : Option Sl → Bool
  | some (.ow _) => true
  | _ => false
def noOwn (ρ : Rho) (vs : List Nat) : Bool := vs.all fun v => !isOwn ρ[v]?
/-- the slots of the block as before, the others as they are -/
def unwipe (ρ0 : Rho) (ρ : Rho) : List Nat → Rho
  | [] => ρ
  | v :: vs => match ρ0[v]? with
    | some s => (unwipe ρ0 ρ vs).set v s
    | none => unwipe ρ0 ρ vs
theorem wipeR_len (ρ : Rho) : ∀ vs, (wipeR ρ vs).length = ρ.length
  | [] => rfl
  | v :: vs => by unfold wipeR; rw [List.length_set, wipeR_len ρ vs]
theorem wipeR_in {ρ : Rho} {i : Nat} {s : Sl} : ∀ {vs : List Nat}, (wipeR ρ vs)[i]? = some s → i ∈ vs → s = .un
  | [], _, h => by simp at h
  | v :: vs, h, hm => by
    unfold wipeR at h
    rcases getSet h with ⟨_, _, rfl⟩ | ⟨ne, h⟩
    · rfl
    · rcases List.mem_cons.mp hm with e | hm
      · exact absurd e ne
      · exact wipeR_in h hm
theorem wipeR_out {ρ : Rho} {i : Nat} : ∀ {vs : List Nat}, i ∉ vs → (wipeR ρ vs)[i]? = ρ[i]?
  | [], _ => rfl
  | v :: vs, h => by
    unfold wipeR
    rw [List.getElem?_set_ne (fun e => h (by rw [e]; exact List.mem_cons_self))]
    exact wipeR_out fun q => h (List.mem_cons_of_mem _ q)
theorem wipe_outS {σ : L2.St} {i : Nat} : ∀ {vs : List Nat}, i ∉ vs → (wipe σ vs)[i]? = σ[i]?
  | [], _ => rfl
  | v :: vs, h => by
    unfold wipe
    rw [List.getElem?_set_ne (fun e => h (by rw [e]; exact List.mem_cons_self))]
    exact wipe_outS fun q => h (List.mem_cons_of_mem _ q)
theorem unwipe_len (ρ0 ρ : Rho) : ∀ vs, (unwipe ρ0 ρ vs).length = ρ.length
  | [] => rfl
  | v :: vs => by
    unfold unwipe
    split
    · rw [List.length_set]; exact unwipe_len ρ0 ρ vs
    · exact unwipe_len ρ0 ρ vs
theorem unwipe_get {ρ0 ρ : Rho} {i : Nat} {s : Sl} : ∀ {vs : List Nat}, (unwipe ρ0 ρ vs)[i]? = some s → (i ∈ vs ∧ ρ0[i]? = some s) ∨ (ρ[i]? = some s ∧ (i ∈ vs → ρ0[i]? = none))
  | [], h => .inr ⟨h, fun q => nomatch q⟩
  | v :: vs, h => by
    unfold unwipe at h
    cases e : ρ0[v]? with
    | some s' =>
      simp only [e] at h
      rcases getSet h with ⟨hi, _, e3⟩ | ⟨ne, h⟩
      · exact .inl ⟨by rw [hi]; exact List.mem_cons_self, by rw [hi, e3]; exact e⟩
      · rcases unwipe_get h with ⟨h1, h2⟩ | ⟨h1, h2⟩
        · exact .inl ⟨List.mem_cons_of_mem _ h1, h2⟩
        · exact .inr ⟨h1, fun q => (List.mem_cons.mp q).elim (fun q => absurd q ne) h2⟩
    | none =>
      simp only [e] at h
      rcases unwipe_get h with ⟨h1, h2⟩ | ⟨h1, h2⟩
      · exact .inl ⟨List.mem_cons_of_mem _ h1, h2⟩
      · exact .inr ⟨h1, fun q => (List.mem_cons.mp q).elim (fun q => by rw [q]; exact e) h2⟩

section
variable {X : Cx} {K : PySem.W.Frag} {W : WX} {w : Wd} {B D0 Hd Hd1 H H1 : Hp} {σ : L2.St} {ρ ρ1 : Rho} {ls : LS} {xs : List V} {Dl : Addr} {vs : List Nat}

/-- slots forgotten -/
theorem EOk.wipe (E : EOk K w B D0 Hd H σ ρ ls) (vs : List Nat) : EOk K w B D0 Hd H (L2.wipe σ vs) (wipeR ρ vs) ls := by
  have out : ∀ (i : Nat) s, (wipeR ρ vs)[i]? = some s → s ≠ .un → i ∉ vs ∧ ρ[i]? = some s := fun i s h ne => by
    have hn : i ∉ vs := fun q => ne (wipeR_in h q)
    exact ⟨hn, by rw [← wipeR_out hn]; exact h⟩
  refine ⟨E.base, E.dom, E.sub, E.sub0, E.noz, E.nt, E.fr, E.st, by rw [wipe_length, wipeR_len]; exact E.len, fun i d e => ?_, fun i ds e => ?_, fun i j p ds es ne e1 e2 s1 s2 => ?_⟩
  · obtain ⟨hn, e⟩ := out i _ e (by intro h; cases h)
    obtain ⟨v, h1, h2⟩ := E.dat i d e
    exact ⟨v, by rw [wipe_outS hn]; exact h1, h2⟩
  · obtain ⟨hn, e⟩ := out i _ e (by intro h; cases h)
    obtain ⟨p, xs, h1, h2⟩ := E.ow i ds e
    exact ⟨p, xs, by rw [wipe_outS hn]; exact h1, h2⟩
  · obtain ⟨hn, e1⟩ := out i _ e1 (by intro h; cases h)
    obtain ⟨hm, e2⟩ := out j _ e2 (by intro h; cases h)
    rw [wipe_outS hn] at s1
    rw [wipe_outS hm] at s2
    exact E.apa i j p ds es ne e1 e2 s1 s2
/-- a new list at Dl that is to be filled: it stands in what the caller knows -/
theorem EOk.under (E : EOk K w B D0 Hd H σ ρ ls) (h : H Dl = none) : EOk K w (upd B Dl (.lst [])) D0 Hd (upd H Dl (.lst [])) σ ρ ls := by
  have hd := E.nd_new h
  have nz := E.nz_new h
  have nb := E.dom _ h
  have E2 := (E.newList (xs := []) h).1
  refine ⟨fun b o e z t => ?_, fun b e => ?_, E2.sub, E.sub0, E.noz, E.nt, fun b o e => ?_, E2.st, E.len, E.dat, fun i ds e => ?_, E.apa⟩
  · by_cases hb : b = Dl
    · subst hb; rw [upd_same] at e ⊢; exact e
    · rw [upd_ne hb] at e; exact E2.base b o e z t
  · by_cases hb : b = Dl
    · subst hb; rw [upd_same] at e; cases e
    · rw [upd_ne hb] at e; exact (NB.up hb).mpr (E.dom b e)
  · rcases E.fr b o e with q | q
    · exact .inl q
    · exact .inr (q.imp (NB.up (fun z => by rw [z, hd] at e; cases e)).mpr id)
  · obtain ⟨p, xs, h1, h2, h3, h4, h5, h6⟩ := E2.ow i ds e
    have hp : p ≠ Dl := fun z => by
      obtain ⟨p', xs', g1, g2, _⟩ := E.ow i ds e
      rw [h1] at g1; cases g1
      rw [z, h] at g2; cases g2
    exact ⟨p, xs, h1, h2, h3, h4, (NB.up hp).mpr h5, h6⟩
structure UnderOk (w : Wd) (B D0 : Hp) (Dl : Addr) : Prop where
  nz : ¬ w.Z Dl
  nb : NB B Dl
  n0 : D0 Dl = none
theorem EOk.under_nd (E : EOk K w (upd B Dl (.lst xs)) D0 Hd H σ ρ ls) (u : UnderOk w B D0 Dl) : Hd Dl = none := by
  cases e : Hd Dl with
  | none => rfl
  | some o =>
    rcases E.fr _ _ e with h | h
    · rw [u.n0] at h; cases h
    · rcases h with h | ⟨ys, rfl⟩
      · exact (h.atL rfl).elim
      · have h1 := E.sub _ _ e
        rw [E.base _ _ upd_same u.nz NT.lst] at h1
        cases h1
theorem EOk.under_at (E : EOk K w (upd B Dl (.lst xs)) D0 Hd H σ ρ ls) (u : UnderOk w B D0 Dl) : H Dl = some (.lst xs) := E.base _ _ upd_same u.nz NT.lst
/-- .. it grows -/
theorem EOk.under_set {ys : List V} (E : EOk K w (upd B Dl (.lst xs)) D0 Hd H σ ρ ls) (u : UnderOk w B D0 Dl) : EOk K w (upd B Dl (.lst ys)) D0 Hd (upd H Dl (.lst ys)) σ ρ ls := by
  have hd := E.under_nd u
  have ha := E.under_at u
  refine ⟨fun b o e z t => ?_, fun b e => ?_, fun b o e => ?_, E.sub0, E.noz, E.nt, fun b o e => ?_, E.st.keep (fun b z => upd_ne fun q => u.nz (q ▸ z)) (tabs_upd E.st.tabs (lo_lst ha)), E.len, E.dat, fun i ds e => ?_, E.apa⟩
  · by_cases hb : b = Dl
    · subst hb; rw [upd_same] at e ⊢; exact e
    · rw [upd_ne hb] at e ⊢; exact E.base b o (by rw [upd_ne hb]; exact e) z t
  · by_cases hb : b = Dl
    · subst hb; rw [upd_same] at e; cases e
    · rw [upd_ne hb] at e
      exact (NB.up hb).mpr ((NB.up hb).mp (E.dom b e))
  · rw [upd_ne (fun z => by rw [z, hd] at e; cases e)]; exact E.sub b o e
  · rcases E.fr b o e with q | q
    · exact .inl q
    · exact .inr (q.imp (fun q => (NB.up q.atL).mpr ((NB.up q.atL).mp q)) id)
  · obtain ⟨p, zs, h1, h2, h3, h4, h5, h6⟩ := E.ow i ds e
    have hp : p ≠ Dl := h5.atL
    exact ⟨p, zs, h1, by rw [upd_ne hp]; exact h2, h3, h4, (NB.up hp).mpr ((NB.up hp).mp h5), h6⟩
/-- .. it is done -/
theorem EOk.under_end (E0 : EOk K w B D0 Hd1 H1 σ ρ1 ls) {ls' : LS} (s : Sub Hd1 Hd) (no : noOwn ρ1 vs = true) (E : EOk K w (upd B Dl (.lst xs)) D0 Hd H (L2.wipe σ vs) ρ ls') (u : UnderOk w B D0 Dl) :
    EOk K w B D0 Hd H σ (unwipe ρ1 ρ vs) ls' ∧ Fresh w B Hd H σ (unwipe ρ1 ρ vs) Dl xs := by
  have hd := E.under_nd u
  have ha := E.under_at u
  have lenρ : ρ.length = ρ1.length := by rw [← E.len, wipe_length, E0.len]
  have none_of : ∀ {i : Nat} {s : Sl}, ρ[i]? = some s → ρ1[i]? ≠ none := fun {i s} h q => by
    have h1 := (List.getElem?_eq_some_iff.mp h).1
    have h2 := List.getElem?_eq_none_iff.mp q
    omega
  have inner : ∀ {i : Nat} {s : Sl}, (unwipe ρ1 ρ vs)[i]? = some s → (i ∈ vs ∧ ρ1[i]? = some s) ∨ (i ∉ vs ∧ ρ[i]? = some s) := fun {i s} h => by
    rcases unwipe_get h with h | ⟨h1, h2⟩
    · exact .inl h
    · exact .inr ⟨fun q => none_of h1 (h2 q), h1⟩
  have ownOut : ∀ {i : Nat} {ds : Ow}, (unwipe ρ1 ρ vs)[i]? = some (.ow ds) → i ∉ vs ∧ ρ[i]? = some (.ow ds) := fun {i ds} h => by
    rcases inner h with ⟨h1, h2⟩ | h
    · have := List.all_eq_true.mp no i h1
      rw [h2] at this; simp [isOwn] at this
    · exact h
  refine ⟨⟨fun b o e z t => E.base b o ?_ z t, fun b e => ?_, E.sub, E.sub0, E.noz, E.nt, fun b o e => ?_, E.st, ?_, fun i d e => ?_, fun i ds e => ?_, fun i j p ds es ne e1 e2 s1 s2 => ?_⟩, ⟨ha, hd, u.nb, u.nz, fun i ds e q => ?_⟩⟩
  · rw [upd_ne (u.nb.ne e t)]; exact e
  · have := E.dom b e
    exact (NB.up this.atL).mp this
  · rcases E.fr b o e with q | q
    · exact .inl q
    · exact .inr (q.imp (fun q => (NB.up q.atL).mp q) id)
  · rw [unwipe_len, lenρ, E0.len]
  · rcases inner e with ⟨_, h⟩ | ⟨hn, h⟩
    · obtain ⟨v, g1, g2⟩ := E0.dat i d h
      exact ⟨v, g1, g2.mono s⟩
    · obtain ⟨v, g1, g2⟩ := E.dat i d h
      rw [wipe_outS hn] at g1
      exact ⟨v, g1, g2⟩
  · obtain ⟨hn, h⟩ := ownOut e
    obtain ⟨p, zs, h1, h2, h3, h4, h5, h6⟩ := E.ow i ds h
    rw [wipe_outS hn] at h1
    exact ⟨p, zs, h1, h2, h3, h4, (NB.up h5.atL).mp h5, h6⟩
  · obtain ⟨hn, e1⟩ := ownOut e1
    obtain ⟨hm, e2⟩ := ownOut e2
    exact E.apa i j p ds es ne e1 e2 (by rw [wipe_outS hn]; exact s1) (by rw [wipe_outS hm]; exact s2)
  · obtain ⟨hn, h⟩ := ownOut e
    obtain ⟨p, zs, h1, h2, h3, h4, h5, h6⟩ := E.ow i ds h
    rw [wipe_outS hn] at h1
    rw [q] at h1; cases h1
    exact (h5.atL rfl).elim

/-! ### the loop of a comprehension -/
def lcE (k : List D → Rho → LS → Out (List D)) (e : M D) (acc : List D) (ρ : Rho) (ls : LS) : Out (List D) := match e ρ ls with
  | .ok x ρ' ls' => if acc.length < top then k (acc ++ [x]) ρ' ls' else .no
  | _ => .no
def lcC (k : List D → Rho → LS → Out (List D)) (c : M Bool) (e : M D) (acc : List D) (ρ : Rho) (ls : LS) : Out (List D) := match c ρ ls with
  | .ok true ρ' ls' => lcE k e acc ρ' ls'
  | .ok false ρ' ls' => k acc ρ' ls'
  | _ => .no
def lcT (k : List D → Rho → LS → Out (List D)) (c : M Bool) (e : M D) (acc : List D) (ls : LS) : Option Rho → Out (List D)
  | some ρ => lcC k c e acc ρ ls
  | none => .no
def lcL (t : D → Rho → Option Rho) (c : M Bool) (e : M D) (vs : List Nat) : List D → List D → Rho → LS → Out (List D)
  | [], acc, ρ, ls => .ok acc ρ ls
  | d :: ds, acc, ρ, ls => lcT (fun acc ρ ls => lcL t c e vs ds acc (wipeR ρ vs) ls) c e acc ls (t d ρ)
def lcEnd (ρ0 : Rho) (vs : List Nat) : Out (List D) → Out (List D)
  | .ok l ρ ls => .ok l (unwipe ρ0 ρ vs) ls
  | _ => .no
def lcM (src : M (List D)) (t : D → Rho → Option Rho) (c : M Bool) (e : M D) (vs : List Nat) : M (List D) := bnd src fun ds ρ ls => if noOwn ρ vs = true then lcEnd ρ vs (lcL t c e vs ds [] (wipeR ρ vs) ls) else .no

theorem wipe_inS {σ : L2.St} {i : Nat} (hl : i < σ.length) : ∀ {vs : List Nat}, i ∈ vs → (wipe σ vs)[i]? = some none
  | [], h => nomatch h
  | v :: vs, h => by
    unfold wipe
    by_cases e : v = i
    · rw [e, List.getElem?_set_self (by rw [wipe_length]; exact hl)]
    · rw [List.getElem?_set_ne e]
      exact wipe_inS hl ((List.mem_cons.mp h).elim (fun q => absurd q.symm e) id)
theorem wipe_same {a b : L2.St} {vs : List Nat} (hl : a.length = b.length) (h : ∀ (j : Nat), j ∉ vs → a[j]? = b[j]?) : wipe a vs = wipe b vs := by
  refine List.ext_getElem? fun j => ?_
  by_cases hj : j ∈ vs
  · by_cases h2 : j < a.length
    · rw [wipe_inS h2 hj, wipe_inS (by omega) hj]
    · rw [List.getElem?_eq_none (by rw [wipe_length]; omega), List.getElem?_eq_none (by rw [wipe_length]; omega)]
  · rw [wipe_outS hj, wipe_outS hj, h j hj]
theorem wipe_wipe {σ : L2.St} {vs : List Nat} : wipe (wipe σ vs) vs = wipe σ vs := wipe_same (wipe_length _ _) fun j hj => wipe_outS hj
theorem wipe_sames {is : List Nat} {σ σ2 : L2.St} (h : Sames is (wipe σ vs) σ2) (hi : ∀ i ∈ is, i ∈ vs) : wipe σ2 vs = wipe σ vs :=
  (wipe_same h.len fun j hj => h.out j fun q => hj (hi j q)).trans wipe_wipe

theorem read_lc {wi : TI} {g : TG} {t : D → Rho → Option Rho} {src : M (List D)} {c : M Bool} {e : M D} {is : List Nat} (hi : ∀ R, UI K W src σ H R → wi σ H R) (hg : TgOk K g t is) (hv : ∀ i ∈ is, i ∈ vs) {Q : VK} (h : UN K W (lcM src t c e vs) σ H Q) :
    tLc wi g (UT K W0 c) (UV K W0 e) vs σ H Q := by
  refine hi _ (Ru.imp h.xBnd fun w B D0 Hd1 H1 ρ1 ls1 ds E1 q J ok Dl hD => ?_)
  have q : Go K W w B D0 σ Hd1 (if noOwn ρ1 vs = true then lcEnd ρ1 vs (lcL t c e vs ds [] (wipeR ρ1 vs) ls1) else .no) fun Hd' H' ρ' ls' ds => ∀ p xs, Fresh w B Hd' H' σ ρ' p xs → RpL K Hd' xs ds → Q (.ref p) H' := q
  by_cases no : noOwn ρ1 vs = true
  · rw [if_pos no] at q
    have u : UnderOk w B D0 Dl := ⟨E1.nz_new hD, E1.dom _ hD, by
      cases e0 : D0 Dl with
      | none => rfl
      | some o => rw [E1.sub _ _ (E1.sub0 _ _ e0)] at hD; cases hD⟩
    refine ⟨fun i m H' => i + m = ds.length ∧ ∃ Hd' ρ' ls' acc xs, EOk K w (upd B Dl (.lst xs)) D0 Hd' H' (wipe σ vs) (wipeR ρ' vs) ls' ∧ Sub Hd1 Hd' ∧ RpL K Hd' xs acc ∧
      Go K W w B D0 σ Hd1 (lcEnd ρ1 vs (lcL t c e vs (ds.drop i) acc (wipeR ρ' vs) ls')) fun Hd' H' ρ' ls' ds => ∀ p xs, Fresh w B Hd' H' σ ρ' p xs → RpL K Hd' xs ds → Q (.ref p) H',
      ⟨ds.length, Nat.zero_add _, Hd1, ρ1, ls1, [], [], (E1.under hD).wipe vs, Sub.refl _, .nil, q⟩, ?_⟩
    rintro i m H' ⟨hm, Hd', ρ', ls', acc, xs, E, s, ra, q⟩
    by_cases hlt : i < ds.length
    · have ed : ds.drop i = ds[i] :: ds.drop (i + 1) := List.drop_eq_getElem_cons hlt
      have e1 : ds[i]? = some ds[i] := List.getElem?_eq_getElem hlt
      refine .inr ⟨ok.go i H' hlt (s.trans E.sub), fun H2 => ∃ m', m' < m ∧ i + 1 + m' = ds.length ∧ ∃ Hd' ρ' ls' acc xs, EOk K w (upd B Dl (.lst xs)) D0 Hd' H2 (wipe σ vs) (wipeR ρ' vs) ls' ∧ Sub Hd1 Hd' ∧ RpL K Hd' xs acc ∧
        Go K W w B D0 σ Hd1 (lcEnd ρ1 vs (lcL t c e vs (ds.drop (i + 1)) acc (wipeR ρ' vs) ls')) fun Hd' H' ρ' ls' ds => ∀ p xs, Fresh w B Hd' H' σ ρ' p xs → RpL K Hd' xs ds → Q (.ref p) H', fun H2 ⟨m', h1, h2, h3⟩ => ⟨m', h1, h2, h3⟩, fun x H2 y => ?_⟩
      obtain ⟨Hd2, E2, s2, r2, _⟩ := ok.yld i x H2 ds[i] E s y e1
      rw [ed] at q
      have q : Go K W w B D0 σ Hd1 (lcEnd ρ1 vs (lcT (fun acc ρ ls => lcL t c e vs (ds.drop (i + 1)) acc (wipeR ρ vs) ls) c e acc ls' (t ds[i] (wipeR ρ' vs)))) _ := q
      cases et : t ds[i] (wipeR ρ' vs) with
      | none => rw [et] at q; exact q.elim
      | some ρ2 =>
        rw [et] at q
        have q : Go K W w B D0 σ Hd1 (lcEnd ρ1 vs (lcC (fun acc ρ ls => lcL t c e vs (ds.drop (i + 1)) acc (wipeR ρ vs) ls) c e acc ρ2 ls')) _ := q
        refine hg.run E2 r2 et _ fun σ3 E3 sm => ⟨wipe_sames sm hv, w, upd B Dl (.lst xs), D0, Hd2, ρ2, ls', E3, ?_⟩
        unfold lcC at q
        cases ec : c ρ2 ls' with
        | no => rw [ec] at q; exact q.elim
        | rs x ls2 => rw [ec] at q; exact q.elim
        | ok b ρ3 ls3 =>
          rw [ec] at q
          intro Hd4 H4 E4 s4
          cases b with
          | false =>
            have q : Go K W w B D0 σ Hd1 (lcEnd ρ1 vs (lcL t c e vs (ds.drop (i + 1)) acc (wipeR ρ3 vs) ls3)) _ := q
            have E5 := E4.wipe vs
            rw [wipe_sames sm hv] at E5
            exact ⟨m - 1, by omega, by omega, Hd4, ρ3, ls3, acc, xs, E5, (s.trans s2).trans s4, ra.mono (s2.trans s4), q⟩
          | true =>
            have q : Go K W w B D0 σ Hd1 (lcEnd ρ1 vs (lcE (fun acc ρ ls => lcL t c e vs (ds.drop (i + 1)) acc (wipeR ρ vs) ls) e acc ρ3 ls3)) _ := q
            refine ⟨w, upd B Dl (.lst xs), D0, Hd4, ρ3, ls3, E4, ?_⟩
            unfold lcE at q
            cases ee : e ρ3 ls3 with
            | no => rw [ee] at q; exact q.elim
            | rs x ls2 => rw [ee] at q; exact q.elim
            | ok d ρ5 ls5 =>
              rw [ee] at q
              intro Hd6 H6 E6 s6 v rv
              have q : Go K W w B D0 σ Hd1 (lcEnd ρ1 vs (if acc.length < top then lcL t c e vs (ds.drop (i + 1)) (acc ++ [d]) (wipeR ρ5 vs) ls5 else .no)) _ := q
              by_cases hz : acc.length < top
              · rw [if_pos hz] at q
                have ra6 := ra.mono ((s2.trans s4).trans s6)
                refine ⟨xs, E6.under_at u, by rw [ra6.length]; exact top_lt hz, m - 1, by omega, by omega, Hd6, ρ5, ls5, acc ++ [d], xs ++ [v], ?_, ((s.trans s2).trans s4).trans s6, ra6.append (.cons rv .nil), q⟩
                have E7 := (E6.under_set (ys := xs ++ [v]) u).wipe vs
                rw [wipe_sames sm hv] at E7
                exact E7
              · rw [if_neg hz] at q; exact q.elim
    · refine .inl ⟨ok.stop i H' (by omega) (s.trans E.sub), ?_⟩
      have ed : ds.drop i = [] := List.drop_eq_nil_of_le (by omega)
      rw [ed] at q
      obtain ⟨E8, F⟩ := E1.under_end s no E u
      exact q Hd' H' E8 s Dl xs F ra
  · rw [if_neg no] at q; exact q.elim
theorem uts_nil : PTs X [] (UT K W0 (ret true)) := ⟨fun pins s σ H Q I h => pts_nil.run pins s σ H Q I (by
  obtain ⟨w, B, D0, Hd, ρ, ls, E, q⟩ := h
  exact q Hd H E (Sub.refl _))⟩
theorem uts_one {cx : Expr} {c : M Bool} (h : PT X cx (UT K W0 c)) : PTs X [cx] (UT K W0 c) := pts_one h
variable {elt tg iter : Expr} {ifs : List Expr} {scope : Scope} {own : List (Str × Nat)} {pos : Pos} {g : TG} {t : D → Rho → Option Rho} {src : M (List D)} {c : M Bool} {e : M D} {is : List Nat}
/-- [e for x in xs if c] -/
theorem u_lc (hc : X.calm = true) (hN : X.N.Nodup) (hi : PI X tg iter (UI K W src)) (ok : BlkOk X.N X.env.scope scope own) (ht : TgOk K g t is) (hv : ∀ i ∈ is, i ∈ own.map (·.2))
    (hg : ∀ (s : Shared) (H : Hp) (C : Addr) (cl : List (Str × Addr)) (fp : List Addr), PG (X.blk s H scope (compEnvC scope cl C X.env) fp) tg g) (hts : ∀ (s : Shared) (H : Hp) (C : Addr) (cl : List (Str × Addr)) (fp : List Addr), PTs (X.blk s H scope (compEnvC scope cl C X.env) fp) ifs (UT K W0 c))
    (he : ∀ (s : Shared) (H : Hp) (C : Addr) (cl : List (Str × Addr)) (fp : List Addr), PE (X.blk s H scope (compEnvC scope cl C X.env) fp) elt (UV K W0 e)) (hs : ∀ x, foldedSetIterable iter X.env x = pure x := by intro _; rfl) :
    PE X (.ListComp elt [⟨tg, iter, ifs, 0⟩] scope pos) (UN K W (lcM src t c e (own.map (·.2)))) := pe_imp (pe_lc hc hN hi ok hg hts he hs) fun _ _ _ q => read_lc (fun _ q => q) ht hv q
/-- x = [e for ..], the list as x's own or as data -/
theorem us_setLc {i : Nat} {y : Str} {py spos : Pos} (hc : X.calm = true) (hN : X.N.Nodup) (hi : PI X tg iter (UI K W src)) (ok : BlkOk X.N X.env.scope scope own) (ht : TgOk K g t is) (hv : ∀ i ∈ is, i ∈ own.map (·.2))
    (hg : ∀ (s : Shared) (H : Hp) (C : Addr) (cl : List (Str × Addr)) (fp : List Addr), PG (X.blk s H scope (compEnvC scope cl C X.env) fp) tg g) (hts : ∀ (s : Shared) (H : Hp) (C : Addr) (cl : List (Str × Addr)) (fp : List Addr), PTs (X.blk s H scope (compEnvC scope cl C X.env) fp) ifs (UT K W0 c))
    (he : ∀ (s : Shared) (H : Hp) (C : Addr) (cl : List (Str × Addr)) (fp : List Addr), PE (X.blk s H scope (compEnvC scope cl C X.env) fp) elt (UV K W0 e))
    (hsw : swapsWith (.ListComp elt [⟨tg, iter, ifs, 0⟩] scope pos) (some (.Name y py)) spos.line X.env = pure true) (hy : X.N[i]? = some y := by rfl) (hyl : X.env.scope.names.lookup y = some .local := by rfl) (hs : ∀ x, foldedSetIterable iter X.env x = pure x := by intro _; rfl) :
    PS X (.Assign [.Name y py] (.ListComp elt [⟨tg, iter, ifs, 0⟩] scope pos) spos) (US K W (setN i (lcM src t c e (own.map (·.2))))) :=
  ps_imp (ps_setLc hc hN hy hyl hsw hi ok hg hts he hs) fun D σ H h => read_setN (fun _ q => read_lc (fun _ q => q) ht hv q) h
theorem us_setLcV {i : Nat} {y : Str} {py spos : Pos} (hc : X.calm = true) (hN : X.N.Nodup) (hi : PI X tg iter (UI K W src)) (ok : BlkOk X.N X.env.scope scope own) (ht : TgOk K g t is) (hv : ∀ i ∈ is, i ∈ own.map (·.2))
    (hg : ∀ (s : Shared) (H : Hp) (C : Addr) (cl : List (Str × Addr)) (fp : List Addr), PG (X.blk s H scope (compEnvC scope cl C X.env) fp) tg g) (hts : ∀ (s : Shared) (H : Hp) (C : Addr) (cl : List (Str × Addr)) (fp : List Addr), PTs (X.blk s H scope (compEnvC scope cl C X.env) fp) ifs (UT K W0 c))
    (he : ∀ (s : Shared) (H : Hp) (C : Addr) (cl : List (Str × Addr)) (fp : List Addr), PE (X.blk s H scope (compEnvC scope cl C X.env) fp) elt (UV K W0 e))
    (hsw : swapsWith (.ListComp elt [⟨tg, iter, ifs, 0⟩] scope pos) (some (.Name y py)) spos.line X.env = pure true) (hy : X.N[i]? = some y := by rfl) (hyl : X.env.scope.names.lookup y = some .local := by rfl) (hs : ∀ x, foldedSetIterable iter X.env x = pure x := by intro _; rfl) :
    PS X (.Assign [.Name y py] (.ListComp elt [⟨tg, iter, ifs, 0⟩] scope pos) spos) (US K W (setV i (ls1 (lcM src t c e (own.map (·.2)))))) :=
  ps_imp (ps_setLc hc hN hy hyl hsw hi ok hg hts he hs) fun D σ H h => read_set (fun Q q => by
    refine read_lc (fun _ q => q) ht hv ?_
    refine Ru.imp q.xBnd fun w B D0 Hd' H' ρ' ls' ds E q p xs F r => ?_
    have sd : Sub Hd' (upd Hd' p (.lst xs)) := .upd F.nd
    exact q _ H' (E.freeze F) sd (.ref p) (.lst upd_same (r.mono sd))) h
end
end Pd

set_option Elab.async false
set_option linter.all false
set_option maxRecDepth 100000
set_option maxHeartbeats 4000000
/-! Pd7a: t * k and t[::-1] of tuples. -/
namespace Pd
open PySem PySem.Spec PyProof.Rows L2
theorem tuple_mul_same (l : Addr) (items : Array Value) (n : Nat) (dd : Option Addr) (sl : Array (Option Value)) (x : Int) (u : Tok) (c0 : (decide (x < -(2 ^ 63)) || decide (x ≥ 2 ^ 63)) = false) (c1 : (items.isEmpty || x == 1) = true) :
    Meets (Builtin.«tuple.__mul__» ⟨[.ref l, .int x u], []⟩) (fun _ R s => s.heap.get? l = some { cls := .type "tuple", dict := dd, data := .seq items n, slots := sl } ∧
      R (.ok (.ret (Value.ref l))) s) :=
  .of_wp fun prog w A R s h => by
    obtain ⟨hp, g, d, tk, os⟩ := s
    obtain ⟨hl, h⟩ := h
    have f1 := AutoSeq1.idx_int
    wp_walk using wpAny_loadPart' hl
    repeat (first
      | (refine wpAny_ite_false (decide_eq_false (by rw [c0]; exact Bool.false_ne_true)) ?_; wp_walk using wpAny_loadPart' hl)
      | (refine wpAny_ite_true (decide_eq_true c1) ?_; wp_walk using wpAny_loadPart' hl))
    exact ⟨_, rfl, h⟩
theorem tuple_mul_none (l : Addr) (items : Array Value) (n : Nat) (dd : Option Addr) (sl : Array (Option Value)) (x : Int) (u : Tok) (c0 : (decide (x < -(2 ^ 63)) || decide (x ≥ 2 ^ 63)) = false) (c1 : (items.isEmpty || x == 1) = false) (c2 : (decide (x ≤ 0) || items.isEmpty) = true) :
    Meets (Builtin.«tuple.__mul__» ⟨[.ref l, .int x u], []⟩) (fun _ R s => s.heap.get? l = some { cls := .type "tuple", dict := dd, data := .seq items n, slots := sl } ∧
      R (.ok (.ret (Value.ref s.heap.objs.size))) { s with heap := s.heap.push { cls := Value.type "tuple", data := Data.seq #[] }, toks := s.toks }) :=
  .of_wp fun prog w A R s h => by
    obtain ⟨hp, g, d, tk, os⟩ := s
    obtain ⟨hl, h⟩ := h
    have f1 := AutoSeq1.idx_int
    wp_walk using wpAny_loadPart' hl
    repeat (first
      | (refine wpAny_ite_false (decide_eq_false (by rw [c0]; exact Bool.false_ne_true)) ?_; wp_walk using wpAny_loadPart' hl)
      | (refine wpAny_ite_false (decide_eq_false (by rw [c1]; exact Bool.false_ne_true)) ?_; wp_walk using wpAny_loadPart' hl)
      | (refine wpAny_ite_true (decide_eq_true c2) ?_; wp_walk using wpAny_loadPart' hl))
    exact ⟨_, rfl, h⟩

/-- t * k -/
def mulT : D → D → Option D
  | .tup a, .int k => if (decide (k ≤ 1000) && decide (0 - 1000 ≤ k)) && decide (a.length ≤ 1000) then some (.tup (List.replicate k.toNat a).flatten) else none
  | _, _ => none
def rRepA (K : PySem.W.Frag) : R2 := fun x y H Q => ∃ l k xs, x = .ref l ∧ y = .int k ∧ SqT K H l xs ∧ k ≤ 1000 ∧ 0 - 1000 ≤ k ∧ xs.length ≤ 1000 ∧
  ((xs = [] ∨ k = 1) → Q (.ref l) H) ∧ (¬ (xs = [] ∨ k = 1) → NewT H (List.replicate k.toNat xs).flatten Q)
section
variable {X : Cx} {K : PySem.W.Frag}
theorem op_repA : OpR X (binaryOp .Mult) (rRepA X.K) := by
  intro pins s σ H x y v u Q I rx ry h
  obtain ⟨l, k, xs, rfl, rfl, hT, h2, h1, hz, q0, q⟩ := h
  by_cases hc : xs = [] ∨ k = 1
  · cases rx
    obtain ⟨t, rfl⟩ := ry
    obtain ⟨its, r, ⟨⟨cls, dd, data, sl⟩, ho, hcl, n, hd⟩, hs⟩ := I.tuple hT
    simp only at hcl hd
    subst hcl hd
    have c0 : (decide (k < -(2 ^ 63)) || decide (k ≥ 2 ^ 63)) = false := by
      rw [decide_eq_false (by omega), decide_eq_false (by omega)] <;> rfl
    have c1 : (its.toArray.isEmpty || k == 1) = true := by
      rcases hc with e | e
      · subst e
        cases r
        rfl
      · subst e
        rw [Bool.or_eq_true]
        exact .inr rfl
    exact wpAny_binaryOp_repeat_ref (T := "tuple") (U := "int") (by decide) ⟨_, ho, rfl⟩ (fun s' => typeIs_int s' k t) noFill_tuple_mul F.fills_int_mul F.slot_int_rmul repeat_tuple F.slot_int_index.lookup
      (call_meets F.slot_int_rmul (typeIs_int s k t) F.entry_int_rmul (F.args_int_rmul_2 _ _) (int_rmul_tuple k t l its.toArray n dd sl)
        ⟨ho, rfl, ⟨_, ho, rfl⟩, call_meets F.slot_tuple_mul ⟨_, ho, rfl⟩ F.entry_tuple_mul (F.args_tuple_mul_2 _ _) (tuple_mul_same l its.toArray n dd sl k t c0 c1) ⟨ho, ⟨.ref l, H, I, rfl, q0 hc⟩⟩⟩)
  · by_cases hk : k ≤ 0
    · cases rx
      obtain ⟨t, rfl⟩ := ry
      obtain ⟨its, r, ⟨⟨cls, dd, data, sl⟩, ho, hcl, n, hd⟩, hs⟩ := I.tuple hT
      simp only at hcl hd
      subst hcl hd
      have c0 : (decide (k < -(2 ^ 63)) || decide (k ≥ 2 ^ 63)) = false := by
        rw [decide_eq_false (by omega), decide_eq_false (by omega)] <;> rfl
      have hn : its ≠ [] := fun e => hc (.inl (by subst e; cases r; rfl))
      have hi : its.toArray.isEmpty = false := by
        cases its with
        | nil => exact absurd rfl hn
        | cons a b => rfl
      have c1 : (its.toArray.isEmpty || k == 1) = false := by
        rw [hi, Bool.false_or]
        exact beq_eq_false_iff_ne.mpr (by omega)
      have c2 : (decide (k ≤ 0) || its.toArray.isEmpty) = true := by
        rw [decide_eq_true hk] <;> rfl
      refine wpAny_binaryOp_repeat_ref (T := "tuple") (U := "int") (by decide) ⟨_, ho, rfl⟩ (fun s' => typeIs_int s' k t) noFill_tuple_mul F.fills_int_mul F.slot_int_rmul repeat_tuple F.slot_int_index.lookup
        (call_meets F.slot_int_rmul (typeIs_int s k t) F.entry_int_rmul (F.args_int_rmul_2 _ _) (int_rmul_tuple k t l its.toArray n dd sl)
          ⟨ho, rfl, ⟨_, ho, rfl⟩, call_meets F.slot_tuple_mul ⟨_, ho, rfl⟩ F.entry_tuple_mul (F.args_tuple_mul_2 _ _) (tuple_mul_none l its.toArray n dd sl k t c0 c1 c2) ⟨ho, ?_⟩⟩)
      have e0 : k.toNat = 0 := by omega
      have q := q hc
      rw [e0] at q
      exact Inv.newT I (Nat.zero_le _) .nil q
    · have hne : xs ≠ [] := fun e => hc (.inl e)
      have h3 : 2 ≤ k := by
        have : k ≠ 1 := fun e => hc (.inr e)
        omega
      cases rx
      obtain ⟨t, rfl⟩ := ry
      obtain ⟨its, r, ⟨⟨cls, dd, data, sl⟩, ho, hcl, n, hd⟩, hs⟩ := I.tuple hT
      simp only at hcl hd
      subst hcl hd
      have len : its.length = xs.length := r.length.symm
      have sz : its.toArray.size = xs.length := by rw [List.size_toArray, len]
      have ie : its.toArray.isEmpty = false := by
        cases its with
        | nil => cases r; exact absurd rfl hne
        | cons a b => rfl
      have big : k.toNat * xs.length ≤ 1000 * 1000 := Nat.mul_le_mul (by omega) hz
      have many : ((its.toArray.size : Nat) : Int) * k ≤ 1000000 := by
        rw [sz]
        have := Int.mul_le_mul_of_nonneg_right (a := ((xs.length : Nat) : Int)) (b := 1000) (c := k) (by omega) (by omega)
        omega
      have c0 : (decide (k < -(2 ^ 63)) || decide (k ≥ 2 ^ 63)) = false := by
        rw [decide_eq_false (by omega), decide_eq_false (by omega)] <;> rfl
      have c1 : (its.toArray.isEmpty || k == 1) = false := by
        rw [ie, Bool.false_or]; exact beq_eq_false_iff_ne.mpr (by omega)
      have c2 : (decide (k ≤ 0) || its.toArray.isEmpty) = false := by
        rw [ie, Bool.or_false]; exact decide_eq_false (by omega)
      have c4 : Builtin.Tuple.tupleTooMany (((its.toArray.size : Nat) : Int) * k) = false := by
        unfold Builtin.Tuple.tupleTooMany
        rw [sizeLine_eq]; exact decide_eq_false (by omega)
      have fl : (List.replicate k.toNat its).flatten.length ≤ sizeLine := by
        rw [PyProof.Rows.lm_len_rep_flat, len, sizeLine_eq]; omega
      refine wpAny_binaryOp_repeat_ref (T := "tuple") (U := "int") (by decide) ⟨_, ho, rfl⟩ (fun s' => typeIs_int s' k t) noFill_tuple_mul F.fills_int_mul F.slot_int_rmul repeat_tuple F.slot_int_index.lookup
        (call_meets F.slot_int_rmul (typeIs_int s k t) F.entry_int_rmul (F.args_int_rmul_2 _ _) (int_rmul_tuple k t l its.toArray n dd sl)
          ⟨ho, rfl, ⟨_, ho, rfl⟩, call_meets F.slot_tuple_mul ⟨_, ho, rfl⟩ F.entry_tuple_mul (F.args_tuple_mul_2 _ _) (tuple_mulW l its.toArray n dd sl k t c0 c1 c2 (by omega) c4 (by rw [size_rep, List.size_toArray]; exact fl)) ⟨ho, ?_⟩⟩)
      rw [size_rep]
      exact Inv.newT I (by rw [PyProof.Rows.lm_len_rep_flat, sizeLine_eq]; omega) (r.rep k.toNat) (q hc)
theorem od_mulT : OpD K (rRepA K) mulT := by
  refine ⟨?_⟩
  intro w B D0 Hd H σ ρ ls v u x y z E hx hy e Q q
  cases x <;> cases y <;> try (exact noneE e)
  rename_i da k
  obtain ⟨a, xs, rfl, ha, ra⟩ := hx.tup_inv
  cases hy.int_inv
  have e : (if ((decide (k ≤ 1000) && decide (0 - 1000 ≤ k)) && decide (da.length ≤ 1000)) = true then some (D.tup (List.replicate k.toNat da).flatten) else none) = some z := e
  obtain ⟨hl, e⟩ := ofb e
  cases e
  rw [Bool.and_eq_true, Bool.and_eq_true] at hl
  refine ⟨a, k, xs, rfl, rfl, (E.sub.tk ha).sq, of_decide_eq_true hl.1.1, of_decide_eq_true hl.1.2, by rw [ra.length]; exact of_decide_eq_true hl.2, fun hc => ?_, fun hc p o hp h1 h2 => ?_⟩
  · have ez : (List.replicate k.toNat da).flatten = da := by
      rcases hc with e | e
      · subst e
        cases ra
        simp
      · subst e
        simp
    rw [ez] at q
    exact q _ Hd H E (Sub.refl _) (.tup ha ra)
  · have sd : Sub Hd (upd Hd p (.frz o (.tup (List.replicate k.toNat xs).flatten))) := .upd (E.nd_new hp)
    exact q _ _ _ (E.newDat hp NT.tup) sd (.tup ⟨o, upd_same, h1, h2⟩ ((ra.flatRep _).mono sd))
def mulD : D → D → Option D := fun x y => (mulI x y).or ((mulT x y).or (asL mulL x y))
theorem od_mul : OpD K (fun x y H Q => rI CMul (fun i j => .int (i * j)) x y H Q ∨ rRepA K x y H Q ∨ rRep x y H Q) mulD := od_mulI.or (od_mulT.or on_mulL.data)
theorem op_mulU : OpR X (binaryOp .Mult) (fun x y H Q => rI CMul (fun i j => .int (i * j)) x y H Q ∨ rRepA X.K x y H Q ∨ rRep x y H Q) := op_mul.or (op_repA.or op_rep)
end

/-! ### t[::-1] -/
theorem sliceApplied_rev {prog : Program} {w : World} {A : Around} {E : Value → Shared → Prop} {s : Shared} {sl : Addr} {vs : Value} {n : Nat} {Q : Int × Int × Nat → Shared → Prop} (hs : s.heap.IsSliceOf sl .none .none vs) (ps : IsPart vs (some (-1)))
    (h : Q ((n : Int) - 1, -1, n) s) : wpAny (model prog w) A (Builtin.Slice.sliceApplied (.ref sl) (pure (n : Int))) Q E s := by
  obtain ⟨os, hos, hcs, hds⟩ := id hs
  unfold Builtin.Slice.sliceApplied Builtin.Slice.sliceFields
  refine wpAny_bind (wpAny_bind (wpAny_field hos hds (x := .none) rfl (wpAny_bind (wpAny_field hos hds (x := .none) rfl (wpAny_bind (wpAny_field hos hds (x := vs) rfl (wpAny_pure ?_)))))))
  refine wpAny_bind (HT.slicePart_ ps ?_)
  show wpAny _ _ (if ((-1 : Int) == 0) = true then _ else _) _ _ s
  rw [if_neg (by decide)]
  refine wpAny_bind (HT.slicePart_ .none (wpAny_bind (HT.slicePart_ .none (wpAny_bind (wpAny_pure ?_)))))
  show wpAny _ _ (match Builtin.Slice.sliceAdjust none none (-1) (n : Int) with | (lo, hi) => pure (lo, (-1 : Int), Builtin.Slice.slicePlaces lo hi (-1))) _ _ s
  have e1 : Builtin.Slice.sliceAdjust none none (-1) (n : Int) = ((n : Int) - 1, -1) := rfl
  rw [e1]
  show wpAny _ _ (pure ((n : Int) - 1, (-1 : Int), Builtin.Slice.slicePlaces ((n : Int) - 1) (-1) (-1))) _ _ s
  have e2 : Builtin.Slice.slicePlaces ((n : Int) - 1) (-1) (-1) = n := by
    unfold Builtin.Slice.slicePlaces
    rw [if_neg (by decide)]
    split
    · have : ((n : Int) - 1 - (-1) - 1) / (- -1) = n - 1 := by
        rw [Int.neg_neg, Int.ediv_one]; omega
      rw [this]; omega
    · omega
  rw [e2]
  exact wpAny_pure h
theorem fm_congr {α β : Type} {f g : α → Option β} : ∀ {l : List α}, (∀ a ∈ l, f a = g a) → l.filterMap f = l.filterMap g
  | [], _ => rfl
  | a :: l, h => by
    rw [List.filterMap_cons, List.filterMap_cons, h a List.mem_cons_self, fm_congr fun b hb => h b (List.mem_cons_of_mem _ hb)]
theorem pick_rev (xs : Array Value) : ((List.range xs.size).filterMap fun (m : Nat) => xs[(((xs.size : Int) - 1) + (m : Int) * -1).toNat]?).toArray = xs.toList.reverse.toArray := by
  congr 1
  have e : (List.range xs.size).filterMap (fun (m : Nat) => xs[(((xs.size : Int) - 1) + (m : Int) * -1).toNat]?) = (List.range xs.size).filterMap (fun m => xs.toList.reverse[m]?) := by
    refine fm_congr fun m hm => ?_
    have hlt : m < xs.size := List.mem_range.mp hm
    rw [List.getElem?_reverse (by simpa using hlt), ← Array.getElem?_toList]
    congr 1
    rw [Array.length_toList]
    omega
  rw [e]
  refine List.ext_getElem? fun i => ?_
  have : ∀ (l : List Value) (k : Nat), k ≤ l.length → (List.range k).filterMap (fun m => l[m]?) = l.take k := by
    intro l k
    induction k with
    | zero => intro _; simp
    | succ k ih =>
      intro hk
      rw [List.range_succ, List.filterMap_append, ih (by omega), List.take_add_one]
      simp only [List.filterMap_cons, List.filterMap_nil]
      rw [List.getElem?_eq_getElem (by omega)]
      rfl
  rw [this _ _ (by simp), List.take_of_length_le (by simp)]
theorem getItem_tuple_rev {prog : Program} {w : World} {A : Around} {E : Value → Shared → Prop} {s : Shared} {t sl : Addr} {items : Array Value} {vs : Value} {Q : Value → Shared → Prop} (ht : IsTup s.heap t items) (hs : s.heap.IsSliceOf sl .none .none vs) (ps : IsPart vs (some (-1)))
    (h : Q (.ref s.heap.objs.size) { s with heap := s.heap.push { cls := .type "tuple", data := .seq items.toList.reverse.toArray } }) (hsz : items.size ≤ sizeLine) : wpAny (model prog w) A (getItem (.ref t) (.ref sl)) Q E s := by
  have htake : sizeOk (.seq items.toList.reverse.toArray) := by
    show items.toList.reverse.toArray.size ≤ sizeLine
    rw [List.size_toArray, List.length_reverse, Array.length_toList]
    exact hsz
  obtain ⟨os, hos, hcs, hds⟩ := id hs
  have hTs : s.TypeIs (.ref sl) "slice" := ⟨os, hos, hcs⟩
  unfold getItem
  try with_reducible refine wpAny_holding ?_
  first | refine wpAny_bind (wpAny_pure ?_) | skip
  refine wpAny_bind (wpAny_sequenceKey ht.typeIs (by decide) ?_)
  refine wpAny_bind (wpAny_callSpecial?_slot (name := Str.ofString "__getitem__") ht.typeIs PyProof.Rows.slot_tuple_getitem
    (wpAny_call_entry PyProof.Rows.slot_tuple_getitem ht.typeIs entry_tuple_getitem ?_ (args_tuple_getitem _ _)))
  show wpAny _ _ (Builtin.Tuple.tupleItemsOf (.ref t) >>= _) _ _ s
  refine wpAny_bind (tupleItemsOf_ ht ?_)
  refine wpAny_bind (wpAny_typeOf hTs ?_)
  rw [if_pos (by decide)]
  refine wpAny_bind (sliceApplied_rev hs ps ?_)
  have hno : ¬ ((((items.size : Int) - 1) == 0 && (-1 : Int) == 1 && items.size == items.size) = true) := by
    intro q
    rw [Bool.and_eq_true, Bool.and_eq_true] at q
    exact absurd q.1.2 (by decide)
  show wpAny _ _ (if (((items.size : Int) - 1) == 0 && (-1 : Int) == 1 && items.size == items.size) = true then _ else _) _ _ s
  rw [if_neg hno, pick_rev]
  first
    | exact wpAny_bind (m := Builtin.Tuple.tupleExact _) (wpAny_newObj_type (wpAny_pure ⟨_, rfl, wpAny_pure h⟩) htake)
    | exact wpAny_bind (m := Builtin.Tuple.tupleExact _) (wpAny_newObj_type (wpAny_bind (wpAny_pure (wpAny_pure ⟨_, rfl, wpAny_pure h⟩))) htake)
    | exact wpAny_bind (wpAny_bind (m := Builtin.Tuple.tupleExact _) (wpAny_newObj_type (wpAny_pure (wpAny_pure ⟨_, rfl, wpAny_pure h⟩)) htake))
    | exact wpAny_bind (wpAny_bind (m := Builtin.Tuple.tupleExact _) (wpAny_newObj_type (wpAny_pure ⟨_, rfl, wpAny_pure h⟩) htake))
def tRevT (K : PySem.W.Frag) (te : TE) : TE := fun σ H Q => te σ H fun x H1 => (∃ a xs, x = .ref a ∧ SqT K H1 a xs ∧ NewT H1 xs.reverse Q) ∨ (∃ a xs, x = .ref a ∧ SqL K H1 a xs ∧ ∀ p, H1 p = none → Q (.ref p) (upd H1 p (.lst xs.reverse)))
theorem pe_revA {X : Cx} {e : Expr} {te : TE} {k : Nat} {p1 p2 p3 pos : Pos} (he : PE X e te) : PE X (.Subscript e (.Slice none none (some (.UnaryOp .USub (.Constant (.int 1) k p1) p2)) p3) pos) (tRevT X.K te) := by
  refine ⟨fun pins s σ H Q I h => ?_⟩
  refine Subscript_ (thn (he.run pins s σ H _ I h) fun v s1 ⟨x, H1, I1, r1, q1⟩ => ?_)
  have hst : L2.PO X (some (.UnaryOp .USub (.Constant (.int 1) k p1) p2)) (tPart (tUn (rU fun i => .int (-i)) (tC (.int 1)))) := po_some (pe_un un_neg pe_int)
  refine wpAny_Slice (thn (po_none.run pins s1 σ H1 (fun o H2 => o = none ∧ H2 = H1) I1 ⟨rfl, rfl⟩) fun vl s2 ⟨l, H2, I2, pl, el, e2⟩ => ?_)
  subst el e2
  refine thn (po_none.run pins s2 σ H2 (fun o H3 => o = none ∧ H3 = H2) I2 ⟨rfl, rfl⟩) fun vu s3 ⟨u, H3, I3, pu, eu, e3⟩ => ?_
  subst eu e3
  refine thn (hst.run pins s3 σ H3 (fun o H4 => o = some (-1) ∧ H4 = H3) I3 ⟨1, rfl, -1, rfl, rfl, rfl⟩) fun vs s4 ⟨o, H4, I4, ps, eo, e4⟩ => ?_
  subst eo e4
  have I5 : Inv X pins σ H4 { s4 with heap := s4.heap.push { cls := .type "slice", data := .fields #[vl, vu, vs] } } := I4.kept (t' := s4.toks) fun b ob q => Heap.get?_push_of_some _ q
  rcases q1 with ⟨a, xs, ex, hx, q⟩ | ⟨a, xs, ex, hx, q⟩
  · subst ex
    cases r1
    cases pl
    cases pu
    obtain ⟨its, r, ht, hz⟩ := I5.tuple hx
    have hlen := r.length
    show wpAny (model X.prog X.w) X.A (subscriptTail e (.Slice none none (some (.UnaryOp .USub (.Constant (.int 1) k p1) p2)) p3) (.ref a) (.ref s4.heap.objs.size)) (EP X pins σ Q) X.xe { s4 with heap := s4.heap.push { cls := .type "slice", data := .fields #[.none, .none, vs] } }
    refine tail_any (ops := [.ref a, .ref s4.heap.objs.size]) ht.typeIs (PyProof.Rows.slot_tuple_getitem.lookup) ?_ (by with_unfolding_all rfl)
    refine getItem_tuple_rev ht (Heap.IsSliceOf.new _ _ _ vs) ps ?_ (by rw [List.size_toArray]; omega)
    exact Inv.newT I5 (by rw [List.length_reverse]; exact hz) r.reverse q
  · subst ex
    cases r1
    obtain ⟨its, r, ht, hz⟩ := I5.list hx
    have hlen := r.length
    show wpAny (model X.prog X.w) X.A (subscriptTail e (.Slice none none (some (.UnaryOp .USub (.Constant (.int 1) k p1) p2)) p3) (.ref a) (.ref s4.heap.objs.size)) (EP X pins σ Q) X.xe { s4 with heap := s4.heap.push { cls := .type "slice", data := .fields #[vl, vu, vs] } }
    refine tail_any (ops := [.ref a, .ref s4.heap.objs.size]) ht.isList.typeIs (PySem.slot_list_getitem.lookup) ?_ (by with_unfolding_all rfl)
    refine wpAny_getItem_list_slice ht.isList (Heap.IsSliceOf.new _ vl vu vs) pl pu ps (by decide) ?_ (by rw [List.size_toArray]; omega)
    rw [PySem.W.krv_pick]
    refine ⟨.ref _, _, I5.laid (t' := s4.toks) (o := .lst xs.reverse) (fun b ob q => Heap.get?_push_of_some _ q) (Nat.le_refl _) ?_, rfl, q _ (I5.hok.fresh (Nat.le_refl _))⟩
    exact ⟨by rw [List.length_reverse]; exact hz, _, 0, r.reverse, Heap.get?_push_size _ rfl⟩
def revD : D → Option D
  | .tup l => some (.tup l.reverse)
  | .lst l => some (.lst l.reverse)
  | _ => none
theorem u_rev {X : Cx} {W : WX} {e : Expr} {f : M Rf} {k : Nat} {p1 p2 p3 pos : Pos} (he : PE X e (U X.K W f)) : PE X (.Subscript e (.Slice none none (some (.UnaryOp .USub (.Constant (.int 1) k p1) p2)) p3) pos) (UV X.K W (uno revD f)) := pe_imp (pe_revA he) fun σ H Q q =>
  read_uno (r := fun x H1 Q => (∃ a xs, x = .ref a ∧ SqT X.K H1 a xs ∧ NewT H1 xs.reverse Q) ∨ (∃ a xs, x = .ref a ∧ SqL X.K H1 a xs ∧ ∀ p, H1 p = none → Q (.ref p) (upd H1 p (.lst xs.reverse)))) (by
    refine ⟨?_⟩
    intro w B D0 Hd H σ ρ ls v x z E hx e Q q
    cases x <;> try (exact noneE e)
    · cases e
      obtain ⟨a, xs, rfl, ha, r⟩ := hx.tup_inv
      refine .inl ⟨a, xs, rfl, (E.sub.tk ha).sq, fun p o hp h1 h2 => ?_⟩
      have sd : Sub Hd (upd Hd p (.frz o (.tup xs.reverse))) := .upd (E.nd_new hp)
      exact q _ _ _ (E.newDat hp NT.tup) sd (.tup ⟨o, upd_same, h1, h2⟩ (r.reverse.mono sd))
    · cases e
      obtain ⟨a, xs, rfl, ha, r⟩ := hx.lst_inv
      refine .inr ⟨a, xs, rfl, SqL.of ha, fun p hp => ?_⟩
      have sd : Sub Hd (upd Hd p (.lst xs.reverse)) := .upd (E.nd_new hp)
      exact q _ _ _ (E.newDat hp NT.lst) sd (.lst upd_same (r.reverse.mono sd))) q
end Pd

set_option Elab.async false
set_option linter.all false
set_option maxRecDepth 100000
set_option maxHeartbeats 4000000
/-! Pd7b: isinstance, slices, is, int(), keywords, reversed, chains, two fors. -/
namespace Pd
open PySem PySem.Spec PyProof.Rows L2

section
variable {X : Cx} {K : PySem.W.Frag} {W : WX} {w : Wd} {B D0 Hd H : Hp} {σ : L2.St} {ρ : Rho} {ls : LS} {a b c : Expr} {f g h : M Rf} {pos p p2 : Pos}

/-! ### isinstance -/
inductive Ty where
  | int | bool | tuple | list | str | dict
def Ty.nm : Ty → String
  | .int => "int" | .bool => "bool" | .tuple => "tuple" | .list => "list" | .str => "str" | .dict => "dict"
def tyS : D → Option String
  | .non => some "NoneType" | .bl _ => some "bool" | .int _ => some "int" | .str _ => some "str" | .tup _ => some "tuple" | .lst _ => some "list" | .lsk _ => some "list" | .ref _ => none | .exn _ => none | .dct _ _ => some "dict" | .ktp _ => some "tuple" | .dcf _ _ => none
def isi : Ty → D → Option Bool
  | _, .ref _ => none
  | _, .exn _ => none
  | _, .dcf _ _ => none
  | .int, .int _ => some true | .int, .bl _ => some true
  | .bool, .bl _ => some true
  | .tuple, .tup _ => some true
  | .tuple, .ktp _ => some true
  | .list, .lst _ => some true | .list, .lsk _ => some true
  | .str, .str _ => some true
  | .dict, .dct _ _ => some true
  | _, _ => some false
theorem isi_kit : ∀ (t : Ty) (d : D) (b : Bool), isi t d = some b → ∃ s, tyS d = some s ∧ kitB s t.nm = some b := by
  intro t d b e
  cases d <;> cases t <;> first | exact noneE e | (cases e; exact ⟨_, rfl, by decide +kernel⟩)
theorem tyX_of {v : V} {d : D} {s : String} (r : RpS K Hd H v d) (sub : Sub Hd H) (e : tyS d = some s) : TyX K H v (.type s) := by
  cases d with
  | non => cases r.non_inv; cases e; exact .base .non
  | bl b => cases r.bl_inv; cases e; exact .base (.bl b)
  | int i => cases r.int_inv; cases e; exact .base (.int i)
  | str x => cases r.str_inv; cases e; exact .base (.str x)
  | ref a => exact noneE e
  | exn a => exact noneE e
  | tup l =>
    obtain ⟨a, xs, rfl, h, _⟩ := r.tup_inv
    cases e
    rcases (sub.tk h).sq (K := K) with (h | ⟨o, h⟩) | ⟨o, its, n, h1, h2, _⟩
    · exact .base (.tup h)
    · exact .fTuple h
    · exact .kTuple h1 h2
  | lst l =>
    obtain ⟨a, xs, rfl, h, _⟩ := r.lst_inv
    cases e
    exact .base (.lst h)
  | lsk l =>
    obtain ⟨a, xs, rfl, h, _⟩ := r.lsk_inv
    cases e
    rcases sub.sqL h with (h | ⟨o, h⟩) | ⟨o, its, n, h1, h2, _⟩
    · exact .base (.lst h)
    · exact .base (.frz h)
    · exact .kList h1 h2
  | dct ks es =>
    cases e
    have r : Rp K Hd v (.dct ks es) := r
    cases r with
    | dK h _ _ _ => exact .base (.dK (sub _ _ h))
  | ktp l =>
    obtain ⟨a, xs, rfl, h, _⟩ := r.ktp_inv
    cases e
    exact .base (.tup (sub _ _ h))
  | dcf _ _ => exact noneE e
def isiD (t : Ty) (d : D) : Option D := (isi t d).map .bl
theorem one_isi (t : Ty) : One K (fun v H Q => rIsi K [v, .ty t.nm] H Q) (isiD t) := by
  refine ⟨?_⟩
  intro w B D0 Hd H σ ρ ls v x z E hx e Q q
  unfold isiD at e
  cases e1 : isi t x with
  | none => rw [e1] at e; exact noneE e
  | some b =>
    rw [e1] at e
    cases e
    obtain ⟨s, h1, h2⟩ := isi_kit t x b e1
    exact ⟨v, .ty t.nm, .type s, .type t.nm, b, rfl, .ty _, tyX_of hx E.sub h1, kit_ty h2, q _ Hd H E (Sub.refl _) (.bl b)⟩
theorem u_isi (t : Ty) (hm : X.mg "isinstance" = none) (ha : PE X a (U X.K W f)) (hb : PE X b (tC (.ty t.nm))) (hg : Gl X "isinstance" := by rfl) (he : starEach [a, b] X.env = (false, eval a X.env) :: starEach [b] X.env := by rfl) (he2 : starEach [b] X.env = (false, eval b X.env) :: starEach [] X.env := by rfl) (hpl : (backTo pos (starEach [b] X.env)).any (·.1) = false := by rfl) :
    PE X (.Call (.Name "isinstance" p) [a, b] [] pos) (UV X.K W (uno (isiD t) f)) :=
  pe_imp (pe_callB call_isi hg hm (by decide +kernel) (pa_cons ha (pa_cons hb pa_nil he2) he) (by decide) (by decide) he hpl) fun σ H Q q => read_uno (one_isi t) q
/-- isinstance(x, (list, tuple)) -/
def isi2D (t u : Ty) (d : D) : Option D := (isi t d).bind fun b => (isi u d).map fun c => .bl (b || c)
theorem one_isi2 (t u : Ty) : One K (fun v H Q => 2 ≤ sizeLine ∧ ∀ p, H p = none → rIsiT K [v, .ref p] (upd H p (.tup [.ty t.nm, .ty u.nm])) Q) (isi2D t u) := by
  refine ⟨?_⟩
  intro w B D0 Hd H σ ρ ls v x z E hx e Q q
  unfold isi2D at e
  cases e1 : isi t x with
  | none => rw [e1] at e; exact noneE e
  | some b =>
    rw [e1] at e
    have e : ((isi u x).map fun c => D.bl (b || c)) = some z := e
    cases e2 : isi u x with
    | none => rw [e2] at e; exact noneE e
    | some c =>
      rw [e2] at e
      cases e
      obtain ⟨s, h1, h2⟩ := isi_kit t x b e1
      obtain ⟨s', h3, h4⟩ := isi_kit u x c e2
      rw [h1] at h3; cases h3
      refine ⟨by decide, fun p hp => ?_⟩
      have sd : Sub Hd (upd Hd p (.tup [.ty t.nm, .ty u.nm])) := .upd (E.nd_new hp)
      have sH : Sub H (upd H p (.tup [.ty t.nm, .ty u.nm])) := .upd hp
      have hx2 : TyX K (upd H p (.tup [.ty t.nm, .ty u.nm])) v (.type s) := tyX_of (RpS.of (Sub.refl _) ((hx.rp E.sub).mono sH)) (Sub.refl _) h1
      refine ⟨v, p, [.ty t.nm, .ty u.nm], .type s, [.type t.nm, .type u.nm], b || c, rfl, upd_same, .cons (.ty _) (.cons (.ty _) .nil), hx2, ?_, q _ _ _ (E.newDat hp (fun _ h => nomatch h)) sd (.bl _)⟩
      refine kitAny_cons (kit_ty h2) (fun hb => ?_) (fun hb => by rw [hb]; rfl)
      subst hb
      refine kitAny_cons (kit_ty h4) (fun hc => by subst hc; exact kitAny_nil) (fun hc => by rw [hc]; rfl)

theorem u_isi2 (t u : Ty) {kk : Nat} {p3 : Pos} (hm : X.mg "isinstance" = none) (ha : PE X a (U X.K W f)) (hb : PE X b (tC (.ty t.nm))) (hc : PE X c (tC (.ty u.nm))) (hg : Gl X "isinstance" := by rfl)
    (he : starEach [a, .Tuple [b, c] kk p3] X.env = (false, eval a X.env) :: starEach [.Tuple [b, c] kk p3] X.env := by rfl) (he2 : starEach [.Tuple [b, c] kk p3] X.env = (false, eval (.Tuple [b, c] kk p3) X.env) :: starEach [] X.env := by rfl)
    (he3 : starEach [b, c] X.env = (false, eval b X.env) :: starEach [c] X.env := by rfl) (he4 : starEach [c] X.env = (false, eval c X.env) :: starEach [] X.env := by rfl) (hpl : (backTo pos (starEach [.Tuple [b, c] kk p3] X.env)).any (·.1) = false := by rfl) :
    PE X (.Call (.Name "isinstance" p) [a, .Tuple [b, c] kk p3] [] pos) (UV X.K W (uno (isi2D t u) f)) :=
  pe_imp (pe_callB call_isiT hg hm (by decide +kernel) (pa_cons ha (pa_cons (pe_tup (pa_cons hb (pa_cons hc pa_nil he4) he3)) pa_nil he2) he) (by decide) (by decide) he hpl) fun σ H Q q => read_uno (one_isi2 t u) q

/-! ### slices -/
def cutG {α : Type} (xs : List α) (lo hi : Option Int) : List α := (xs.drop (HT.sIx xs.length 0 lo)).take (HT.sIx xs.length xs.length hi - HT.sIx xs.length 0 lo)
theorem RpL.cut {xs : List V} {ds : List D} (r : RpL K H xs ds) (lo hi : Option Int) : RpL K H (cutV xs lo hi) (cutG ds lo hi) := by
  unfold cutV cutG
  rw [r.length]
  exact (r.drop _).take _
def cutD (lo hi : Option Int) : D → Option D
  | .tup l => some (.tup (cutG l lo hi))
  | .lst l => some (.lst (cutG l lo hi))
  | _ => none
def cutN (lo hi : Option Int) : D → Option (List D)
  | .lst l => some (cutG l lo hi)
  | _ => none
theorem one_cut (lo hi : Option Int) : One K (fun v H Q => rSlL K v lo hi H Q ∨ rSlK K v lo hi H Q) (cutD lo hi) := by
  refine ⟨?_⟩
  intro w B D0 Hd H σ ρ ls v x z E hx e Q q
  cases x <;> try (exact noneE e)
  · rename_i l
    cases e
    obtain ⟨a, xs, rfl, ha, r⟩ := hx.tup_inv
    refine .inr ⟨a, xs, rfl, (E.sub.tk ha).sq, fun hc => ?_, fun hc p o hp h1 h2 => ?_⟩
    · have ez : cutG l lo hi = l := by
        unfold cutG
        rw [← r.length, hc.1, hc.2, List.drop_zero, Nat.sub_zero, r.length, List.take_length]
      rw [ez] at q
      exact q _ Hd H E (Sub.refl _) (.tup ha r)
    · have sd : Sub Hd (upd Hd p (.frz o (.tup (cutV xs lo hi)))) := .upd (E.nd_new hp)
      exact q _ _ _ (E.newDat hp NT.tup) sd (.tup ⟨o, upd_same, h1, h2⟩ ((r.cut lo hi).mono sd))
  · cases e
    obtain ⟨a, xs, rfl, ha, r⟩ := hx.lst_inv
    refine .inl ⟨a, xs, rfl, SqL.of ha, fun p hp => ?_⟩
    have sd : Sub Hd (upd Hd p (.lst (cutV xs lo hi))) := .upd (E.nd_new hp)
    exact q _ _ _ (E.newDat hp NT.lst) sd (.lst upd_same ((r.cut lo hi).mono sd))
theorem one_cutN (lo hi : Option Int) : OneN K (fun v H Q => rSlL K v lo hi H Q ∨ rSlK K v lo hi H Q) (cutN lo hi) := by
  refine ⟨?_⟩
  intro w B D0 Hd H σ ρ ls v x z E hx e Q q
  cases x <;> try (exact noneE e)
  cases e
  obtain ⟨a, xs, rfl, ha, r⟩ := hx.lst_inv
  refine .inl ⟨a, xs, rfl, SqL.of ha, fun p hp => ?_⟩
  obtain ⟨E2, F⟩ := E.newList (xs := cutV xs lo hi) hp
  exact q _ _ _ E2 F (r.cut lo hi)
/-- a slice's parts -/
def UO (K : PySem.W.Frag) (W : WX) (f : M (Option Int)) : TO := fun σ H Q => Ru K W f σ H fun _ _ _ _ H' _ _ o => Q o H'
def D.int? : D → Option Int
  | .int i => some i
  | _ => none
theorem uo_none : L2.PO X none (UO K W (ret none)) := ⟨fun pins s σ H Q I q => po_none.run pins s σ H Q I (by
  obtain ⟨w, B, D0, Hd, ρ, ls, E, q⟩ := q
  exact q Hd H E (Sub.refl _))⟩
def partM (f : M D) : M (Option Int) := bnd f fun d => bnd (opt d.int?) fun i => ret (some i)
theorem uo_some {fv : M D} (ha : PE X a (UV K W fv)) : L2.PO X (some a) (UO K W (partM fv)) := ⟨fun pins s σ H Q I q => (po_some ha).run pins s σ H Q I (by
  refine Ru.imp q.xBnd fun w B D0 Hd' H' ρ' ls' d E q v r => ?_
  obtain ⟨i, e, q2⟩ := q.xOpt
  cases r with
  | int j => cases e; exact ⟨_, rfl, q2 Hd' H' E (Sub.refl _)⟩
  | _ => exact noneE e)⟩
def cutM {α : Type} (op : Option Int → Option Int → D → Option α) (f : M Rf) (l h : M (Option Int)) : M α := bnd f fun r => bnd l fun lo => bnd h fun hi => bnd (look r) fun x => opt (op lo hi x)
variable {lo hi : Option Expr} {l u : M (Option Int)}
theorem read_cut {Q : VK} (q : UV K W (cutM cutD f l u) σ H Q) : tSl (fun v lo hi H Q => rSlL K v lo hi H Q ∨ rSlK K v lo hi H Q) (U K W f) (UO K W l) (UO K W u) σ H Q := by
  refine Ru.imp q.xBnd fun w B D0 Hd1 H1 ρ1 ls1 r1 E1 q1 v hv => ?_
  refine Go.ru (P := fun _ _ _ _ H' _ _ o => _) E1 ?_
  refine q1.xBnd.imp fun Hd2 H2 ρ2 ls2 lo E2 s2 q2 => ?_
  refine Go.ru (P := fun _ _ _ _ H' _ _ o => _) E2 ?_
  refine q2.xBnd.imp fun Hd3 H3 ρ3 ls3 hi E3 s3 q3 => ?_
  obtain ⟨x, hx, q4⟩ := q3.xLookB E3 (hv.mono (s2.trans s3))
  obtain ⟨z, hz, q5⟩ := q4.xOpt1
  exact (one_cut lo hi).run E3 hx hz Q fun t Hd' H' E' s' r' => q5 Hd' H' E' s' t r'
theorem read_cutN {Q : VK} (q : UN K W (cutM cutN f l u) σ H Q) : tSl (fun v lo hi H Q => rSlL K v lo hi H Q ∨ rSlK K v lo hi H Q) (U K W f) (UO K W l) (UO K W u) σ H Q := by
  refine Ru.imp q.xBnd fun w B D0 Hd1 H1 ρ1 ls1 r1 E1 q1 v hv => ?_
  refine Go.ru (P := fun _ _ _ _ H' _ _ o => _) E1 ?_
  refine q1.xBnd.imp fun Hd2 H2 ρ2 ls2 lo E2 s2 q2 => ?_
  refine Go.ru (P := fun _ _ _ _ H' _ _ o => _) E2 ?_
  refine q2.xBnd.imp fun Hd3 H3 ρ3 ls3 hi E3 s3 q3 => ?_
  obtain ⟨x, hx, q4⟩ := q3.xLookB E3 (hv.mono (s2.trans s3))
  obtain ⟨z, hz, q5⟩ := q4.xOpt1
  exact (one_cutN lo hi).run E3 hx hz Q fun p xs H' E' F r' => q5 Hd3 H' E' (Sub.refl _) p xs F r'
theorem u_cut (ha : PE X a (U X.K W f)) (hl : L2.PO X lo (UO X.K W l)) (hu : L2.PO X hi (UO X.K W u)) : PE X (.Subscript a (.Slice lo hi none p2) pos) (UV X.K W (cutM cutD f l u)) := pe_imp (pe_slice (sl_list.or sl_tupK) ha hl hu) fun σ H Q q => read_cut q
theorem u_cutN (ha : PE X a (U X.K W f)) (hl : L2.PO X lo (UO X.K W l)) (hu : L2.PO X hi (UO X.K W u)) : PE X (.Subscript a (.Slice lo hi none p2) pos) (UN X.K W (cutM cutN f l u)) := pe_imp (pe_slice (sl_list.or sl_tupK) ha hl hu) fun σ H Q q => read_cutN q

/-! ### is, is not -/
def isNone : D → Option Bool
  | .non => some true
  | .ref _ => none
  | _ => some false
theorem isNone_ok {v : V} {x : D} {b : Bool} (r : RpS K Hd H v x) (e : isNone x = some b) : decide (v = .non) = b := by
  cases x with
  | non => cases r.non_inv; cases e; rfl
  | bl _ => cases r.bl_inv; cases e; rfl
  | int _ => cases r.int_inv; cases e; rfl
  | str _ => cases r.str_inv; cases e; rfl
  | ref _ => exact noneE e
  | tup _ => obtain ⟨a, xs, rfl, _⟩ := r.tup_inv; cases e; rfl
  | lst _ => obtain ⟨a, xs, rfl, _⟩ := r.lst_inv; cases e; rfl
  | lsk _ => obtain ⟨a, xs, rfl, _⟩ := r.lsk_inv; cases e; rfl
  | exn _ => cases (show Rp K Hd v (.exn _) from r); cases e; rfl
  | dct _ _ => cases (show Rp K Hd v (.dct _ _) from r) <;> (cases e; rfl)
  | ktp _ => obtain ⟨a, xs, rfl, _⟩ := r.ktp_inv; cases e; rfl
  | dcf _ _ => obtain ⟨a, _, _, rfl, _⟩ := r.dcf_inv; cases e; rfl
def isD : D → D → Option D
  | x, .non => (isNone x).map .bl
  | .bl a, .bl b => some (.bl (decide (a = b)))
  | _, _ => none
def isntD (x y : D) : Option D := match isD x y with
  | some (.bl b) => some (.bl (!b))
  | _ => none
theorem isD_inv {x y z : D} (e : isD x y = some z) : (y = .non ∧ ∃ b, isNone x = some b ∧ z = .bl b) ∨ (∃ a b, x = .bl a ∧ y = .bl b ∧ z = .bl (decide (a = b))) := by
  unfold isD at e
  split at e
  · cases e1 : isNone x with
    | none => rw [e1] at e; exact noneE e
    | some b => rw [e1] at e; cases e; exact .inl ⟨rfl, b, rfl, rfl⟩
  · cases e; exact .inr ⟨_, _, rfl, rfl, rfl⟩
  · exact noneE e
def rIsU : R2 := fun x y H Q => (y = .non ∧ Q (.bl (decide (x = .non))) H) ∨ rIsB x y H Q
def rIsntU : R2 := fun x y H Q => (y = .non ∧ Q (.bl (!decide (x = .non))) H) ∨ rNotB x y H Q
theorem op_isU : OpR X (compareOp .Is) rIsU := op_isN.or op_isBl
theorem op_isntU : OpR X (compareOp .IsNot) rIsntU := op_notN.or op_notBl
theorem od_is : OpD K rIsU isD := by
  refine ⟨?_⟩
  intro w B D0 Hd H σ ρ ls v u x y z E hx hy e Q q
  rcases isD_inv e with ⟨rfl, b, h1, rfl⟩ | ⟨a, b, rfl, rfl, rfl⟩
  · exact .inl ⟨hy.non_inv, by rw [isNone_ok hx h1]; exact q _ Hd H E (Sub.refl _) (.bl _)⟩
  · cases hx.bl_inv; cases hy.bl_inv
    exact .inr ⟨a, b, rfl, rfl, q _ Hd H E (Sub.refl _) (.bl _)⟩
theorem od_isnt : OpD K rIsntU isntD := by
  refine ⟨?_⟩
  intro w B D0 Hd H σ ρ ls v u x y z E hx hy e Q q
  unfold isntD at e
  cases e1 : isD x y with
  | none => rw [e1] at e; exact noneE e
  | some d =>
    rw [e1] at e
    rcases isD_inv e1 with ⟨rfl, b, h1, rfl⟩ | ⟨a, b, rfl, rfl, rfl⟩
    · cases e
      exact .inl ⟨hy.non_inv, by rw [isNone_ok hx h1]; exact q _ Hd H E (Sub.refl _) (.bl _)⟩
    · cases e
      cases hx.bl_inv; cases hy.bl_inv
      exact .inr ⟨a, b, rfl, rfl, q _ Hd H E (Sub.refl _) (.bl _)⟩

/-! ### int(x) -/
def intD : D → Option D
  | .int i => some (.int i)
  | .bl b => some (.int (if b then 1 else 0))
  | _ => none
theorem one_int : One K (fun v H Q => (∃ i, [v] = [V.int i] ∧ Q (.int i) H) ∨ ∃ k, [v] = [V.bl k] ∧ Q (.int (if k then 1 else 0)) H) intD := by
  refine ⟨?_⟩
  intro w B D0 Hd H σ ρ ls v x z E hx e Q q
  cases x <;> try (exact noneE e)
  · cases hx.bl_inv; cases e
    exact .inr ⟨_, rfl, q _ Hd H E (Sub.refl _) (.int _)⟩
  · cases hx.int_inv; cases e
    exact .inl ⟨_, rfl, q _ Hd H E (Sub.refl _) (.int _)⟩
theorem u_intc (hm : X.mg "int" = none) (ha : PE X a (U X.K W f)) (hg : Gl X "int" := by rfl) (he : starEach [a] X.env = (false, eval a X.env) :: starEach [] X.env := by rfl) (hpl : (backTo pos (starEach [] X.env)).any (·.1) = false := by rfl) : PE X (.Call (.Name "int" p) [a] [] pos) (UV X.K W (uno intD f)) :=
  u_callT call_int1 one_int hm (by decide +kernel) ha hg (by decide) (by decide) he hpl

/-! ### a < b < c -/
theorem GoX.sub {α : Type} {Hd1 : Hp} {o : Out α} {P : Hp → Hp → Rho → LS → α → Prop} (s : Sub Hd Hd1) (h : Go K W w B D0 σ Hd o P) : Go K W w B D0 σ Hd1 o P := by
  cases o with
  | ok a ρ' ls' => exact fun Hd' H' E s' => h Hd' H' E (s.trans s')
  | rs x ls' => exact h
  | no => exact h
def chainM (op op' : D → D → Option D) (f g h : M Rf) : M D := bnd f fun r => bnd g fun s => bnd (look r) fun x => bnd (look s) fun y => bnd (opt (op x y)) fun t => bnd (isB t) fun b => if b = true then bnd h fun u => bnd (look s) fun y' => bnd (look u) fun z => opt (op' y' z) else ret (.bl false)
theorem u_chain {o o' : CmpOp} {r r' : R2} {op op' : D → D → Option D} (ho : OpR X (compareOp o) r) (ho' : OpR X (compareOp o') r') (hd : OpD K r op) (hd' : OpD K r' op') (ha : PE X a (U K W f)) (hb : PE X b (U K W g)) (hc : PE X c (U K W h))
    (hm : lastMarks [o, o'] [b, c] = false := by with_unfolding_all rfl) : PE X (.Compare a [o, o'] [b, c] pos) (UV K W (chainM op op' f g h)) := pe_imp (pe_chain ho ho' ha hb hc hm) fun σ H Q q => by
  refine Ru.imp q.xBnd fun w B D0 Hd1 H1 ρ1 ls1 r1 E1 q1 v hv => ?_
  refine Go.ru (P := fun _ _ _ Hd' H' _ _ r => ∀ v_1, RfOk K Hd' σ v_1 r → _) E1 ?_
  refine q1.xBnd.imp fun Hd2 H2 ρ2 ls2 r2 E2 s2 q2 u hu => ?_
  obtain ⟨x, hx, q3⟩ := q2.xLookB E2 (hv.mono s2)
  obtain ⟨y, hy, q4⟩ := q3.xLookB E2 hu
  obtain ⟨t, ht, q5⟩ := q4.xOpt
  refine hd.run E2 hx hy ht _ fun tv Hd3 H3 E3 s3 rt => ?_
  have q5 := GoX.sub s3 q5
  obtain ⟨b, rfl, q6⟩ := q5.xBnd.xB E3 rt
  refine ⟨b, rfl, ?_⟩
  cases b with
  | false => exact q6 _ _ E3 (Sub.refl _) _ (.bl false)
  | true =>
    refine Go.ru (P := fun _ _ _ Hd' H' _ _ r => ∀ v_1, RfOk K Hd' σ v_1 r → _) E3 ?_
    refine Go.imp (Go.xBnd q6) fun Hd4 H4 ρ4 ls4 r4 E4 s4 q7 u4 hu4 => ?_
    obtain ⟨y', hy', q8⟩ := q7.xLookB E4 (hu.mono (s3.trans s4))
    obtain ⟨z, hz, q9⟩ := q8.xLookB E4 hu4
    obtain ⟨o, ho, q10⟩ := q9.xOpt1
    exact hd'.run E4 hy' hz ho Q fun t Hd' H' E' s' r' => q10 Hd' H' E' s' t r'
end
end Pd

set_option Elab.async false
set_option linter.all false
set_option maxRecDepth 100000
set_option maxHeartbeats 4000000
/-! Pd7c: reversed, comprehensions with two fors, keyword calls. -/
namespace Pd
open PySem PySem.Spec PyProof.Rows L2

section
variable {X : Cx} {K : PySem.W.Frag} {W : WX} {w : Wd} {B D0 Hd Hd1 H : Hp} {σ : L2.St} {ρ : Rho} {ls : LS} {a b c : Expr} {f g h : M Rf} {pos p p2 : Pos} {vs : List Nat}

/-! ### for x in reversed(xs) -/
theorem it_revL {a : Addr} {xs : List V} {ds : List D} (h : SqL K Hd a xs) (r : RpL K Hd xs ds) : ItOk K (Itv K a xs.length) Hd ds.reverse where
  go := fun i H hi s => by
    rw [List.length_reverse, ← r.length] at hi
    have hx : xs.length - 1 - i < xs.length := by omega
    exact ⟨hi, xs, xs[xs.length - 1 - i], s.sqL h, List.getElem?_eq_getElem hx⟩
  stop := fun i H hi s => by rw [List.length_reverse, ← r.length] at hi; exact hi
  yld := fun i x H' d E s y e => by
    obtain ⟨rfl, hx⟩ := y
    have hi : i < ds.length := by
      have := (List.getElem?_eq_some_iff.mp e).1
      rw [List.length_reverse] at this; exact this
    rw [List.getElem?_reverse hi, ← r.length] at e
    obtain ⟨v, h1, h2⟩ := r.get e
    have := hx xs (E.sub.sqL (s.sqL h))
    rw [h1] at this; cases this
    exact ⟨_, E, Sub.refl _, h2.mono s, fun _ _ q => q⟩
theorem it_revT {a : Addr} {xs : List V} {ds : List D} (h : SqT K Hd a xs) (r : RpL K Hd xs ds) : ItOk K (RT.ItvT K a xs.length) Hd ds.reverse where
  go := fun i H hi s => by
    rw [List.length_reverse, ← r.length] at hi
    have hx : xs.length - 1 - i < xs.length := by omega
    exact ⟨hi, xs, xs[xs.length - 1 - i], s.sqT h, List.getElem?_eq_getElem hx⟩
  stop := fun i H hi s => by rw [List.length_reverse, ← r.length] at hi; exact hi
  yld := fun i x H' d E s y e => by
    obtain ⟨rfl, hx⟩ := y
    have hi : i < ds.length := by
      have := (List.getElem?_eq_some_iff.mp e).1
      rw [List.length_reverse] at this; exact this
    rw [List.getElem?_reverse hi, ← r.length] at e
    obtain ⟨v, h1, h2⟩ := r.get e
    have := hx xs (E.sub.sqT (s.sqT h))
    rw [h1] at this; cases this
    exact ⟨_, E, Sub.refl _, h2.mono s, fun _ _ q => q⟩
def ritemsD : D → Option (List D)
  | .tup l => some l.reverse
  | .lst l => some l.reverse
  | .lsk l => some l.reverse
  | _ => none
def ritemsM (f : M D) : M (List D) := bnd f fun d => opt (ritemsD d)
variable {fv : M D} {tg e : Expr}
theorem ui_rev (hm : X.mg "reversed" = none) (he : PE X e (UV X.K W fv)) (hg : Gl X "reversed" := by rfl) (hs : starEach [e] X.env = (false, eval e X.env) :: starEach [] X.env := by rfl) : PI X tg (.Call (.Name "reversed" p) [e] [] pos) (UI X.K W (ritemsM fv)) := pi_imp (RT.pi_revA hg hm he hs) fun σ H R q => by
  refine Ru.imp q.xBnd fun w B D0 Hd' H' ρ' ls' d E q v r => ?_
  obtain ⟨l, e1, q2⟩ := q.xOpt1
  cases r with
  | tup h r =>
    cases e1
    exact ⟨_, _, rfl, .inr ⟨E.sub.sqT h.sq, q2 Hd' H' E (Sub.refl _) _ (it_revT h.sq r)⟩⟩
  | lst h r =>
    cases e1
    exact ⟨_, _, rfl, .inl ⟨SqL.of (E.sub _ _ h), q2 Hd' H' E (Sub.refl _) _ (it_revL (SqL.of h) r)⟩⟩
  | lsk h r =>
    cases e1
    exact ⟨_, _, rfl, .inl ⟨E.sub.sqL h, q2 Hd' H' E (Sub.refl _) _ (it_revL h r)⟩⟩
  | _ => exact noneE e1

/-! ### keyword calls -/
variable {x : Str} {n : Nat} {F : FS} {ga gk : M (List D)} {es : List Expr} {kws : List Keyword} {ks : List Str} {nm : Option Str} {kpos : Pos}
def UK (K : PySem.W.Frag) (W : WX) (f : M (List D)) : TA := UA K W f
theorem uk_nil : PK X [] (UA K W (ret [])) := ⟨fun pos pins s σ H Q I h => pk_nil.run pos pins s σ H Q I (by
  obtain ⟨w, B, D0, Hd, ρ, ls, E, q⟩ := h
  exact q Hd H E (Sub.refl _) [] .nil)⟩
theorem uk_cons (ha : PE X a (UV K W fv)) (hr : PK X kws (UA K W gk)) : PK X (⟨nm, a, kpos⟩ :: kws) (UA K W (consM fv gk)) := ⟨fun pos pins s σ H Q I h => (pk_cons ha hr).run pos pins s σ H Q I (by
  refine Ru.imp h.xBnd fun w B D0 Hd1 H1 ρ1 ls1 d E1 q1 v hv => ?_
  refine Go.ru (P := fun _ _ _ Hd' H' _ _ ds => ∀ vs, RpL K Hd' vs ds → Q (v :: vs) H') E1 ?_
  exact q1.xBnd.imp fun Hd2 H2 ρ2 ls2 ds E2 s2 q2 vs hvs => q2 _ _ E2 (Sub.refl _) _ (.cons (hv.mono s2) hvs))⟩
end

/-! ### [e for x in xs for y in ys] -/
section
variable {X : Cx} {K : PySem.W.Frag} {W : WX} {w : Wd} {B D0 Hd Hd1 H : Hp} {σ : L2.St} {ρ : Rho} {ls : LS} {vs vs1 : List Nat}
def lc2K (k : List D → Rho → LS → Out (List D)) : Out (List D) → Out (List D)
  | .ok acc ρ ls => k acc ρ ls
  | _ => .no
def lc2S (k : List D → Rho → LS → Out (List D)) (src1 : M (List D)) (t1 : D → Rho → Option Rho) (c1 : M Bool) (e : M D) (vs1 : List Nat) (acc : List D) (ρ : Rho) (ls : LS) : Out (List D) := match src1 ρ ls with
  | .ok es ρ' ls' => lc2K k (lcL t1 c1 e vs1 es acc (wipeR ρ' vs1) ls')
  | _ => .no
def lc2C (k : List D → Rho → LS → Out (List D)) (c : M Bool) (src1 : M (List D)) (t1 : D → Rho → Option Rho) (c1 : M Bool) (e : M D) (vs1 : List Nat) (acc : List D) (ρ : Rho) (ls : LS) : Out (List D) := match c ρ ls with
  | .ok true ρ' ls' => lc2S k src1 t1 c1 e vs1 acc ρ' ls'
  | .ok false ρ' ls' => k acc ρ' ls'
  | _ => .no
def lc2T (k : List D → Rho → LS → Out (List D)) (c : M Bool) (src1 : M (List D)) (t1 : D → Rho → Option Rho) (c1 : M Bool) (e : M D) (vs1 : List Nat) (acc : List D) (ls : LS) : Option Rho → Out (List D)
  | some ρ => lc2C k c src1 t1 c1 e vs1 acc ρ ls
  | none => .no
def lc2L (t : D → Rho → Option Rho) (c : M Bool) (src1 : M (List D)) (t1 : D → Rho → Option Rho) (c1 : M Bool) (e : M D) (vs vs1 : List Nat) : List D → List D → Rho → LS → Out (List D)
  | [], acc, ρ, ls => .ok acc ρ ls
  | d :: ds, acc, ρ, ls => lc2T (fun acc ρ ls => lc2L t c src1 t1 c1 e vs vs1 ds acc (wipeR ρ vs) ls) c src1 t1 c1 e vs1 acc ls (t d ρ)
def lc2M (src : M (List D)) (t : D → Rho → Option Rho) (c : M Bool) (src1 : M (List D)) (t1 : D → Rho → Option Rho) (c1 : M Bool) (e : M D) (vs vs1 : List Nat) : M (List D) := bnd src fun ds ρ ls => if noOwn ρ vs = true then lcEnd ρ vs (lc2L t c src1 t1 c1 e vs vs1 ds [] (wipeR ρ vs) ls) else .no
/-- the end of a loop of a comprehension -/
def LcP (P : List D → Rho → LS → Prop) : Out (List D) → Prop
  | .ok l ρ ls => P l ρ ls
  | _ => False
theorem read_lc2 {wi wi1 : TI} {g g1 : TG} {t t1 : D → Rho → Option Rho} {src src1 : M (List D)} {c c1 : M Bool} {e : M D} {is is1 : List Nat} (hi : ∀ R, UI K W src σ H R → wi σ H R) (hi1 : ∀ σ H R, UI K W0 src1 σ H R → wi1 σ H R) (hg : TgOk K g t is) (hg1 : TgOk K g1 t1 is1) (hv : ∀ i ∈ is, i ∈ vs) (hv1 : ∀ i ∈ is1, i ∈ vs1) (hvv : ∀ i ∈ vs1, i ∈ vs)
    {Q : VK} (h : UN K W (lc2M src t c src1 t1 c1 e vs vs1) σ H Q) : tLc2 wi g (UT K W0 c) wi1 g1 (UT K W0 c1) (UV K W0 e) vs vs1 σ H Q := by
  refine hi _ (Ru.imp h.xBnd fun w B D0 Hd1 H1 ρ1 ls1 ds E1 q J ok Dl hD => ?_)
  have q : Go K W w B D0 σ Hd1 (if noOwn ρ1 vs = true then lcEnd ρ1 vs (lc2L t c src1 t1 c1 e vs vs1 ds [] (wipeR ρ1 vs) ls1) else .no) fun Hd' H' ρ' ls' ds => ∀ p xs, Fresh w B Hd' H' σ ρ' p xs → RpL K Hd' xs ds → Q (.ref p) H' := q
  by_cases no : noOwn ρ1 vs = true
  · rw [if_pos no] at q
    have u : UnderOk w B D0 Dl := ⟨E1.nz_new hD, E1.dom _ hD, by
      cases e0 : D0 Dl with
      | none => rfl
      | some o => rw [E1.sub _ _ (E1.sub0 _ _ e0)] at hD; cases hD⟩
    -- what is left to do, at the outer loop's turn
    let Left : Nat → Hp → Hp → Prop := fun i Hd0 H' => ∃ Hd' ρ' ls' acc xs, EOk K w (upd B Dl (.lst xs)) D0 Hd' H' (wipe σ vs) (wipeR ρ' vs) ls' ∧ Sub Hd0 Hd' ∧ RpL K Hd' xs acc ∧
      Go K W w B D0 σ Hd1 (lcEnd ρ1 vs (lc2L t c src1 t1 c1 e vs vs1 (ds.drop i) acc (wipeR ρ' vs) ls')) fun Hd' H' ρ' ls' ds => ∀ p xs, Fresh w B Hd' H' σ ρ' p xs → RpL K Hd' xs ds → Q (.ref p) H'
    refine ⟨fun i m H' => i + m = ds.length ∧ Left i Hd1 H', ⟨ds.length, Nat.zero_add _, Hd1, ρ1, ls1, [], [], (E1.under hD).wipe vs, Sub.refl _, .nil, q⟩, ?_⟩
    rintro i m H' ⟨hm, Hd', ρ', ls', acc, xs, E, s, ra, q⟩
    by_cases hlt : i < ds.length
    · have ed : ds.drop i = ds[i] :: ds.drop (i + 1) := List.drop_eq_getElem_cons hlt
      have e1 : ds[i]? = some ds[i] := List.getElem?_eq_getElem hlt
      refine .inr ⟨ok.go i H' hlt (s.trans E.sub), fun H2 => ∃ m', m' < m ∧ i + 1 + m' = ds.length ∧ Left (i + 1) Hd1 H2, fun H2 ⟨m', h1, h2, h3⟩ => ⟨m', h1, h2, h3⟩, fun x H2 y => ?_⟩
      obtain ⟨Hd2, E2, s2, r2, _⟩ := ok.yld i x H2 ds[i] E s y e1
      rw [ed] at q
      have q : Go K W w B D0 σ Hd1 (lcEnd ρ1 vs (lc2T (fun acc ρ ls => lc2L t c src1 t1 c1 e vs vs1 (ds.drop (i + 1)) acc (wipeR ρ vs) ls) c src1 t1 c1 e vs1 acc ls' (t ds[i] (wipeR ρ' vs)))) _ := q
      cases et : t ds[i] (wipeR ρ' vs) with
      | none => rw [et] at q; exact q.elim
      | some ρ2 =>
        rw [et] at q
        have q : Go K W w B D0 σ Hd1 (lcEnd ρ1 vs (lc2C (fun acc ρ ls => lc2L t c src1 t1 c1 e vs vs1 (ds.drop (i + 1)) acc (wipeR ρ vs) ls) c src1 t1 c1 e vs1 acc ρ2 ls')) _ := q
        refine hg.run E2 r2 et _ fun σ3 E3 sm => ⟨wipe_sames sm hv, w, upd B Dl (.lst xs), D0, Hd2, ρ2, ls', E3, ?_⟩
        unfold lc2C at q
        cases ec : c ρ2 ls' with
        | no => rw [ec] at q; exact q.elim
        | rs x ls2 => rw [ec] at q; exact q.elim
        | ok b ρ3 ls3 =>
          rw [ec] at q
          intro Hd4 H4 E4 s4
          cases b with
          | false =>
            have q : Go K W w B D0 σ Hd1 (lcEnd ρ1 vs (lc2L t c src1 t1 c1 e vs vs1 (ds.drop (i + 1)) acc (wipeR ρ3 vs) ls3)) _ := q
            have E5 := E4.wipe vs
            rw [wipe_sames sm hv] at E5
            exact ⟨m - 1, by omega, by omega, Hd4, ρ3, ls3, acc, xs, E5, (s.trans s2).trans s4, ra.mono (s2.trans s4), q⟩
          | true =>
            have q : Go K W w B D0 σ Hd1 (lcEnd ρ1 vs (lc2S (fun acc ρ ls => lc2L t c src1 t1 c1 e vs vs1 (ds.drop (i + 1)) acc (wipeR ρ vs) ls) src1 t1 c1 e vs1 acc ρ3 ls3)) _ := q
            unfold lc2S at q
            refine hi1 _ _ _ ⟨w, upd B Dl (.lst xs), D0, Hd4, ρ3, ls3, E4, ?_⟩
            cases es1 : src1 ρ3 ls3 with
            | no => rw [es1] at q; exact q.elim
            | rs x ls2 => rw [es1] at q; exact q.elim
            | ok es ρ5 ls5 =>
              rw [es1] at q
              intro Hd6 H6 E6 s6 J1 ok1
              -- the inner loop
              let Fin : List D → Rho → LS → Prop := fun acc' ρ' ls' => Go K W w B D0 σ Hd1 (lcEnd ρ1 vs (lc2L t c src1 t1 c1 e vs vs1 (ds.drop (i + 1)) acc' (wipeR ρ' vs) ls')) fun Hd' H' ρ' ls' ds => ∀ p xs, Fresh w B Hd' H' σ ρ' p xs → RpL K Hd' xs ds → Q (.ref p) H'
              have q : LcP Fin (lcL t1 c1 e vs1 es acc (wipeR ρ5 vs1) ls5) := by
                have q : Go K W w B D0 σ Hd1 (lcEnd ρ1 vs (lc2K (fun acc ρ ls => lc2L t c src1 t1 c1 e vs vs1 (ds.drop (i + 1)) acc (wipeR ρ vs) ls) (lcL t1 c1 e vs1 es acc (wipeR ρ5 vs1) ls5))) _ := q
                cases el : lcL t1 c1 e vs1 es acc (wipeR ρ5 vs1) ls5 with
                | no => rw [el] at q; exact q.elim
                | rs x ls2 => rw [el] at q; exact q.elim
                | ok a' ρ' ls' => rw [el] at q; exact q
              have sAll : Sub Hd1 Hd6 := ((s.trans s2).trans s4).trans s6
              refine ⟨fun j k H' => j + k = es.length ∧ ∃ Hd' ρ' ls' acc xs, EOk K w (upd B Dl (.lst xs)) D0 Hd' H' (wipe σ3 vs1) (wipeR ρ' vs1) ls' ∧ Sub Hd6 Hd' ∧ RpL K Hd' xs acc ∧ LcP Fin (lcL t1 c1 e vs1 (es.drop j) acc (wipeR ρ' vs1) ls'),
                ⟨es.length, Nat.zero_add _, Hd6, ρ5, ls5, acc, xs, E6.wipe vs1, Sub.refl _, ra.mono ((s2.trans s4).trans s6), q⟩, ?_⟩
              rintro j k H' ⟨hk, Hd7, ρ7, ls7, acc7, xs7, E7, s7, ra7, q7⟩
              by_cases hlt1 : j < es.length
              · have ed1 : es.drop j = es[j] :: es.drop (j + 1) := List.drop_eq_getElem_cons hlt1
                have e11 : es[j]? = some es[j] := List.getElem?_eq_getElem hlt1
                refine .inr ⟨ok1.go j H' hlt1 (s7.trans E7.sub), fun H2 => ∃ k', k' < k ∧ j + 1 + k' = es.length ∧ ∃ Hd' ρ' ls' acc xs, EOk K w (upd B Dl (.lst xs)) D0 Hd' H2 (wipe σ3 vs1) (wipeR ρ' vs1) ls' ∧ Sub Hd6 Hd' ∧ RpL K Hd' xs acc ∧ LcP Fin (lcL t1 c1 e vs1 (es.drop (j + 1)) acc (wipeR ρ' vs1) ls'), fun H2 ⟨m', h1, h2, h3⟩ => ⟨m', h1, h2, h3⟩, fun x H2 y => ?_⟩
                obtain ⟨Hd8, E8, s8, r8, _⟩ := ok1.yld j x H2 es[j] E7 s7 y e11
                rw [ed1] at q7
                have q7 : LcP Fin (lcT (fun acc ρ ls => lcL t1 c1 e vs1 (es.drop (j + 1)) acc (wipeR ρ vs1) ls) c1 e acc7 ls7 (t1 es[j] (wipeR ρ7 vs1))) := q7
                cases et1 : t1 es[j] (wipeR ρ7 vs1) with
                | none => rw [et1] at q7; exact q7.elim
                | some ρ8 =>
                  rw [et1] at q7
                  have q7 : LcP Fin (lcC (fun acc ρ ls => lcL t1 c1 e vs1 (es.drop (j + 1)) acc (wipeR ρ vs1) ls) c1 e acc7 ρ8 ls7) := q7
                  refine hg1.run E8 r8 et1 _ fun σ9 E9 sm1 => ⟨wipe_sames sm1 hv1, w, upd B Dl (.lst xs7), D0, Hd8, ρ8, ls7, E9, ?_⟩
                  unfold lcC at q7
                  cases ec1 : c1 ρ8 ls7 with
                  | no => rw [ec1] at q7; exact q7.elim
                  | rs x ls2 => rw [ec1] at q7; exact q7.elim
                  | ok b ρ9 ls9 =>
                    rw [ec1] at q7
                    intro Hd10 H10 E10 s10
                    cases b with
                    | false =>
                      have q7 : LcP Fin (lcL t1 c1 e vs1 (es.drop (j + 1)) acc7 (wipeR ρ9 vs1) ls9) := q7
                      have E11 := E10.wipe vs1
                      rw [wipe_sames sm1 hv1] at E11
                      exact ⟨k - 1, by omega, by omega, Hd10, ρ9, ls9, acc7, xs7, E11, (s7.trans s8).trans s10, ra7.mono (s8.trans s10), q7⟩
                    | true =>
                      have q7 : LcP Fin (lcE (fun acc ρ ls => lcL t1 c1 e vs1 (es.drop (j + 1)) acc (wipeR ρ vs1) ls) e acc7 ρ9 ls9) := q7
                      refine ⟨w, upd B Dl (.lst xs7), D0, Hd10, ρ9, ls9, E10, ?_⟩
                      unfold lcE at q7
                      cases ee : e ρ9 ls9 with
                      | no => rw [ee] at q7; exact q7.elim
                      | rs x ls2 => rw [ee] at q7; exact q7.elim
                      | ok d ρ11 ls11 =>
                        rw [ee] at q7
                        intro Hd12 H12 E12 s12 v rv
                        have q7 : LcP Fin (if acc7.length < top then lcL t1 c1 e vs1 (es.drop (j + 1)) (acc7 ++ [d]) (wipeR ρ11 vs1) ls11 else .no) := q7
                        by_cases hz : acc7.length < top
                        · rw [if_pos hz] at q7
                          have ra12 := ra7.mono ((s8.trans s10).trans s12)
                          refine ⟨xs7, E12.under_at u, by rw [ra12.length]; exact top_lt hz, k - 1, by omega, by omega, Hd12, ρ11, ls11, acc7 ++ [d], xs7 ++ [v], ?_, ((s7.trans s8).trans s10).trans s12, ra12.append (.cons rv .nil), q7⟩
                          have E13 := (E12.under_set (ys := xs7 ++ [v]) u).wipe vs1
                          rw [wipe_sames sm1 hv1] at E13
                          exact E13
                        · rw [if_neg hz] at q7; exact q7.elim
              · refine .inl ⟨ok1.stop j H' (by omega) (s7.trans E7.sub), m - 1, by omega, by omega, ?_⟩
                have ed1 : es.drop j = [] := List.drop_eq_nil_of_le (by omega)
                rw [ed1] at q7
                have q7 : Fin acc7 (wipeR ρ7 vs1) ls7 := q7
                have E8 := E7.wipe vs
                have ew : wipe (wipe σ3 vs1) vs = wipe σ vs := (wipe_same (wipe_length _ _) fun i hi => wipe_outS fun q => hi (hvv i q)).trans (wipe_sames sm hv)
                rw [ew] at E8
                exact ⟨Hd7, wipeR ρ7 vs1, ls7, acc7, xs7, E8, sAll.trans s7, ra7, q7⟩
    · refine .inl ⟨ok.stop i H' (by omega) (s.trans E.sub), ?_⟩
      have ed : ds.drop i = [] := List.drop_eq_nil_of_le (by omega)
      rw [ed] at q
      obtain ⟨E8, F⟩ := E1.under_end s no E u
      exact q Hd' H' E8 s Dl xs F ra
  · rw [if_neg no] at q; exact q.elim
variable {elt tg iter tg1 iter1 : Expr} {ifs ifs1 : List Expr} {scope : Scope} {own : List (Str × Nat)} {pos : Pos} {g g1 : TG} {t t1 : D → Rho → Option Rho} {src src1 : M (List D)} {c c1 : M Bool} {e : M D} {is is1 : List Nat}
theorem u_lc2 (hc : X.calm = true) (hN : X.N.Nodup) (hi : PI X tg iter (UI K W src)) (ok : BlkOk X.N X.env.scope scope own) (ht : TgOk K g t is) (hv : ∀ i ∈ is, i ∈ own.map (·.2)) (ht1 : TgOk K g1 t1 is1) (hv1 : ∀ i ∈ is1, i ∈ vs1) (hvv : ∀ i ∈ vs1, i ∈ own.map (·.2))
    (hg : ∀ (s : Shared) (H : Hp) (C : Addr) (cl : List (Str × Addr)) (fp : List Addr), PG (X.blk s H scope (compEnvC scope cl C X.env) fp) tg g) (hts : ∀ (s : Shared) (H : Hp) (C : Addr) (cl : List (Str × Addr)) (fp : List Addr), PTs (X.blk s H scope (compEnvC scope cl C X.env) fp) ifs (UT K W0 c))
    (hi1 : ∀ (s : Shared) (H : Hp) (C : Addr) (cl : List (Str × Addr)) (fp : List Addr), PI (X.blk s H scope (compEnvC scope cl C X.env) fp) tg1 iter1 (UI K W0 src1))
    (hg1 : ∀ (s : Shared) (H : Hp) (C : Addr) (cl : List (Str × Addr)) (fp : List Addr), PG (X.blk s H scope (compEnvC scope cl C X.env) fp) tg1 g1) (hts1 : ∀ (s : Shared) (H : Hp) (C : Addr) (cl : List (Str × Addr)) (fp : List Addr), PTs (X.blk s H scope (compEnvC scope cl C X.env) fp) ifs1 (UT K W0 c1))
    (he : ∀ (s : Shared) (H : Hp) (C : Addr) (cl : List (Str × Addr)) (fp : List Addr), PE (X.blk s H scope (compEnvC scope cl C X.env) fp) elt (UV K W0 e)) (hs : ∀ x, foldedSetIterable iter X.env x = pure x := by intro _; rfl) (hs1 : ∀ env x, foldedSetIterable iter1 env x = pure x := by intro _ _; rfl) :
    PE X (.ListComp elt [⟨tg, iter, ifs, 0⟩, ⟨tg1, iter1, ifs1, 0⟩] scope pos) (UN K W (lc2M src t c src1 t1 c1 e (own.map (·.2)) vs1)) := pe_imp (pe_lc2 hc hN hi ok hvv hg hts hi1 hg1 hts1 he hs hs1) fun _ _ _ q => read_lc2 (fun _ q => q) (fun _ _ _ q => q) ht ht1 hv hv1 hvv q
end
end Pd

set_option Elab.async false
set_option linter.all false
set_option maxRecDepth 100000
set_option maxHeartbeats 4000000
/-! Pd8: equality of data, computed. -/
namespace Pd
open PySem PySem.Spec PyProof.Rows L2

/-- plain data of depth at most n, strings good -/
def dq : Nat → D → Bool
  | _, .non => true
  | _, .bl _ => true
  | _, .int _ => true
  | _, .str x => x.cps.size == x.cps.size && PyData.canLay0 (.str x)
  | 0, _ => false
  | n + 1, .tup l => l.all (dq n)
  | n + 1, .lst l => l.all (dq n)
  | n + 1, .lsk l => l.all (dq n)
  | _, .ref _ => false
  | _, .exn _ => false
  | _, .dct _ _ => false
  | _, .dcf _ _ => false
  | n + 1, .ktp l => l.all (dq n)
theorem dq_facts : ∀ (n : Nat) (d : D), dq n d = true → d.pure = true ∧ PyData.canLay0 d.py = true ∧ PyData.depth d.py ≤ n := by
  intro n
  induction n with
  | zero =>
    intro d h
    cases d with
    | non => exact ⟨rfl, rfl, Nat.le_refl _⟩
    | bl b => exact ⟨rfl, rfl, Nat.le_refl _⟩
    | int i => exact ⟨rfl, rfl, Nat.le_refl _⟩
    | str x => exact ⟨rfl, by unfold dq at h; rw [Bool.and_eq_true] at h; exact h.2, Nat.le_refl _⟩
    | tup l => simp [dq] at h
    | lst l => simp [dq] at h
    | lsk l => simp [dq] at h
    | ref a => simp [dq] at h
    | exn a => simp [dq] at h
    | dct a b => simp [dq] at h
    | dcf a b => simp [dq] at h
    | ktp l => simp [dq] at h
  | succ n ih =>
    intro d h
    have L : ∀ l : List D, l.all (dq n) = true → D.pureL l = true ∧ PyData.canLayAll0 (D.pyL l) = true ∧ PyData.depthAll (D.pyL l) ≤ n := by
      intro l
      induction l with
      | nil => intro _; exact ⟨rfl, rfl, Nat.zero_le _⟩
      | cons x l ihl =>
        intro h
        rw [List.all_cons, Bool.and_eq_true] at h
        obtain ⟨a1, a2, a3⟩ := ih x h.1
        obtain ⟨b1, b2, b3⟩ := ihl h.2
        refine ⟨?_, ?_, ?_⟩
        · show (D.pure x && D.pureL l) = true
          rw [a1, b1]; rfl
        · show (PyData.canLay0 x.py && PyData.canLayAll0 (D.pyL l)) = true
          rw [a2, b2]; rfl
        · show max (PyData.depth x.py) (PyData.depthAll (D.pyL l)) ≤ n
          omega
    cases d with
    | non => exact ⟨rfl, rfl, Nat.zero_le _⟩
    | bl b => exact ⟨rfl, rfl, Nat.zero_le _⟩
    | int i => exact ⟨rfl, rfl, Nat.zero_le _⟩
    | str x => exact ⟨rfl, by unfold dq at h; rw [Bool.and_eq_true] at h; exact h.2, Nat.zero_le _⟩
    | tup l => obtain ⟨a, b, c⟩ := L l (by unfold dq at h; exact h); exact ⟨a, b, Nat.succ_le_succ c⟩
    | lst l => obtain ⟨a, b, c⟩ := L l (by unfold dq at h; exact h); exact ⟨a, b, Nat.succ_le_succ c⟩
    | lsk l => obtain ⟨a, b, c⟩ := L l (by unfold dq at h; exact h); exact ⟨a, b, Nat.succ_le_succ c⟩
    | ref a => simp [dq] at h
    | exn a => simp [dq] at h
    | dct a b => simp [dq] at h
    | dcf a b => simp [dq] at h
    | ktp l => obtain ⟨a, b, c⟩ := L l (by unfold dq at h; exact h); exact ⟨a, b, Nat.succ_le_succ c⟩
theorem okq_dq {d : D} (h : dq 8 d = true) : d.okq = true := by
  obtain ⟨a, b, c⟩ := dq_facts 8 d h
  unfold D.okq SeqAt.shaped
  rw [a, b]
  simp only [Bool.true_and, decide_eq_true_eq]
  omega
/-- rows -/
def zs (l : List Int) : List D := l.map D.int
def row (l : List Int) : D := .tup (zs l)
theorem dq_int {n : Nat} {i : Int} : dq n (.int i) = true := by cases n <;> rfl
theorem dq_ints {n : Nat} {l : List Int} : (zs l).all (dq n) = true := by
  unfold zs
  rw [List.all_map, List.all_eq_true]
  intro i _
  exact dq_int
theorem dq_row {n : Nat} {l : List Int} : dq (n + 1) (row l) = true := dq_ints
theorem dq_rows {n : Nat} {ls : List (List Int)} : (ls.map row).all (dq (n + 1)) = true := by
  rw [List.all_map, List.all_eq_true]
  intro i _
  exact dq_row
theorem okq_row {l : List Int} : (row l).okq = true := okq_dq dq_row
theorem okq_ints {l : List Int} : (D.lst (zs l)).okq = true := okq_dq (show (zs l).all (dq 7) = true from dq_ints)
theorem okq_int {i : Int} : (D.int i).okq = true := okq_dq dq_int
theorem eqL_ints : ∀ (l m : List Int), PyData.eqvAll (D.pyL (zs l)) (D.pyL (zs m)) = decide (l = m)
  | [], [] => rfl
  | [], _ :: _ => rfl
  | _ :: _, [] => rfl
  | a :: l, b :: m => by
    show ((a == b) && PyData.eqvAll (D.pyL (zs l)) (D.pyL (zs m))) = _
    rw [eqL_ints l m]
    by_cases h1 : a = b
    · by_cases h2 : l = m <;> simp [h1, h2]
    · simp [h1]
theorem eqb_row {l m : List Int} : eqb (row l) (row m) = decide (l = m) := eqL_ints l m
theorem eqb_ints {l m : List Int} : eqb (.lst (zs l)) (.lst (zs m)) = decide (l = m) := eqL_ints l m
theorem eqb_int {i j : Int} : eqb (.int i) (.int j) = decide (i = j) := by
  show (i == j) = _
  by_cases h : i = j <;> simp [h]
theorem eqL_rows : ∀ (l m : List (List Int)), PyData.eqvAll (D.pyL (l.map row)) (D.pyL (m.map row)) = decide (l = m)
  | [], [] => rfl
  | [], _ :: _ => rfl
  | _ :: _, [] => rfl
  | a :: l, b :: m => by
    show (eqb (row a) (row b) && PyData.eqvAll (D.pyL (l.map row)) (D.pyL (m.map row))) = _
    rw [eqb_row, eqL_rows l m]
    by_cases h1 : a = b
    · by_cases h2 : l = m <;> simp [h1, h2]
    · simp [h1]
theorem eqD_of {x y : D} (hx : x.okq = true) (hy : y.okq = true) : eqD x y = some (.bl (eqb x y)) := by
  unfold eqD
  rw [hx, hy]; rfl
theorem neD_of {x y : D} (hx : x.okq = true) (hy : y.okq = true) : neD x y = some (.bl (!eqb x y)) := by
  unfold neD
  rw [hx, hy]; rfl
end Pd

set_option Elab.async false
set_option linter.all false
set_option maxRecDepth 100000
set_option maxHeartbeats 4000000
/-! Pd9: what is known of a def that others call. -/
namespace Pd
open PySem PySem.Spec PyProof.Rows L2
/-- the def x keeps its promise F at every level from k on -/
def Has (P : Program) (w : World) (K : PySem.W.Frag) (mg : Str → Option Value) (base : Heap) (x : Str) (ps : List Str) (k n : Nat) (F : FS) : Prop :=
  ∃ f fd, mg x = some (.ref f) ∧ PySem.W.keepIn K (.ref f) = true ∧ L2.Binds K fd ps [] ∧ FnOk P w K mg base (L2.CX P w) k f fd ps (spD K n F)
section
variable {X : Cx} {W : WX} {ga : M (List D)} {e : Expr} {es : List Expr} {pos pp : Pos}
theorem u_callH {k k2 : Nat} {ps : List Str} {x : Str} {n : Nat} {F : FS} (G : Has X.prog X.w X.K X.mg X.base x ps k n F) (hr : Room k2 X.A) (tk : Takes X W) (ha : PA X (e :: es) (UA X.K W ga)) (hk : k ≤ k2 := by decide) (hg : Gl X x := by rfl) (hdb : (x == ("__debug__" : Str)) = false := by decide) (he : starEach (e :: es) X.env = (false, eval e X.env) :: starEach es X.env := by rfl) (hpl : (backTo pos (starEach es X.env)).any (·.1) = false := by rfl) :
    PE X (.Call (.Name x pp) (e :: es) [] pos) (UV X.K W (callM n F ga)) := by
  obtain ⟨f, fd, h1, h2, h3, h4⟩ := G
  exact u_call h4 (hr.mono hk) h1 h2 h3 tk ha hg hdb he hpl
theorem u_callHN {k k2 : Nat} {ps : List Str} {x : Str} {n : Nat} {F : FS} (G : Has X.prog X.w X.K X.mg X.base x ps k n F) (hr : Room k2 X.A) (tk : Takes X W) (ha : PA X (e :: es) (UA X.K W ga)) (hk : k ≤ k2 := by decide) (hg : Gl X x := by rfl) (hdb : (x == ("__debug__" : Str)) = false := by decide) (he : starEach (e :: es) X.env = (false, eval e X.env) :: starEach es X.env := by rfl) (hpl : (backTo pos (starEach es X.env)).any (·.1) = false := by rfl) :
    PE X (.Call (.Name x pp) (e :: es) [] pos) (UN X.K W (callN n F ga)) := by
  obtain ⟨f, fd, h1, h2, h3, h4⟩ := G
  exact pe_imp (pe_callS h4 (hr.mono hk) hg h1 h2 h3 (fun σ => passAt tk σ) ha hdb he hpl) fun σ H Q h => read_callN (fun _ q => q) h
end
end Pd

set_option Elab.async false
set_option linter.all false
set_option maxRecDepth 100000
set_option maxHeartbeats 4000000
/-! Pd10: errors raised, caught, kept, asked for their class. -/
namespace Pd
open PySem PySem.Spec PyProof.Rows L2

/-! ### raise -/
def rsP (C : Addr) : PM := fun _ ls => .rs ⟨C, none⟩ ls
/-- what is known of an own class of errors -/
structure ECl (K : PySem.W.Frag) (mg : Str → Option Value) (x : Str) (C : Addr) : Prop where
  gC : mg x = some (.ref C)
  kC : PySem.W.keepIn K (.ref C) = true
  xC : PySem.W.excIn K C [.type "ValueError", .type "Exception", .type "BaseException", .type "object"] "ValueError.__new__" = true
  bC : PySem.W.subIn K (.ref C) (.type "BaseException") = some true
  tC : PySem.W.typeIn K (.ref C) = some (.type "type")
section
variable {X : Cx} {K : PySem.W.Frag} {W : WX} {w : Wd} {B D0 Hd H : Hp} {σ : L2.St} {ρ : Rho} {ls : LS} {pos pos2 p p2 : Pos}
theorem us_raise {C : Addr} {x m : Str} {j : Nat} (h : ECl X.K X.mg x C) (hc : X.calm = true) (tk : Takes X W) (hg : Gl X x := by rfl) (hdb : (x == ("__debug__" : Str)) = false := by decide) :
    PS X (.Raise (some (.Call (.Name x p) [.Constant (.str m) j p2] [] pos)) none pos2) (US X.K W (rsP C)) := ps_imp (ps_raise hc tk (pmk_own PySem.F.excBase_ValueError h.xC h.gC h.kC (raises_own h.bC h.tC) hg hdb)) fun De σ H h => by
  obtain ⟨w, B, D0, Hd, ρ, ls, E, q⟩ := h
  exact q H (.ref C) none σ ⟨E.base, E.st, rfl, fun _ => rfl, fun n i z => by cases z⟩

/-! ### a caught error is kept -/
theorem exi_ok {P : Program} {wo : World} {H : Hp} {h : Heap} {a C : Addr} {oe : Obj} {vs : Array Value} (e : h.get? a = some oe) (z : Zc (.ref C) none oe) (d : oe.data = .fields vs) : ObjOk P wo H h a (ExI C a) :=
  ⟨⟨oe, vs, e, z, d⟩, ⟨oe, e⟩, fun _ _ ⟨o, v, q, r⟩ k => ⟨o, v, k o q, r⟩⟩
/-- what the clause wishes: the error at a, of the class C, is held by name j when the clause is done -/
def wKeep (K : PySem.W.Frag) (c : Value) (i j m : Nat) (De : Ends) : WX := fun cls d σ H =>
  ∃ C : Addr, cls = .ref C ∧ d = none ∧ PySem.W.exmOne K cls c = some true ∧ (σ.length = m → ∀ a, H a = none → De.nx (((σ.set i (some (.ref a))).set j (some (.ref a))).set i none) (upd H a (ExI C a)))
def onCatch (X : Cx) (hs : List ExceptHandler) (P : Flow → Shared → Prop) : Value → Shared → Prop := fun u t =>
  wpAny (model X.prog X.w) X.A (noteFrame u X.env) (fun _ t2 => wpAny (model X.prog X.w) X.A (setFlight u none) (fun _ t3 => wpAny (model X.prog X.w) X.A (handleBy u X.env hs) P X.xe t3) X.xe t2) X.xe t
theorem Inv.inSuite {pins : List (Addr × Obj)} {s : Shared} (I : Inv X pins σ H s) (a : Addr) : Inv (X.suite a (X.pn ++ pins)) [] σ H s :=
  ⟨I.ok.suite _ _, I.os, I.bare, I.base, I.loc, I.cell, I.free, I.freeC, fun q hq => I.pin q (by simpa using hq), I.hok, I.len⟩
theorem Inv.outSuite {pins : List (Addr × Obj)} {s : Shared} {a : Addr} (I : Inv (X.suite a (X.pn ++ pins)) [] σ H s) (ok : X.Ok) : Inv X pins σ H s :=
  ⟨ok, I.os, I.bare, I.base, I.loc, I.cell, I.free, I.freeC, fun q hq => I.pin q (by simpa using hq), I.hok, I.len⟩
/-- the error that has landed is a thing of ours -/
theorem Inv.keepErr {pins : List (Addr × Obj)} {t sI : Shared} {a C : Addr} {oe : Obj} {vs : Array Value} {G0 : Heap} (J : Inv X pins σ H sI) (gr : ∀ b o, sI.heap.get? b = some o → b ∉ frs X.stack → G0.get? b = some o) (st : G0.StaysIn t.heap) (g0 : G0.get? a = none) (nfr : a ∉ frs X.stack)
    (up : sI.heap.UpToSlots t.heap) (os : t.os = sI.os) (ag : AllBare t.gens) (na : H a = none) (ea : t.heap.get? a = some oe) (z : Zc (.ref C) none oe) (dd : oe.data = .fields vs) : Inv X pins σ (upd H a (ExI C a)) t := by
  obtain ⟨G, g1, g2⟩ := restrict t.heap fun b => decide (b ≠ a)
  have gk : ∀ b, b ≠ a → G.get? b = t.heap.get? b := fun b hb => g1 b (decide_eq_true hb)
  have ga : G.get? a = none := g2 a (by simp)
  have nI : ∀ b o, sI.heap.get? b = some o → b ≠ a := fun b o e q => by
    subst q
    rw [gr _ _ e nfr] at g0
    cases g0
  obtain ⟨hp, gg, dr, tk, oz⟩ := t
  have J2 : Inv X pins σ H ⟨G, gg, dr, tk, oz⟩ := J.landed (s' := ⟨G, gg, dr, tk, oz⟩) gr (fun b o e => by
    have hb : b ≠ a := fun q => by rw [q, g0] at e; cases e
    exact (gk b hb).trans (st b o e)) (fun b o e nf => by
    obtain ⟨sl, q⟩ := up b o e nf
    exact ⟨sl, (gk b (nI b o e)).trans q⟩) os ag
  refine J2.laidN (t' := tk) (h' := hp) (fun b o e => ?_) ga na (exi_ok ea z dd)
  have hb : b ≠ a := fun q => by
    have e : G.get? b = some o := e
    rw [q, ga] at e; cases e
  exact (gk b hb).symm.trans e
theorem ps_keep {x n y : Str} {c : Value} {i j : Nat} {body : List Stmt} {np pa pb pc pd : Pos} {tb : WX → TS} (hs : X.stack = X.env :: X.outer) (hf : X.env.frame = some X.env.locals) (hN : X.N.Nodup) (hi : X.N[i]? = some n) (hj : X.N[j]? = some y) (hln : X.env.kindOf n = some .local) (hly : X.env.kindOf y = some .local) (hc : Names X x c) (hnd : (n == ("__debug__" : Str)) = false) (hnc : (n == ("__classdict__" : Str)) = false)
    (hsw : ∀ a pn, swapsWith (.Name n pb) (some (.Name y pa)) pc.line (X.suite a pn).env = pure false)
    (tk : Takes X (fun _ _ _ _ => False)) (hb : ∀ (W : WX) (pn : List (Addr × Obj)) (xe : Value → Shared → Prop), Takes (X.tr pn xe) W → PassesOwn (model X.prog X.w) X.A X.env xe → PSs (X.tr pn xe) body (tb W)) (hil : i < X.N.length) :
    PS X (.Try body [.ExceptHandler (some (.Name x np)) (some n) [.Assign [.Name y pa] (.Name n pb) pc] pd] [] [] pos) (fun De σ H => tb (wKeep X.K c i j X.N.length De) De σ H) := by
  refine ⟨fun pins s σ H De I h => wpAny_Try_except ?_⟩
  have ok := I.ok
  have hfr : X.A.frames = some (X.env :: X.outer) := ok.frames.trans (by rw [hs])
  refine wpAny_mono ((hb (wKeep X.K c i j X.N.length De) (X.pn ++ pins) (onCatch X [.ExceptHandler (some (.Name x np)) (some n) [.Assign [.Name y pa] (.Name n pb) pc] pd] (SP X pins De)) (fun u t xx => ?_) PassesOwn.looking).run [] s σ H De (I.toTry _) h) (fun f t q => ?_) fun _ _ z => z
  · obtain ⟨a, G0, sI, ps2, σ1, H1, cls, d, rfl, J1, gr, up, sky, na, os, ag, C, rfl, rfl, hm, hy⟩ := xx
    have J : Inv X pins σ1 H1 sI := J1.ofTry ok
    unfold onCatch
    refine Sky.land Zc.steady hfr hf (by rw [← hs]; exact sky) fun h3 fl up3 => ?_
    obtain ⟨oe3, vs3, e3, z3, d3⟩ := fl.there
    have nfr : ∀ {h : Heap} {o : Obj} {vs : Array Value}, h.FunFrames G0 (X.env :: X.outer) → h.get? a = some o → o.data = .fields vs → a ∉ frs X.stack := fun {h o vs} ff e dd hm => by
      rw [hs] at hm
      obtain ⟨_, o', e', hnf⟩ := ff.mem hm
      cases e.symm.trans e'
      exact hnf _ dd
    have n3 := nfr fl.2.2.1 e3 d3
    have K3 : Inv X pins σ1 (upd H1 a (ExI C a)) { t with heap := h3 } := Inv.keepErr J gr fl.1 fl.2.1 n3 (up.trans up3) os ag na e3 z3 d3
    have S3 := Inv.inSuite K3 a
    refine wpAny_handleBy_cons (codeAny_handlers_test ?_) (by intro q; cases q)
    have LT : PySem.W.Looks (model X.prog X.w) h3 (typeOf (.ref a)) (.ref C) := fun A Q E s k q => wpAny_typeOf_ref (k _ _ e3) (by rw [z3.1]; exact q)
    have LM := PySem.W.exm_one (M := model X.prog X.w) K3.kIn LT hm
    have test : ∀ {Q : Value → Shared → Prop} {E : Value → Shared → Prop}, Q c { t with heap := h3 } → wpAny (model X.prog X.w) (X.A.mark (some (.ref a))) (eval (.Name x np) X.env) Q E { t with heap := h3 } := fun {Q E} q => by
      obtain ⟨hg, hdbg, hm | ⟨hm, hv, hnn⟩⟩ := hc
      · exact ld_glob (X := X.suite a (X.pn ++ pins)) S3 hg hm q hdbg
      · exact ld_blt (X := X.suite a (X.pn ++ pins)) S3 hg hm hv q hnn hdbg
    refine test (LM.here (codeAny_handlers_suite_as (HandSPX.lands_againZ fl fun h4 fl4 up4 => ?_)))
    obtain ⟨oe4, vs4, e4, z4, d4⟩ := fl4.there
    have K4 : Inv X pins σ1 (upd H1 a (ExI C a)) { t with heap := h4 } := Inv.keepErr J gr fl4.1 fl4.2.1 n3 ((up.trans up3).trans up4) os ag na e4 z4 d4
    have S4 := Inv.inSuite K4 a
    refine store_ok (X := X.suite a (X.pn ++ pins)) (v := .ref a) S4 hN hi (.inl hln) rfl (fun s5 S5 => ?_) (.inr hln)
    have hset : PS (X.suite a (X.pn ++ pins)) (.Assign [.Name y pa] (.Name n pb) pc) (tAsg (tVar i) (gName j)) := ps_set hN hj (.inl hly) (pe_var hi (.inl hln) hnd hnc) (hsw a _) (.inr hly)
    refine wpAny_mono ((pss_one hset).run [] s5 _ (upd H1 a (ExI C a)) { nx := fun σ2 H2 => De.nx (σ2.set i none) H2, rt := De.rt, bk := fun σ2 H2 => De.bk (σ2.set i none) H2, ct := fun σ2 H2 => De.ct (σ2.set i none) H2 } S5 ⟨.ref a, List.getElem?_set_self (by rw [J.len]; exact hil), hy J.len a na⟩) (fun f s6 q6 => ?_) fun _ _ z => z.elim
    cases f with
    | next =>
      obtain ⟨σ6, H6, S6, q6⟩ := q6
      exact gone_ok (Inv.outSuite S6 ok) hN hi hln fun s7 J7 => ⟨_, _, J7, q6⟩
    | brk =>
      obtain ⟨σ6, H6, S6, q6⟩ := q6
      exact gone_ok (Inv.outSuite S6 ok) hN hi hln fun s7 J7 => ⟨_, _, J7, q6⟩
    | cont =>
      obtain ⟨σ6, H6, S6, q6⟩ := q6
      exact gone_ok (Inv.outSuite S6 ok) hN hi hln fun s7 J7 => ⟨_, _, J7, q6⟩
    | ret u =>
      obtain ⟨v6, σ6, H6, S6, r6, q6⟩ := q6
      exact gone_ok (Inv.outSuite S6 ok) hN hi hln fun s7 J7 => ⟨_, _, _, J7, r6, q6⟩
  · cases f with
    | next =>
      obtain ⟨σ1, H1, J1, q⟩ := q
      exact wpAny_execs_nil ⟨_, _, Inv.ofTry J1 ok, q⟩
    | brk =>
      obtain ⟨σ1, H1, J1, q⟩ := q
      exact ⟨_, _, Inv.ofTry J1 ok, q⟩
    | cont =>
      obtain ⟨σ1, H1, J1, q⟩ := q
      exact ⟨_, _, Inv.ofTry J1 ok, q⟩
    | ret u =>
      obtain ⟨v1, σ1, H1, J1, r, q⟩ := q
      exact ⟨_, _, _, Inv.ofTry J1 ok, r, q⟩
end
end Pd
namespace Pd
open PySem PySem.Spec PyProof.Rows L2
/-! ### x(lambda: body), x the def that hands a caught error back -/
def TTc (K : PySem.W.Frag) (CS : Addr) : (XK → Hp → VK → Prop) → Hp → VK → Prop := fun tl H Q =>
  tl (fun cls d H' => ∃ C : Addr, cls = .ref C ∧ d = none ∧ PySem.W.exmOne K cls (.ref CS) = some true ∧ ∀ a, H' a = none → Q (.ref a) (upd H' a (ExI C a))) H (fun _ H' => Q .non H')
end Pd

namespace Pd
open PySem PySem.Spec PyProof.Rows L2
section
variable {X : Cx} {K : PySem.W.Frag} {W : WX} {w : Wd} {B D0 Hd H : Hp} {σ : L2.St} {ρ : Rho} {ls : LS}
/-- own lists out of sight -/
def hideS : Sl → Sl
  | .ow _ => .un
  | s => s
def hide (ρ : Rho) : Rho := ρ.map hideS
theorem hide_get {i : Nat} {s : Sl} (h : (hide ρ)[i]? = some s) (n : s ≠ .un) : ρ[i]? = some s := by
  unfold hide at h
  rw [List.getElem?_map] at h
  cases e : ρ[i]? with
  | none => rw [e] at h; cases h
  | some t =>
    rw [e] at h
    cases t with
    | ow l => cases h; exact absurd rfl n
    | dat d => exact h
    | un => exact h
/-- the same heap as a new entry -/
theorem EOk.hide (E : EOk K w B D0 Hd H σ ρ ls) : EOk K w H Hd Hd H σ (hide ρ) ls := by
  have noOwn : ∀ (i : Nat) (l : Ow), (Pd.hide ρ)[i]? ≠ some (.ow l) := fun i l e => by
    have := hide_get e (by intro h; cases h)
    unfold Pd.hide at e
    rw [List.getElem?_map, this] at e
    cases e
  refine ⟨fun b o e _ _ => e, fun b e => .of e, E.sub, Sub.refl _, E.noz, E.nt, fun b o e => .inl e, E.st, by unfold Pd.hide; rw [List.length_map]; exact E.len, fun i d e => E.dat i d (hide_get e (by intro h; cases h)), fun i l e => absurd e (noOwn i l), fun i j p l l' ne e _ => absurd e (noOwn i l)⟩
/-- all but the tables may change -/
theorem EOk.extN {H1 : Hp} (E : EOk K w B D0 Hd H σ ρ ls) (x : LamX.ExtN H H1) (t : LamX.Tabs ls.tb H1) : EOk K w B D0 Hd H1 σ ρ ls := by
  have kz : ∀ {b o}, H b = some o → NT o → H1 b = some o := fun e n => x _ _ e n
  refine ⟨fun b o e z n => kz (E.base b o e z n) n, fun b e o e2 n => ?_, fun b o e => kz (E.sub b o e) (E.nt b o e), E.sub0, E.noz, E.nt, E.fr, ⟨E.st.hs, kz E.st.ha (fun _ h => nomatch h), kz E.st.hg (fun _ h => nomatch h), kz E.st.hc (fun _ h => nomatch h), E.st.hcg, t⟩, E.len, E.dat, fun i ds e => ?_, E.apa⟩
  · by_cases z : w.Z b
    · obtain ⟨u, hu⟩ := E.st.inH z
      have hn : NT u := by
        rcases z with rfl | rfl | rfl
        · rw [E.st.ha] at hu; cases hu; exact fun _ h => nomatch h
        · rw [E.st.hg] at hu; cases hu; exact fun _ h => nomatch h
        · rw [E.st.hc] at hu; cases hu; exact fun _ h => nomatch h
      rw [kz hu hn] at e; cases e
    · rw [kz (E.base b o e2 z n) n] at e; cases e
  · obtain ⟨p, xs, h1, h2, h3, h4, h5, h6⟩ := E.ow i ds e
    exact ⟨p, xs, h1, kz h2 h3.nt, h3, h4, h5, h6⟩
/-- the lambda's body run by the one that hands a caught error back -/
def caughtM (T : List (Addr × Str)) (cs : List Addr) (f : M D) : M D := fun ρ ls => if ls.tb = T then match f (hide ρ) ls with
  | .ok _ _ ls' => .ok .non ρ ls'
  | .rs x ls' => if x.fld = none ∧ x.cls ∈ cs then .ok (.exn x.cls) ρ ls' else .no
  | .no => .no
  else .no
theorem read_caught {T : List (Addr × Str)} {cs : List Addr} {f : M D} {CS : Addr} {t : XK → TE} (hcs : ∀ C ∈ cs, PySem.W.exmOne K (.ref C) (.ref CS) = some true) (ht : ∀ E σ H Q, UV K (fun cls d _ H => E cls d H) f σ H Q → t E σ H Q) {Q : VK} (h : UV K W (caughtM T cs f) σ H Q) :
    LamX.tLam T (TTc K CS) t σ H Q := by
  obtain ⟨w, B, D0, Hd, ρ, ls, E, q⟩ := h
  unfold caughtM at q
  by_cases hT : ls.tb = T
  · rw [if_pos hT] at q
    refine ⟨hT ▸ E.st.tabs, fun H1 x t1 => ?_⟩
    have E1 := E.extN x (hT ▸ t1)
    refine ht _ _ _ _ ⟨w, H1, Hd, Hd, _, ls, E1.hide, ?_⟩
    cases e : f (hide ρ) ls with
    | no => rw [e] at q; exact q.elim
    | ok d ρ2 ls' =>
      rw [e] at q
      refine fun Hd' H' E2 s2 v rv => ?_
      have P : Post K w Hd H1 Hd' H' ls' := ⟨E2.base, E2.dom, s2, E2.sub, E2.fr, E2.noz, E2.nt, E2.st⟩
      exact q Hd' H' (P.eok E1) s2 .non .non
    | rs y ls' =>
      rw [e] at q
      have q : Go K W w B D0 σ Hd (if y.fld = none ∧ y.cls ∈ cs then .ok (.exn y.cls) ρ ls' else .no) fun Hd' H' _ _ d => ∀ v, Rp K Hd' v d → Q v H' := q
      by_cases hy : y.fld = none ∧ y.cls ∈ cs
      · rw [if_pos hy] at q
        intro H' cls dd xo
        refine ⟨y.cls, xo.cls, xo.non hy.1, by rw [xo.cls]; exact hcs _ hy.2, fun a ha => ?_⟩
        have P : Post K w Hd H1 Hd H' ls' := by
          refine ⟨xo.base, fun b e o e2 n => ?_, Sub.refl _, fun b o e => xo.base b o (E1.sub b o e) (fun z => by rw [E1.noz b z] at e; cases e) (E1.nt b o e), fun b o e => .inl e, E1.noz, E1.nt, xo.st⟩
          by_cases z : w.Z b
          · obtain ⟨u, hu⟩ := xo.st.inH z
            rw [hu] at e; cases e
          · rw [xo.base b o e2 z n] at e; cases e
        have E2 := (P.eok E1).newDat (o := ExI y.cls a) ha (fun _ h => nomatch h)
        exact q _ _ E2 (.upd ((P.eok E1).nd_new ha)) _ (.exn upd_same)
      · rw [if_neg hy] at q; exact q.elim
  · rw [if_neg hT] at q; exact q.elim
/-- a def whose code object is known -/
theorem fn_okC {P : Program} {wo : World} {mg : Str → Option Value} {base : Heap} {x : Str} {st : Stmt} {fa : Addr} {N ps : List Str} {k n : Nat} {F : FS} {p : PM} {c : Addr} {oc kV doc pm ct : Value} {od an : Option Addr} {osl : Array (Option Value)}
    (lk : K.lookup fa = some ⟨oc, od, .func (PySem.W.fnOf x x (defArgs st) (defBody st) (defScope st) .none kV doc pm an (.ref c) ct), osl⟩) (hcd : PySem.W.codeIn K (.ref c) x = true) (S : FnScope N ps (defScope st)) (hn : ps.length = n)
    (body : ∀ (A : Around) (outer : List Env) (s : Shared) (H : Hp) (E : XK), Room k (A.deeper (envOfC x (defScope st) s.heap.objs.size fa (.ref c))) → PSs (cxOf (L2.CX P wo) P wo K mg base N x (defScope st) fa (.ref c) A outer s H E) (defBody st) (US K (fun cls d _ H => E cls d H) p))
    (hd : Does N.length n p F) : FnOk P wo K mg base (L2.CX P wo) (k + 1) fa (PySem.W.fnOf x x (defArgs st) (defBody st) (defScope st) .none kV doc pm an (.ref c) ct) ps (spD K n F) := by
  refine fn_of lk hcd S (fun vs H Q E h => ?_) fun A outer s H vs Q E hr h => ⟨_, body A outer s H E hr, fn_does (ps := ps) hd h⟩
  obtain ⟨w, Hd, ds, ls, _, _, _, _, r, h2, _⟩ := h
  rw [r.length, h2, hn]

/-! ### isinstance of a kept error -/
def isiE (tb : List (Addr × Bool)) : D → Option D
  | .exn c => (tb.lookup c).map .bl
  | _ => none
def rIsT (K : PySem.W.Frag) (C' : Addr) : List V → Hp → VK → Prop := fun xs H Q => ∃ (a C : Addr) (b : Bool), xs = [.ref a, .ref C'] ∧ H a = some (ExI C a) ∧ ExcC K C ∧ PySem.W.kitOne K (.ref C) (.ref C') = some b ∧ Q (.bl b) H
theorem call_isT {C' : Addr} : CallR X (.builtin "isinstance") (rIsT X.K C') := by
  intro pins s σ H xs us Q I r h
  obtain ⟨a, C, b, rfl, ha, ec, e, q⟩ := h
  obtain ⟨⟨oe, vs, hget, hz, hv⟩, _, _⟩ := I.hok a _ ha
  cases r with
  | cons rx rr =>
    cases rr with
    | cons rt rr =>
      cases rr
      cases rx
      cases rt
      have J : PySem.W.InstAt s.heap a oe C none := by
        obtain ⟨oc, od, oda, osl⟩ := oe
        obtain ⟨h1, h2⟩ := hz
        dsimp only at h1 h2 hv
        subst h1 h2 hv
        exact ⟨hget, rfl, rfl, trivial⟩
      refine PySem.W.kia_one (PySem.W.handS_kitx_exc ec.hg ec.hk ec.hs ec.hd ec.ha ec.hn ec.ht ec.hm) I.kIn J e (fun z => nomatch z) fun tk => ?_
      exact ⟨.bl b, H, I.kept (t' := tk) fun _ _ z => z, rfl, q⟩
theorem lookup_mem {c : Addr} {b : Bool} : ∀ {tb : List (Addr × Bool)}, tb.lookup c = some b → (c, b) ∈ tb
  | [], h => nomatch h
  | (x, y) :: r, h => by
    rw [List.lookup_cons] at h
    by_cases e : c = x
    · subst e
      simp at h
      subst h
      exact List.mem_cons_self
    · have e2 : (c == x) = false := by simpa using e
      rw [e2] at h
      exact List.mem_cons_of_mem _ (lookup_mem h)
theorem one_isE {tb : List (Addr × Bool)} {C' : Addr} (h : ∀ p ∈ tb, ExcC K p.1 ∧ PySem.W.kitOne K (.ref p.1) (.ref C') = some p.2) : One K (fun v H Q => rIsT K C' [v, .ref C'] H Q) (isiE tb) := by
  refine ⟨?_⟩
  intro w B D0 Hd H σ ρ ls v x z E hx e Q q
  cases x with
  | exn c =>
    cases (show Rp K Hd v (.exn c) from hx) with
    | exn ha =>
      have e : (tb.lookup c).map D.bl = some z := e
      cases e1 : tb.lookup c with
      | none => rw [e1] at e; cases e
      | some b =>
        rw [e1] at e
        cases e
        have m : (c, b) ∈ tb := lookup_mem e1
        obtain ⟨h1, h2⟩ := h _ m
        exact ⟨_, c, b, rfl, E.sub _ _ ha, h1, h2, q _ Hd H E (Sub.refl _) (.bl b)⟩
  | _ => exact noneE e
theorem u_isE {a : Expr} {f : M Rf} {tb : List (Addr × Bool)} {C' : Addr} {x : Str} {p p2 pos : Pos} (h : ∀ p ∈ tb, ExcC X.K p.1 ∧ PySem.W.kitOne X.K (.ref p.1) (.ref C') = some p.2) (hm : X.mg "isinstance" = none) (ha : PE X a (U X.K W f)) (hx : X.mg x = some (.ref C')) (hgx : Gl X x := by rfl) (hdx : (x == ("__debug__" : Str)) = false := by decide) (hg : Gl X "isinstance" := by rfl)
    (he : starEach [a, .Name x p2] X.env = (false, eval a X.env) :: starEach [.Name x p2] X.env := by rfl) (he2 : starEach [.Name x p2] X.env = (false, eval (.Name x p2) X.env) :: starEach [] X.env := by rfl) (hpl : (backTo pos (starEach [.Name x p2] X.env)).any (·.1) = false := by rfl) :
    PE X (.Call (.Name "isinstance" p) [a, .Name x p2] [] pos) (UV X.K W (uno (isiE tb) f)) :=
  pe_imp (pe_callB call_isT hg hm (by decide +kernel) (pa_cons ha (pa_cons (pe_glob (v := .ref C') hgx hx rfl hdx) pa_nil he2) he) (by decide) (by decide) he hpl) fun σ H Q q => read_uno (one_isE h) q
end
end Pd

set_option Elab.async false
set_option linter.all false
set_option maxRecDepth 100000
set_option maxHeartbeats 4000000
/-! Pd11: calls with keywords, t.count, t.index. -/
namespace Pd
open PySem PySem.Spec PyProof.Rows L2

/-! ### f(e, .., k = v, ..) -/
def ordL {α : Type} (o : List Nat) (l : List α) : List α := o.filterMap fun i => l[i]?
structure KBo (K : PySem.W.Frag) (fd : FuncData) (ps : List Str) (np : Nat) (ks : List Str) (o : List Nat) : Prop where
  to : ∀ (s : Shared) (us ws : List Value), us.length = np → ws.length = ks.length → BindsTo s fd ⟨us, ks.zip ws⟩ (ps.zip (ordL o (us ++ ws)))
def HasK (P : Program) (w : World) (K : PySem.W.Frag) (mg : Str → Option Value) (base : Heap) (x : Str) (ps : List Str) (k n : Nat) (F : FS) (np : Nat) (ks : List Str) (o : List Nat) : Prop :=
  ∃ f fd, mg x = some (.ref f) ∧ PySem.W.keepIn K (.ref f) = true ∧ KBo K fd ps np ks o ∧ FnOk P w K mg base (L2.CX P w) k f fd ps (spD K n F)
theorem vals_append : ∀ {vs zs : List V} {us ws : List Value}, Vals vs us → Vals zs ws → Vals (vs ++ zs) (us ++ ws)
  | _, _, _, _, .nil, h => h
  | _, _, _, _, .cons a r, h => .cons a (vals_append r h)
theorem vals_get : ∀ {vs : List V} {us : List Value} (i : Nat), Vals vs us → (vs[i]? = none ∧ us[i]? = none) ∨ ∃ v u, vs[i]? = some v ∧ us[i]? = some u ∧ RelV v u
  | _, _, i, .nil => .inl ⟨by simp, by simp⟩
  | v :: _, u :: _, 0, .cons a r => .inr ⟨v, u, by simp, by simp, a⟩
  | _, _, i + 1, .cons a r => by simpa using vals_get i r
theorem vals_ord {vs : List V} {us : List Value} (r : Vals vs us) : ∀ o : List Nat, Vals (ordL o vs) (ordL o us)
  | [] => .nil
  | i :: o => by
    unfold ordL
    rcases vals_get i r with ⟨h1, h2⟩ | ⟨v, u, h1, h2, h3⟩
    · rw [List.filterMap_cons_none h1, List.filterMap_cons_none h2]
      exact vals_ord r o
    · rw [List.filterMap_cons_some h1, List.filterMap_cons_some h2]
      exact .cons h3 (vals_ord r o)
section
variable {X : Cx} {K : PySem.W.Frag} {W : WX} {w : Wd} {B D0 Hd H : Hp} {σ : L2.St} {ρ : Rho} {ls : LS} {ga gk : M (List D)} {e : Expr} {es : List Expr} {kws : List Keyword} {pos pp : Pos}
theorem rpl_ord {vs : List V} {ds : List D} (r : RpL K H vs ds) : ∀ o : List Nat, RpL K H (ordL o vs) (ordL o ds)
  | [] => .nil
  | i :: o => by
    unfold ordL
    cases h : ds[i]? with
    | none =>
      have h1 : vs[i]? = none := List.getElem?_eq_none (by rw [r.length]; exact List.getElem?_eq_none_iff.mp h)
      rw [List.filterMap_cons_none h1, List.filterMap_cons_none h]
      exact rpl_ord r o
    | some d =>
      obtain ⟨v, h1, h2⟩ := r.get h
      rw [List.filterMap_cons_some h1, List.filterMap_cons_some h]
      exact .cons h2 (rpl_ord r o)
def keyM (n : Nat) (F : FS) (np nk : Nat) (o : List Nat) (ga gk : M (List D)) : M D := bnd ga fun ds => bnd gk fun es ρ ls => if ds.length = np ∧ es.length = nk ∧ (ordL o (ds ++ es)).length = n then callF (F (ordL o (ds ++ es)) ls) ρ ls else .no
def tCallKS (sp : Sp) (np nk : Nat) (o : List Nat) (E : L2.St → XK) (t tk : TA) : TE := fun σ H Q => t σ H fun vs H1 => tk σ H1 fun zs H2 => vs.length = np ∧ zs.length = nk ∧ sp (ordL o (vs ++ zs)) H2 Q (E σ)
theorem run_key {k : Nat} {f : Addr} {fd : FuncData} {ps ks : List Str} {np : Nat} {o : List Nat} {sp : Sp} {E : L2.St → XK} {pins : List (Addr × Obj)} {s : Shared} {Q : VK} {us ws : List Value} {vs zs : List V} (F : FnOk X.prog X.w X.K X.mg X.base (L2.CX X.prog X.w) k f fd ps sp) (hr : Room k X.A) (hb : KBo X.K fd ps np ks o) (hx : PassesAt (L2.CX X.prog X.w) X σ (E σ))
    (I : Inv X pins σ H s) (r : Vals vs us) (rz : Vals zs ws) (l1 : vs.length = np) (l2 : zs.length = ks.length) (h : sp (ordL o (vs ++ zs)) H Q (E σ)) : wpAny (model X.prog X.w) X.A (call (.ref f) us (ks.zip ws)) (EP X pins σ Q) X.xe s := by
  refine wpAny_call (codeAny_mono (F.run X.A X.stack s H ⟨us, ks.zip ws⟩ (ordL o (us ++ ws)) (ordL o (vs ++ zs)) Q (E σ) hr I.env0 (hb.to s us ws (r.length.symm.trans l1) (rz.length.symm.trans l2)) (vals_ord (vals_append r rz) o) h) fun out s' hq => ?_)
  cases out with
  | error e => exact hx pins H s e s' I hq
  | ok fl =>
    cases fl with
    | ret u => exact I.after hq
    | next => exact hq.elim
    | brk => exact hq.elim
    | cont => exact hq.elim
theorem pe_keys {k : Nat} {f : Addr} {fd : FuncData} {ps ks : List Str} {np : Nat} {o : List Nat} {sp : Sp} {E : L2.St → XK} {x : Str} {t tk : TA} (F : FnOk X.prog X.w X.K X.mg X.base (L2.CX X.prog X.w) k f fd ps sp) (hr : Room k X.A) (hg : Gl X x) (hm : X.mg x = some (.ref f)) (hk : PySem.W.keepIn X.K (.ref f) = true) (hb : KBo X.K fd ps np ks o) (hx : ∀ σ, PassesAt (L2.CX X.prog X.w) X σ (E σ))
    (ha : PA X (e :: es) t) (hkw : PK X kws tk) (hall : (backToKw pos (keywordEach kws X.env)).all (·.1.isSome) = true) (hks : (backToKw pos (keywordEach kws X.env)).filterMap (·.1) = ks)
    (hdb : (x == ("__debug__" : Str)) = false) (he : starEach (e :: es) X.env = (false, eval e X.env) :: starEach es X.env) (hpl : ((backTo pos (starEach (e :: es) X.env)).any (·.1) || (backToKw pos (keywordEach kws X.env)).any (·.1.isNone)) = false) :
    PE X (.Call (.Name x pp) (e :: es) kws pos) (tCallKS sp np ks.length o E t tk) := ⟨fun pins s σ H Q I h => by
  refine wpAny_Call_Name_kw (ld_glob I hg hm ?_ hdb)
  refine PySem.W.callWith_KW (h₀ := X.base) I.ok.mod.kin hk hall (thn (ha.run pos pins s σ H _ I h) fun us s1 q => ?_) hpl he
  obtain ⟨vs, H1, I1, r, q⟩ := q
  refine thn (hkw.run pos pins s1 σ H1 _ I1 q) fun ws s2 q2 => ?_
  obtain ⟨zs, H2, I2, rz, l1, l2, q2⟩ := q2
  refine ⟨I2.kIn, ?_⟩
  rw [hks]
  exact run_key F hr hb (hx σ) I2 r rz l1 l2 q2⟩
theorem pe_keys0 {k : Nat} {f : Addr} {fd : FuncData} {ps ks : List Str} {o : List Nat} {sp : Sp} {E : L2.St → XK} {x : Str} {tk : TA} (F : FnOk X.prog X.w X.K X.mg X.base (L2.CX X.prog X.w) k f fd ps sp) (hr : Room k X.A) (hg : Gl X x) (hm : X.mg x = some (.ref f)) (hk : PySem.W.keepIn X.K (.ref f) = true) (hb : KBo X.K fd ps 0 ks o) (hx : ∀ σ, PassesAt (L2.CX X.prog X.w) X σ (E σ))
    (hkw : PK X kws tk) (hall : (backToKw pos (keywordEach kws X.env)).all (·.1.isSome) = true) (hks : (backToKw pos (keywordEach kws X.env)).filterMap (·.1) = ks) (hdb : (x == ("__debug__" : Str)) = false) (hpl : ((backTo pos (starEach [] X.env)).any (·.1) || (backToKw pos (keywordEach kws X.env)).any (·.1.isNone)) = false) :
    PE X (.Call (.Name x pp) [] kws pos) (tCallKS sp 0 ks.length o E tNil tk) := ⟨fun pins s σ H Q I h => by
  refine wpAny_Call_Name_kw (ld_glob I hg hm ?_ hdb)
  refine PySem.W.callWith_KW0 (h₀ := X.base) I.ok.mod.kin hk hall (thn (hkw.run pos pins s σ H _ I h) fun ws s2 q2 => ?_) hpl
  obtain ⟨zs, H2, I2, rz, l1, l2, q2⟩ := q2
  refine ⟨I2.kIn, ?_⟩
  rw [hks]
  exact run_key F hr hb (hx σ) I2 .nil rz l1 l2 q2⟩
theorem read_keys {n np nk : Nat} {o : List Nat} {F : FS} {t : TA} (ht : ∀ R, UA K W ga σ H R → t σ H R) {Q : VK} (h : UV K W (keyM n F np nk o ga gk) σ H Q) : tCallKS (spD K n F) np nk o (WE W) t (UA K W gk) σ H Q := by
  refine ht _ (Ru.imp h.xBnd fun w B D0 Hd1 H1 ρ1 ls1 ds E1 q1 vs r1 => ?_)
  refine Go.ru (P := fun _ _ _ Hd' H' _ _ es => ∀ zs, RpL K Hd' zs es → vs.length = np ∧ zs.length = nk ∧ spD K n F (ordL o (vs ++ zs)) H' Q (WE W σ)) E1 ?_
  refine Go.imp q1.xBnd fun Hd2 H2 ρ2 ls2 es E2 s2 q zs r2 => ?_
  have q : Go K W w B D0 σ Hd2 (if ds.length = np ∧ es.length = nk ∧ (ordL o (ds ++ es)).length = n then callF (F (ordL o (ds ++ es)) ls2) ρ2 ls2 else .no) fun Hd' H' _ _ d => ∀ v, Rp K Hd' v d → Q v H' := q
  by_cases hn : ds.length = np ∧ es.length = nk ∧ (ordL o (ds ++ es)).length = n
  · rw [if_pos hn] at q
    refine ⟨r1.length.trans hn.1, r2.length.trans hn.2.1, w, Hd2, _, ls2, E2.sub, E2.noz, E2.nt, E2.st, rpl_ord ((RpL.mono s2 r1).append r2) o, hn.2.2, ?_⟩
    unfold callF at q
    cases e : F (ordL o (ds ++ es)) ls2 with
    | ok d ls' =>
      rw [e] at q
      exact fun v Hd' H' P rv => q Hd' H' (P.eok E2) P.mono v rv
    | okN l ls' => rw [e] at q; exact q.elim
    | rs x ls' =>
      rw [e] at q
      exact fun H' cls dd xo => q H' cls dd ⟨fun b o eb z t => xo.base b o (E2.base b o eb z t) z t, xo.st, xo.cls, xo.non, xo.fld⟩
    | no => rw [e] at q; exact q
  · rw [if_neg hn] at q
    exact q.elim
def keyN (n : Nat) (F : FS) (np nk : Nat) (o : List Nat) (ga gk : M (List D)) : M (List D) := bnd ga fun ds => bnd gk fun es ρ ls => if ds.length = np ∧ es.length = nk ∧ (ordL o (ds ++ es)).length = n then callFN (F (ordL o (ds ++ es)) ls) ρ ls else .no
theorem read_keysN {n np nk : Nat} {o : List Nat} {F : FS} {t : TA} (ht : ∀ R, UA K W ga σ H R → t σ H R) {Q : VK} (h : UN K W (keyN n F np nk o ga gk) σ H Q) : tCallKS (spD K n F) np nk o (WE W) t (UA K W gk) σ H Q := by
  refine ht _ (Ru.imp h.xBnd fun w B D0 Hd1 H1 ρ1 ls1 ds E1 q1 vs r1 => ?_)
  refine Go.ru (P := fun _ _ _ Hd' H' _ _ es => ∀ zs, RpL K Hd' zs es → vs.length = np ∧ zs.length = nk ∧ spD K n F (ordL o (vs ++ zs)) H' Q (WE W σ)) E1 ?_
  refine Go.imp q1.xBnd fun Hd2 H2 ρ2 ls2 es E2 s2 q zs r2 => ?_
  have q : Go K W w B D0 σ Hd2 (if ds.length = np ∧ es.length = nk ∧ (ordL o (ds ++ es)).length = n then callFN (F (ordL o (ds ++ es)) ls2) ρ2 ls2 else .no) fun Hd' H' ρ' _ l => ∀ p xs, Fresh w B Hd' H' σ ρ' p xs → RpL K Hd' xs l → Q (.ref p) H' := q
  by_cases hn : ds.length = np ∧ es.length = nk ∧ (ordL o (ds ++ es)).length = n
  · rw [if_pos hn] at q
    refine ⟨r1.length.trans hn.1, r2.length.trans hn.2.1, w, Hd2, _, ls2, E2.sub, E2.noz, E2.nt, E2.st, rpl_ord ((RpL.mono s2 r1).append r2) o, hn.2.2, ?_⟩
    unfold callFN at q
    cases e : F (ordL o (ds ++ es)) ls2 with
    | ok d ls' => rw [e] at q; exact q.elim
    | okN l ls' =>
      rw [e] at q
      exact fun p xs Hd' H' P N r' => q Hd' H' (P.eok E2) P.mono p xs (Post.fresh (ls' := ls') E2 N) r'
    | rs x ls' =>
      rw [e] at q
      exact fun H' cls dd xo => q H' cls dd ⟨fun b o eb z t => xo.base b o (E2.base b o eb z t) z t, xo.st, xo.cls, xo.non, xo.fld⟩
    | no => rw [e] at q; exact q
  · rw [if_neg hn] at q
    exact q.elim
theorem u_callK {k k2 np nk : Nat} {ps ks : List Str} {o : List Nat} {x : Str} {n : Nat} {F : FS} (G : HasK X.prog X.w X.K X.mg X.base x ps k n F np ks o) (hr : Room k2 X.A) (tk : Takes X W) (ha : PA X (e :: es) (UA X.K W ga)) (hkw : PK X kws (UA X.K W gk)) (hk : k ≤ k2 := by decide) (hg : Gl X x := by rfl) (hall : (backToKw pos (keywordEach kws X.env)).all (·.1.isSome) = true := by rfl) (hks : (backToKw pos (keywordEach kws X.env)).filterMap (·.1) = ks := by rfl)
    (hdb : (x == ("__debug__" : Str)) = false := by decide) (he : starEach (e :: es) X.env = (false, eval e X.env) :: starEach es X.env := by rfl) (hpl : ((backTo pos (starEach (e :: es) X.env)).any (·.1) || (backToKw pos (keywordEach kws X.env)).any (·.1.isNone)) = false := by rfl) (hnk : ks.length = nk := by rfl) :
    PE X (.Call (.Name x pp) (e :: es) kws pos) (UV X.K W (keyM n F np nk o ga gk)) := by
  subst hnk
  obtain ⟨f, fd, h1, h2, h3, h4⟩ := G
  exact pe_imp (pe_keys h4 (hr.mono hk) hg h1 h2 h3 (fun σ => passAt tk σ) ha hkw hall hks hdb he hpl) fun σ H Q h => read_keys (fun _ q => q) h
theorem u_callK0 {k k2 nk : Nat} {ps ks : List Str} {o : List Nat} {x : Str} {n : Nat} {F : FS} (G : HasK X.prog X.w X.K X.mg X.base x ps k n F 0 ks o) (hr : Room k2 X.A) (tk : Takes X W) (hkw : PK X kws (UA X.K W gk)) (hk : k ≤ k2 := by decide) (hg : Gl X x := by rfl) (hall : (backToKw pos (keywordEach kws X.env)).all (·.1.isSome) = true := by rfl) (hks : (backToKw pos (keywordEach kws X.env)).filterMap (·.1) = ks := by rfl)
    (hdb : (x == ("__debug__" : Str)) = false := by decide) (hpl : ((backTo pos (starEach [] X.env)).any (·.1) || (backToKw pos (keywordEach kws X.env)).any (·.1.isNone)) = false := by rfl) (hnk : ks.length = nk := by rfl) :
    PE X (.Call (.Name x pp) [] kws pos) (UV X.K W (keyM n F 0 nk o (ret []) gk)) := by
  subst hnk
  obtain ⟨f, fd, h1, h2, h3, h4⟩ := G
  exact pe_imp (pe_keys0 h4 (hr.mono hk) hg h1 h2 h3 (fun σ => passAt tk σ) hkw hall hks hdb hpl) fun σ H Q h => read_keys (t := tNil) (fun R q => by
    obtain ⟨w, B, D0, Hd, ρ, ls, E, q⟩ := q
    exact q Hd H E (Sub.refl _) [] .nil) h
theorem u_callKN {k k2 np nk : Nat} {ps ks : List Str} {o : List Nat} {x : Str} {n : Nat} {F : FS} (G : HasK X.prog X.w X.K X.mg X.base x ps k n F np ks o) (hr : Room k2 X.A) (tk : Takes X W) (ha : PA X (e :: es) (UA X.K W ga)) (hkw : PK X kws (UA X.K W gk)) (hk : k ≤ k2 := by decide) (hg : Gl X x := by rfl) (hall : (backToKw pos (keywordEach kws X.env)).all (·.1.isSome) = true := by rfl) (hks : (backToKw pos (keywordEach kws X.env)).filterMap (·.1) = ks := by rfl)
    (hdb : (x == ("__debug__" : Str)) = false := by decide) (he : starEach (e :: es) X.env = (false, eval e X.env) :: starEach es X.env := by rfl) (hpl : ((backTo pos (starEach (e :: es) X.env)).any (·.1) || (backToKw pos (keywordEach kws X.env)).any (·.1.isNone)) = false := by rfl) (hnk : ks.length = nk := by rfl) :
    PE X (.Call (.Name x pp) (e :: es) kws pos) (UN X.K W (keyN n F np nk o ga gk)) := by
  subst hnk
  obtain ⟨f, fd, h1, h2, h3, h4⟩ := G
  exact pe_imp (pe_keys h4 (hr.mono hk) hg h1 h2 h3 (fun σ => passAt tk σ) ha hkw hall hks hdb he hpl) fun σ H Q h => read_keysN (fun _ q => q) h
theorem u_callKN0 {k k2 nk : Nat} {ps ks : List Str} {o : List Nat} {x : Str} {n : Nat} {F : FS} (G : HasK X.prog X.w X.K X.mg X.base x ps k n F 0 ks o) (hr : Room k2 X.A) (tk : Takes X W) (hkw : PK X kws (UA X.K W gk)) (hk : k ≤ k2 := by decide) (hg : Gl X x := by rfl) (hall : (backToKw pos (keywordEach kws X.env)).all (·.1.isSome) = true := by rfl) (hks : (backToKw pos (keywordEach kws X.env)).filterMap (·.1) = ks := by rfl)
    (hdb : (x == ("__debug__" : Str)) = false := by decide) (hpl : ((backTo pos (starEach [] X.env)).any (·.1) || (backToKw pos (keywordEach kws X.env)).any (·.1.isNone)) = false := by rfl) (hnk : ks.length = nk := by rfl) :
    PE X (.Call (.Name x pp) [] kws pos) (UN X.K W (keyN n F 0 nk o (ret []) gk)) := by
  subst hnk
  obtain ⟨f, fd, h1, h2, h3, h4⟩ := G
  exact pe_imp (pe_keys0 h4 (hr.mono hk) hg h1 h2 h3 (fun σ => passAt tk σ) hkw hall hks hdb hpl) fun σ H Q h => read_keysN (t := tNil) (fun R q => by
    obtain ⟨w, B, D0, Hd, ρ, ls, E, q⟩ := q
    exact q Hd H E (Sub.refl _) [] .nil) h

/-! ### t.count(k), t.index(k), t of ints -/
def intsOf : List D → Option (List Int)
  | [] => some []
  | .int i :: r => (intsOf r).map (i :: ·)
  | _ => none
theorem intsOf_zs : ∀ l : List Int, intsOf (zs l) = some l
  | [] => rfl
  | i :: l => by
    show (intsOf (zs l)).map (i :: ·) = _
    rw [intsOf_zs l]; rfl
theorem intsOf_eq : ∀ {ds : List D} {l : List Int}, intsOf ds = some l → ds = zs l
  | [], _, h => by cases h; rfl
  | .int i :: r, l, h => by
    have h : (intsOf r).map (i :: ·) = some l := h
    cases e : intsOf r with
    | none => rw [e] at h; cases h
    | some m => rw [e] at h; cases h; rw [intsOf_eq e]; rfl
  | .non :: _, _, h | .bl _ :: _, _, h | .str _ :: _, _, h | .tup _ :: _, _, h | .lst _ :: _, _, h | .lsk _ :: _, _, h | .ref _ :: _, _, h | .exn _ :: _, _, h => nomatch h
def rCntT (K : PySem.W.Frag) : V → List V → Hp → VK → Prop := fun x xs H Q => ∃ (p : Addr) (ns : List Int) (k : Int), x = .ref p ∧ xs = [.int k] ∧ SqT K H p (ns.map V.int) ∧ Q (.int (ns.count k : Nat)) H
theorem mt_tcount : MtR X "tuple.count" (rCntT X.K) := by
  intro pins s σ H x xs v us Q I rx rxs h
  obtain ⟨p, ns, k, rfl, rfl, hs, q⟩ := h
  cases rx
  obtain ⟨u, rfl, ru⟩ := rxs.one
  obtain ⟨t, rfl⟩ := ru
  obtain ⟨its, rv, pl, hz⟩ := I.tuple hs
  obtain ⟨⟨cls, dd, dt, sl⟩, ho, hc, n, hd⟩ := pl
  simp only at hc hd
  subst hc
  subst hd
  have hi := ints_of_vals rv
  refine call_meets PySem.F.slot_tuple_count ⟨_, ho, rfl⟩ PySem.F.entry_tuple_count (PySem.F.args_tuple_count_2 _ _) (SeqAt.tuple_countAt p its.toArray n dd sl (.int k t) (eqk k)) ⟨ho, fun y hy => (eqk_gives hi y (by simpa using hy)).at _ _, ⟨.int (ns.count k : Nat), H, I.tok _, ⟨s.toks, ?_⟩, q⟩⟩
  have ec : its.toArray.toList.countP (eqk k) = ns.count k := eqk_count hi
  show Value.int ((its.toArray.toList.countP (eqk k) : Nat) : Int) s.toks = _
  rw [ec]
def rIdxT (K : PySem.W.Frag) : V → List V → Hp → VK → Prop := fun x xs H Q => ∃ (p : Addr) (ns : List Int) (k : Int) (j : Nat), x = .ref p ∧ xs = [.int k] ∧ SqT K H p (ns.map V.int) ∧ ns[j]? = some k ∧ (∀ m : Nat, m < j → ns[m]? ≠ some k) ∧ Q (.int (j : Nat)) H
theorem mt_tindex : MtR X "tuple.index" (rIdxT X.K) := by
  intro pins s σ H x xs v us Q I rx rxs h
  obtain ⟨p, ns, k, j, rfl, rfl, hs, hj, hno, q⟩ := h
  cases rx
  obtain ⟨u, rfl, ru⟩ := rxs.one
  obtain ⟨t, rfl⟩ := ru
  obtain ⟨its, rv, pl, hz⟩ := I.tuple hs
  obtain ⟨⟨cls, dd, dt, sl⟩, ho, hc, n, hd⟩ := pl
  simp only at hc hd
  subst hc
  subst hd
  have hi := ints_of_vals rv
  have hl : its.toArray.size = ns.length := by rw [List.size_toArray, ← rv.length, List.length_map]
  have at' : ∀ (m : Nat) (hm : m < its.toArray.size), ∃ tm, ∃ hn : m < ns.length, its.toArray[m] = .int ns[m] tm := fun m hm => by
    have hmn : m < ns.length := by omega
    obtain ⟨tm, hmt⟩ := hi.get m _ (List.getElem?_eq_getElem hmn)
    obtain ⟨h1, h2⟩ := List.getElem?_eq_some_iff.mp hmt
    exact ⟨tm, hmn, by simpa using h2⟩
  have hjn : j < ns.length := (List.getElem?_eq_some_iff.mp hj).1
  refine call_meets PySem.F.slot_tuple_index ⟨_, ho, rfl⟩ PySem.F.entry_tuple_index (PySem.F.args_tuple_index_2 _ _) (TI.tuple_indexAt p its.toArray n dd sl (.int k t) (eqk k) j (by omega) ?_ ?_)
    ⟨ho, fun y hy => (eqk_gives hi y (by simpa using hy)).at _ _, ⟨.int (j : Nat), H, I.tok _, ⟨_, rfl⟩, q⟩⟩
  · obtain ⟨tm, hn, e⟩ := at' j (by omega)
    rw [e]
    show (ns[j] == k) = true
    rw [List.getElem?_eq_getElem hn] at hj
    cases hj
    exact beq_self_eq_true _
  · intro m hm hmj
    obtain ⟨tm, hn, e⟩ := at' m hm
    rw [e]
    refine beq_eq_false_iff_ne.mpr fun e2 => hno m hmj ?_
    rw [List.getElem?_eq_getElem hn, e2]
def cntD : D → D → Option D
  | .tup l, .int k => (intsOf l).map fun ns => .int (ns.count k : Nat)
  | _, _ => none
def idxD : D → D → Option D
  | .tup l, .int k => (intsOf l).bind fun ns => (ns.findIdx? (· == k)).map fun j => .int (j : Nat)
  | _, _ => none
/-- a method of a value that changes nothing -/
structure MtD (K : PySem.W.Frag) (r : V → List V → Hp → VK → Prop) (op : D → D → Option D) : Prop where
  run : ∀ {Hd H : Hp} {v u : V} {x y z : D}, Sub Hd H → Rp K Hd v x → Rp K Hd u y → op x y = some z → ∀ Q : VK, (∀ t, Rp K Hd t z → Q t H) → r v [u] H Q
theorem md_count : MtD K (rCntT K) cntD := ⟨fun {Hd H v u x y z} s rx ry e Q q => by
  cases x <;> cases y <;> try (exact noneE e)
  cases rx with
  | tup h r =>
    cases ry
    rename_i l k a xs
    have e : ((intsOf l).map fun ns => D.int (ns.count k : Nat)) = some z := e
    cases e1 : intsOf l with
    | none => rw [e1] at e; cases e
    | some ns =>
      rw [e1] at e
      cases e
      cases intsOf_eq e1
      have ex := RpL.ofInts ns r
      subst ex
      exact ⟨_, ns, k, rfl, rfl, (s.tk h).sq, q _ (.int _)⟩⟩
theorem md_index : MtD K (rIdxT K) idxD := ⟨fun {Hd H v u x y z} s rx ry e Q q => by
  cases x <;> cases y <;> try (exact noneE e)
  cases rx with
  | tup h r =>
    cases ry
    rename_i l k a xs
    have e : ((intsOf l).bind fun ns => (ns.findIdx? (· == k)).map fun j => D.int (j : Nat)) = some z := e
    cases e1 : intsOf l with
    | none => rw [e1] at e; cases e
    | some ns =>
      rw [e1] at e
      have e : ((ns.findIdx? (· == k)).map fun j => D.int (j : Nat)) = some z := e
      cases e2 : ns.findIdx? (· == k) with
      | none => rw [e2] at e; cases e
      | some j =>
        rw [e2] at e
        cases e
        cases intsOf_eq e1
        have ex := RpL.ofInts ns r
        subst ex
        obtain ⟨hj, h1, h2⟩ := List.findIdx?_eq_some_iff_getElem.mp e2
        refine ⟨_, ns, k, j, rfl, rfl, (s.tk h).sq, ?_, fun m hm => ?_, q _ (.int _)⟩
        · rw [List.getElem?_eq_getElem hj]
          exact congrArg some (eq_of_beq h1)
        · rw [List.getElem?_eq_getElem (by omega)]
          intro e3
          have := h2 m hm
          simp [Option.some.inj e3] at this⟩
def isTup : D → Bool
  | .tup _ => true
  | _ => false
def mthM (op : D → D → Option D) (f g : M D) : M D := bnd f fun x => if isTup x = true then bnd g fun y => opt (op x y) else fun _ _ => .no
theorem read_mth {r : V → List V → Hp → VK → Prop} {op : D → D → Option D} (h : MtD K r op) {f g : M D} {Q : VK} (q : UV K W (mthM op f g) σ H Q) : tMt r (UV K W f) (tCons (UV K W g) tNil) σ H Q := by
  refine Ru.imp q.xBnd fun w B D0 Hd1 H1 ρ1 ls1 x E1 q1 v hv => ?_
  by_cases hx : isTup x = true
  · rw [if_pos hx] at q1
    refine ⟨?_, ?_⟩
    · cases x with
      | tup l =>
        cases hv with
        | tup ha _ => exact ⟨_, _, rfl, E1.sub.tk ha⟩
      | _ => cases hx
    · refine Go.ru (P := fun _ _ _ Hd' H' _ _ y => ∀ u, Rp K Hd' u y → r v [u] H' Q) E1 ?_
      refine Go.imp q1.xBnd fun Hd2 H2 ρ2 ls2 y E2 s2 q2 u hu => ?_
      obtain ⟨z, hz, q3⟩ := q2.xOpt1
      exact h.run E2.sub (hv.mono s2) hu hz Q fun t rt => q3 Hd2 H2 E2 (Sub.refl _) t rt
  · rw [if_neg hx] at q1; exact q1.elim
variable {o : Expr} {apos cpos : Pos} {f g : M D}
theorem u_count (ho : PE X o (UV X.K W f)) (he : PE X e (UV X.K W g)) (hbase : attributeBase o "count" X.env (eval o X.env) = eval o X.env := by rfl)
    (hfew : ((backTo cpos (starEach [e] X.env)).all (fun x => !x.1) && (backToKw cpos (keywordEach [] X.env)).all (fun x => x.1.isSome) && decide ([e].length + ([] : List Keyword).length + (if ([] : List Keyword).isEmpty then 0 else 1) < 30)) = true := by rfl)
    (hline : (apos.endLine == cpos.line) = true := by rfl) (hs : starEach [e] X.env = (false, eval e X.env) :: starEach [] X.env := by rfl) (hplain : (backTo cpos (starEach [] X.env)).any (·.1) = false := by rfl) :
    PE X (.Call (.Attribute o "count" apos) [e] [] cpos) (UV X.K W (mthM cntD f g)) := pe_imp (pe_mt PySem.F.slot_tuple_count PySem.F.type_tuple_count mt_tcount ho (pa_cons he pa_nil hs) hbase hfew hline hs hplain) fun _ _ _ q => read_mth md_count q
theorem u_index (ho : PE X o (UV X.K W f)) (he : PE X e (UV X.K W g)) (hbase : attributeBase o "index" X.env (eval o X.env) = eval o X.env := by rfl)
    (hfew : ((backTo cpos (starEach [e] X.env)).all (fun x => !x.1) && (backToKw cpos (keywordEach [] X.env)).all (fun x => x.1.isSome) && decide ([e].length + ([] : List Keyword).length + (if ([] : List Keyword).isEmpty then 0 else 1) < 30)) = true := by rfl)
    (hline : (apos.endLine == cpos.line) = true := by rfl) (hs : starEach [e] X.env = (false, eval e X.env) :: starEach [] X.env := by rfl) (hplain : (backTo cpos (starEach [] X.env)).any (·.1) = false := by rfl) :
    PE X (.Call (.Attribute o "index" apos) [e] [] cpos) (UV X.K W (mthM idxD f g)) := pe_imp (pe_mt PySem.F.slot_tuple_index PySem.F.type_tuple_index mt_tindex ho (pa_cons he pa_nil hs) hbase hfew hline hs hplain) fun _ _ _ q => read_mth md_index q
end
end Pd

set_option Elab.async false
set_option linter.all false
set_option maxRecDepth 100000
set_option maxHeartbeats 4000000
/-! Pd12: a constant of the module, three names at once; what a program ends with. -/
namespace Pd
open PySem PySem.Spec PyProof.Rows L2
section
variable {X : Cx} {K : PySem.W.Frag} {W : WX} {w : Wd} {B D0 Hd H : Hp} {σ : L2.St} {ρ : Rho} {ls : LS} {pos pos2 p p2 : Pos}
theorem u_gint {x : Str} {i : Int} (h : ∃ t, X.mg x = some (.int i t)) (hg : Gl X x := by rfl) (hdb : (x == ("__debug__" : Str)) = false := by decide) : PE X (.Name x pos) (UV K W (ret (.int i))) := by
  obtain ⟨t, h⟩ := h
  exact u_con (pe_glob (v := .int i) hg h ⟨t, rfl⟩ hdb) fun _ => .int i
theorem pe_ty {x : Str} {n : String} (hm : X.mg x = none) (hb : bootBuiltins x = some (.type n) := by decide +kernel) (hg : Gl X x := by rfl) (hn : x ≠ "__name__" := by decide) (hdb : (x == ("__debug__" : Str)) = false := by decide) : PE X (.Name x pos) (tC (.ty n)) :=
  ⟨fun pins s σ H Q I h => ld_blt I hg hm hb ⟨.ty n, H, I, rfl, h⟩ hn hdb⟩
/-- a if c else b, as a test -/
theorem ut_if {c a b : Expr} {tc ta tb : M Bool} (hc : PT X c (UT K W tc)) (ha : PT X a (UT K W ta)) (hb : PT X b (UT K W tb)) : PT X (.IfExp c a b pos) (UT K W (ifM tc ta tb)) := ⟨fun pins s σ H Q I h => by
  have h1 : UT K W tc σ H fun z Hz => (z = true → UT K W ta σ Hz Q) ∧ (z = false → UT K W tb σ Hz Q) := Ru.imp h.xBnd fun w B D0 Hd1 H1 ρ1 ls1 k E1 q1 => by
    have q1 : Go K W w B D0 σ Hd1 ((if k = true then ta else tb) ρ1 ls1) fun _ H' _ _ b => Q b H' := q1
    cases k with
    | true => exact ⟨fun _ => ⟨w, B, D0, Hd1, ρ1, ls1, E1, q1⟩, fun z => nomatch z⟩
    | false => exact ⟨fun z => (nomatch z), fun _ => ⟨w, B, D0, Hd1, ρ1, ls1, E1, q1⟩⟩
  refine PyProof.Rows.isTrue_IfExp (thn (hc.run pins s σ H _ I h1) fun k s1 hh => ?_)
  · obtain ⟨H1, I1, q1, q2⟩ := hh
    cases k with
    | true => exact ha.run pins s1 σ H1 Q I1 (q1 rfl)
    | false => exact hb.run pins s1 σ H1 Q I1 (q2 rfl)⟩
/-- a, b, .. = a list -/
def tgLst (u : List Pd.D → Rho → Option Rho) : Pd.D → Rho → Option Rho
  | .lst ds, ρ => u ds ρ
  | _, _ => none
theorem tgl_len {u : List Pd.D → Rho → Option Rho} {n : Nat} (hn : ∀ ds ρ ρ', u ds ρ = some ρ' → ds.length = n) {gs : TGs} {is : List Nat} (h : TgsOk K gs u is) : TgOk K (gLst K n gs) (tgLst u) is := ⟨fun {w B D0 Hd H σ ρ ρ' ls v d} E r e Q q => by
  cases d with
  | lst ds =>
    cases r with
    | lst ha rl =>
      have e : u ds ρ = some ρ' := e
      exact ⟨_, _, rfl, SqL.of (E.sub _ _ ha), by rw [rl.length]; exact hn _ _ _ e, h.run E rl e Q q⟩
  | _ => exact noneE e⟩
def par3 (i j k : Nat) (ga : M (List Pd.D)) : PM := lift ga fun ds => match ds with
  | [x, y, z] => seqP (sto i x) (seqP (sto j y) (sto k z))
  | _ => never
theorem us_par3 {x y z : Str} {a b c : Expr} {ga : M (List Pd.D)} {px py pz pt : Pos} {kt k2 pt2} (i j k : Nat) (hc : X.calm = true) (hN : X.N.Nodup) (ha : PA X [a, b, c] (UA K W ga)) (hi : X.N[i]? = some x := by rfl) (hj : X.N[j]? = some y := by rfl) (hk : X.N[k]? = some z := by rfl) (hij : i ≠ j := by decide) (hik : i ≠ k := by decide) (hjk : j ≠ k := by decide)
    (hx : X.env.scope.names.lookup x = some .local := by rfl) (hy : X.env.scope.names.lookup y = some .local := by rfl) (hz : X.env.scope.names.lookup z = some .local := by rfl)
    (hw : swappedStores [.Tuple [.Name x px, .Name y py, .Name z pz] kt pt] (.Tuple [a, b, c] k2 pt2) X.env = pure (some [x, y, z]) := by rfl)
    (hs : swapsWithSole [.Tuple [.Name x px, .Name y py, .Name z pz] kt pt] (.Tuple [a, b, c] k2 pt2) pos.line X.env = pure false := by rfl) :
    PS X (.Assign [.Tuple [.Name x px, .Name y py, .Name z pz] kt pt] (.Tuple [a, b, c] k2 pt2) pos) (US K W (par3 i j k ga)) := ps_imp (ps_par3 hc hN hi hj hk hij hik hjk hx hy hz ha hw hs) fun D σ H h =>
  Ru.imp (US.lift h) fun w B D0 Hd' H' ρ' ls' ds E q vs r => by
    match ds, vs, r, q with
    | [d1, d2, d3], [v1, v2, v3], .cons r1 (.cons r2 (.cons r3 .nil)), q =>
      refine ⟨_, _, _, rfl, ?_⟩
      have q : GoS K W w B D0 Hd' D (seqP (sto i d1) (seqP (sto j d2) (sto k d3)) ρ' ls') := q
      unfold seqP sto at q
      by_cases h1 : i < ρ'.length
      · rw [if_pos h1] at q
        dsimp only at q
        have E1 := E.store h1 r1
        by_cases h2 : j < (ρ'.set i (.dat d1)).length
        · rw [if_pos h2] at q
          dsimp only at q
          have E2 := E1.store h2 r2
          by_cases h3 : k < ((ρ'.set i (.dat d1)).set j (.dat d2)).length
          · rw [if_pos h3] at q
            exact q _ Hd' H' (E2.store h3 r3) (Sub.refl _)
          · rw [if_neg h3] at q; exact q.elim
        · rw [if_neg h2] at q; exact q.elim
      · rw [if_neg h1] at q; exact q.elim
    | [], _, _, q => exact q.elim
    | [_], _, _, q => exact q.elim
    | [_, _], _, _, q => exact q.elim
    | _ :: _ :: _ :: _ :: _, _, _, q => exact q.elim
end
end Pd

set_option Elab.async false
set_option linter.all false
set_option maxRecDepth 100000
set_option maxHeartbeats 4000000
/-! Pd13: sorted, clear, ranges as lists and tuples, the empty dict. -/
namespace Pd
open PySem PySem.Spec PyProof.Rows L2
/-! ### ints in order -/
def insI (a : Int) : List Int → List Int
  | [] => [a]
  | b :: l => if a ≤ b then a :: b :: l else b :: insI a l
def srtI : List Int → List Int
  | [] => []
  | a :: l => insI a (srtI l)
theorem insI_perm (a : Int) : ∀ l, (insI a l).Perm (a :: l)
  | [] => .refl _
  | b :: l => by
    unfold insI
    split
    · exact .refl _
    · exact ((insI_perm a l).cons b).trans (.swap a b l)
theorem srtI_perm : ∀ l, (srtI l).Perm l
  | [] => .refl _
  | a :: l => (insI_perm a _).trans ((srtI_perm l).cons a)
theorem insI_pw (a : Int) : ∀ l, l.Pairwise (· ≤ ·) → (insI a l).Pairwise (· ≤ ·)
  | [], _ => by simp [insI]
  | b :: l, h => by
    unfold insI
    rw [List.pairwise_cons] at h
    split
    · rename_i hab
      refine List.pairwise_cons.mpr ⟨fun c hc => ?_, List.pairwise_cons.mpr h⟩
      rcases List.mem_cons.mp hc with rfl | hc
      · exact hab
      · have := h.1 c hc; omega
    · rename_i hab
      refine List.pairwise_cons.mpr ⟨fun c hc => ?_, insI_pw a l h.2⟩
      rcases List.mem_cons.mp ((insI_perm a l).mem_iff.mp hc) with rfl | hc
      · omega
      · exact h.1 c hc
theorem srtI_pw : ∀ l, (srtI l).Pairwise (· ≤ ·)
  | [] => .nil
  | a :: l => insI_pw a _ (srtI_pw l)
theorem srt_one : ∀ {l m : List Int}, l.Perm m → l.Pairwise (· ≤ ·) → m.Pairwise (· ≤ ·) → l = m
  | [], m, p, _, _ => (List.nil_perm.mp p).symm
  | a :: l, [], p, _, _ => (List.perm_nil.mp p)
  | a :: l, b :: m, p, h1, h2 => by
    rw [List.pairwise_cons] at h1 h2
    have e : a = b := by
      have x : a ∈ b :: m := p.mem_iff.mp List.mem_cons_self
      have y : b ∈ a :: l := p.mem_iff.mpr List.mem_cons_self
      rcases List.mem_cons.mp x with x | x
      · exact x
      · rcases List.mem_cons.mp y with y | y
        · exact y.symm
        · have := h1.1 b y; have := h2.1 a x; omega
    subst e
    rw [srt_one (List.Perm.cons_inv p) h1.2 h2.2]
/-! ### sorted(t), t a tuple of ints -/
section
variable {prog : Program} {w : World} {A : Around} {E : Value → Shared → Prop} {s : Shared}
theorem collect_tp {l : Addr} {vs : List Value} {Q : List Value → Shared → Prop} (hl : IsTup s.heap l vs.toArray) (hz : vs.length ≤ sizeLine)
    (q : Q vs { s with heap := (s.heap.push (seqObj "list" #[] 0)).update s.heap.objs.size (Obj.mapSeq (· ++ vs.toArray)) }) : wpAny (model prog w) A (collect (.ref l)) Q E s := by
  obtain ⟨ob, h1, h2, m, h3⟩ := hl
  unfold collect
  refine wpAny_bind (wpAny_runValue (codeAny_builtin entry_proto_collect' ?_))
  refine wpAny_bind (m := newList []) (wpAny_newList (wpAny_pure ⟨Code.quiet_builtin _ (by decide +kernel), codeAny_builtin entry_list_iadd' ?_⟩))
  show wpAny _ _ (Builtin.List.listExtendWith (.ref s.heap.objs.size) (.ref l) (.ref s.heap.objs.size)) _ _ { s with heap := s.heap.push (seqObj "list" #[] 0) }
  unfold Builtin.List.listExtendWith
  have h1' : (s.heap.push (seqObj "list" #[] 0)).get? l = some ob := Heap.get?_push_of_some _ h1
  have hn : (s.heap.push (seqObj "list" #[] 0)).get? s.heap.objs.size = some (seqObj "list" #[] 0) := Heap.get?_push_size _ rfl
  refine wpAny_bind (wpAny_typeOf (T := "tuple") ⟨ob, h1', h2⟩ ?_)
  rw [if_pos (by rw [show (Value.type "tuple" == Value.type "tuple") = true from rfl]; simp)]
  refine wpAny_bind (listItems_at h1' h3 ?_)
  refine wpAny_bind (listItems_at (xs := #[]) (n := 0) hn rfl ?_)
  rw [if_neg (by simp)]
  refine wpAny_bind (listUpdate_at (xs := #[]) (n := 0) hn rfl ?_ (Nat.zero_le _) (by show (#[] ++ vs.toArray).size ≤ sizeLine + 1; simp; omega))
  refine wpAny_pure ?_
  refine wpAny_bind (m := load s.heap.objs.size) (wpAny_load (get?_update_seq hn _) ?_)
  show wpAny (model prog w) A (pure ((#[] : Array Value) ++ vs.toArray).toList) Q E _
  have ev : ((#[] : Array Value) ++ vs.toArray).toList = vs := by simp
  rw [ev]
  exact wpAny_pure q
theorem sorted_tp {l : Addr} {vs : List Value} {lt : Value → Value → Bool} {Q : Value → Shared → Prop} (O : SrtO.Swo lt) (hl : IsTup s.heap l vs.toArray) (hz : vs.length ≤ sizeLine)
    (hS : 2 ≤ vs.length → ∀ (h1 : Heap) (a : Addr), h1.get? a = some (seqObj "list" vs.toArray 0) → SrtO.SortableO prog w A.in1.in1 { s with heap := h1 } a vs lt)
    (q : ∀ out : List Value, SrtO.Srtd lt out → SrtO.Stb lt out vs → Q (.ref (s.heap.objs.size + 1)) { s with heap := sortedAll s.heap vs out.toArray }) : wpAny (model prog w) A (call (.builtin "sorted") [.ref l]) Q E s := by
  refine Calls.call_function_entry kind_sorted plain_sorted entry_sorted (args_sorted1 _) ?_
  unfold Builtin.«sorted»
  refine wpAny_bind (m := checkCount "sorted" 1 1 _) (wpAny_pure ?_)
  refine wpAny_bind (collect_tp hl hz (wpAny_bind (wpAny_newList ?_ hz)))
  have z1 : ((s.heap.push (seqObj "list" #[] 0)).update s.heap.objs.size (Obj.mapSeq (· ++ vs.toArray))).objs.size = s.heap.objs.size + 1 := by
    rw [Heap.size_update, size_push']
  show wpAny _ _ _ _ _ { s with heap := ((s.heap.push (seqObj "list" #[] 0)).update s.heap.objs.size (Obj.mapSeq (· ++ vs.toArray))).push (seqObj "list" vs.toArray 0) }
  unfold sortedAll at q
  generalize hg : (s.heap.push (seqObj "list" #[] 0)).update s.heap.objs.size (Obj.mapSeq (· ++ vs.toArray)) = hh at z1 q ⊢
  have at1 : (hh.push (seqObj "list" vs.toArray 0)).get? (s.heap.objs.size + 1) = some (seqObj "list" vs.toArray 0) := by
    rw [← z1]; exact Heap.get?_push_size _ rfl
  rw [z1]
  refine wpAny_bind (wpAny_holding (wpAny_call_entry slot_list_sort ⟨_, at1, rfl⟩ entry_list_sort (SrtO.list_sort_ord O at1 hz (fun h2 => hS h2 _ _ at1) fun out k1 k2 => ⟨_, rfl, ?_⟩) (args_list_sort _)))
  exact wpAny_pure ⟨_, rfl, q out k1 k2⟩
end
section
variable {X : Cx}
def rSortT (K : PySem.W.Frag) : List V → Hp → VK → Prop := fun vs H Q => ∃ (a : Addr) (ns : List Int), vs = [V.ref a] ∧ SqT K H a (ns.map V.int) ∧
  ∀ (ms : List Int) (p : Addr), ms.Perm ns → ms.Pairwise (· ≤ ·) → H p = none → Q (.ref p) (upd H p (.lst (ms.map V.int)))
theorem cr_sortT : CallR X (.builtin "sorted") (rSortT X.K) := by
  intro pins s σ H vs us Q I r h
  obtain ⟨a, ns, rfl, hs, q⟩ := h
  obtain ⟨its, rv, hl, hz⟩ := I.tuple hs
  rw [Vals.ref1 r]
  have hi := rv.ints
  refine sorted_tp SrtO.swo_int hl (by rw [← rv.length]; exact hz) (fun h2 _ _ _ => SrtO.ints_sortable hi h2) fun out h1 h2 => ?_
  obtain ⟨k1, k2, k3⟩ := SrtO.ints_out hi h1 h2
  obtain ⟨ep, at2⟩ := sortedAll_at s.heap its out.toArray
  rw [List.length_map] at hz
  have hb : ((out.map SrtO.iv).map V.int).length ≤ sizeLine := by rw [List.length_map, k2.length_eq]; exact hz
  exact ⟨.ref _, upd H (s.heap.objs.size + 1) (.lst ((out.map SrtO.iv).map V.int)), I.laid (t' := s.toks) (fun _ _ => sortedAll_old) (Nat.le_succ _) ⟨hb, out, ep, vals_of_ints k1, at2⟩, rfl, q _ _ k2 k3 (I.hok.fresh (Nat.le_succ _))⟩
end
section
variable {X : Cx} {K : PySem.W.Frag} {W : WX} {α : Type} {w : Wd} {B D0 Hd Hd1 H : Hp} {σ : L2.St} {ρ : Rho} {ls : LS} {a b : Expr} {f : M Rf} {p pos p2 epos apos cpos : Pos} {fa : M Rf} {o : Expr}
def sortedD : D → Option (List D)
  | .tup l => (intsOf l).map fun ns => zs (srtI ns)
  | .lst l => (intsOf l).map fun ns => zs (srtI ns)
  | .lsk l => (intsOf l).map fun ns => zs (srtI ns)
  | _ => none
theorem rp_zs (l : List Int) : RpL K Hd (l.map V.int) (zs l) := RpL.ints l
theorem map_some {α β : Type} {f : α → β} {o : Option α} {y : β} (h : o.map f = some y) : ∃ x, o = some x ∧ y = f x := by
  cases o with
  | none => cases h
  | some x => cases h; exact ⟨x, rfl, rfl⟩
theorem one_sorted : OneN K (fun v H Q => rSortedI K [v] H Q ∨ rSortT K [v] H Q) sortedD := by
  refine ⟨?_⟩
  intro w B D0 Hd H σ ρ ls v x z E hx e Q q
  have fin : ∀ (ns ms : List Int) (p : Addr), ms.Perm ns → ms.Pairwise (· ≤ ·) → H p = none → z = zs (srtI ns) → Q (.ref p) (upd H p (.lst (ms.map V.int))) := fun ns ms p h1 h2 h3 ez => by
    obtain ⟨E2, F⟩ := E.newList (xs := ms.map V.int) h3
    refine q p _ _ E2 F ?_
    rw [ez, ← srt_one (h1.trans (srtI_perm ns).symm) h2 (srtI_pw ns)]
    exact rp_zs ms
  cases x <;> try (exact noneE e)
  · obtain ⟨ns, h1, h2⟩ := map_some e
    obtain ⟨a, xs, rfl, ha, r⟩ := hx.tup_inv
    rw [intsOf_eq h1] at r
    have ex := RpL.ofInts ns r
    subst ex
    exact .inr ⟨a, ns, rfl, (E.sub.tk ha).sq, fun ms p k1 k2 k3 => fin ns ms p k1 k2 k3 h2⟩
  · obtain ⟨ns, h1, h2⟩ := map_some e
    obtain ⟨a, xs, rfl, ha, r⟩ := hx.lst_inv
    rw [intsOf_eq h1] at r
    have ex := RpL.ofInts ns r
    subst ex
    exact .inl ⟨a, ns, rfl, SqL.of ha, fun ms p k1 k2 k3 => fin ns ms p k1 k2 k3 h2⟩
  · obtain ⟨ns, h1, h2⟩ := map_some e
    obtain ⟨a, xs, rfl, ha, r⟩ := hx.lsk_inv
    rw [intsOf_eq h1] at r
    have ex := RpL.ofInts ns r
    subst ex
    exact .inl ⟨a, ns, rfl, E.sub.sqL ha, fun ms p k1 k2 k3 => fin ns ms p k1 k2 k3 h2⟩
theorem u_sorted (hm : X.mg "sorted" = none) (ha : PE X a (U X.K W f)) (hg : Gl X "sorted" := by rfl) (he : starEach [a] X.env = (false, eval a X.env) :: starEach [] X.env := by rfl) (hpl : (backTo pos (starEach [] X.env)).any (·.1) = false := by rfl) : PE X (.Call (.Name "sorted" p) [a] [] pos) (UN X.K W (uno sortedD f)) :=
  pe_imp (pe_callB (cr_sortedI.or cr_sortT) hg hm (by decide +kernel) (pa_cons ha pa_nil he) (by decide) (by decide) he hpl) fun _ _ _ q => read_unoN one_sorted q
/-! ### xs.clear() -/
def clrD (_ : List D) : Option (D × List D) := some (.non, [])
theorem md_clear : Mut0 K rClear clrD := ⟨fun {Hd H p xs ds es z} s h r e Q q => by
  cases e
  exact ⟨p, xs, rfl, rfl, h, q _ _ .nil .non⟩⟩
theorem u_clear (i : Nat) (hv : PE X o (tVar i)) (hbase : attributeBase o "clear" X.env (eval o X.env) = eval o X.env := by rfl) (hline : (apos.endLine == cpos.line) = true := by rfl) :
    PE X (.Call (.Attribute o "clear" apos) [] [] cpos) (UV X.K W (meth0M i clrD)) := pe_imp (pe_bm0 PySem.F.plainAttrs_list PySem.F.slot_list_clear PySem.F.type_list_clear mt_clear hv hbase hline) fun _ _ _ q => read_meth0 md_clear q
/-! ### {} -/
theorem u_dct0 : PE X (.Dict [] [] pos) (UV X.K W (ret (.dct [] []))) := pe_imp pe_dnewK fun σ H Q q => by
  obtain ⟨w, B, D0, Hd, ρ, ls, E, q⟩ := q
  intro p hp
  have nt : NT (.dK ([] : List (Key × V))) := fun _ h => by cases h
  exact q _ _ (E.newDat hp nt) (.upd (E.nd_new hp)) (.ref p) (.dK upd_same rfl rfl .nil)
/-! ### list(range(n)), tuple(range(n)) -/
theorem lr1_rp (j : Int) : RpL K Hd (rgV 0 j) (rangeL 0 j.toNat) := by
  have h := rgV_rp (K := K) (Hd := Hd) 0 j
  rwa [Int.sub_zero] at h
theorem u_listRange1 (hc : X.calm = true) (hm : X.mg "list" = none) (hm2 : X.mg "range" = none) (ha : PE X a (U X.K W fa)) (hg : Gl X "list" := by rfl) (hg2 : Gl X "range" := by rfl)
    (na : starEach [a] X.env = (false, eval a X.env) :: starEach [] X.env := by rfl)
    (nc : starEach [.Call (.Name "range" p2) [a] [] pos] X.env = (false, eval (.Call (.Name "range" p2) [a] [] pos) X.env) :: starEach [] X.env := by rfl) :
    PE X (.Call (.Name "list" p) [.Call (.Name "range" p2) [a] [] pos] [] epos) (UN X.K W (uno lr1D fa)) := pe_imp (pe_listRg hc hg hm (prg_1 hg2 hm2 ha na) nc) fun σ H Q q => by
  refine Ru.imp q.xBnd fun w B D0 Hd1 H1 ρ1 ls1 r1 E1 q1 v hv => ?_
  obtain ⟨x, hx, q2⟩ := q1.xLookB E1 hv
  obtain ⟨z, hz, q3⟩ := q2.xOpt1
  cases x <;> try (exact noneE hz)
  rename_i j
  cases hx.int_inv
  obtain ⟨hcc, e⟩ := ofb hz
  cases e
  rw [Bool.and_eq_true] at hcc
  have c1 := of_decide_eq_true hcc.1
  have c2 := of_decide_eq_true hcc.2
  refine ⟨j, rfl, ⟨by omega, by omega, by omega, by omega, by omega⟩, fun l hl => ?_⟩
  obtain ⟨E3, F⟩ := E1.newList (xs := rgV 0 j) hl
  exact q3 _ _ E3 (Sub.refl _) l _ F (lr1_rp j)
def tTupRgK (te : L2.St → Hp → (Int → Int → Hp → Prop) → Prop) : TE := fun σ H Q => te σ H fun a b H1 => RgOk a b ∧ NewT H1 (rgV a b) Q
theorem pe_tupRgK {e : Expr} {te : L2.St → Hp → (Int → Int → Hp → Prop) → Prop} (hc : X.calm = true) (hg : Gl X "tuple") (hm : X.mg "tuple" = none) (he : PRg X e te) (na : starEach [e] X.env = (false, eval e X.env) :: starEach [] X.env := by rfl) : PE X (.Call (.Name "tuple" p) [e] [] pos) (tTupRgK te) := ⟨fun pins s σ H Q I h => by
  refine Call_ (ld_blt I hg hm boot_tuple (PyProof.Rows.callWith_type1 (args_cons (thn (he pins s σ H _ I h) fun x s1 hh => ?_) na) na))
  obtain ⟨r, i, j, t, u, v, H1, rfl, hr, I1, ⟨b1, b2, b3, b4, b5⟩, q⟩ := hh
  refine args_nil (call_tuple_range (n := (j - i).toNat) (I1.ok.hd hc) hr (small_one b1 b2 b3 b4) (rangeSize_nat i j) b5 fun h' tk acc hk hi => ?_)
  have I2 : Inv X pins σ H1 { s1 with heap := h', toks := tk } := I1.kept hk
  have := Inv.newT I2 (its := acc.toList) (by rw [rgV_length, sizeLine_eq]; omega) (vals_rg hi) q
  simpa using this⟩
def tr1D (d : D) : Option D := (lr1D d).map .tup
theorem u_tupRange1 (hc : X.calm = true) (hm : X.mg "tuple" = none) (hm2 : X.mg "range" = none) (ha : PE X a (U X.K W fa)) (hg : Gl X "tuple" := by rfl) (hg2 : Gl X "range" := by rfl)
    (na : starEach [a] X.env = (false, eval a X.env) :: starEach [] X.env := by rfl)
    (nc : starEach [.Call (.Name "range" p2) [a] [] pos] X.env = (false, eval (.Call (.Name "range" p2) [a] [] pos) X.env) :: starEach [] X.env := by rfl) :
    PE X (.Call (.Name "tuple" p) [.Call (.Name "range" p2) [a] [] pos] [] epos) (UV X.K W (uno tr1D fa)) := pe_imp (pe_tupRgK hc hg hm (prg_1 hg2 hm2 ha na) nc) fun σ H Q q => by
  refine Ru.imp q.xBnd fun w B D0 Hd1 H1 ρ1 ls1 r1 E1 q1 v hv => ?_
  obtain ⟨x, hx, q2⟩ := q1.xLookB E1 hv
  obtain ⟨z, hz, q3⟩ := q2.xOpt1
  obtain ⟨l, hy, rfl⟩ := map_some hz
  clear hz
  cases x <;> try (exact noneE hy)
  rename_i j
  cases hx.int_inv
  obtain ⟨hcc, e⟩ := ofb hy
  cases e
  rw [Bool.and_eq_true] at hcc
  have c1 := of_decide_eq_true hcc.1
  have c2 := of_decide_eq_true hcc.2
  refine ⟨j, rfl, ⟨by omega, by omega, by omega, by omega, by omega⟩, fun t ob ht k1 k2 => ?_⟩
  have sd : Sub Hd1 (upd Hd1 t (.frz ob (.tup (rgV 0 j)))) := .upd (E1.nd_new ht)
  exact q3 _ _ (E1.newDat ht NT.tup) sd _ (.tup ⟨ob, upd_same, k1, k2⟩ (lr1_rp j))
end
end Pd

set_option Elab.async false
set_option linter.all false
set_option maxRecDepth 100000
set_option maxHeartbeats 4000000
/-! Pd14: a, b = x, y where some of the values are new lists. -/
namespace Pd
open PySem PySem.Spec PyProof.Rows L2
inductive It where
  | d (x : D) | n (l : List D)
section
variable {X : Cx} {K : PySem.W.Frag} {W : WX} {α β : Type} {w : Wd} {B D0 Hd H : Hp} {σ : L2.St} {ρ : Rho} {ls : LS} {a b : Expr} {es : List Expr} {De : Ends}
/-- what the items are -/
def RpI (K : PySem.W.Frag) (w : Wd) (B Hd H : Hp) (σ : L2.St) (ρ : Rho) : List V → List It → Prop
  | [], [] => True
  | v :: vs, .d x :: is => Rp K Hd v x ∧ RpI K w B Hd H σ ρ vs is
  | v :: vs, .n l :: is => (∃ p xs, v = .ref p ∧ Fresh w B Hd H σ ρ p xs ∧ RpL K Hd xs l ∧ ∀ u ∈ vs.zip is, ∀ m, u.2 = .n m → u.1 ≠ .ref p) ∧ RpI K w B Hd H σ ρ vs is
  | _, _ => False
def UI2 (K : PySem.W.Frag) (W : WX) (f : M (List It)) : TA := fun σ H Q => Ru K W f σ H fun w B _ Hd' H' ρ' _ is => ∀ vs, RpI K w B Hd' H' σ ρ' vs is → Q vs H'
/-- held beside: the list at p stands in the base -/
theorem EOk.hold {p : Addr} {xs : List V} (E : EOk K w B D0 Hd H σ ρ ls) (F : Fresh w B Hd H σ ρ p xs) : EOk K w (upd B p (.lst xs)) D0 Hd H σ ρ ls := by
  refine ⟨fun b o e z t => ?_, fun b e => ?_, E.sub, E.sub0, E.noz, E.nt, fun b o e => ?_, E.st, E.len, E.dat, fun i ds e => ?_, E.apa⟩
  · by_cases hb : b = p
    · subst hb; rw [upd_same] at e; cases e; exact F.at_
    · rw [upd_ne hb] at e; exact E.base b o e z t
  · have hb : b ≠ p := fun z => by subst z; rw [F.at_] at e; cases e
    exact (NB.up hb).mpr (E.dom b e)
  · have hb : b ≠ p := fun z => by subst z; rw [F.nd] at e; cases e
    rcases E.fr b o e with h | h
    · exact .inl h
    · exact .inr (h.imp (NB.up hb).mpr id)
  · obtain ⟨q, ys, h1, h2, h3, h4, h5, h6⟩ := E.ow i ds e
    have hb : q ≠ p := fun z => F.ns i ds e (z ▸ h1)
    exact ⟨q, ys, h1, h2, h3, h4, (NB.up hb).mpr h5, h6⟩
theorem NB.upL {p b : Addr} {xs : List V} (h : NB (upd B p (.lst xs)) b) : NB B b := (NB.up h.atL).mp h
theorem EOk.unhold {p : Addr} {xs : List V} (nb : NB B p) (E : EOk K w (upd B p (.lst xs)) D0 Hd H σ ρ ls) : EOk K w B D0 Hd H σ ρ ls := by
  refine ⟨fun b o e z t => ?_, fun b e => (E.dom b e).upL, E.sub, E.sub0, E.noz, E.nt, fun b o e => (E.fr b o e).imp id (fun q => q.imp NB.upL id), E.st, E.len, E.dat, fun i ds e => ?_, E.apa⟩
  · exact E.base b o (by rw [upd_ne (nb.ne e t)]; exact e) z t
  · obtain ⟨q, ys, h1, h2, h3, h4, h5, h6⟩ := E.ow i ds e
    exact ⟨q, ys, h1, h2, h3, h4, h5.upL, h6⟩
theorem Fresh.held {p : Addr} {xs : List V} {Hd1 H1 : Hp} {ρ1 : Rho} {ls1 : LS} (F : Fresh w B Hd H σ ρ p xs) (d0 : D0 p = none) (E : EOk K w (upd B p (.lst xs)) D0 Hd1 H1 σ ρ1 ls1) : Fresh w B Hd1 H1 σ ρ1 p xs := by
  refine ⟨E.base p _ upd_same F.nz NT.lst, ?_, F.nb, F.nz, fun i ds e z => ?_⟩
  · cases e : Hd1 p with
    | none => rfl
    | some o =>
      rcases E.fr p o e with h | h
      · rw [d0] at h; cases h
      · rcases h with h | ⟨ys, rfl⟩
        · exact absurd rfl h.atL
        · have h1 := E.sub _ _ e
          rw [E.base p _ upd_same F.nz NT.lst] at h1
          cases h1
  · obtain ⟨q, ys, h1, _, _, _, h5, _⟩ := E.ow i ds e
    rw [h1] at z; cases z
    exact absurd rfl h5.atL
theorem Fresh.unhold {p q : Addr} {xs ys : List V} (F : Fresh w (upd B p (.lst xs)) Hd H σ ρ q ys) : Fresh w B Hd H σ ρ q ys ∧ q ≠ p := ⟨⟨F.at_, F.nd, F.nb.upL, F.nz, F.ns⟩, F.nb.atL⟩
theorem RpI.unhold {p : Addr} {xs : List V} : ∀ {vs : List V} {is : List It}, RpI K w (upd B p (.lst xs)) Hd H σ ρ vs is → RpI K w B Hd H σ ρ vs is ∧ ∀ u ∈ vs.zip is, ∀ m, u.2 = .n m → u.1 ≠ .ref p
  | [], [], _ => ⟨trivial, fun u hu => by cases hu⟩
  | v :: vs, .d x :: is, h => by
    obtain ⟨a, r⟩ := h
    obtain ⟨r1, r2⟩ := RpI.unhold r
    refine ⟨⟨a, r1⟩, fun u hu m e => ?_⟩
    rcases List.mem_cons.mp hu with rfl | hu
    · cases e
    · exact r2 u hu m e
  | v :: vs, .n l :: is, h => by
    obtain ⟨⟨q, ys, rfl, F, r, ne⟩, t⟩ := h
    obtain ⟨r1, r2⟩ := RpI.unhold t
    refine ⟨⟨⟨q, ys, rfl, F.unhold.1, r, ne⟩, r1⟩, fun u hu m e => ?_⟩
    rcases List.mem_cons.mp hu with rfl | hu
    · intro z; cases z; exact F.unhold.2 rfl
    · exact r2 u hu m e
  | [], _ :: _, h => h.elim
  | _ :: _, [], h => h.elim
theorem ui2_nil : PA X [] (UI2 K W (ret [])) := pa_imp pa_nil fun σ H Q h => by
  obtain ⟨w, B, D0, Hd, ρ, ls, E, q⟩ := h
  exact q Hd H E (Sub.refl _) [] trivial
def consD (f : M D) (g : M (List It)) : M (List It) := bnd f fun x => bnd g fun is => ret (.d x :: is)
def consL (f : M (List D)) (g : M (List It)) : M (List It) := bnd f fun l => bnd g fun is => ret (.n l :: is)
theorem ui2_d {f : M D} {g : M (List It)} (ha : PE X a (UV K W f)) (hr : PA X es (UI2 K W g)) (hs : starEach (a :: es) X.env = (false, eval a X.env) :: starEach es X.env := by rfl) : PA X (a :: es) (UI2 K W (consD f g)) := pa_imp (pa_cons ha hr hs) fun σ H Q h => by
  refine Ru.imp h.xBnd fun w B D0 Hd1 H1 ρ1 ls1 d E1 q1 v hv => ?_
  refine ⟨w, B, D0, Hd1, ρ1, ls1, E1, ?_⟩
  exact q1.xBnd.imp fun Hd2 H2 ρ2 ls2 is E2 s2 q2 vs hvs => q2 _ _ E2 (Sub.refl _) _ ⟨hv.mono s2, hvs⟩
theorem ui2_n {f : M (List D)} {g : M (List It)} (ha : PE X a (UN K W f)) (hr : PA X es (UI2 K W g)) (hs : starEach (a :: es) X.env = (false, eval a X.env) :: starEach es X.env := by rfl) : PA X (a :: es) (UI2 K W (consL f g)) := pa_imp (pa_cons ha hr hs) fun σ H Q h => by
  refine Ru.imp h.xBnd fun w B D0 Hd1 H1 ρ1 ls1 l E1 q1 p xs F r => ?_
  have d0 : D0 p = none := by
    cases e : D0 p with
    | none => rfl
    | some o => have := E1.sub0 _ _ e; rw [F.nd] at this; cases this
  have q2 := q1.xBnd
  refine ⟨w, upd B p (.lst xs), D0, Hd1, ρ1, ls1, E1.hold F, ?_⟩
  cases e : g ρ1 ls1 with
  | no => rw [e] at q2; exact q2
  | rs x ls2 =>
    rw [e] at q2
    exact fun H' cls dd xo => q2 H' cls dd ⟨fun b o eb z t => xo.base b o (by rw [upd_ne (F.nb.ne eb t)]; exact eb) z t, xo.st, xo.cls, xo.non, xo.fld⟩
  | ok is ρ2 ls2 =>
    rw [e] at q2
    intro Hd2 H2 E2 s2 vs hvs
    obtain ⟨r1, r2⟩ := RpI.unhold hvs
    have E3 := EOk.unhold F.nb E2
    exact q2 Hd2 H2 E3 s2 _ _ E3 (Sub.refl _) _ ⟨⟨p, xs, rfl, F.held d0 E2, r.mono s2, r2⟩, r1⟩
/-! ### the stores -/
def stoI (i : Nat) : It → PM
  | .d x => sto i x
  | .n l => stoN i l
theorem RpI.stored {i : Nat} {v : V} {s : Sl} : ∀ {vs : List V} {is : List It}, RpI K w B Hd H σ ρ vs is → (∀ u ∈ vs.zip is, ∀ m, u.2 = .n m → ∀ ds, s = .ow ds → u.1 ≠ v) → i < ρ.length → σ.length = ρ.length → RpI K w B Hd H (σ.set i (some v)) (ρ.set i s) vs is
  | [], [], _, _, _, _ => trivial
  | _ :: vs, .d x :: is, h, k, hi, hl => ⟨h.1, RpI.stored h.2 (fun u hu => k u (List.mem_cons_of_mem _ hu)) hi hl⟩
  | _ :: vs, .n l :: is, h, k, hi, hl => by
    obtain ⟨⟨q, ys, rfl, F, r, ne⟩, t⟩ := h
    refine ⟨⟨q, ys, rfl, ⟨F.at_, F.nd, F.nb, F.nz, fun j ds e z => ?_⟩, r, ne⟩, RpI.stored t (fun u hu => k u (List.mem_cons_of_mem _ hu)) hi hl⟩
    rcases getSet e with ⟨rfl, _, y⟩ | ⟨nj, e⟩
    · rw [List.getElem?_set_self (by rw [hl]; exact hi)] at z
      cases z
      exact k (.ref q, .n l) (by simp) l rfl ds y.symm rfl
    · rw [List.getElem?_set_ne (Ne.symm nj)] at z
      exact F.ns j ds e z
  | [], _ :: _, h, _, _, _ => h.elim
  | _ :: _, [], h, _, _, _ => h.elim
theorem GoS.stoI {i : Nat} {v : V} {vs : List V} {it : It} {is : List It} {q : PM} (h : GoS K W w B D0 Hd De (seqP (Pd.stoI i it) q ρ ls)) (E : EOk K w B D0 Hd H σ ρ ls) (r : RpI K w B Hd H σ ρ (v :: vs) (it :: is)) :
    ∃ ρ', EOk K w B D0 Hd H (σ.set i (some v)) ρ' ls ∧ RpI K w B Hd H (σ.set i (some v)) ρ' vs is ∧ GoS K W w B D0 Hd De (q ρ' ls) := by
  unfold seqP at h
  by_cases hi : i < ρ.length
  · cases it with
    | d x =>
      have e1 : Pd.stoI i (.d x) ρ ls = .nx (ρ.set i (.dat x)) ls := if_pos hi
      rw [e1] at h
      exact ⟨_, E.store hi r.1, RpI.stored r.2 (fun u hu m e ds y => by cases y) hi E.len, h⟩
    | n l =>
      have e1 : Pd.stoI i (.n l) ρ ls = .nx (ρ.set i (.own l)) ls := if_pos hi
      rw [e1] at h
      obtain ⟨⟨p, xs, rfl, F, r1, ne⟩, t⟩ := r
      exact ⟨_, E.storeOwn hi F r1, RpI.stored t (fun u hu m e ds y => ne u hu m e) hi E.len, h⟩
  · cases it with
    | d x =>
      have e1 : Pd.stoI i (.d x) ρ ls = .no := if_neg hi
      rw [e1] at h
      exact h.elim
    | n l =>
      have e1 : Pd.stoI i (.n l) ρ ls = .no := if_neg hi
      rw [e1] at h
      exact h.elim
def par2I (i j : Nat) (ga : M (List It)) : PM := lift ga fun ds => match ds with
  | [x, y] => seqP (stoI i x) (seqP (stoI j y) skip)
  | _ => never
def par3I (i j k : Nat) (ga : M (List It)) : PM := lift ga fun ds => match ds with
  | [x, y, z] => seqP (stoI i x) (seqP (stoI j y) (seqP (stoI k z) skip))
  | _ => never
theorem us_parI {x y : Str} {ga : M (List It)} {px py pt pos : Pos} {kt k2 pt2} (i j : Nat) (hc : X.calm = true) (hN : X.N.Nodup) (ha : PA X [a, b] (UI2 K W ga)) (hi : X.N[i]? = some x := by rfl) (hj : X.N[j]? = some y := by rfl) (hij : i ≠ j := by decide)
    (hx : X.env.scope.names.lookup x = some .local := by rfl) (hy : X.env.scope.names.lookup y = some .local := by rfl)
    (hw : swappedStores [.Tuple [.Name x px, .Name y py] kt pt] (.Tuple [a, b] k2 pt2) X.env = pure (some [x, y]) := by rfl)
    (hs : swapsWithSole [.Tuple [.Name x px, .Name y py] kt pt] (.Tuple [a, b] k2 pt2) pos.line X.env = pure false := by rfl) :
    PS X (.Assign [.Tuple [.Name x px, .Name y py] kt pt] (.Tuple [a, b] k2 pt2) pos) (US K W (par2I i j ga)) := ps_imp (ps_par hc hN hi hj hij hx hy ha hw hs) fun D σ H h =>
  Ru.imp (US.lift h) fun w B D0 Hd' H' ρ' ls' ds E q vs r => by
    match ds, vs, r, q with
    | [d1, d2], [v1, v2], r, q =>
      refine ⟨_, _, rfl, ?_⟩
      obtain ⟨ρ1, E1, r1, q1⟩ := GoS.stoI q E r
      obtain ⟨ρ2, E2, r2, q2⟩ := GoS.stoI q1 E1 r1
      exact q2 _ Hd' H' E2 (Sub.refl _)
    | [], _, _, q => exact q.elim
    | [_], _, _, q => exact q.elim
    | [_, _], [], r, q => exact r.elim
    | [.d _, _], [_], r, q => exact r.2.elim
    | [.n _, _], [_], r, q => exact r.2.elim
    | [.d _, .d _], _ :: _ :: _ :: _, r, q => exact r.2.2.elim
    | [.d _, .n _], _ :: _ :: _ :: _, r, q => exact r.2.2.elim
    | [.n _, .d _], _ :: _ :: _ :: _, r, q => exact r.2.2.elim
    | [.n _, .n _], _ :: _ :: _ :: _, r, q => exact r.2.2.elim
    | _ :: _ :: _ :: _, _, _, q => exact q.elim
end
end Pd

set_option Elab.async false
set_option linter.all false
set_option maxRecDepth 100000
set_option maxHeartbeats 4000000
/-! Pd15: the least of a list of rows. -/
namespace Pd
open PySem PySem.Spec PySem.SeqAt PySem.W PyProof.Rows L2
def minR : List (List Int) → List Int
  | [] => []
  | x :: xs => xs.foldl (fun a y => if y < a then y else a) x
def rowP (l : List Int) : PyData := .tuple (l.map .int)
theorem rowP_inj : ∀ {a b : List Int}, rowP a = rowP b → a = b := fun {a b} h => by
  injection h with h
  exact List.map_inj_right (fun x y e => by injection e) |>.mp h
theorem alike_row (a b : List Int) : alike (rowP a) (rowP b) = true := alike_ints a b
theorem lt_row (a b : List Int) : dataLt (rowP a) (rowP b) = decide (a < b) := (dataLt_tuple _ _).trans (dataLt_ints a b)
theorem min_fold : ∀ (xs : List (List Int)) (x : List Int), (xs.map rowP).foldl (fun a y => if dataLt y a = true then y else a) (rowP x) = rowP (xs.foldl (fun a y => if y < a then y else a) x)
  | [], _ => rfl
  | y :: xs, x => by
    rw [List.map_cons, List.foldl_cons, List.foldl_cons, lt_row]
    by_cases h : y < x
    · rw [if_pos h, if_pos (decide_eq_true h), min_fold xs y]
    · rw [if_neg h, if_neg (by simpa using h), min_fold xs x]
theorem depth_rows : ∀ ns : List (List Int), PyData.depthAll (ns.map rowP) ≤ 1
  | [] => Nat.zero_le _
  | n :: ns => by
    have h1 : (rowP n).depth = PyData.depthAll (n.map .int) + 1 := by
      unfold rowP; rw [PyData.depth]
    rw [depth_ints] at h1
    show max (rowP n).depth (PyData.depthAll (ns.map rowP)) ≤ 1
    have := depth_rows ns
    omega
section
variable {prog : Program} {w : World} {A : Around} {E : Value → Shared → Prop} {s : Shared}
theorem min_rows {l : Addr} {vs : Array Value} {ns : List (List Int)} {as : List Addr} {Q : Value → Shared → Prop} (hh : A.handled = none) (hl : s.heap.IsList l vs) (hr : ReadsAll s.heap vs.toList (ns.map rowP) as) (hn : ns ≠ []) (hu : A.units + 2 < cLine)
    (h : ∀ (i : Nat) v h' tk, vs[i]? = some v → ns[i]? = some (minR ns) → (∀ b o, s.heap.get? b = some o → h'.get? b = some o) → Q v { s with heap := h', toks := tk }) :
    wpAny (model prog w) A (call (.builtin "min") [.ref l]) Q E s := by
  cases ns with
  | nil => exact absurd rfl hn
  | cons x xs =>
    have hl2 : vs.size = xs.length + 1 := by
      have := readsAll_len hr
      rw [List.length_map] at this
      exact this
    have ha : AlikeAll ((x :: xs).map rowP) := ⟨fun a h1 b h2 => by
      obtain ⟨p, _, rfl⟩ := List.mem_map.mp h1
      obtain ⟨q, _, rfl⟩ := List.mem_map.mp h2
      exact alike_row p q, fun a h1 e => by
      obtain ⟨p, _, rfl⟩ := List.mem_map.mp h1
      cases e⟩
    refine call_min_walkH (iter_listW (A := A.in1) hh hl fun s₂ e W st hfp hw hk => ?_)
    have hd := depth_rows (x :: xs)
    refine ⟨_, _, _, _, _, _, _, s.heap, _, rfl, W, st, hfp, by omega, hw, hk, cmpIn_lt (A := A.in1) hr ha (by show A.units + 1 + _ < _; omega), fun v s' hP m => ?_⟩
    obtain ⟨h', tk, rfl, hk'⟩ := moved_old e rfl m
    obtain ⟨e1, e2⟩ := argBest_fold dataLt PyData.none (rowP x) (xs.map rowP) (xs.map rowP).length (Nat.le_refl _)
    rw [List.take_length, min_fold] at e2
    rw [List.length_map] at e1 e2
    rw [show vs.size - 1 = xs.length by omega] at hP
    refine h _ v h' tk hP ?_ hk'
    have hi : argBest (fun i j => dataLt ((rowP x :: xs.map rowP).getD i .none) ((rowP x :: xs.map rowP).getD j .none)) xs.length < (x :: xs).length := by
      rw [List.length_cons]; omega
    have e3 : ∀ j, j < (x :: xs).length → (rowP x :: xs.map rowP).getD j PyData.none = rowP (minR (x :: xs)) → (x :: xs)[j]? = some (minR (x :: xs)) := fun j hj ej => by
      rw [← List.map_cons, List.getD_eq_getElem?_getD, List.getElem?_map, List.getElem?_eq_getElem hj] at ej
      rw [List.getElem?_eq_getElem hj]
      exact congrArg some (rowP_inj ej)
    exact e3 _ hi e2
end
section
variable {X : Cx}
def rMinR (K : PySem.W.Frag) : List V → Hp → VK → Prop := fun vs H Q => ∃ (a : Addr) (xs : List V) (ns : List (List Int)), vs = [V.ref a] ∧ SqL K H a xs ∧ DpAll K H xs (ns.map rowP) ∧ ns ≠ [] ∧ ∀ (i : Nat) (x : V), xs[i]? = some x → ns[i]? = some (minR ns) → Q x H
theorem cr_minR (hc : X.calm = true) (hu : X.A.units + 64 < cLine) : CallR X (.builtin "min") (rMinR X.K) := by
  intro pins s σ H vs us Q I r h
  obtain ⟨a, xs, ns, rfl, hs, hd, hn, q⟩ := h
  obtain ⟨its, rv, hl, _⟩ := I.list hs
  rw [Vals.ref1 r]
  obtain ⟨as, hr⟩ := Dp.readsAll I _ _ _ hd rv
  refine min_rows (I.ok.hd hc) hl.isList hr hn (by omega) fun i v h' tk hv hi hk => ?_
  have hv : its[i]? = some v := by simpa using hv
  have hx : i < xs.length := by
    rw [rv.length]
    exact (List.getElem?_eq_some_iff.mp hv).1
  obtain ⟨u, e1, e2⟩ := rv.get (List.getElem?_eq_getElem hx)
  cases e1.symm.trans hv
  exact ⟨_, H, I.kept hk, e2, q i _ (List.getElem?_eq_getElem hx) hi⟩
end
section
variable {X : Cx} {K : PySem.W.Frag} {W : WX} {α : Type} {w : Wd} {B D0 Hd Hd1 H : Hp} {σ : L2.St} {ρ : Rho} {ls : LS} {a b : Expr} {f : M Rf} {p pos p2 epos apos cpos : Pos} {fa : M Rf} {o : Expr}
/-- the rows of data -/
def rowsOf : List D → Option (List (List Int))
  | [] => some []
  | .tup l :: ds => match intsOf l, rowsOf ds with
    | some a, some b => some (a :: b)
    | _, _ => none
  | _ => none
theorem rowsOf_eq : ∀ {ds : List D} {ns : List (List Int)}, rowsOf ds = some ns → ds = ns.map row
  | [], ns, h => by
    cases h; rfl
  | d :: ds, ns, h => by
    unfold rowsOf at h
    cases d <;> try (cases h)
    rename_i l
    have h : (match intsOf l, rowsOf ds with
      | some a, some b => some (a :: b)
      | _, _ => none) = some ns := h
    cases e1 : intsOf l with
    | none => rw [e1] at h; cases h
    | some a =>
      cases e2 : rowsOf ds with
      | none => rw [e1, e2] at h; cases h
      | some b =>
        rw [e1, e2] at h
        cases h
        rw [List.map_cons, ← rowsOf_eq e2, intsOf_eq e1]; rfl
theorem rowsOf_map : ∀ ns : List (List Int), rowsOf (ns.map row) = some ns
  | [] => rfl
  | n :: ns => by
    show (match intsOf (zs n), rowsOf (ns.map row) with
      | some a, some b => some (a :: b)
      | _, _ => none) = _
    rw [rowsOf_map ns, intsOf_zs]
/-- min of a list of rows -/
def minLD : D → Option D
  | .lst l => (rowsOf l).bind fun ns => if ns = [] then none else some (row (minR ns))
  | _ => none
theorem py_rows : ∀ ns : List (List Int), D.pyL (ns.map row) = ns.map rowP
  | [] => rfl
  | n :: ns => by
    show (row n).py :: D.pyL (ns.map row) = _
    rw [py_rows ns]
    have : D.pyL (zs n) = n.map .int := by
      unfold zs
      induction n with
      | nil => rfl
      | cons x n ih => show _ :: D.pyL _ = _; rw [ih]; rfl
    show PyData.tuple (D.pyL (zs n)) :: _ = _
    rw [this]; rfl
theorem pure_rows : ∀ ns : List (List Int), D.pureL (ns.map row) = true
  | [] => rfl
  | n :: ns => by
    show ((row n).pure && D.pureL (ns.map row)) = true
    rw [pure_rows ns, Bool.and_true]
    show D.pureL (zs n) = true
    unfold zs
    induction n with
    | nil => rfl
    | cons x n ih => show (true && D.pureL _) = true; rw [ih]; rfl
theorem one_minL : One K (fun v => rMinR K [v]) minLD := by
  refine ⟨?_⟩
  intro w B D0 Hd H σ ρ ls v x z E hx e Q q
  cases x <;> try (exact noneE e)
  rename_i l
  obtain ⟨a, xs, rfl, ha, r⟩ := hx.lst_inv
  have e : (rowsOf l).bind (fun ns => if ns = [] then none else some (row (minR ns))) = some z := e
  cases e1 : rowsOf l with
  | none => rw [e1] at e; cases e
  | some ns =>
    rw [e1] at e
    have e : (if ns = [] then none else some (row (minR ns))) = some z := e
    by_cases hn : ns = []
    · rw [if_pos hn] at e; cases e
    · rw [if_neg hn] at e
      cases e
      have el := rowsOf_eq e1
      subst el
      have hd := (r.mono E.sub).dp (pure_rows ns)
      rw [py_rows] at hd
      refine ⟨a, xs, ns, rfl, SqL.of ha, hd, hn, fun i v hv hi => ?_⟩
      obtain ⟨d, h1, h2⟩ := r.getV hv
      rw [List.getElem?_map, hi] at h1
      cases h1
      exact q _ Hd H E (Sub.refl _) h2
theorem u_minL (hm : X.mg "min" = none) (hu : X.A.units + 64 < cLine) (hc : X.calm = true) (ha : PE X a (U X.K W f)) (hg : Gl X "min" := by rfl) (he : starEach [a] X.env = (false, eval a X.env) :: starEach [] X.env := by rfl) (hpl : (backTo pos (starEach [] X.env)).any (·.1) = false := by rfl) : PE X (.Call (.Name "min" p) [a] [] pos) (UV X.K W (uno minLD f)) :=
  u_callB (cr_minR hc hu) one_minL hm (by decide +kernel) ha hg (by decide) (by decide) he hpl
end
end Pd

set_option Elab.async false
set_option linter.all false
set_option maxRecDepth 100000
set_option maxHeartbeats 4000000
/-! Pd16: dicts whose keys are tuples. -/
namespace Pd
open PySem PySem.Spec PyProof.Rows L2
/-! ### keys -/
def keyE : D → Option Key
  | .int i => some (.inl i)
  | .str x => some (.inr x)
  | _ => none
def keyL : List D → Option (List Key)
  | [] => some []
  | d :: ds => match keyE d, keyL ds with
    | some k, some r => some (k :: r)
    | _, _ => none
theorem keyE_of {d : D} {k : Key} (h : keyE d = some k) : d = keyD k := by
  cases d <;> first | (cases h; rfl) | cases h
theorem keyL_of : ∀ {ds : List D} {k : List Key}, keyL ds = some k → ds = k.map keyD
  | [], _, h => by cases h; rfl
  | d :: ds, k, h => by
    unfold keyL at h
    cases e1 : keyE d with
    | none => rw [e1] at h; cases h
    | some a =>
      cases e2 : keyL ds with
      | none => rw [e1, e2] at h; cases h
      | some r =>
        rw [e1, e2] at h
        cases h
        rw [keyE_of e1, keyL_of e2]; rfl
theorem keyE_key (k : Key) : keyE (keyD k) = some k := by cases k <;> rfl
theorem keyL_key : ∀ k : List Key, keyL (k.map keyD) = some k
  | [] => rfl
  | a :: k => by
    show (match keyE (keyD a), keyL (k.map keyD) with
      | some k, some r => some (k :: r)
      | _, _ => none) = _
    rw [keyE_key, keyL_key k]
def keyT : D → Option (List Key)
  | .ktp l => keyL l
  | _ => none
theorem keyT_of {d : D} {k : List Key} (h : keyT d = some k) : d = .ktp (k.map keyD) := by
  cases d <;> first | (cases h; done) | (rename_i l; exact congrArg D.ktp (keyL_of h))
theorem keyT_key (k : List Key) : keyT (.ktp (k.map keyD)) = some k := keyL_key k
section
variable {K : PySem.W.Frag} {Hd H : Hp}
theorem rp_key {v : V} : ∀ {k : Key}, Rp K H v (keyD k) → v = kV k
  | .inl _, h => by cases h; rfl
  | .inr _, h => by cases h; rfl
theorem rpl_key : ∀ {k : List Key} {vs : List V}, RpL K H vs (k.map keyD) → vs = k.map kV
  | [], _, h => by cases h; rfl
  | a :: k, _, h => by
    cases h with
    | cons r t => rw [rp_key r, rpl_key t]; rfl
theorem key_rp : ∀ (k : Key), Rp K H (kV k) (keyD k)
  | .inl i => .int i
  | .inr x => .str x
theorem key_rpl : ∀ (k : List Key), RpL K H (k.map kV) (k.map keyD)
  | [] => .nil
  | a :: k => .cons (key_rp a) (key_rpl k)
/-! ### what a dict holds -/
abbrev kTs (kvs : List (List Key × V)) : List D := kvs.map fun p => .ktp (p.1.map keyD)
def getK : List D → List D → List Key → Option D
  | k' :: ks, e :: es, k => if keyT k' = some k then some e else getK ks es k
  | _, _, _ => none
theorem getK_val {k : List Key} : ∀ {kvs : List (List Key × V)} {es : List D}, RpL K H (kvs.map (·.2)) es →
    (∀ e, getK (kTs kvs) es k = some e → ∃ v, valV kvs k = some v ∧ Rp K H v e) ∧ (getK (kTs kvs) es k = none → valV kvs k = none)
  | [], _, h => by
    cases h
    exact ⟨fun e z => (nomatch z), fun _ => rfl⟩
  | p :: kvs, _, h => by
    cases h with
    | @cons v vs e es r t =>
      obtain ⟨i1, i2⟩ := getK_val (k := k) t
      show (∀ x, (if keyT (.ktp (p.1.map keyD)) = some k then some e else getK (kTs kvs) es k) = some x → _) ∧ ((if keyT (.ktp (p.1.map keyD)) = some k then some e else getK (kTs kvs) es k) = none → _)
      rw [keyT_key]
      by_cases hk : p.1 = k
      · rw [if_pos (by rw [hk]), valV_pos hk]
        exact ⟨fun x z => by cases z; exact ⟨_, rfl, r⟩, fun z => (nomatch z)⟩
      · rw [if_neg (fun z => hk (Option.some.inj z)), valV_neg hk]
        exact ⟨i1, i2⟩
def hasK (ks : List D) (k : List Key) : Bool := ks.any fun d => decide (keyT d = some k)
def putKs (ks : List D) (k : List Key) : List D := if hasK ks k = true then ks else ks ++ [.ktp (k.map keyD)]
def repK : List D → List D → List Key → D → List D
  | d :: ks, x :: es, k, e => (if keyT d = some k then e else x) :: repK ks es k e
  | _, _, _, _ => []
def putEs (ks es : List D) (k : List Key) (e : D) : List D := if hasK ks k = true then repK ks es k e else es ++ [e]
theorem hasK_kTs (kvs : List (List Key × V)) (k : List Key) : hasK (kTs kvs) k = kvs.any fun kv => decide (kv.1 = k) := by
  unfold hasK kTs
  rw [List.any_map]
  congr 1
  funext p
  show decide (keyT (.ktp (p.1.map keyD)) = some k) = decide (p.1 = k)
  rw [keyT_key]
  by_cases h : p.1 = k
  · rw [decide_eq_true h, decide_eq_true (by rw [h])]
  · rw [decide_eq_false h, decide_eq_false (fun z => h (Option.some.inj z))]
theorem repK_rel {k : List Key} {v : V} {e : D} (re : Rp K H v e) : ∀ {kvs : List (List Key × V)} {es : List D}, RpL K H (kvs.map (·.2)) es →
    RpL K H ((kvs.map fun kv => if kv.1 = k then (kv.1, v) else kv).map (·.2)) (repK (kTs kvs) es k e)
  | [], _, h => by cases h; exact .nil
  | p :: kvs, _, h => by
    cases h with
    | @cons u vs x es r t =>
      show RpL K H ((if p.1 = k then (p.1, v) else p).2 :: _) ((if keyT (.ktp (p.1.map keyD)) = some k then e else x) :: _)
      rw [keyT_key]
      by_cases hk : p.1 = k
      · rw [if_pos hk, if_pos (by rw [hk])]
        exact .cons re (repK_rel re t)
      · rw [if_neg hk, if_neg (fun z => hk (Option.some.inj z))]
        exact .cons r (repK_rel re t)
theorem put_rel {k : List Key} {v : V} {e : D} {kvs : List (List Key × V)} {es : List D} (re : Rp K H v e) (h : RpL K H (kvs.map (·.2)) es) :
    kTs (putK kvs k v) = putKs (kTs kvs) k ∧ RpL K H ((putK kvs k v).map (·.2)) (putEs (kTs kvs) es k e) := by
  unfold putK putKs putEs
  rw [hasK_kTs]
  by_cases c : (kvs.any fun kv => decide (kv.1 = k)) = true
  · rw [if_pos c, if_pos c, if_pos c]
    refine ⟨?_, repK_rel re h⟩
    unfold kTs
    rw [List.map_map]
    refine List.map_congr_left fun p _ => ?_
    show D.ktp (List.map keyD (if p.1 = k then (p.1, v) else p).1) = _
    by_cases hk : p.1 = k
    · rw [if_pos hk]
    · rw [if_neg hk]
  · rw [if_neg c, if_neg c, if_neg c]
    unfold kTs
    rw [List.map_append, List.map_append]
    exact ⟨rfl, h.append (.cons re .nil)⟩
end
/-! ### a dict in hand -/
def dOwn {α : Type} (k : List D → List D → α) (n : α) : Option Sl → α
  | some (.ow (.d ks es)) => k ks es
  | _ => n
theorem dOwn_some {α : Type} {k : List D → List D → α} {n : α} {o : Option Sl} {P : α → Prop} (hn : ¬ P n) (h : P (dOwn k n o)) : ∃ ks es, o = some (.ow (.d ks es)) ∧ P (k ks es) := by
  cases o with
  | none => exact absurd h hn
  | some s =>
    cases s with
    | un => exact absurd h hn
    | dat _ => exact absurd h hn
    | ow o =>
      cases o with
      | l _ => exact absurd h hn
      | d ks es => exact ⟨ks, es, rfl, h⟩
section
variable {X : Cx} {K : PySem.W.Frag} {W : WX} {α : Type} {w : Wd} {B D0 Hd Hd1 H : Hp} {σ : L2.St} {ρ : Rho} {ls : LS} {a b e g : Expr} {p pos pos2 p2 epos apos cpos : Pos} {o : Expr} {De : Ends} {ga : M (List D)}
theorem Go.xOwnD {α : Type} {k : List D → List D → Out α} {o : Option Sl} {P : Hp → Hp → Rho → LS → α → Prop} (h : Go K W w B D0 σ Hd (dOwn k .no o) P) : ∃ ks es, o = some (.ow (.d ks es)) ∧ Go K W w B D0 σ Hd (k ks es) P :=
  dOwn_some (P := fun a => Go K W w B D0 σ Hd a P) id h
/-- x = {} -/
def newD (i : Nat) : PM := fun ρ ls => if i < ρ.length then .nx (ρ.set i (.ow (.d [] []))) ls else .no
theorem us_newD {x : Str} {pos' : Pos} (i : Nat) (hN : X.N.Nodup) (hi : X.N[i]? = some x := by rfl) (hx : Loc X.env.scope x := by first | exact Or.inl rfl | exact Or.inr rfl) (hs : swapsWith (.Dict [] [] p) (some (.Name x pos')) pos.line X.env = pure false := by rfl) (hf : X.fn x = true ∨ X.env.scope.names.lookup x = some .local := by first | exact .inl rfl | exact .inr rfl | assumption) :
    PS X (.Assign [.Name x pos'] (.Dict [] [] p) pos) (US K W (newD i)) := ps_imp (ps_set hN hi hx pe_dnewT hs hf) fun De σ H h => by
  obtain ⟨w, B, D0, Hd, ρ, ls, E, q⟩ := h
  intro d hd
  have q : GoS K W w B D0 Hd De (if i < ρ.length then .nx (ρ.set i (.ow (.d [] []))) ls else .no) := q
  by_cases hl : i < ρ.length
  · rw [if_pos hl] at q
    obtain ⟨E2, F⟩ := E.newOb (u0 := .dT []) hd
    exact q _ _ _ (E2.storeOw hl F ⟨[], rfl, rfl, .nil⟩) (Sub.refl _)
  · rw [if_neg hl] at q; exact q.elim
/-- x.get(k, z) -/
def getZ (ks es : List D) (k z : D) : Option D := (keyT k).map fun kk => (getK ks es kk).getD z
def getOM (i : Nat) (f g : M D) : M D := fun ρ ls => dOwn (fun _ _ => bnd f (fun k => bnd g fun z ρ ls => dOwn (fun ks es => opt (getZ ks es k z) ρ ls) .no ρ[i]?) ρ ls) .no ρ[i]?
theorem key_at {v : V} {k : D} {kk : List Key} (r : Rp K Hd v k) (h : keyT k = some kk) : ∃ b, v = .ref b ∧ Hd b = some (.tup (kk.map kV)) := by
  rw [keyT_of h] at r
  cases r with
  | ktp e t => exact ⟨_, rfl, by rw [e, rpl_key t]⟩
theorem u_getO {fk fz : M D} (i : Nat) (hu : X.A.units + 1 < cLine) (hv : PE X o (tVar i)) (hk : PE X e (UV X.K W fk)) (hz : PE X g (UV X.K W fz)) (m : M2 X o "get" apos e g cpos) :
    PE X (.Call (.Attribute o "get" apos) [e, g] [] cpos) (UV X.K W (getOM i fk fz)) := pe_imp (pe_dget2 hu hv hk hz m) fun σ H Q q => by
  obtain ⟨w, B, D0, Hd, ρ, ls, E, q⟩ := q
  obtain ⟨ks, es, e1, q⟩ := Go.xOwnD q
  obtain ⟨d, kvs, h1, h2, _⟩ := E.ownD i _ _ e1
  refine ⟨.ref d, h1, d, rfl, .inr ⟨kvs, .inl h2⟩, w, B, D0, Hd, ρ, ls, E, ?_⟩
  refine Go.imp q.xBnd fun Hd1 H1 ρ1 ls1 k E1 s1 q1 v hv => ?_
  refine Go.ru (P := fun _ _ _ Hd' H' _ _ z => ∀ u, Rp X.K Hd' u z → _) E1 ?_
  refine Go.imp q1.xBnd fun Hd2 H2 ρ2 ls2 z E2 s2 q2 u hu => ?_
  obtain ⟨ks2, es2, e2, q3⟩ := Go.xOwnD q2
  obtain ⟨d2, kvs2, g1, g2, g3, g4, _⟩ := E2.ownD i _ _ e2
  rw [h1] at g1; cases g1
  obtain ⟨x, hx, q4⟩ := q3.xOpt1
  obtain ⟨kk, hkk, rfl⟩ := map_some hx
  obtain ⟨b, rfl, hb⟩ := key_at (hv.mono s2) hkk
  refine ⟨valV kvs2 kk, .t g2 (E2.sub _ _ hb), ?_⟩
  rw [g3] at q4
  obtain ⟨i1, i2⟩ := getK_val (k := kk) g4
  cases c : getK (kTs kvs2) es2 kk with
  | none =>
    rw [i2 c]
    rw [show getK (List.map (fun p => D.ktp (p.1.map keyD)) kvs2) es2 kk = none from c] at q4
    exact q4 Hd2 H2 E2 (Sub.refl _) u hu
  | some y =>
    obtain ⟨vv, j1, j2⟩ := i1 y c
    rw [j1]
    rw [show getK (List.map (fun p => D.ktp (p.1.map keyD)) kvs2) es2 kk = some y from c] at q4
    exact q4 Hd2 H2 E2 (Sub.refl _) vv j2
/-- x[k] = v -/
def putS (i : Nat) (k v : D) (ρ : Rho) (ls : LS) (ks es : List D) : PO := match keyT k with
  | some kk => if ks.length < top then .nx (ρ.set i (.ow (.d (putKs ks kk) (putEs ks es kk v)))) ls else .no
  | none => .no
def putP (i : Nat) (f fv : M D) : PM := lift fv fun v ρ ls => dOwn (fun _ _ => lift f (fun k ρ ls => dOwn (putS i k v ρ ls) .no ρ[i]?) ρ ls) .no ρ[i]?
theorem GoS.xOwnD {k : List D → List D → PO} {o : Option Sl} (h : GoS K W w B D0 Hd De (dOwn k .no o)) : ∃ ks es, o = some (.ow (.d ks es)) ∧ GoS K W w B D0 Hd De (k ks es) :=
  dOwn_some (P := fun a => GoS K W w B D0 Hd De a) id h
theorem us_put {fk fv : M D} (i : Nat) (hu : X.A.units + 1 < cLine) (ho : PE X o (tVar i)) (hk : PE X e (UV X.K W fk)) (hv : PE X g (UV X.K W fv)) (hs : swapsWith g (some (.Subscript o e pos2)) pos.line X.env = pure false := by rfl) :
    PS X (.Assign [.Subscript o e pos2] g pos) (US X.K W (putP i fk fv)) := ps_imp (ps_dput hu ho hk hv hs) fun De σ H h => by
  refine Ru.imp (US.lift h) fun w B D0 Hd1 H1 ρ1 ls1 v E1 q1 u hu => ?_
  obtain ⟨ks, es, e1, q2⟩ := GoS.xOwnD q1
  obtain ⟨d, kvs, h1, h2, _⟩ := E1.ownD i _ _ e1
  refine ⟨.ref d, h1, w, B, D0, Hd1, ρ1, ls1, E1, ?_⟩
  refine Go.imp q2.lift fun Hd2 H2 ρ2 ls2 k E2 s2 q3 y hy => ?_
  obtain ⟨ks2, es2, e2, q4⟩ := GoS.xOwnD q3
  obtain ⟨d2, kvs2, g1, g2, g3, g4, g5, g6, g7⟩ := E2.ownD i _ _ e2
  rw [h1] at g1; cases g1
  unfold putS at q4
  cases c : keyT k with
  | none => rw [c] at q4; exact q4.elim
  | some kk =>
    rw [c] at q4
    have q4 : GoS X.K W w B D0 Hd2 De (if ks2.length < top then .nx (ρ2.set i (.ow (.d (putKs ks2 kk) (putEs ks2 es2 kk v)))) ls2 else .no) := q4
    by_cases hl : ks2.length < top
    · rw [if_pos hl] at q4
      obtain ⟨b, rfl, hb⟩ := key_at hy c
      have hl2 : kvs2.length < sizeLine := top_lt (by rw [g3, List.length_map] at hl; exact hl)
      refine ⟨d, _, rfl, DPut.t g2 (E2.sub _ _ hb) hl2, ?_⟩
      obtain ⟨p1, p2⟩ := put_rel (k := kk) (Rp.mono s2 hu) g4
      rw [g3] at q4
      exact q4 _ _ _ (E2.changeO (es := .d (putKs (kTs kvs2) kk) (putEs (kTs kvs2) es2 kk v)) e2 h1 ⟨_, rfl, p1.symm, p2⟩) (Sub.refl _)
    · rw [if_neg hl] at q4; exact q4.elim
/-! ### tuples to be keys -/
def ktpM (ga : M (List D)) : M D := bnd ga fun ds => opt ((few ds).map .ktp)
theorem u_ktp {es : List Expr} {k : Nat} (h : PA X es (UA X.K W ga)) : PE X (.Tuple es k pos) (UV X.K W (ktpM ga)) := pe_imp (pe_tup h) fun σ H Q h => by
  refine Ru.imp h.xBnd fun w B D0 Hd1 H1 ρ1 ls1 ds E1 q1 vs hv => ?_
  obtain ⟨l, e, q2⟩ := q1.xOpt1
  obtain ⟨l2, e2, rfl⟩ := map_some e
  obtain ⟨rfl, hl⟩ := few_some e2
  refine ⟨by rw [hv.length]; exact top_le hl, fun p hp => ?_⟩
  have sd : Sub Hd1 (upd Hd1 p (.tup vs)) := .upd (E1.nd_new hp)
  exact q2 _ _ (E1.newDat hp (fun _ h => by cases h)) sd _ (.ktp upd_same (hv.mono sd))
/-! ### a dict that stays -/
def getF : D → D → Option D
  | .dcf ks es, k => (keyT k).bind fun kk => getK ks es kk
  | _, _ => none
def rDGet (K : PySem.W.Frag) : R2 := fun x y H Q => ∃ a v, x = V.ref a ∧ DGet H a y (some v) ∧ Q v H
theorem bind_some2 {α β : Type} {f : α → Option β} {o : Option α} {y : β} (h : o.bind f = some y) : ∃ x, o = some x ∧ f x = some y := by
  cases o with
  | none => cases h
  | some x => exact ⟨x, rfl, h⟩
theorem od_dget : OpD K (rDGet K) getF := by
  refine ⟨?_⟩
  intro w B D0 Hd H σ ρ ls v u x y z E hx hy e Q q
  cases x <;> try (exact noneE e)
  obtain ⟨a, ob, kvs, rfl, ha, rfl, r⟩ := hx.dcf_inv
  obtain ⟨kk, h1, h2⟩ := bind_some2 (show (keyT y).bind (fun kk => getK _ _ kk) = some z from e)
  have hy2 := keyT_of h1
  subst hy2
  obtain ⟨b, xs, rfl, hb, t⟩ := hy.ktp_inv
  rw [rpl_key t] at hb
  obtain ⟨i1, _⟩ := getK_val (k := kk) r
  obtain ⟨vv, j1, j2⟩ := i1 z h2
  refine ⟨a, vv, rfl, .inr ⟨kvs, kk, b, .inr ⟨ob, E.sub _ _ ha⟩, rfl, E.sub _ _ hb, j1.symm⟩, q _ Hd H E (Sub.refl _) j2⟩
theorem u_dget {f g : M Rf} (hu : X.A.units + 1 < cLine) (ha : PE X a (U X.K W f)) (hb : PE X b (U X.K W g)) (hs : NoSl b) : PE X (.Subscript a b pos) (UV X.K W (bin getF f g)) := pe_imp (pe_dget hu ha hb hs) fun _ _ _ q => read_bin od_dget q
/-- a tuple that stands is known from now on -/
theorem EOk.learn {q : Addr} {xs : List V} (E : EOk K w B D0 Hd H σ ρ ls) (h : H q = some (.tup xs)) : ∃ Hd2, EOk K w B D0 Hd2 H σ ρ ls ∧ Sub Hd Hd2 ∧ Hd2 q = some (.tup xs) := by
  cases e : Hd q with
  | some o =>
    have := E.sub _ _ e
    rw [h] at this; cases this
    exact ⟨Hd, E, Sub.refl _, e⟩
  | none =>
    have sd : Sub Hd (upd Hd q (.tup xs)) := .upd e
    refine ⟨upd Hd q (.tup xs), ⟨E.base, E.dom, fun b o e2 => ?_, E.sub0.trans sd, fun b z => ?_, fun b o e2 => ?_, fun b o e2 => ?_, E.st, E.len, fun i d e2 => ?_, fun i o e2 => ?_, E.apa⟩, sd, upd_same⟩
    · by_cases hb : b = q
      · subst hb; rw [upd_same] at e2; cases e2; exact h
      · rw [upd_ne hb] at e2; exact E.sub b o e2
    · have hb : b ≠ q := fun y => by
        subst y
        rcases z with rfl | rfl | rfl
        · rw [E.st.ha] at h; cases h
        · rw [E.st.hg] at h; cases h
        · rw [E.st.hc] at h; cases h
      rw [upd_ne hb]; exact E.noz b z
    · by_cases hb : b = q
      · subst hb; rw [upd_same] at e2; cases e2; exact fun _ z => nomatch z
      · rw [upd_ne hb] at e2; exact E.nt b o e2
    · by_cases hb : b = q
      · subst hb; rw [upd_same] at e2; cases e2; exact .inr (.inr ⟨xs, rfl⟩)
      · rw [upd_ne hb] at e2; exact E.fr b o e2
    · obtain ⟨v, h1, h2⟩ := E.dat i d e2
      exact ⟨v, h1, h2.mono sd⟩
    · obtain ⟨p, u, h1, h2, h3, h4, h5, h6⟩ := E.ow i o e2
      have hp : p ≠ q := fun z => by
        subst z
        rw [h] at h2; cases h2
        exact h3.notup
      exact ⟨p, u, h1, h2, h3.mono sd, by rw [upd_ne hp]; exact h4, h5, h6⟩
/-- for k in d -/
def keysM (f : M D) : M (List D) := bnd f fun d => opt (match d with
  | .dcf ks _ => some ks
  | _ => none)
theorem it_keys {d : Addr} {ob : Obj} {kvs : List (List Key × V)} (h : Hd d = some (.frz ob (.dT kvs))) : ItOk K (Itkt d ob kvs) Hd (kTs kvs) where
  go := fun i H hi s => ⟨s _ _ h, by rw [List.length_map] at hi; exact hi⟩
  stop := fun i H hi s => ⟨s _ _ h, by rw [List.length_map] at hi; exact hi⟩
  yld := fun i x H' d E s y e => by
    obtain ⟨rfl, k, v, q, h1, rfl, h2⟩ := y
    rw [List.getElem?_map, h1] at e
    cases e
    obtain ⟨Hd2, E2, s2, h3⟩ := E.learn h2
    exact ⟨Hd2, E2, s2, .ktp h3 (key_rpl k), fun _ _ z => z⟩
theorem ui_keys {tg : Expr} {f : M D} (h : PE X e (UV X.K W f)) : PI X tg e (UI X.K W (keysM f)) := pi_imp (pi_keys h) fun σ H R q => by
  refine Ru.imp q.xBnd fun w B D0 Hd1 H1 ρ1 ls1 d E1 q1 v hv => ?_
  obtain ⟨ds, e1, q2⟩ := q1.xOpt1
  cases d <;> try (cases e1; done)
  cases e1
  cases hv with
  | dT h1 h2 h3 h4 =>
    refine ⟨_, _, rfl, .inr ⟨_, E1.sub _ _ h1, q2 Hd1 H1 E1 (Sub.refl _) _ ?_⟩⟩
    rw [h3]
    exact it_keys h1
end
end Pd

set_option Elab.async false
set_option linter.all false
set_option maxRecDepth 100000
set_option maxHeartbeats 4000000
/-! Pd17: a dict of tuples made by a comprehension: nobody changes it any more. -/
namespace Pd
open PySem PySem.Spec PyProof.Rows L2
section
variable {X : Cx} {pins : List (Addr × Obj)} {σ : L2.St} {H : Hp}
/-- an entry is put in by a comprehension -/
theorem tset {t : Shared} {Er : Value → Shared → Prop} {D b : Addr} {kvs : List (List Key × V)} {k : List Key} {v : V} {u r : Value} {Q : Unit → Shared → Prop} (J : Inv X pins σ H t) (hD : H D = some (.dT kvs)) (hb : H b = some (.tup (k.map kV))) (hz : kvs.length < sizeLine)
    (hu : X.A.units + 1 < cLine) (ru : RelV (.ref b) u) (rr : RelV v r) (q : ∀ t', Inv X pins σ (upd H D (.dT (putK kvs k v))) t' → Q () t') : wpAny (model X.prog X.w) X.A (dictSet D u r) Q Er t := by
  cases (show u = Value.ref b from ru)
  obtain ⟨zl, ns, xs, rel, dd⟩ := dt_of J.hok hD
  have hl := length_putK kvs k v
  refine wpAny_dictSet_heap (hsz := by rw [← Paired.length rel]; exact zl) (Nat.lt_of_succ_lt hu) (key_of J.hok hb) dd fun g dd2 sb => q _ ?_
  obtain ⟨ob, es, ep, e1, e2, e3, e4, _, e5⟩ := dd2
  refine d_write J (by rw [hD]; trivial) sb ⟨ob, e1⟩ ⟨by omega, ns, _, (rel.put k hb rr).keeps fun c ys ec => ?_, ob, es, ep, e1, e2, e3, e4, e5⟩
  rw [upd_ne (L2.ne_of ec hD (fun z => nomatch z))]
  exact ec
/-- {k: v for target in iter}, keys tuples; what it makes stays as it is -/
def tDcT (wi : TI) (g : TG) (tt : TT) (tk tv : TE) (vs : List Nat) : TE := fun σ H Q => wi σ H fun I0 H1 => ∀ D, H1 D = none → ∃ R : Nat → Nat → Hp → Prop, (∃ m, R 0 m (upd H1 D (.dT []))) ∧
  ∀ i m H, R i m H → (I0.stop i H ∧ ∃ kvs, H D = some (.dT kvs) ∧ ∀ od, Q (.ref D) (upd H D (.frz od (.dT kvs)))) ∨
    (I0.go i H ∧ ∃ S : Hp → Prop, (∀ H', S H' → ∃ m', m' < m ∧ R (i + 1) m' H') ∧ ∀ x H', I0.yld i H x H' → g x (wipe σ vs) H' fun σ2 H2 => wipe σ2 vs = wipe σ vs ∧ tt σ2 H2 fun c H3 =>
      if c = true then tk σ2 H3 fun y H4 => tv σ2 H4 fun z H5 => ∃ kvs k b, y = .ref b ∧ H5 b = some (.tup (k.map kV)) ∧ H5 D = some (.dT kvs) ∧ kvs.length < sizeLine ∧ S (upd H5 D (.dT (putK kvs k z))) else S H3)
abbrev dictO : Obj := { cls := .type "dict", data := .dict #[] }
theorem pe_dcT {kx vx tg iter : Expr} {ifs : List Expr} {scope : Scope} {own : List (Str × Nat)} {pos : Pos} {wi : TI} {g : TG} {tt : TT} {tk tv : TE} (hc : X.calm = true) (hu : X.A.units + 1 < cLine) (hN : X.N.Nodup) (hi : PI X tg iter wi) (ok : BlkOk X.N X.env.scope scope own)
    (hg : ∀ (s : Shared) (H : Hp) (C : Addr) (cl : List (Str × Addr)) (fp : List Addr), PG (X.blk s H scope (compEnvC scope cl C X.env) fp) tg g)
    (ht : ∀ (s : Shared) (H : Hp) (C : Addr) (cl : List (Str × Addr)) (fp : List Addr), PTs (X.blk s H scope (compEnvC scope cl C X.env) fp) ifs tt)
    (hk : ∀ (s : Shared) (H : Hp) (C : Addr) (cl : List (Str × Addr)) (fp : List Addr), PE (X.blk s H scope (compEnvC scope cl C X.env) fp) kx tk)
    (hv : ∀ (s : Shared) (H : Hp) (C : Addr) (cl : List (Str × Addr)) (fp : List Addr), PE (X.blk s H scope (compEnvC scope cl C X.env) fp) vx tv)
    (hs : ∀ x, foldedSetIterable iter X.env x = pure x := by intro _; rfl) : PE X (.DictComp kx vx [⟨tg, iter, ifs, 0⟩] scope pos) (tDcT wi g tt tk tv (own.map (·.2))) := by
  constructor
  intro pins s σ H Q I0 h
  rw [arm_eval_DictComp]
  have cells : ∀ y ∈ scope.names, y.2 = .free → ∃ c, X.env.cells.lookup y.1 = some c := fun y hy e => (ok.free y hy e).elim (fun q => I0.ok.has _ (.inl q)) fun q => I0.ok.has _ (.inr q)
  refine wpAny_comprehension_free (use := none) rfl hs (closure_ok cells) ok.kind (fun y hy e => by rw [ok.uniq y hy, e]) ?_
  refine thn (hi.run pins s σ H _ I0 h) fun _ _ q1 => thn q1 fun _ sA q2 => ?_
  obtain ⟨it, fp, tn, J, HA, rfl, IA, T, stA, fA, q3⟩ := q2
  refine wpAny_newObj_type (newEnv_comp ?_)
  obtain ⟨D, hD⟩ : ∃ D, D = sA.heap.objs.size := ⟨_, rfl⟩
  rw [← hD]
  have dn : HA D = none := IA.hok.fresh (Nat.le_of_eq hD.symm)
  obtain ⟨R, ⟨m0, r0⟩, turn⟩ := q3 D dn
  obtain ⟨sB, hB⟩ : ∃ sB : Shared, sB = { sA with heap := sA.heap.push dictO } := ⟨_, rfl⟩
  have hpB : sB.heap = sA.heap.push dictO := by rw [hB]
  have keepB : ∀ b o, sA.heap.get? b = some o → sB.heap.get? b = some o := fun b o e => by rw [hpB]; exact Heap.get?_push_of_some _ e
  have IB : Inv X pins σ (upd HA D (.dT [])) sB := by
    rw [hB]
    refine IA.laid (t' := sA.toks) (fun b o e => Heap.get?_push_of_some _ e) (Nat.le_of_eq hD.symm) ?_
    rw [hD]
    exact dt_empty sA.heap IA.big
  have fpB : ∀ b ∈ fp, FpOk X pins (upd HA D (.dT [])) b ∧ b < sB.heap.objs.size := fun b hb => by
    obtain ⟨o, e, _⟩ := T.obj _ _ stA b hb
    have lt := Heap.lt_size e
    obtain ⟨f1, f2⟩ := fA b hb
    refine ⟨⟨?_, f2⟩, by rw [hpB, Heap.size_push]; exact Nat.lt_succ_of_lt lt⟩
    rw [upd_ne (fun z => Nat.ne_of_lt lt (z.trans hD))]; exact f1
  have stB : tn 0 sB.heap := T.keep _ _ _ stA fun b _ o e => keepB b o e
  have IC := block_start IB ok hN fpB
  obtain ⟨C, hC⟩ : ∃ C, C = sB.heap.objs.size := ⟨_, rfl⟩
  obtain ⟨cl, hcl⟩ : ∃ cl, cl = cellsFrom (C + 1) scope.names (cloFrom X.env.cells scope.names []) := ⟨_, rfl⟩
  obtain ⟨HB, hHB⟩ : ∃ HB, HB = upd HA D (.dT []) := ⟨_, rfl⟩
  obtain ⟨env, hE⟩ : ∃ env, env = compEnvC scope cl C X.env := ⟨_, rfl⟩
  rw [← hC] at IC
  rw [← hcl, ← hHB, ← hE] at IC
  rw [← hHB] at r0
  have IB2 : Inv X pins σ HB sB := by rw [hHB]; exact IB
  have g1 := hg sB HB C cl fp
  have g2 := ht sB HB C cl fp
  have g3 := hk sB HB C cl fp
  have g4 := hv sB HB C cl fp
  rw [← hE] at g1 g2 g3 g4
  have eC : env.locals = C := by rw [hE]; rfl
  have nfp : ∀ b ∈ fp, HB b = none := fun b hb => by rw [hHB]; exact (fpB b hb).1.1
  obtain ⟨sC, hsC⟩ : ∃ sC : Shared, sC = { sB with heap := pushCells (sB.heap.push dictO) scope.names } := ⟨_, rfl⟩
  rw [← hsC] at IC
  have stC : tn 0 sC.heap := T.keep _ _ _ stB fun b _ o e => by rw [hsC]; exact pushCells_keeps _ _ _ _ (Heap.get?_push_of_some _ e)
  have quiet : ∀ {σ' : L2.St} {H' : Hp} {t : Shared}, Inv (X.blk sB HB scope env fp) [] σ' H' t → (∀ b ∈ fp, H' b = none) → ∀ b ∈ fp, FpOk (X.blk sB HB scope env fp) [] H' b := fun I n b hb =>
    ⟨n b hb, (I.ok.exf b hb).1, I.ok.exfs b hb, Or.inl hb, fun x c e => (I.ok.exf b hb).2 x c e, fun p hp => by cases hp⟩
  have loop : codeAny (model X.prog X.w) X.A (.compLoop (.DictComp kx vx [⟨tg, iter, ifs, 0⟩] scope pos) 0 (.ref it) (.ref D) env) (compPost (model X.prog X.w) X.A X.xe none (EP X pins σ Q) (.ref D) C) sC := by
    refine compLoop_anyD (fun n t => ∃ i H', Inv (X.blk sB HB scope env fp) [] (wipe σ (own.map (·.2))) H' t ∧ tn i t.heap ∧ (∀ b ∈ fp, H' b = none) ∧ R i n H') ?_ m0 ⟨0, HB, IC, stC, nfp, r0⟩
    rintro n t ⟨i, Hi, Ii, sti, ni, ri⟩
    rcases turn i n Hi ri with ⟨hst, kvs, hkv, hQ⟩ | ⟨hgo, S, hS, step⟩
    · refine thnF (T.done (X.blk sB HB scope env fp) rfl rfl rfl hc i [] t _ Hi (fun _ _ => False) Ii (quiet Ii ni) sti hst) fun r t2 q => ?_
      obtain ⟨rfl, I2⟩ := q
      have I3 : Inv X pins σ Hi t2 := IB2.call' (ch := fp) I2.os I2.base I2.hok I2.bare fun b hb => by
        obtain ⟨_, z1, z2, z3, z4, z5⟩ := (fpB b hb).1
        exact ⟨z3, z1, z4, z5⟩
      have nC : Hi C = none := by
        have z : Hi env.locals = none := I2.free
        rwa [eC] at z
      obtain ⟨m, hn, _⟩ := I2.loc
      have hn : t2.heap.Ns env.locals m := hn
      rw [eC] at hn
      refine ⟨m, hn, fun h2 sb => ?_⟩
      obtain ⟨od, I4⟩ := I3.lock hkv trivial
      have fC : FpOk X pins (upd Hi D (.frz od (.dT kvs))) C := by
        have := IB2.fpOk (Nat.le_of_eq hC.symm) nC
        obtain ⟨_, z1, z2, z3, z4, z5⟩ := this
        refine ⟨?_, z1, z2, z3, z4, z5⟩
        rw [upd_ne (fun z => by rw [z, hkv] at nC; cases nC)]
        exact nC
      obtain ⟨f0, f1, f2, f3, f4, f5⟩ := fC
      exact ⟨.ref D, _, I4.turned (t' := t2.toks) (fun b o hb e => (sb.2 b hb).trans e) f0 f1 f3 f4 f5, rfl, hQ od⟩
    · refine thnF (T.item (X.blk sB HB scope env fp) rfl rfl rfl hc i [] t _ Hi (fun _ _ => False) Ii (quiet Ii ni) sti hgo) fun r t2 q => ?_
      obtain ⟨u, rfl, q⟩ := q
      refine thnF q fun _ t3 q => ?_
      obtain ⟨x, H3, I3, rx, hy, st3, n3⟩ := q
      have I4 := I3.pinned (quiet I3 n3) (T.obj _ _ st3)
      refine thnF (g1.run _ t3 _ H3 x u _ I4 rx (step x H3 hy)) fun _ t4 q => ?_
      obtain ⟨σ4, H4, I5, hw, q⟩ := q
      refine thnF (g2.run _ t4 σ4 H4 _ I5 q) fun c t5 q => ?_
      obtain ⟨H5, I6, q⟩ := q
      have fin : ∀ {t' : Shared} {H' : Hp}, Inv (X.blk sB HB scope env fp) ([] ++ pinsAt fp t3.heap) σ4 H' t' → S H' → ∃ m, m < n ∧ ∃ i H', Inv (X.blk sB HB scope env fp) [] (wipe σ (own.map (·.2))) H' t' ∧ tn i t'.heap ∧ (∀ b ∈ fp, H' b = none) ∧ R i m H' := fun {t' H'} J' nx => by
        obtain ⟨m2, lt, r2⟩ := hS H' nx
        have held : ∀ b ∈ fp, ∀ o, t3.heap.get? b = some o → t'.heap.get? b = some o ∧ H' b = none := fun b hb o e => by
          have z := J'.pin (b, o) (List.mem_append_right _ (List.mem_append_right _ (mem_pinsAt hb e)))
          exact ⟨z.1, z.2.1⟩
        refine ⟨m2, lt, i + 1, H', (J'.unpinned (pins := [])).weak (by rw [← hw, wipe_length]) (fun j v e => ?_), T.keep _ _ _ st3 fun b hb o e => (held b hb o e).1, fun b hb => ?_, r2⟩
        · rw [← hw] at e; exact (wipe_some e).1
        · obtain ⟨o, e, _⟩ := T.obj _ _ st3 b hb
          exact (held b hb o e).2
      cases c with
      | false =>
        simp only [Bool.false_eq_true, if_false] at q ⊢
        exact fin I6 q
      | true =>
        simp only [if_true] at q ⊢
        refine thnF (g3.run _ t5 σ4 H5 _ I6 q) fun z t6 q => ?_
        obtain ⟨yk, H6, I7, rk, q⟩ := q
        refine thnF (g4.run _ t6 σ4 H6 _ I7 q) fun z2 t7 q => ?_
        obtain ⟨yv, H7, I8, rv, kvs, k, b, rfl, hb, hD7, hl7, nx⟩ := q
        exact tset (X := X.blk sB HB scope env fp) I8 hD7 hb hl7 hu rk rv fun t8 I9 => fin I9 nx
  subst hE hcl hC hsC hB
  exact codeAny_compStart_dict loop (T.self X.A 0 _ _ _ stC loop)
end
end Pd

set_option Elab.async false
set_option linter.all false
set_option maxRecDepth 100000
set_option maxHeartbeats 4000000
/-! Pd18: sorted(d), d a dict of tuples; sorted of rows. -/
namespace Pd
open PySem PySem.Spec PySem.SeqAt PySem.W PyProof.Rows L2
def leR (a b : List Int) : Bool := !decide (b < a)
def sortR (ns : List (List Int)) : List (List Int) := ns.mergeSort leR
theorem le_rows {β : Type} (f : β → List Int) : dataLe false (fun b => rowP (f b)) = fun a b => leR (f a) (f b) := by
  funext a b
  show (!dataLt (rowP (f b)) (rowP (f a))) = _
  rw [lt_row]; rfl
section
variable {prog : Program} {w : World} {A : Around} {E : Value → Shared → Prop} {s : Shared}
/-- the items of what is walked, in a new list -/
theorem collect_src {T : String} {r d : Addr} {n : Nat} {P : Nat → Value → Prop} {OK : Heap → Prop} {Q : List Value → Shared → Prop} (S : KdlSrc prog w T r d n P OK) (hh : A.handled = none) (ok : OK s.heap) (hn : n ≤ sizeLine)
    (q : ∀ (vs : List Value) h' tk, vs.length = n → (∀ j v, vs[j]? = some v → P j v) → (∀ b o, s.heap.get? b = some o → h'.get? b = some o) → s.heap.objs.size ≤ h'.objs.size → Q vs { s with heap := h', toks := tk }) : wpAny (model prog w) A (collect (.ref r)) Q E s := by
  unfold collect
  refine wpAny_bind (wpAny_runValue (codeAny_builtin entry_proto_collect' ?_))
  refine wpAny_bind (m := newList []) (wpAny_newList (wpAny_pure ⟨Code.quiet_builtin _ (by decide +kernel), codeAny_builtin entry_list_iadd' ?_⟩))
  rw [Around.under_plainId PySem.F.plain_list_iadd _]
  obtain ⟨h1, h2⟩ := S.there _ ok
  have nw : (s.heap.push (seqObj "list" #[] 0)).get? s.heap.objs.size = some (seqObj "list" #[] 0) := Heap.get?_push_size _ rfl
  have go := kdl_extend (A := A) (s := { s with heap := s.heap.push (seqObj "list" #[] 0) }) (R := fun r s' => match r with
    | .ok (.ret v) => wpAny (model prog w) A (match v with
      | .ref a => do match (← load a).data with
        | .seq xs _ => pure xs.toList
        | _ => unsupported "internal:collect"
      | _ => unsupported "internal:collect") Q E s'
    | .ok _ => False
    | .error e => E e s') S hh (S.keep _ _ ok fun b _ o e => Heap.get?_push_of_some _ e) s.heap.objs.size (Nat.ne_of_gt h1) (Nat.ne_of_gt h2) (.ref s.heap.objs.size) 0 nw (fun h' tk acc c kp hS it => by
      refine wpAny_bind (m := load s.heap.objs.size) (wpAny_load hS ?_)
      show wpAny (model prog w) A (pure acc.toList) Q E _
      exact wpAny_pure (q acc.toList h' tk (by rw [Array.length_toList]; exact it.1) (fun j v e => it.2 j v (by rw [← Array.getElem?_toList]; exact e)) (fun b o e => kp b o (Nat.ne_of_lt (Heap.lt_size e)) (Heap.get?_push_of_some _ e)) (Nat.le_of_lt (Heap.lt_size hS)))) hn
  exact go
theorem each_len {α β : Type} {R : α → β → Prop} {as : List α} {bs : List β} (h : EachIs R as bs) : as.length = bs.length := h.length
theorem each_rows {R : Value → List Int → Prop} {h' : Heap} {vs : List Value} {ns : List (List Int)} (e : EachIs R vs ns) (er : EachIs (fun v m => ∃ as, Reads h' v (rowP m) as) vs ns) : EachIs R (sortVals (dataKind h' (ns.map rowP)) false vs vs) (sortR ns) := by
  have := sortVals_data (enc := rowP) false e er (AllAlike.of alike_row)
  rw [show dataLe false rowP = leR from le_rows fun b => b] at this
  exact this
theorem sorted_src {T : String} {r d : Addr} {n : Nat} {P : Nat → Value → Prop} {OK : Heap → Prop} {R : Value → List Int → Prop} {ns : List (List Int)} {Q : Value → Shared → Prop} (S : KdlSrc prog w T r d n P OK) (hh : A.handled = none) (ok : OK s.heap) (hn : n ≤ sizeLine)
    (hne : ∀ m ∈ ns, m ≠ []) (hu : A.units + 4 < cLine) (rd : ∀ vs : List Value, vs.length = n → (∀ j v, vs[j]? = some v → P j v) → EachIs R vs ns ∧ EachIs (fun v m => ∃ as, Reads s.heap v (rowP m) as) vs ns)
    (q : ∀ (out : List Value) p h' tk c, EachIs R out (sortR ns) → (∀ b o, s.heap.get? b = some o → h'.get? b = some o) → s.heap.objs.size ≤ p → h'.get? p = some (seqObj "list" out.toArray c) → Q (.ref p) { s with heap := h', toks := tk }) :
    wpAny (model prog w) A (call (.builtin "sorted") [.ref r]) Q E s := by
  refine Calls.call_function_entry kind_sorted plain_sorted entry_sorted (args_sorted1 _) ?_
  unfold Builtin.«sorted»
  refine wpAny_bind (m := checkCount "sorted" 1 1 _) (wpAny_pure ?_)
  refine wpAny_bind (collect_src S hh ok hn fun vs h1 tk hl hP kp gr => wpAny_bind (wpAny_newList ?_ (by omega)))
  obtain ⟨e1, e2⟩ := rd vs hl hP
  have at1 : (h1.push (seqObj "list" vs.toArray 0)).get? h1.objs.size = some (seqObj "list" vs.toArray 0) := Heap.get?_push_size _ rfl
  have up : ∀ b o, s.heap.get? b = some o → (h1.push (seqObj "list" vs.toArray 0)).get? b = some o ∧ b ≠ h1.objs.size := fun b o e => ⟨Heap.get?_push_of_some _ (kp b o e), Nat.ne_of_lt (Heap.lt_size (kp b o e))⟩
  have er : EachIs (fun v m => ∃ as, Reads (sortingHeap (h1.push (seqObj "list" vs.toArray 0)) h1.objs.size vs) v (rowP m) as) vs ns := e2.mono fun _ _ ⟨as, z⟩ => ⟨as, PyProof.Rows.Reads.keeps (fun b o e => sortingHeap_old (up b o e).2 (up b o e).1) z⟩
  have SS : SortsAt prog w A.in1.in1 { s with heap := sortingHeap (h1.push (seqObj "list" vs.toArray 0)) h1.objs.size vs, toks := tk } _ vs := SortsAt.data (each_map (R := fun v d => ∃ as, Reads _ v d as) rowP er) (AllAlike.of alike_row) (.inl fun d hd => by
    obtain ⟨m, hm, rfl⟩ := List.mem_map.mp hd
    cases m with
    | nil => exact absurd rfl (hne _ hm)
    | cons x m => exact ⟨_, _, rfl⟩) (fun d hd => by
    obtain ⟨m, hm, rfl⟩ := List.mem_map.mp hd
    have h1 : (rowP m).depth = PyData.depthAll (m.map .int) + 1 := by
      unfold rowP; rw [PyData.depth]
    rw [depth_ints] at h1
    show A.units + 2 + _ < _
    omega)
  have hL : vs.length ≤ sizeLine := by omega
  refine wpAny_bind (wpAny_holding (wpAny_call_entry slot_list_sort ⟨_, at1, rfl⟩ entry_list_sort (list_sort_vals (s := { s with heap := h1.push (seqObj "list" vs.toArray 0), toks := tk }) at1 SS hL ⟨_, rfl, ?_⟩) (args_list_sort _)))
  obtain ⟨c, hc⟩ := sortedHeap_at (out := (sortVals (dataKind (sortingHeap (h1.push (seqObj "list" vs.toArray 0)) h1.objs.size vs) (ns.map rowP)) false vs vs).toArray) at1
  refine wpAny_pure ⟨_, rfl, q _ _ _ _ c (each_rows e1 er) (fun b o e => ?_) ?_ hc⟩
  · rw [sortedHeap_old (up b o e).2 (Heap.lt_size (up b o e).1)]
    exact (up b o e).1
  · exact gr
theorem each_of {α β : Type} {R : α → β → Prop} : ∀ {as : List α} {bs : List β}, as.length = bs.length → (∀ (j : Nat) a b, as[j]? = some a → bs[j]? = some b → R a b) → EachIs R as bs
  | [], [], _, _ => .nil
  | a :: as, b :: bs, hl, h => .cons (h 0 a b rfl rfl) (each_of (by simpa using hl) fun j a b e1 e2 => h (j + 1) a b e1 e2)
  | [], _ :: _, hl, _ => by simp at hl
  | _ :: _, [], hl, _ => by simp at hl
theorem each_refs {R : Addr → List Int → Prop} : ∀ {out : List Value} {ms : List (List Int)}, EachIs (fun v m => ∃ b, v = Value.ref b ∧ R b m) out ms → ∃ bs : List Addr, out = bs.map Value.ref ∧ EachIs R bs ms
  | _, _, .nil => ⟨[], rfl, .nil⟩
  | _, _, .cons ⟨b, e, r⟩ t => by
    obtain ⟨bs, e2, r2⟩ := each_refs t
    exact ⟨b :: bs, by rw [e, e2]; rfl, .cons r r2⟩
end
section
variable {X : Cx}
def rSortKT (K : PySem.W.Frag) : List V → Hp → VK → Prop := fun vs H Q => ∃ (d : Addr) (kvs : List (List Key × V)) (ns : List (List Int)), vs = [V.ref d] ∧ Rd H d (.dT kvs) ∧ kvs.map (·.1) = ns.map (fun n => n.map Sum.inl) ∧ (∀ m ∈ ns, m ≠ []) ∧
  ∀ (p : Addr) (bs : List Addr), EachIs (fun b m => H b = some (.tup (m.map V.int))) bs (sortR ns) → H p = none → Q (.ref p) (upd H p (.lst (bs.map V.ref)))
theorem key_ints (m : List Int) : (m.map (Sum.inl : Int → Key)).map kV = m.map V.int := by
  rw [List.map_map]; rfl
theorem dp_ints {K : PySem.W.Frag} {H : Hp} : ∀ m : List Int, DpAll K H (m.map V.int) (m.map .int)
  | [] => .nil
  | x :: m => .cons (.int x) (dp_ints m)
theorem cr_sortKT (hc : X.calm = true) (hu : X.A.units + 64 < cLine) : CallR X (.builtin "sorted") (rSortKT X.K) := by
  intro pins s σ H xs us Q I r h
  obtain ⟨d, kvs, ns, rfl, hd, hk, hne, q⟩ := h
  obtain ⟨u, rfl, rx⟩ := r.one
  cases rx
  obtain ⟨z, hs, ks, pr, o, es, ep, ho, hx, hdt, he, hn⟩ := (show ObjOk X.prog X.w H s.heap d (.dT kvs) from hd.ok I.hok)
  have l1 : es.size = ks.length := size_of_entries he
  have l2 : kvs.length = ks.length := Paired.length pr
  have l3 : kvs.length = ns.length := by
    have := congrArg List.length hk
    rwa [List.length_map, List.length_map] at this
  have kys := isKeys_of pr
  have key : ∀ (j : Nat) (k : List Key × Addr × Value) (m : List Int), ks[j]? = some k → ns[j]? = some m → H k.2.1 = some (.tup (m.map V.int)) := fun j k m e1 e2 => by
    have hj : j < kvs.length := by rw [l3]; exact (List.getElem?_eq_some_iff.mp e2).1
    have e3 : kvs[j]? = some kvs[j] := List.getElem?_eq_getElem hj
    have e4 := congrArg (fun l => l[j]?) hk
    simp only [List.getElem?_map, e3, e2, Option.map_some] at e4
    have e5 := Option.some.inj e4
    obtain ⟨b, h1, h2⟩ : ∃ b, (ks.map fun x => x.2.1)[j]? = some b ∧ H b = some (.tup (kvs[j].1.map kV)) := by
      have : ∀ {kvs : List (List Key × V)} {bs : List Addr} {j : Nat} {p}, IsKeys H kvs bs → kvs[j]? = some p → ∃ b, bs[j]? = some b ∧ H b = some (.tup (p.1.map kV)) := by
        intro kvs bs j p h
        unfold IsKeys at h
        induction h generalizing j with
        | nil => intro e; simp at e
        | cons a t ih =>
          intro e
          cases j with
          | zero => simp at e; subst e; exact ⟨_, rfl, a⟩
          | succ j => exact ih (by simpa using e)
      exact this kys e3
    rw [List.getElem?_map, e1] at h1
    cases h1
    rw [h2, e5, key_ints]
  refine sorted_src (R := fun v m => ∃ b, v = .ref b ∧ H b = some (.tup (m.map V.int))) (ns := ns) (kdl_raw hs hx hdt) (I.ok.hd hc) ho (by omega) hne (by omega) (fun vs hl hP => ?_) fun out p h' tk c eo kp hp hget => ?_
  · have val : ∀ (j : Nat) v m, vs[j]? = some v → ns[j]? = some m → ∃ b, v = Value.ref b ∧ H b = some (.tup (m.map V.int)) := fun j v m e1 e2 => by
      obtain ⟨en, hen, hv⟩ := hP j v e1
      have qe := entry_at he j
      rw [hen] at qe
      cases hb : ks[j]? with
      | none =>
        rw [hb] at qe
        exact nomatch (show some en = none from qe)
      | some b =>
        rw [hb] at qe
        have e2' : en = entryOfKey (tupleKind (mixKind X.prog X.w)) b := Option.some.inj qe
        exact ⟨b.2.1, by rw [hv, e2']; rfl, key j b m hb e2⟩
    refine ⟨each_of (by omega) val, each_of (by omega) fun j v m e1 e2 => ?_⟩
    obtain ⟨b, rfl, hb⟩ := val j v m e1 e2
    exact Dp.reads I (rowP m) (.ref b) _ (.tup (.inl (.inl hb)) (dp_ints m)) rfl
  · obtain ⟨bs, rfl, eb⟩ := each_refs eo
    have hz : (bs.map V.ref).length ≤ sizeLine := by
      have h1 := eb.length
      have h2 : (sortR ns).length = ns.length := (List.mergeSort_perm ns leR).length_eq
      rw [List.length_map]
      omega
    exact ⟨.ref p, _, I.laid (t' := tk) (o := .lst (bs.map V.ref)) kp hp ⟨hz, bs.map Value.ref, c, vals_refs bs, hget⟩, rfl, q p bs eb (I.hok.fresh hp)⟩
end
end Pd

set_option Elab.async false
set_option linter.all false
set_option maxRecDepth 100000
set_option maxHeartbeats 4000000
/-! Pd19: a dict that is made by a comprehension, in data. -/
namespace Pd
open PySem PySem.Spec PyProof.Rows L2
/-- a thing that can be owned -/
def Unt (u : HO) : Prop := Lo u ∧ ∀ xs, u ≠ .tup xs
theorem uo_dT {kvs : List (List Key × V)} : Unt (.dT kvs) := ⟨Lo.dT, fun _ h => by cases h⟩
theorem NB.atO {B : Hp} {p b : Addr} {u : HO} (h : NB (upd B p u) b) (uo : Unt u) : b ≠ p := fun z => h _ (by rw [z]; exact upd_same) uo.1.1
section
variable {X : Cx} {K : PySem.W.Frag} {W : WX} {w : Wd} {B D0 Hd Hd1 H H1 : Hp} {σ : L2.St} {ρ ρ1 : Rho} {ls : LS} {xs : List V} {Dl : Addr} {vs : List Nat}
/-- a new list at Dl that is to be filled: it stands in what the caller knows -/
theorem EOk.underO {u0 : HO} (uo : Unt u0) (E : EOk K w B D0 Hd H σ ρ ls) (h : H Dl = none) : EOk K w (upd B Dl u0) D0 Hd (upd H Dl u0) σ ρ ls := by
  have hd := E.nd_new h
  have nz := E.nz_new h
  have nb := E.dom _ h
  have E2 := (E.newOb (u0 := u0) h).1
  refine ⟨fun b o e z t => ?_, fun b e => ?_, E2.sub, E.sub0, E.noz, E.nt, fun b o e => ?_, E2.st, E.len, E.dat, fun i ds e => ?_, E.apa⟩
  · by_cases hb : b = Dl
    · subst hb; rw [upd_same] at e ⊢; exact e
    · rw [upd_ne hb] at e; exact E2.base b o e z t
  · by_cases hb : b = Dl
    · subst hb; rw [upd_same] at e; cases e
    · rw [upd_ne hb] at e; exact (NB.up hb).mpr (E.dom b e)
  · rcases E.fr b o e with q | q
    · exact .inl q
    · exact .inr (q.imp (NB.up (fun z => by rw [z, hd] at e; cases e)).mpr id)
  · obtain ⟨p, xs, h1, h2, h3, h4, h5, h6⟩ := E2.ow i ds e
    have hp : p ≠ Dl := fun z => by
      obtain ⟨p', xs', g1, g2, _⟩ := E.ow i ds e
      rw [h1] at g1; cases g1
      rw [z, h] at g2; cases g2
    exact ⟨p, xs, h1, h2, h3, h4, (NB.up hp).mpr h5, h6⟩
theorem EOk.under_ndO {u0 : HO} (uo : Unt u0) (E : EOk K w (upd B Dl u0) D0 Hd H σ ρ ls) (u : UnderOk w B D0 Dl) : Hd Dl = none := by
  cases e : Hd Dl with
  | none => rfl
  | some o =>
    rcases E.fr _ _ e with h | h
    · rw [u.n0] at h; cases h
    · rcases h with h | ⟨ys, rfl⟩
      · exact ((h.atO uo) rfl).elim
      · have h1 := E.sub _ _ e
        rw [E.base _ _ upd_same u.nz uo.1.1] at h1
        cases h1
        exact (uo.2 _ rfl).elim
theorem EOk.under_atO {u0 : HO} (uo : Unt u0) (E : EOk K w (upd B Dl u0) D0 Hd H σ ρ ls) (u : UnderOk w B D0 Dl) : H Dl = some u0 := E.base _ _ upd_same u.nz uo.1.1
/-- .. it grows -/
theorem EOk.under_setO {u0 u1 : HO} (uo : Unt u0) (ui : Unt u1) (E : EOk K w (upd B Dl u0) D0 Hd H σ ρ ls) (u : UnderOk w B D0 Dl) : EOk K w (upd B Dl u1) D0 Hd (upd H Dl u1) σ ρ ls := by
  have hd := E.under_ndO uo u
  have ha := E.under_atO uo u
  refine ⟨fun b o e z t => ?_, fun b e => ?_, fun b o e => ?_, E.sub0, E.noz, E.nt, fun b o e => ?_, E.st.keep (fun b z => upd_ne fun q => u.nz (q ▸ z)) (tabs_upd E.st.tabs (fun u e => by rw [ha] at e; cases e; exact uo.1)), E.len, E.dat, fun i ds e => ?_, E.apa⟩
  · by_cases hb : b = Dl
    · subst hb; rw [upd_same] at e ⊢; exact e
    · rw [upd_ne hb] at e ⊢; exact E.base b o (by rw [upd_ne hb]; exact e) z t
  · by_cases hb : b = Dl
    · subst hb; rw [upd_same] at e; cases e
    · rw [upd_ne hb] at e
      exact (NB.up hb).mpr ((NB.up hb).mp (E.dom b e))
  · rw [upd_ne (fun z => by rw [z, hd] at e; cases e)]; exact E.sub b o e
  · rcases E.fr b o e with q | q
    · exact .inl q
    · exact .inr (q.imp (fun q => (NB.up (q.atO uo)).mpr ((NB.up (q.atO uo)).mp q)) id)
  · obtain ⟨p, zs, h1, h2, h3, h4, h5, h6⟩ := E.ow i ds e
    have hp : p ≠ Dl := (h5.atO uo)
    exact ⟨p, zs, h1, by rw [upd_ne hp]; exact h2, h3, h4, (NB.up hp).mpr ((NB.up hp).mp h5), h6⟩
/-- .. it is done -/
theorem EOk.under_endO {u0 : HO} (uo : Unt u0) (E0 : EOk K w B D0 Hd1 H1 σ ρ1 ls) {ls' : LS} (s : Sub Hd1 Hd) (no : noOwn ρ1 vs = true) (E : EOk K w (upd B Dl u0) D0 Hd H (L2.wipe σ vs) ρ ls') (u : UnderOk w B D0 Dl) :
    EOk K w B D0 Hd H σ (unwipe ρ1 ρ vs) ls' ∧ FreshO w B Hd H σ (unwipe ρ1 ρ vs) Dl u0 := by
  have hd := E.under_ndO uo u
  have ha := E.under_atO uo u
  have lenρ : ρ.length = ρ1.length := by rw [← E.len, wipe_length, E0.len]
  have none_of : ∀ {i : Nat} {s : Sl}, ρ[i]? = some s → ρ1[i]? ≠ none := fun {i s} h q => by
    have h1 := (List.getElem?_eq_some_iff.mp h).1
    have h2 := List.getElem?_eq_none_iff.mp q
    omega
  have inner : ∀ {i : Nat} {s : Sl}, (unwipe ρ1 ρ vs)[i]? = some s → (i ∈ vs ∧ ρ1[i]? = some s) ∨ (i ∉ vs ∧ ρ[i]? = some s) := fun {i s} h => by
    rcases unwipe_get h with h | ⟨h1, h2⟩
    · exact .inl h
    · exact .inr ⟨fun q => none_of h1 (h2 q), h1⟩
  have ownOut : ∀ {i : Nat} {ds : Ow}, (unwipe ρ1 ρ vs)[i]? = some (.ow ds) → i ∉ vs ∧ ρ[i]? = some (.ow ds) := fun {i ds} h => by
    rcases inner h with ⟨h1, h2⟩ | h
    · have := List.all_eq_true.mp no i h1
      rw [h2] at this; simp [isOwn] at this
    · exact h
  refine ⟨⟨fun b o e z t => E.base b o ?_ z t, fun b e => ?_, E.sub, E.sub0, E.noz, E.nt, fun b o e => ?_, E.st, ?_, fun i d e => ?_, fun i ds e => ?_, fun i j p ds es ne e1 e2 s1 s2 => ?_⟩, ⟨ha, hd, u.nb, u.nz, fun i ds e q => ?_⟩⟩
  · rw [upd_ne (u.nb.ne e t)]; exact e
  · have := E.dom b e
    exact (NB.up (this.atO uo)).mp this
  · rcases E.fr b o e with q | q
    · exact .inl q
    · exact .inr (q.imp (fun q => (NB.up (q.atO uo)).mp q) id)
  · rw [unwipe_len, lenρ, E0.len]
  · rcases inner e with ⟨_, h⟩ | ⟨hn, h⟩
    · obtain ⟨v, g1, g2⟩ := E0.dat i d h
      exact ⟨v, g1, g2.mono s⟩
    · obtain ⟨v, g1, g2⟩ := E.dat i d h
      rw [wipe_outS hn] at g1
      exact ⟨v, g1, g2⟩
  · obtain ⟨hn, h⟩ := ownOut e
    obtain ⟨p, zs, h1, h2, h3, h4, h5, h6⟩ := E.ow i ds h
    rw [wipe_outS hn] at h1
    exact ⟨p, zs, h1, h2, h3, h4, (NB.up (h5.atO uo)).mp h5, h6⟩
  · obtain ⟨hn, e1⟩ := ownOut e1
    obtain ⟨hm, e2⟩ := ownOut e2
    exact E.apa i j p ds es ne e1 e2 (by rw [wipe_outS hn]; exact s1) (by rw [wipe_outS hm]; exact s2)
  · obtain ⟨hn, h⟩ := ownOut e
    obtain ⟨p, zs, h1, h2, h3, h4, h5, h6⟩ := E.ow i ds h
    rw [wipe_outS hn] at h1
    rw [q] at h1; cases h1
    exact ((h5.atO uo) rfl).elim

theorem EOk.lockO {p : Addr} {u0 : HO} {od : Obj} (uo : Unt u0) (E : EOk K w B D0 Hd H σ ρ ls) (F : FreshO w B Hd H σ ρ p u0) : EOk K w B D0 (upd Hd p (.frz od u0)) (upd H p (.frz od u0)) σ ρ ls ∧ Sub Hd (upd Hd p (.frz od u0)) := by
  have sd : Sub Hd (upd Hd p (.frz od u0)) := .upd F.nd
  refine ⟨⟨fun b o e z t => ?_, fun b e => ?_, fun b o e => ?_, E.sub0.trans sd, fun b z => ?_, fun b o e => ?_, fun b o e => ?_, E.st.keep (fun b z => upd_ne fun q => F.nz (q ▸ z)) (tabs_upd E.st.tabs (fun u e => by rw [F.at_] at e; cases e; exact uo.1)), E.len, fun i d e => ?_, fun i o e => ?_, E.apa⟩, sd⟩
  · rw [upd_ne (F.nb.ne e t)]; exact E.base b o e z t
  · by_cases hb : b = p
    · subst hb; rw [upd_same] at e; cases e
    · rw [upd_ne hb] at e; exact E.dom b e
  · by_cases hb : b = p
    · subst hb; rw [upd_same] at e ⊢; exact e
    · rw [upd_ne hb] at e ⊢; exact E.sub b o e
  · rw [upd_ne (show b ≠ p from fun q => F.nz (q ▸ z))]; exact E.noz b z
  · by_cases hb : b = p
    · subst hb; rw [upd_same] at e; cases e; exact fun _ z => nomatch z
    · rw [upd_ne hb] at e; exact E.nt b o e
  · by_cases hb : b = p
    · subst hb; exact .inr (.inl F.nb)
    · rw [upd_ne hb] at e; exact E.fr b o e
  · obtain ⟨v, h1, h2⟩ := E.dat i d e
    exact ⟨v, h1, h2.mono sd⟩
  · obtain ⟨q, u, h1, h2, h3, h4, h5, h6⟩ := E.ow i o e
    have hq : q ≠ p := fun z => F.ns i o e (z ▸ h1)
    exact ⟨q, u, h1, by rw [upd_ne hq]; exact h2, h3.mono sd, by rw [upd_ne hq]; exact h4, h5, h6⟩
/-! ### the loop -/
def dcP (k : List D → List D → Rho → LS → Out (List D × List D)) (ks es : List D) (ρ : Rho) (ls : LS) (y : D) : Option (List Key) → Out (List D × List D)
  | some kk => if ks.length < top then k (putKs ks kk) (putEs ks es kk y) ρ ls else .no
  | none => .no
def dcV (k : List D → List D → Rho → LS → Out (List D × List D)) (e2 : M D) (ks es : List D) (x : D) (ρ : Rho) (ls : LS) : Out (List D × List D) := match e2 ρ ls with
  | .ok y ρ' ls' => dcP k ks es ρ' ls' y (keyT x)
  | _ => .no
def dcE (k : List D → List D → Rho → LS → Out (List D × List D)) (e1 e2 : M D) (ks es : List D) (ρ : Rho) (ls : LS) : Out (List D × List D) := match e1 ρ ls with
  | .ok x ρ' ls' => dcV k e2 ks es x ρ' ls'
  | _ => .no
def dcT (k : List D → List D → Rho → LS → Out (List D × List D)) (e1 e2 : M D) (ks es : List D) (ls : LS) : Option Rho → Out (List D × List D)
  | some ρ => dcE k e1 e2 ks es ρ ls
  | none => .no
def dcL (t : D → Rho → Option Rho) (e1 e2 : M D) (vs : List Nat) : List D → List D → List D → Rho → LS → Out (List D × List D)
  | [], ks, es, ρ, ls => .ok (ks, es) ρ ls
  | d :: ds, ks, es, ρ, ls => dcT (fun ks es ρ ls => dcL t e1 e2 vs ds ks es (wipeR ρ vs) ls) e1 e2 ks es ls (t d ρ)
def dcEnd (ρ0 : Rho) (vs : List Nat) : Out (List D × List D) → Out D
  | .ok a ρ ls => .ok (.dcf a.1 a.2) (unwipe ρ0 ρ vs) ls
  | _ => .no
def dcM (src : M (List D)) (t : D → Rho → Option Rho) (e1 e2 : M D) (vs : List Nat) : M D := bnd src fun ds ρ ls => if noOwn ρ vs = true then dcEnd ρ vs (dcL t e1 e2 vs ds [] [] (wipeR ρ vs) ls) else .no
theorem read_dc {wi : TI} {g : TG} {t : D → Rho → Option Rho} {src : M (List D)} {e1 e2 : M D} {is : List Nat} (hi : ∀ R, UI K W src σ H R → wi σ H R) (hg : TgOk K g t is) (hv : ∀ i ∈ is, i ∈ vs) {Q : VK} (h : UV K W (dcM src t e1 e2 vs) σ H Q) :
    tDcT wi g (UT K W0 (ret true)) (UV K W0 e1) (UV K W0 e2) vs σ H Q := by
  refine hi _ (Ru.imp h.xBnd fun w B D0 Hd1 H1 ρ1 ls1 ds E1 q J ok Dl hD => ?_)
  have q : Go K W w B D0 σ Hd1 (if noOwn ρ1 vs = true then dcEnd ρ1 vs (dcL t e1 e2 vs ds [] [] (wipeR ρ1 vs) ls1) else .no) fun Hd' H' ρ' ls' d => ∀ v, Rp K Hd' v d → Q v H' := q
  by_cases no : noOwn ρ1 vs = true
  · rw [if_pos no] at q
    have u : UnderOk w B D0 Dl := ⟨E1.nz_new hD, E1.dom _ hD, by
      cases e0 : D0 Dl with
      | none => rfl
      | some o => rw [E1.sub _ _ (E1.sub0 _ _ e0)] at hD; cases hD⟩
    let T : Nat → Nat → Hp → Prop := fun i m H' => i + m = ds.length ∧ ∃ Hd' ρ' ls' es kvs, EOk K w (upd B Dl (.dT kvs)) D0 Hd' H' (wipe σ vs) (wipeR ρ' vs) ls' ∧ Sub Hd1 Hd' ∧ RpL K Hd' (kvs.map (·.2)) es ∧
      Go K W w B D0 σ Hd1 (dcEnd ρ1 vs (dcL t e1 e2 vs (ds.drop i) (kTs kvs) es (wipeR ρ' vs) ls')) fun Hd' H' ρ' ls' d => ∀ v, Rp K Hd' v d → Q v H'
    refine ⟨T, ⟨ds.length, Nat.zero_add _, Hd1, ρ1, ls1, [], [], (E1.underO uo_dT hD).wipe vs, Sub.refl _, .nil, q⟩, ?_⟩
    rintro i m H' ⟨hm, Hd', ρ', ls', es, kvs, E, s, ra, q⟩
    by_cases hlt : i < ds.length
    · have ed : ds.drop i = ds[i] :: ds.drop (i + 1) := List.drop_eq_getElem_cons hlt
      have ei : ds[i]? = some ds[i] := List.getElem?_eq_getElem hlt
      refine .inr ⟨ok.go i H' hlt (s.trans E.sub), fun H2 => ∃ m', m' < m ∧ T (i + 1) m' H2, fun H2 h2 => h2, fun x H2 y => ?_⟩
      obtain ⟨Hd2, E2, s2, r2, _⟩ := ok.yld i x H2 ds[i] E s y ei
      rw [ed] at q
      have q : Go K W w B D0 σ Hd1 (dcEnd ρ1 vs (dcT (fun ks es ρ ls => dcL t e1 e2 vs (ds.drop (i + 1)) ks es (wipeR ρ vs) ls) e1 e2 (kTs kvs) es ls' (t ds[i] (wipeR ρ' vs)))) _ := q
      cases et : t ds[i] (wipeR ρ' vs) with
      | none => rw [et] at q; exact q.elim
      | some ρ2 =>
        rw [et] at q
        have q : Go K W w B D0 σ Hd1 (dcEnd ρ1 vs (dcE (fun ks es ρ ls => dcL t e1 e2 vs (ds.drop (i + 1)) ks es (wipeR ρ vs) ls) e1 e2 (kTs kvs) es ρ2 ls')) _ := q
        refine hg.run E2 r2 et _ fun σ3 E3 sm => ⟨wipe_sames sm hv, w, upd B Dl (.dT kvs), D0, Hd2, ρ2, ls', E3, ?_⟩
        intro Hd4 H4 E4 s4
        show UV K W0 e1 σ3 H4 _
        refine ⟨w, upd B Dl (.dT kvs), D0, Hd4, ρ2, ls', E4, ?_⟩
        unfold dcE at q
        cases e1e : e1 ρ2 ls' with
        | no => rw [e1e] at q; exact q.elim
        | rs x ls2 => rw [e1e] at q; exact q.elim
        | ok kx ρ5 ls5 =>
          rw [e1e] at q
          intro Hd6 H6 E6 s6 v rv
          refine ⟨w, upd B Dl (.dT kvs), D0, Hd6, ρ5, ls5, E6, ?_⟩
          have q : Go K W w B D0 σ Hd1 (dcEnd ρ1 vs (dcV (fun ks es ρ ls => dcL t e1 e2 vs (ds.drop (i + 1)) ks es (wipeR ρ vs) ls) e2 (kTs kvs) es kx ρ5 ls5)) _ := q
          unfold dcV at q
          cases e2e : e2 ρ5 ls5 with
          | no => rw [e2e] at q; exact q.elim
          | rs x ls2 => rw [e2e] at q; exact q.elim
          | ok y ρ7 ls7 =>
            rw [e2e] at q
            intro Hd8 H8 E8 s8 v2 rv2
            have q : Go K W w B D0 σ Hd1 (dcEnd ρ1 vs (dcP (fun ks es ρ ls => dcL t e1 e2 vs (ds.drop (i + 1)) ks es (wipeR ρ vs) ls) (kTs kvs) es ρ7 ls7 y (keyT kx))) _ := q
            cases kk : keyT kx with
            | none => rw [kk] at q; exact q.elim
            | some k =>
              rw [kk] at q
              have q : Go K W w B D0 σ Hd1 (dcEnd ρ1 vs (if (kTs kvs).length < top then dcL t e1 e2 vs (ds.drop (i + 1)) (putKs (kTs kvs) k) (putEs (kTs kvs) es k y) (wipeR ρ7 vs) ls7 else .no)) _ := q
              by_cases hz : (kTs kvs).length < top
              · rw [if_pos hz] at q
                obtain ⟨b, rfl, hb⟩ := key_at (rv.mono s8) kk
                have ss := (((s2.trans s4).trans s6).trans s8)
                obtain ⟨p1, p2⟩ := put_rel (k := k) rv2 (ra.mono ss)
                rw [← p1] at q
                refine ⟨kvs, k, b, rfl, E8.sub _ _ hb, E8.under_atO uo_dT u, top_lt (by rw [List.length_map] at hz; exact hz), m - 1, by omega, by omega, Hd8, ρ7, ls7, _, putK kvs k v2, ?_, s.trans ss, p2, q⟩
                have E9 := (E8.under_setO uo_dT uo_dT (u1 := .dT (putK kvs k v2)) u).wipe vs
                rw [wipe_sames sm hv] at E9
                exact E9
              · rw [if_neg hz] at q; exact q.elim
    · refine .inl ⟨ok.stop i H' (by omega) (s.trans E.sub), ?_⟩
      have ed : ds.drop i = [] := List.drop_eq_nil_of_le (by omega)
      rw [ed] at q
      obtain ⟨E8, F⟩ := E1.under_endO uo_dT s no E u
      refine ⟨kvs, F.at_, fun od => ?_⟩
      obtain ⟨E9, s9⟩ := E8.lockO (od := od) uo_dT F
      exact q _ _ E9 (s.trans s9) (.ref Dl) (.dT upd_same rfl rfl (ra.mono s9))
  · rw [if_neg no] at q; exact q.elim
/-- {k: v for x in xs} -/
theorem u_dc {kx vx tg iter : Expr} {scope : Scope} {own : List (Str × Nat)} {pos : Pos} {g : TG} {t : D → Rho → Option Rho} {src : M (List D)} {e1 e2 : M D} {is : List Nat} (hc : X.calm = true) (hu : X.A.units + 1 < cLine) (hN : X.N.Nodup) (hi : PI X tg iter (UI K W src)) (ok : BlkOk X.N X.env.scope scope own) (ht : TgOk K g t is) (hv : ∀ i ∈ is, i ∈ own.map (·.2))
    (hg : ∀ (s : Shared) (H : Hp) (C : Addr) (cl : List (Str × Addr)) (fp : List Addr), PG (X.blk s H scope (compEnvC scope cl C X.env) fp) tg g)
    (hk : ∀ (s : Shared) (H : Hp) (C : Addr) (cl : List (Str × Addr)) (fp : List Addr), PE (X.blk s H scope (compEnvC scope cl C X.env) fp) kx (UV K W0 e1))
    (he : ∀ (s : Shared) (H : Hp) (C : Addr) (cl : List (Str × Addr)) (fp : List Addr), PE (X.blk s H scope (compEnvC scope cl C X.env) fp) vx (UV K W0 e2)) (hs : ∀ x, foldedSetIterable iter X.env x = pure x := by intro _; rfl) :
    PE X (.DictComp kx vx [⟨tg, iter, [], 0⟩] scope pos) (UV K W (dcM src t e1 e2 (own.map (·.2)))) := pe_imp (pe_dcT hc hu hN hi ok hg (fun _ _ _ _ _ => uts_nil) hk he hs) fun _ _ _ q => read_dc (fun _ q => q) ht hv q
/-! ### a dict's keys in order -/
def keyI : D → Option (List Int)
  | .ktp l => intsOf l
  | _ => none
def keysI : List D → Option (List (List Int))
  | [] => some []
  | d :: ds => match keyI d, keysI ds with
    | some a, some b => some (a :: b)
    | _, _ => none
def ktpI (m : List Int) : D := .ktp (zs m)
theorem keyI_of {d : D} {m : List Int} (h : keyI d = some m) : d = ktpI m := by
  cases d <;> first | (cases h; done) | (rename_i l; exact congrArg D.ktp (intsOf_eq h))
theorem keysI_of : ∀ {ds : List D} {ns : List (List Int)}, keysI ds = some ns → ds = ns.map ktpI
  | [], _, h => by cases h; rfl
  | d :: ds, ns, h => by
    unfold keysI at h
    cases e1 : keyI d with
    | none => rw [e1] at h; cases h
    | some a =>
      cases e2 : keysI ds with
      | none => rw [e1, e2] at h; cases h
      | some b =>
        rw [e1, e2] at h
        cases h
        rw [keyI_of e1, keysI_of e2]; rfl
theorem keysI_map : ∀ ns : List (List Int), keysI (ns.map ktpI) = some ns
  | [] => rfl
  | n :: ns => by
    show (match intsOf (zs n), keysI (ns.map ktpI) with
      | some a, some b => some (a :: b)
      | _, _ => none) = _
    rw [intsOf_zs, keysI_map ns]
theorem keyD_ints : ∀ {k : List Key} {m : List Int}, k.map keyD = zs m → k = m.map Sum.inl
  | [], [], _ => rfl
  | [], _ :: _, h => by cases h
  | _ :: _, [], h => by cases h
  | a :: k, x :: m, h => by
    have h1 : keyD a = .int x := (List.cons.inj h).1
    have h2 : k.map keyD = zs m := (List.cons.inj h).2
    rw [keyD_ints h2]
    cases a with
    | inl i => cases h1; rfl
    | inr y => cases h1
theorem kTs_ints : ∀ {kvs : List (List Key × V)} {ns : List (List Int)}, kTs kvs = ns.map ktpI → kvs.map (·.1) = ns.map (fun n => n.map Sum.inl)
  | [], [], _ => rfl
  | [], _ :: _, h => by cases h
  | _ :: _, [], h => by cases h
  | p :: kvs, n :: ns, h => by
    have h1 := (List.cons.inj h).1
    have h2 : kTs kvs = ns.map ktpI := (List.cons.inj h).2
    have h3 : p.1.map keyD = zs n := by injection h1
    rw [List.map_cons, List.map_cons, kTs_ints h2, keyD_ints h3]
def sortKs (ks : List D) : Option (List D) := (keysI ks).bind fun ns => if (ns.all fun n => !n.isEmpty) = true then some ((sortR ns).map ktpI) else none
def ksortM (i : Nat) : M (List D) := fun ρ ls => dOwn (fun ks _ => opt (sortKs ks) ρ ls) .no ρ[i]?
theorem EOk.learnL : ∀ {bs : List Addr} {ms : List (List Int)} {Hd : Hp}, EOk K w B D0 Hd H σ ρ ls → PySem.W.EachIs (fun b m => H b = some (.tup (m.map V.int))) bs ms → ∃ Hd2, EOk K w B D0 Hd2 H σ ρ ls ∧ Sub Hd Hd2 ∧ RpL K Hd2 (bs.map V.ref) (ms.map ktpI)
  | _, _, Hd, E, .nil => ⟨Hd, E, Sub.refl _, .nil⟩
  | b :: bs, m :: ms, Hd, E, .cons h t => by
    obtain ⟨Hd2, E2, s2, h2⟩ := E.learn h
    obtain ⟨Hd3, E3, s3, r3⟩ := EOk.learnL E2 t
    exact ⟨Hd3, E3, s2.trans s3, .cons (.ktp (s3 _ _ h2) (RpL.ints m)) r3⟩
theorem ui_sortK {tg a : Expr} {p pos : Pos} (i : Nat) (hm : X.mg "sorted" = none) (hc : X.calm = true) (hu : X.A.units + 64 < cLine) (hv : PE X a (tVar i)) (hg : Gl X "sorted" := by rfl) (he : starEach [a] X.env = (false, eval a X.env) :: starEach [] X.env := by rfl) (hpl : (backTo pos (starEach [] X.env)).any (·.1) = false := by rfl) :
    PI X tg (.Call (.Name "sorted" p) [a] [] pos) (UI X.K W (ksortM i)) := pi_imp (pi_list (pe_callB (cr_sortKT hc hu) hg hm (by decide +kernel) (pa_cons hv pa_nil he) (by decide) (by decide) he hpl)) fun σ H R q => by
  obtain ⟨w, B, D0, Hd, ρ, ls, E, q⟩ := q
  obtain ⟨ks, es, e1, q⟩ := Go.xOwnD q
  obtain ⟨d, kvs, h1, h2, h3, h4, _⟩ := E.ownD i _ _ e1
  obtain ⟨ds, e2, q2⟩ := q.xOpt1
  obtain ⟨ns, e3, e4⟩ := bind_some2 e2
  by_cases c : (ns.all fun n => !n.isEmpty) = true
  · rw [if_pos c] at e4
    cases e4
    have ek := keysI_of e3
    rw [h3] at ek
    refine ⟨.ref d, h1, d, kvs, ns, rfl, .inl h2, kTs_ints ek, fun m hm e => ?_, fun p bs eb hp => ?_⟩
    · have := List.all_eq_true.mp c m hm
      rw [e] at this
      cases this
    · obtain ⟨Hd2, E2, s2, r2⟩ := E.learnL eb
      have E3 := E2.newDat hp NT.lst (o := .lst (bs.map V.ref))
      have s3 : Sub Hd2 (upd Hd2 p (.lst (bs.map V.ref))) := .upd (E2.nd_new hp)
      refine ⟨p, rfl, ⟨_, SqL.of upd_same⟩, q2 _ _ E3 (s2.trans s3) _ (it_list (SqL.of upd_same) (r2.mono s3))⟩
  · rw [if_neg c] at e4; cases e4
end
end Pd

set_option Elab.async false
set_option linter.all false
set_option maxRecDepth 100000
set_option maxHeartbeats 4000000
/-! Pd20: in, sum, sorted rows, two items stored at once, a dict's item. -/
namespace Pd
open PySem PySem.Spec PySem.SeqAt PySem.W PyProof.Rows L2
theorem u1 {n : Nat} (h : n + 64 < cLine) : n + 1 < cLine := by omega
section
variable {X : Cx} {K : PySem.W.Frag} {W : WX} {α : Type} {w : Wd} {B D0 Hd Hd1 H : Hp} {σ : L2.St} {ρ : Rho} {ls : LS} {a b e : Expr} {f g : M Rf} {p pos p2 epos apos cpos : Pos} {fa : M Rf} {o : Expr}
/-! ### in -/
theorem inV_ints (i : Int) (ns : List Int) : inV (.int i) (ns.map V.int) = decide (i ∈ ns) := by
  unfold inV
  induction ns with
  | nil => simp
  | cons x ns ih =>
    rw [List.map_cons, List.any_cons, ih]
    have : eqV (.int x) (.int i) = decide (i = x) := by
      show decide (x = i) = _
      by_cases h : x = i
      · subst h; simp
      · rw [decide_eq_false h, decide_eq_false (fun z => h z.symm)]
    rw [this]
    simp [List.mem_cons]
theorem flat_ints (ns : List Int) : (ns.map V.int).all flatV = true := by
  rw [List.all_map]; exact List.all_eq_true.mpr fun _ _ => rfl
def seqI : D → Option (List Int)
  | .tup l => intsOf l
  | .lst l => intsOf l
  | .lsk l => intsOf l
  | .ktp l => intsOf l
  | _ => none
def inD (x y : D) : Option D := match x with
  | .int i => (seqI y).map fun ns => .bl (decide (i ∈ ns))
  | _ => none
def ninD (x y : D) : Option D := match x with
  | .int i => (seqI y).map fun ns => .bl (!decide (i ∈ ns))
  | _ => none
theorem seqI_sq {u : V} {y : D} {ns : List Int} (E : EOk K w B D0 Hd H σ ρ ls) (hy : RpS K Hd H u y) (e : seqI y = some ns) : ∃ p, u = .ref p ∧ (SqL K H p (ns.map V.int) ∨ SqT K H p (ns.map V.int)) := by
  cases y <;> try (exact noneE e)
  · obtain ⟨a, xs, rfl, ha, r⟩ := hy.tup_inv
    rw [intsOf_eq e] at r
    have ex := RpL.ofInts ns r
    subst ex
    exact ⟨a, rfl, .inr (E.sub.tk ha).sq⟩
  · obtain ⟨a, xs, rfl, ha, r⟩ := hy.lst_inv
    rw [intsOf_eq e] at r
    have ex := RpL.ofInts ns r
    subst ex
    exact ⟨a, rfl, .inl (SqL.of ha)⟩
  · obtain ⟨a, xs, rfl, ha, r⟩ := hy.lsk_inv
    rw [intsOf_eq e] at r
    have ex := RpL.ofInts ns r
    subst ex
    exact ⟨a, rfl, .inl (E.sub.sqL ha)⟩
  · obtain ⟨a, xs, rfl, ha, r⟩ := hy.ktp_inv
    rw [intsOf_eq e] at r
    have ex := RpL.ofInts ns r
    subst ex
    exact ⟨a, rfl, .inr (.inl (.inl (E.sub _ _ ha)))⟩
theorem od_in : OpD K (rIn K false) inD := by
  refine ⟨?_⟩
  intro w B D0 Hd H σ ρ ls v u x y z E hx hy e Q q
  cases x <;> try (exact noneE e)
  cases hx.int_inv
  rename_i i
  obtain ⟨ns, h1, rfl⟩ := map_some (show (seqI y).map (fun ns => D.bl (decide (i ∈ ns))) = some z from e)
  obtain ⟨p, rfl, hp⟩ := seqI_sq E hy h1
  refine ⟨p, _, rfl, hp, rfl, flat_ints ns, ?_⟩
  rw [inV_ints]
  exact q _ Hd H E (Sub.refl _) (.bl _)
theorem od_notIn : OpD K (rIn K true) ninD := by
  refine ⟨?_⟩
  intro w B D0 Hd H σ ρ ls v u x y z E hx hy e Q q
  cases x <;> try (exact noneE e)
  cases hx.int_inv
  rename_i i
  obtain ⟨ns, h1, rfl⟩ := map_some (show (seqI y).map (fun ns => D.bl (!decide (i ∈ ns))) = some z from e)
  obtain ⟨p, rfl, hp⟩ := seqI_sq E hy h1
  refine ⟨p, _, rfl, hp, rfl, flat_ints ns, ?_⟩
  rw [inV_ints]
  exact q _ Hd H E (Sub.refl _) (.bl _)
/-! ### sum -/
def sumD : D → Option D
  | .lst l => (intsOf l).map fun ns => .int ns.sum
  | _ => none
theorem one_sum : One K (fun v => rSum K [v]) sumD := by
  refine ⟨?_⟩
  intro w B D0 Hd H σ ρ ls v x z E hx e Q q
  cases x <;> try (exact noneE e)
  rename_i l
  obtain ⟨a, xs, rfl, ha, r⟩ := hx.lst_inv
  obtain ⟨ns, h1, rfl⟩ := map_some (show (intsOf l).map (fun ns => D.int ns.sum) = some z from e)
  rw [intsOf_eq h1] at r
  have ex := RpL.ofInts ns r
  subst ex
  exact ⟨a, ns, rfl, SqL.of ha, q _ Hd H E (Sub.refl _) (.int _)⟩
theorem u_sum (hm : X.mg "sum" = none) (hc : X.calm = true) (ha : PE X a (U X.K W f)) (hg : Gl X "sum" := by rfl) (he : starEach [a] X.env = (false, eval a X.env) :: starEach [] X.env := by rfl) (hpl : (backTo pos (starEach [] X.env)).any (·.1) = false := by rfl) : PE X (.Call (.Name "sum" p) [a] [] pos) (UV X.K W (uno sumD f)) :=
  u_callB (cr_sum hc) one_sum hm (by decide +kernel) ha hg (by decide) (by decide) he hpl
/-! ### rows in order -/
def insR (a : List Int) : List (List Int) → List (List Int)
  | [] => [a]
  | b :: l => if leR a b = true then a :: b :: l else b :: insR a l
def srtR : List (List Int) → List (List Int)
  | [] => []
  | a :: l => insR a (srtR l)
theorem leR_trans {a b c : List Int} (h1 : leR a b = true) (h2 : leR b c = true) : leR a c = true := by
  unfold leR at *
  simp only [Bool.not_eq_true', decide_eq_false_iff_not] at *
  exact List.le_trans (show a ≤ b from h1) (show b ≤ c from h2)
theorem leR_total (a b : List Int) : (leR a b || leR b a) = true := by
  unfold leR
  simp only [Bool.or_eq_true, Bool.not_eq_true', decide_eq_false_iff_not]
  by_cases h : b < a
  · exact .inr fun z => List.lt_asymm h z
  · exact .inl h
theorem leR_anti {a b : List Int} (h1 : leR a b = true) (h2 : leR b a = true) : a = b := by
  unfold leR at *
  simp only [Bool.not_eq_true', decide_eq_false_iff_not] at *
  exact List.le_antisymm h1 h2
theorem insR_perm (a : List Int) : ∀ l, (insR a l).Perm (a :: l)
  | [] => .refl _
  | b :: l => by
    unfold insR
    split
    · exact .refl _
    · exact ((insR_perm a l).cons b).trans (.swap a b l)
theorem srtR_perm : ∀ l, (srtR l).Perm l
  | [] => .refl _
  | a :: l => (insR_perm a _).trans ((srtR_perm l).cons a)
theorem insR_pw (a : List Int) : ∀ l, l.Pairwise (fun a b => leR a b = true) → (insR a l).Pairwise (fun a b => leR a b = true)
  | [], _ => by simp [insR]
  | b :: l, h => by
    unfold insR
    rw [List.pairwise_cons] at h
    split
    · rename_i hab
      refine List.pairwise_cons.mpr ⟨fun c hc => ?_, List.pairwise_cons.mpr h⟩
      rcases List.mem_cons.mp hc with rfl | hc
      · exact hab
      · exact leR_trans hab (h.1 c hc)
    · rename_i hab
      refine List.pairwise_cons.mpr ⟨fun c hc => ?_, insR_pw a l h.2⟩
      rcases List.mem_cons.mp ((insR_perm a l).mem_iff.mp hc) with rfl | hc
      · have := leR_total c b
        rw [Bool.or_eq_true] at this
        exact this.resolve_left hab
      · exact h.1 c hc
theorem srtR_pw : ∀ l, (srtR l).Pairwise (fun a b => leR a b = true)
  | [] => .nil
  | a :: l => insR_pw a _ (srtR_pw l)
theorem srtR_one : ∀ {l m : List (List Int)}, l.Perm m → l.Pairwise (fun a b => leR a b = true) → m.Pairwise (fun a b => leR a b = true) → l = m
  | [], m, p, _, _ => (List.nil_perm.mp p).symm
  | a :: l, [], p, _, _ => (List.perm_nil.mp p)
  | a :: l, b :: m, p, h1, h2 => by
    rw [List.pairwise_cons] at h1 h2
    have e : a = b := by
      have x : a ∈ b :: m := p.mem_iff.mp List.mem_cons_self
      have y : b ∈ a :: l := p.mem_iff.mpr List.mem_cons_self
      rcases List.mem_cons.mp x with x | x
      · exact x
      · rcases List.mem_cons.mp y with y | y
        · exact y.symm
        · exact leR_anti (h1.1 b y) (h2.1 a x)
    subst e
    rw [srtR_one (List.Perm.cons_inv p) h1.2 h2.2]
theorem sortR_eq (l : List (List Int)) : sortR l = srtR l :=
  srtR_one ((List.mergeSort_perm l leR).trans (srtR_perm l).symm) (List.pairwise_mergeSort (le := leR) (fun _ _ _ h1 h2 => leR_trans h1 h2) leR_total l) (srtR_pw l)
def rSortR (K : PySem.W.Frag) : List V → Hp → VK → Prop := fun vs H Q => ∃ (a : Addr) (xs : List V) (ns : List (List Int)), vs = [V.ref a] ∧ SqL K H a xs ∧ DpAll K H xs (ns.map rowP) ∧ (∀ m ∈ ns, m ≠ []) ∧
  ∀ (p : Addr) (ys : List V), EachIs (fun x m => ∃ j : Nat, xs[j]? = some x ∧ ns[j]? = some m) ys (srtR ns) → H p = none → Q (.ref p) (upd H p (.lst ys))
theorem each_vals {R : V → List Int → Prop} : ∀ {out : List Value} {ms : List (List Int)}, EachIs (fun u m => ∃ x, RelV x u ∧ R x m) out ms → ∃ ys : List V, Vals ys out ∧ EachIs R ys ms
  | _, _, .nil => ⟨[], .nil, .nil⟩
  | _, _, .cons ⟨x, e, r⟩ t => by
    obtain ⟨ys, e2, r2⟩ := each_vals t
    exact ⟨x :: ys, .cons e e2, .cons r r2⟩
theorem cr_sortR (hc : X.calm = true) (hu : X.A.units + 64 < cLine) : CallR X (.builtin "sorted") (rSortR X.K) := by
  intro pins s σ H vs us Q I r h
  obtain ⟨a, xs, ns, rfl, hs, hd, hne, q⟩ := h
  obtain ⟨its, rv, hl, hz⟩ := I.list hs
  rw [Vals.ref1 r]
  obtain ⟨as, hr⟩ := Dp.readsAll I _ _ _ hd rv
  have hlen : its.length = ns.length := by
    have := readsAll_len hr
    rw [List.length_map] at this
    exact this
  have ee : EachIs (fun u m => ∃ x, RelV x u ∧ ∃ j : Nat, xs[j]? = some x ∧ ns[j]? = some m) its ns := each_of hlen fun j u m e1 e2 => by
    have hx : j < xs.length := by
      rw [rv.length]
      exact (List.getElem?_eq_some_iff.mp e1).1
    obtain ⟨u', g1, g2⟩ := rv.get (List.getElem?_eq_getElem hx)
    cases e1.symm.trans g1
    exact ⟨_, g2, j, List.getElem?_eq_getElem hx, e2⟩
  refine sorted_data (enc := rowP) hl.isList ee (readsAll_each rowP hr) (AllAlike.of alike_row) (.inl fun d hd => ?_) (by rw [← hlen, ← rv.length]; exact hz) (fun m hm => ?_) fun out ho eo => ?_
  · obtain ⟨m, hm, rfl⟩ := List.mem_map.mp hd
    cases m with
    | nil => exact absurd rfl (hne _ hm)
    | cons x m => exact ⟨_, _, rfl⟩
  · have h1 : (rowP m).depth = PyData.depthAll (m.map .int) + 1 := by
      unfold rowP; rw [PyData.depth]
    rw [depth_ints] at h1
    omega
  · rw [show dataLe false rowP = leR from le_rows fun b => b, show ns.mergeSort leR = sortR ns from rfl, sortR_eq] at eo
    obtain ⟨ys, v1, v2⟩ := each_vals eo
    obtain ⟨ep, at2⟩ := sortedAll_at s.heap its out.toArray
    have hb : ys.length ≤ sizeLine := by rw [v1.length, ho, ← hlen, ← rv.length]; exact hz
    exact ⟨.ref _, upd H (s.heap.objs.size + 1) (.lst ys), I.laid (t' := s.toks) (fun _ _ => sortedAll_old) (Nat.le_succ _) ⟨hb, out, ep, v1, at2⟩, rfl, q _ ys v2 (I.hok.fresh (Nat.le_succ _))⟩
def sortedRD : D → Option (List D)
  | .lst l => (rowsOf l).bind fun ns => if (ns.all fun n => !n.isEmpty) = true then some ((srtR ns).map row) else none
  | _ => none
theorem each_rp {xs : List V} {ns : List (List Int)} (r : RpL K Hd xs (ns.map row)) : ∀ {ys : List V} {ms : List (List Int)}, EachIs (fun x m => ∃ j : Nat, xs[j]? = some x ∧ ns[j]? = some m) ys ms → RpL K Hd ys (ms.map row)
  | _, _, .nil => .nil
  | _, _, .cons ⟨j, e1, e2⟩ t => by
    obtain ⟨d, h1, h2⟩ := r.getV e1
    rw [List.getElem?_map, e2] at h1
    cases h1
    exact .cons h2 (each_rp r t)
theorem one_sortR : OneN K (fun v => rSortR K [v]) sortedRD := by
  refine ⟨?_⟩
  intro w B D0 Hd H σ ρ ls v x z E hx e Q q
  cases x <;> try (exact noneE e)
  rename_i l
  obtain ⟨a, xs, rfl, ha, r⟩ := hx.lst_inv
  obtain ⟨ns, e1, e4⟩ := bind_some2 (show (rowsOf l).bind (fun ns => if (ns.all fun n => !n.isEmpty) = true then some ((srtR ns).map row) else none) = some z from e)
  by_cases c : (ns.all fun n => !n.isEmpty) = true
  · rw [if_pos c] at e4
    cases e4
    have el := rowsOf_eq e1
    subst el
    have hd := (r.mono E.sub).dp (pure_rows ns)
    rw [py_rows] at hd
    refine ⟨a, xs, ns, rfl, SqL.of ha, hd, fun m hm e => ?_, fun p ys ey hp => ?_⟩
    · have := List.all_eq_true.mp c m hm
      rw [e] at this
      cases this
    · obtain ⟨E2, F⟩ := E.newList (xs := ys) hp
      exact q p _ _ E2 F (each_rp r ey)
  · rw [if_neg c] at e4; cases e4
theorem u_sortedR (hm : X.mg "sorted" = none) (hu : X.A.units + 64 < cLine) (hc : X.calm = true) (ha : PE X a (U X.K W f)) (hg : Gl X "sorted" := by rfl) (he : starEach [a] X.env = (false, eval a X.env) :: starEach [] X.env := by rfl) (hpl : (backTo pos (starEach [] X.env)).any (·.1) = false := by rfl) : PE X (.Call (.Name "sorted" p) [a] [] pos) (UN X.K W (uno sortedRD f)) :=
  pe_imp (pe_callB (cr_sortR hc hu) hg hm (by decide +kernel) (pa_cons ha pa_nil he) (by decide) (by decide) he hpl) fun _ _ _ q => read_unoN one_sortR q
/-! ### a dict's item -/
def getIM (i : Nat) (f : M D) : M D := fun ρ ls => dOwn (fun _ _ => bnd f (fun k ρ ls => dOwn (fun ks es => opt ((keyT k).bind fun kk => getK ks es kk) ρ ls) .no ρ[i]?) ρ ls) .no ρ[i]?
theorem u_getI {fk : M D} (i : Nat) (hu : X.A.units + 1 < cLine) (ho : PE X o (tVar i)) (hk : PE X e (UV X.K W fk)) (hs : NoSl e) : PE X (.Subscript o e pos) (UV X.K W (getIM i fk)) := pe_imp (pe_dget hu ho hk hs) fun σ H Q q => by
  obtain ⟨w, B, D0, Hd, ρ, ls, E, q⟩ := q
  obtain ⟨ks, es, e1, q⟩ := Go.xOwnD q
  obtain ⟨d, kvs, h1, h2, _⟩ := E.ownD i _ _ e1
  refine ⟨.ref d, h1, w, B, D0, Hd, ρ, ls, E, ?_⟩
  refine Go.imp q.xBnd fun Hd1 H1 ρ1 ls1 k E1 s1 q1 v hv => ?_
  obtain ⟨ks2, es2, e2, q3⟩ := Go.xOwnD q1
  obtain ⟨d2, kvs2, g1, g2, g3, g4, _⟩ := E1.ownD i _ _ e2
  rw [h1] at g1; cases g1
  obtain ⟨x, hx, q4⟩ := q3.xOpt1
  obtain ⟨kk, hkk, hy⟩ := bind_some2 hx
  obtain ⟨b, rfl, hb⟩ := key_at hv hkk
  rw [g3] at hy
  obtain ⟨i1, _⟩ := getK_val (k := kk) g4
  obtain ⟨vv, j1, j2⟩ := i1 x hy
  refine ⟨d, vv, rfl, ?_, q4 Hd1 H1 E1 (Sub.refl _) vv j2⟩
  rw [← j1]
  exact .t g2 (E1.sub _ _ hb)
/-! ### two items stored at once -/
def set1 (i : Nat) (d : D) (g : M D) : PM := fun ρ ls => ownAt (fun _ => lift g (set2 i d) ρ ls) .no ρ[i]?
theorem read_set1 {i : Nat} {d : D} {g : M D} {De : Ends} {to : TE} {v : V} (hto : to = tVar i) (E : EOk K w B D0 Hd H σ ρ ls) (r : Rp K Hd v d) (q : GoS K W w B D0 Hd De (set1 i d g ρ ls)) : gSub to (UV K W g) rSetL v σ H De.nx := by
  subst hto
  obtain ⟨ds, e1, q⟩ := GoS.xOwn q
  obtain ⟨p, xs, h1, h2, h3, _⟩ := E.own i _ e1
  refine ⟨.ref p, h1, w, B, D0, Hd, ρ, ls, E, q.lift.imp fun Hd2 H2 ρ2 ls2 k E2 s2 q2 u ru => ?_⟩
  cases ru with
  | int n =>
    obtain ⟨ds2, e2, q3⟩ := GoS.xOwn q2
    obtain ⟨p', xs', g1, g2, g3, _⟩ := E2.own i _ e2
    rw [h1] at g1; cases g1
    unfold setAtD at q3
    cases e3 : ixN ds2.length n with
    | none => rw [e3] at q3; exact q3.elim
    | some j =>
      rw [e3] at q3
      exact ⟨p, xs', n, j, rfl, rfl, g2, by rw [g3.length]; exact e3, q3 σ Hd2 _ (E2.change e2 h1 (g3.set (r.mono s2) j)) (Sub.refl _)⟩
  | _ => exact q2.elim
theorem GoS.seq2 {De : Ends} {p q : PM} {N : L2.St → Hp → Prop} (h : GoS K W w B D0 Hd De (seqP p q ρ ls)) (i : ∀ σ' Hd' H' ρ' ls', EOk K w B D0 Hd' H' σ' ρ' ls' → Sub Hd Hd' → GoS K W w B D0 Hd' De (q ρ' ls') → N σ' H') : GoS K W w B D0 Hd { De with nx := N } (p ρ ls) := by
  unfold seqP at h
  cases e : p ρ ls with
  | nx ρ' ls' => rw [e] at h; exact fun σ' Hd' H' E s => i σ' Hd' H' ρ' ls' E s (GoS.sub s h)
  | bk ρ' ls' => rw [e] at h; exact h
  | ct ρ' ls' => rw [e] at h; exact h
  | rt d ls' => rw [e] at h; exact h
  | rtN l ls' => rw [e] at h; exact h
  | rs x ls' => rw [e] at h; exact h
  | no => rw [e] at h; exact h
theorem GoS.nxImp {De : Ends} {o : PO} {N : L2.St → Hp → Prop} (h : GoS K W w B D0 Hd De o) (i : ∀ σ H, De.nx σ H → N σ H) : GoS K W w B D0 Hd { De with nx := N } o := by
  cases o with
  | nx ρ' ls' => exact fun σ' Hd' H' E s => i σ' H' (h σ' Hd' H' E s)
  | bk ρ' ls' => exact h
  | ct ρ' ls' => exact h
  | rt d ls' => exact h
  | rtN l ls' => exact h
  | rs x ls' => exact h
  | no => exact h
def setBK (i j : Nat) (fi fj : M D) : D → PM
  | .tup [a, b] => seqP (set1 i a fi) (set1 j b fj)
  | _ => never
def setBP (i j : Nat) (f fi fj : M D) : PM := lift f (setBK i j fi fj)
theorem us_setB {o1 o2 i1 i2 e : Expr} {s1 s2 tp : Pos} {k : Nat} {f fi fj : M D} (i j : Nat) (hc : X.calm = true) (he : PE X e (UV X.K W f)) (h1 : PE X o1 (tVar i)) (h2 : PE X o2 (tVar j)) (k1 : PE X i1 (UV X.K W fi)) (k2 : PE X i2 (UV X.K W fj))
    (ha1 : ∀ v, assign (.Subscript o1 i1 s1) X.env v = (do
      let ov ← holding [v] (eval o1 X.env)
      let iv ← holding [v, ov] (eval i1 X.env)
      standAt s1
      holding [v, ov, iv] (setItem ov iv v)
      release [v, ov, iv] []) := by intro _; rfl)
    (ha2 : ∀ v, assign (.Subscript o2 i2 s2) X.env v = (do
      let ov ← holding [v] (eval o2 X.env)
      let iv ← holding [v, ov] (eval i2 X.env)
      standAt s2
      holding [v, ov, iv] (setItem ov iv v)
      release [v, ov, iv] []) := by intro _; rfl)
    (hs : swapsWithSole [.Tuple [.Subscript o1 i1 s1, .Subscript o2 i2 s2] k tp] e pos.line X.env = pure false := by rfl) (hw : swappedStores [.Tuple [.Subscript o1 i1 s1, .Subscript o2 i2 s2] k tp] e X.env = pure none := by rfl)
    (hx : (assignEach [.Tuple [.Subscript o1 i1 s1, .Subscript o2 i2 s2] k tp] X.env).map (·.2) = [assign (.Tuple [.Subscript o1 i1 s1, .Subscript o2 i2 s2] k tp) X.env] := by rfl)
    (hn : (assignEach [.Subscript o1 i1 s1, .Subscript o2 i2 s2] X.env).length = 2 := by rfl) (hst : (assignEach [.Subscript o1 i1 s1, .Subscript o2 i2 s2] X.env).findIdx? (·.1) = none := by rfl)
    (hc1 : (assignEach [.Subscript o1 i1 s1, .Subscript o2 i2 s2] X.env).map (·.2) = assign (.Subscript o1 i1 s1) X.env :: (assignEach [.Subscript o2 i2 s2] X.env).map (·.2) := by rfl)
    (hc2 : (assignEach [.Subscript o2 i2 s2] X.env).map (·.2) = assign (.Subscript o2 i2 s2) X.env :: (assignEach [] X.env).map (·.2) := by rfl) :
    PS X (.Assign [.Tuple [.Subscript o1 i1 s1, .Subscript o2 i2 s2] k tp] e pos) (US X.K W (setBP i j f fi fj)) := ps_imp (ps_asg he (pg_tup hc (pgs_cons (pg_sub h1 k1 set_list ha1) (pgs_cons (pg_sub h2 k2 set_list ha2) pgs_nil hc2) hc1) hn hst) hs hw hx) fun De σ H h => by
  refine Ru.imp (US.lift h) fun w B D0 Hd1 H1 ρ1 ls1 d E q v r => ?_
  cases r with
  | tup hs r =>
    cases r with
    | nil => exact q.elim
    | cons ra r =>
      cases r with
      | nil => exact q.elim
      | cons rb r =>
        cases r with
        | cons _ _ => exact q.elim
        | nil =>
          refine ⟨_, _, rfl, E.sub.sqT hs.sq, rfl, _, _, rfl, ?_⟩
          refine read_set1 (De := { De with nx := fun σ' H' => gCons (gSub (tVar j) (UV X.K W fj) rSetL) gNil _ σ' H' De.nx }) rfl E ra (GoS.seq2 q fun σ2 Hd2 H2 ρ2 ls2 E2 s2 q2 => ?_)
          exact ⟨_, [], rfl, read_set1 (De := { De with nx := fun σ' H' => gNil [] σ' H' De.nx }) rfl E2 (rb.mono s2) (GoS.nxImp q2 fun σ3 H3 q3 => ⟨rfl, q3⟩)⟩
  | _ => exact q.elim
end
end Pd

set_option Elab.async false
set_option linter.all false
set_option maxRecDepth 100000
set_option maxHeartbeats 4000000
/-! St: the state of the draws. -/
namespace Pd
open PySem PySem.Spec PyProof.Rows L2
def topS (i : Nat) : Stmt := PySem.Challenge.pw_meankept_k17_whole_lengths_behind_all_mo.main.body.getD i (.Pass ⟨0, 0, 0, 0⟩)
abbrev s_law_begun : Stmt := topS 33
abbrev s_law_blended : Stmt := topS 34
abbrev s_law_draw : Stmt := topS 35
theorem sc_begun : FnScope ["_law_script", "_law_great", "_law_cell"] ["_law_script"] (defScope s_law_begun) := ⟨rfl, rfl, rfl, by decide +kernel, rfl, by decide +kernel, by decide +kernel⟩
theorem sc_blended : FnScope ["_law_state", "_law_turn", "_law_found", "_law_prime", "_law_blend", "_law_cell"] ["_law_state"] (defScope s_law_blended) := ⟨rfl, rfl, rfl, by decide +kernel, rfl, by decide +kernel, by decide +kernel⟩
theorem sc_draw : FnScope ["_law_state", "_law_room", "_law_found"] ["_law_state", "_law_room"] (defScope s_law_draw) := ⟨rfl, rfl, rfl, by decide +kernel, rfl, by decide +kernel, by decide +kernel⟩

/-! ### the mathematics of the draws -/
def blendIn (p turn : Int) (cells : List Int) : Int := cells.foldl (fun b c => (b * 69621 + c + turn) % p) (48271 * turn + p / 53)
def blendStep (turn : Int) (cells : List Int) (f p : Int) : Int := f * 2147483647 + (blendIn p turn cells) ^ 5 % p
def primes : List Int := [2147483579, 2147483629, 2147483563]
def blendF (turn : Int) (cells : List Int) : Int := primes.foldl (blendStep turn cells) 0
structure LSok (n : Int) (ls : LS) : Prop where
  great : ∀ x ∈ ls.great, 0 ≤ x
  cells : ∀ x ∈ ls.cells, 0 ≤ x
  rest : 0 ≤ ls.rest
  t0 : 0 ≤ ls.turn
  t1 : ls.turn ≤ n
  l0 : ls.great.length ≤ 63
theorem blendIn_nn {p turn : Int} (hp : 0 < p) (ht : 0 ≤ turn) : ∀ cells : List Int, 0 ≤ blendIn p turn cells := by
  have go : ∀ (cells : List Int) (b : Int), 0 ≤ b → 0 ≤ cells.foldl (fun b c => (b * 69621 + c + turn) % p) b := by
    intro cells
    induction cells with
    | nil => intro b h; exact h
    | cons c cells ih => intro b _; exact ih _ (Int.emod_nonneg _ (by omega))
  intro cells
  refine go cells _ ?_
  have : 0 ≤ p / 53 := Int.ediv_nonneg (by omega) (by omega)
  omega
theorem blendIn_lt {p turn : Int} (hp : 0 < p) (hp2 : p < 2147483648) (ht : 0 ≤ turn) (ht2 : turn ≤ 1000000000000) : ∀ cells : List Int, (blendIn p turn cells).natAbs < 2 ^ 64 := by
  have go : ∀ (cells : List Int) (b : Int), 0 ≤ b → b < 100000000000000000 → (cells.foldl (fun b c => (b * 69621 + c + turn) % p) b) < 100000000000000000 := by
    intro cells
    induction cells with
    | nil => intro b _ h; exact h
    | cons c cells ih => intro b _ _; exact ih _ (Int.emod_nonneg _ (by omega)) (by have := Int.emod_lt_of_pos (b * 69621 + c + turn) hp; show (b * 69621 + c + turn) % p < _; omega)
  intro cells
  have h1 : 0 ≤ p / 53 := Int.ediv_nonneg (by omega) (by omega)
  have h2 : p / 53 < 2147483648 := by omega
  have := go cells (48271 * turn + p / 53) (by omega) (by omega)
  have h3 := blendIn_nn hp ht cells
  unfold blendIn at h3 ⊢
  omega
theorem blendF_nn {turn : Int} (ht : 0 ≤ turn) (cells : List Int) : 0 ≤ blendF turn cells := by
  have st : ∀ (f p : Int), 0 ≤ f → 0 < p → 0 ≤ blendStep turn cells f p := fun f p hf hp => by
    unfold blendStep
    have : 0 ≤ (blendIn p turn cells) ^ 5 % p := Int.emod_nonneg _ (by omega)
    omega
  unfold blendF primes
  exact st _ _ (st _ _ (st _ _ (by omega) (by omega)) (by omega)) (by omega)

section
variable {P : Program} {w : World} {K : PySem.W.Frag} {mg : Str → Option Value} {base : Heap}
theorem same_upd {H : Hp} {p : Addr} {o : HO} (h : H p = none) : Same H (upd H p o) := fun b x e => by
  rw [upd_ne (ne_of_none e h)]
  exact e
theorem same_upd2 {H H' : Hp} {p : Addr} {o : HO} (s : Same H H') (h : H p = none) : Same H (upd H' p o) := fun b x e => by
  rw [upd_ne (ne_of_none e h)]
  exact s b x e
/-- _law_begun -/
def spBegun (K : PySem.W.Frag) (T : List (Addr × Str)) : Sp := fun vs H Q _ => ∃ (a : Addr) (ns : List Int), vs = [.ref a] ∧ SqL K H a (ns.map V.int) ∧ ns.length ≤ 63 ∧ LamX.Tabs T H ∧
  ∀ (w : Wd) (ls : LS) (H' : Hp), ls.tb = T → SOk w ls H' → Same H H' → H w.a = none → H w.g = none → H w.c = none → LSok 0 ls → Q (.ref w.a) H'
/-- a list of ints taken item by item -/
theorem map_get {ns : List Int} {i : Nat} {x : V} (h : (ns.map V.int)[i]? = some x) : ∃ n, ns[i]? = some n ∧ x = .int n := by
  rw [List.getElem?_map] at h
  cases e : ns[i]? with
  | none => rw [e] at h; cases h
  | some n => rw [e] at h; exact ⟨n, rfl, (Option.some.inj h).symm⟩
theorem ok_begun {T : List (Addr × Str)} {f : Addr} {fd : FuncData} (F : Fun K "_law_begun" "_law_begun" s_law_begun f fd) (ma : mg "abs" = none) : FnOk P w K mg base (L2.CX P w) 1 f fd ["_law_script"] (spBegun K T) := by
  refine F.okX sc_begun (fun vs H Q E h => ?_) (fun cdv A outer s H vs Q E hr h => ?_)
  · obtain ⟨a, ns, rfl, _⟩ := h
    rfl
  · obtain ⟨a, ns, rfl, hS, hlen, hT, q⟩ := h
    refine ⟨_, pss_cons (ps_setLc (i := 1) (own := [("_law_cell", 2)]) (g := gName 2) (tt := _) (by rfl) sc_begun.nd rfl rfl (sw_true rfl rfl rfl (by decide +kernel)) (pi_list (pv 0)) (blkOk_by (N := ["_law_script", "_law_great", "_law_cell"]) (sc := defScope s_law_begun) (by decide +kernel))
          (fun _ _ _ _ _ => pg_name (i := 2) sc_begun.nd rfl (Or.inl rfl))
          (fun _ _ _ _ _ => pts_one (pt_cmpR op_ge (pe_callB call_abs (by rfl) ma (by decide +kernel) (pa_cons (pv 2) pa_nil)) (pe_op op_pow pe_int pe_int) (nomark _)))
          (fun _ _ _ _ _ => pe_op op_sub (pe_callB call_abs (by rfl) ma (by decide +kernel) (pa_cons (pv 2) pa_nil)) (pe_op op_pow pe_int pe_int)))
      (pss_one (ps_ret (pe_disp (pps_cons pe_str (pv 1) (pps_cons pe_str (pe_lc (own := [("_law_cell", 2)]) (g := gName 2) (tt := tYes) (by rfl) sc_begun.nd (pi_list (pv 0)) (blkOk_by (N := ["_law_script", "_law_great", "_law_cell"]) (sc := defScope s_law_begun) (by decide +kernel))
            (fun _ _ _ _ _ => pg_name (i := 2) sc_begun.nd rfl (Or.inl rfl)) (fun _ _ _ _ _ => pts_nil) (fun _ _ _ _ _ => pe_callB call_abs (by rfl) ma (by decide +kernel) (pa_cons (pv 2) pa_nil)))
          (pps_cons pe_str pe_int (pps_cons pe_str pe_int pps_nil)))) (by rfl) (by rfl) (fun z => by cases z) (by decide)))), ?_⟩
    -- great
    refine ⟨.ref a, rfl, a, rfl, ⟨_, hS⟩, fun Dg hDg => ?_⟩
    refine lc_list (K := K) (a := a) (xs := ns.map V.int) (fun i H' => ∃ acc : List Int, Same H H' ∧ H' Dg = some (.lst (acc.map V.int)) ∧ (∀ x ∈ acc, 0 ≤ x) ∧ acc.length ≤ i)
      ⟨[], same_upd hDg, upd_same, (fun x hx => nomatch hx), Nat.le_refl _⟩ (fun i H' _ ⟨acc, sm, _⟩ => sm.seq hS) (fun i x H' hx ⟨acc, sm, eD, nn, hl⟩ => ?_) (fun H' ⟨acc, sm, eD, nn, hl⟩ => ?_)
    · obtain ⟨n, hn, rfl⟩ := map_get hx
      have hi : i < ns.length := (List.getElem?_eq_some_iff.mp hn).1
      refine ⟨rfl, ?_⟩
      refine ⟨_, rfl, n, rfl, 10, 18, rfl, rfl, ⟨by decide, by decide, by decide⟩, _, _, rfl, rfl, _, rfl, ?_⟩
      refine ite2 (fun hc => ?_) (fun hc => ?_)
      · have hc : (10 : Int) ^ (18 : Int).toNat ≤ (if n < 0 then -n else n) := of_decide_eq_true hc
        have e18 : (10 : Int) ^ (18 : Int).toNat = 1000000000000000000 := by decide
        refine ⟨_, rfl, n, rfl, 10, 18, rfl, rfl, ⟨by decide, by decide, by decide⟩, _, _, rfl, rfl, acc.map V.int, eD, by rw [List.length_map]; exact small1000 (by omega), ?_⟩
        refine ⟨acc ++ [(if n < 0 then -n else n) - (10 : Int) ^ (18 : Int).toNat], same_upd2 sm hDg, by rw [List.map_append]; exact upd_same, fun x hx => ?_, by rw [List.length_append]; exact Nat.succ_le_succ hl⟩
        rcases List.mem_append.mp hx with hx | hx
        · exact nn x hx
        · rw [List.mem_singleton.mp hx]
          omega
      · exact ⟨acc, sm, eD, nn, Nat.le_succ_of_le hl⟩
    · -- the dict
      intro Dd hDd
      have smd : Same H' (upd H' Dd (.dK [])) := same_upd hDd
      refine ⟨.ref Dg, rfl, ?_⟩
      refine ⟨.ref a, rfl, a, rfl, ⟨_, (sm.trans smd).seq hS⟩, fun Dc hDc => ?_⟩
      refine lc_list (K := K) (a := a) (xs := ns.map V.int) (fun i H2 => Same (upd H' Dd (.dK [])) H2 ∧ ∃ cs : List Int, H2 Dc = some (.lst (cs.map V.int)) ∧ (∀ x ∈ cs, 0 ≤ x) ∧ cs.length ≤ i)
        ⟨same_upd hDc, [], upd_same, (fun x hx => nomatch hx), Nat.le_refl _⟩ (fun i H2 _ ⟨sm2, _⟩ => sm2.seq ((sm.trans smd).seq hS)) (fun i x H2 hx ⟨sm2, cs, eC, nn2, hl2⟩ => ?_) (fun H2 ⟨sm2, cs, eC, nn2, hl2⟩ => ?_)
      · obtain ⟨n, hn, rfl⟩ := map_get hx
        have hi : i < ns.length := (List.getElem?_eq_some_iff.mp hn).1
        refine ⟨rfl, ?_⟩
        unfold tYes
        dsimp only
        rw [if_pos rfl]
        refine ⟨_, rfl, n, rfl, cs.map V.int, eC, by rw [List.length_map]; exact small1000 (by omega), ?_⟩
        refine ⟨same_upd2 sm2 hDc, cs ++ [if n < 0 then -n else n], by rw [List.map_append]; exact upd_same, fun x hx => ?_, by rw [List.length_append]; exact Nat.succ_le_succ hl2⟩
        rcases List.mem_append.mp hx with hx | hx
        · exact nn2 x hx
        · rw [List.mem_singleton.mp hx]
          split <;> omega
      · refine ⟨sm2 _ _ upd_same, [(.inr "great", .ref Dg), (.inr "cells", .ref Dc), (.inr "rest", .int 0), (.inr "turn", .int 0)], rfl, (by show 4 ≤ 15; decide), ?_⟩
        have nDd : H Dd = none := sm.free hDd
        have nDc : H Dc = none := (sm.trans smd).free hDc
        have ne1 : Dg ≠ Dd := ne_of_none eD hDd
        have ne2 : Dc ≠ Dd := fun z => by rw [z, upd_same] at hDc; cases hDc
        refine q ⟨Dd, Dg, Dc⟩ ⟨Dd, T, acc, cs, 0, 0⟩ _ rfl ⟨rfl, by rw [upd_same]; rfl, ?_, ?_, ?_, LamX.Tabs.ext hT (same_upd2 (sm.trans (smd.trans sm2)) nDd)⟩ (same_upd2 (sm.trans (smd.trans sm2)) nDd) nDd hDg nDc ⟨nn, nn2, Int.le_refl _, Int.le_refl _, Int.le_refl _, Nat.le_trans hl (by rw [List.length_map]; exact hlen)⟩
        · rw [show (Wd.mk Dd Dg Dc).g = Dg from rfl, upd_ne ne1]
          exact sm2 _ _ (smd _ _ eD)
        · rw [show (Wd.mk Dd Dg Dc).c = Dc from rfl, upd_ne ne2]
          exact eC
        · exact fun z => by have h := smd _ _ eD; rw [show Dg = Dc from z.symm, hDc] at h; cases h

/-! ### _law_blended -/
def FBlend : FS := fun ds ls => match ds with
  | [.ref a] => if a = ls.self ∧ (0 ≤ ls.turn ∧ ls.turn < 1000000000000) then .ok (.int (blendF (ls.turn + 1) ls.cells)) { ls with turn := ls.turn + 1 } else .no
  | _ => .no
theorem ok_blended {f : Addr} {fd : FuncData} (F : Fun K "_law_blended" "_law_blended" s_law_blended f fd) (mi : mg "int" = none) : FnOk P w K mg base (L2.CX P w) 1 f fd ["_law_state"] (spD K 1 FBlend) := by
  refine F.okX sc_blended (fun vs H Q E h => ?_) (fun cdv A outer s H vs Q E hr h => ?_)
  · obtain ⟨w, Hd, ds, ls, _, _, _, _, r, h2, _⟩ := h
    rw [r.length, h2]; rfl
  · obtain ⟨w, Hd, ds, ls, hs, hz, ht, st, r, hn, g⟩ := h
    have hu := hu_of hr
    -- the argument
    cases r with
    | nil => cases hn
    | @cons v vs d ds rv r =>
      cases r with
      | cons _ _ => cases hn
      | nil =>
        cases d with
        | ref a =>
          cases rv
          have gg : GoF K w Hd H Q E (if a = ls.self ∧ (0 ≤ ls.turn ∧ ls.turn < 1000000000000) then .ok (.int (blendF (ls.turn + 1) ls.cells)) { ls with turn := ls.turn + 1 } else .no) := g
          by_cases hc : a = ls.self ∧ (0 ≤ ls.turn ∧ ls.turn < 1000000000000)
          · rw [if_pos hc] at gg
            obtain ⟨ea, t0, t1⟩ := hc
            have ea2 : a = w.a := ea.trans st.hs.symm
            subst ea2
            refine ⟨_, pss_cons (ps_par (i := 1) (j := 2) (by rfl) sc_blended.nd rfl rfl (by decide) rfl rfl (pa_cons (pe_op op_add (pe_dget hu (pv 0) pe_str (fun _ _ => rfl)) pe_int) (pa_cons pe_int pa_nil)) (by rfl))
              (pss_cons (ps_dput hu (pv 0) pe_str (pv 1) rfl)
              (pss_cons (ps_for (passes_of rfl) rfl (pi_list (pe_lst (pa_cons pe_int (pa_cons pe_int (pa_cons pe_int pa_nil))))) (pg_name (i := 3) sc_blended.nd rfl (Or.inl rfl))
                (pss_cons (ps_set (i := 4) sc_blended.nd rfl (Or.inl rfl) (pe_op op_add (pe_op op_mul pe_int (pv 1)) (pe_op op_fdiv (pv 3) pe_int)))
                (pss_cons (ps_for (passes_of rfl) rfl (pi_list (pe_dget hu (pv 0) pe_str (fun _ _ => rfl))) (pg_name (i := 5) sc_blended.nd rfl (Or.inl rfl))
                  (pss_one (ps_set (i := 4) sc_blended.nd rfl (Or.inl rfl) (pe_op op_mod (pe_callTy call_int1 (by rfl) mi (by decide +kernel) (pa_cons (pe_op op_add (pe_op op_add (pe_op op_mul (pv 4) pe_int) (pv 5)) (pv 1)) pa_nil)) (pv 3)))))
                (pss_one (ps_set (i := 2) sc_blended.nd rfl (Or.inl rfl) (pe_op op_add (pe_op op_mul (pv 2) pe_int) (pe_op op_mod (pe_callTy call_int1 (by rfl) mi (by decide +kernel) (pa_cons (pe_op op_pow (pv 4) pe_int) pa_nil)) (pv 3))))))))
              (pss_one (ps_ret (pv 2))))), ?_⟩
            -- the values
            have cells0 := st.hc
            refine ⟨.ref w.a, rfl, w.a, .int ls.turn, rfl, DGet.k (k := .inr "turn") st.ha, ls.turn, 1, rfl, rfl, _, _, rfl, ?_⟩
            refine ⟨_, rfl, .ref w.a, rfl, w.a, _, rfl, DPut.k (k := .inr "turn") st.ha (show 4 < sizeLine by decide), ?_⟩
            -- the heap with the new turn
            have hne1 : w.g ≠ w.a := fun z => by have h1 := st.hg; rw [z, st.ha] at h1; cases h1
            have hne2 : w.c ≠ w.a := fun z => by have h1 := st.hc; rw [z, st.ha] at h1; cases h1
            generalize hH1 : upd H w.a (.dK (putK [(.inr "great", V.ref w.g), (.inr "cells", .ref w.c), (.inr "rest", .int ls.rest), (.inr "turn", .int ls.turn)] (.inr "turn") (.int (ls.turn + 1)))) = H1
            have e1a : H1 w.a = some (.dK [(.inr "great", V.ref w.g), (.inr "cells", .ref w.c), (.inr "rest", .int ls.rest), (.inr "turn", .int (ls.turn + 1))]) := by rw [← hH1, upd_same]; rfl
            have e1g : H1 w.g = some (.lst (ls.great.map V.int)) := by rw [← hH1, upd_ne hne1]; exact st.hg
            have e1c : H1 w.c = some (.lst (ls.cells.map V.int)) := by rw [← hH1, upd_ne hne2]; exact st.hc
            have e1n : ∀ b, b ≠ w.a → H1 b = H b := fun b hb => by rw [← hH1, upd_ne hb]
            refine ⟨by decide, fun Dl hDl => ⟨Dl, rfl, ⟨_, .inl (.inl upd_same)⟩, ?_⟩⟩
            have hk : ∀ b, (∃ o, H1 b = some o) → (upd H1 Dl (.lst (primes.map V.int))) b = H1 b := fun b ⟨o, h⟩ => upd_ne (ne_of_none h hDl)
            have e2a := (hk _ ⟨_, e1a⟩).trans e1a
            have e2g := (hk _ ⟨_, e1g⟩).trans e1g
            have e2c := (hk _ ⟨_, e1c⟩).trans e1c
            have e2l : (upd H1 Dl (.lst (primes.map V.int))) Dl = some (.lst (primes.map V.int)) := upd_same
            have P : Post K w Hd H Hd (upd H1 Dl (.lst (primes.map V.int))) { ls with turn := ls.turn + 1 } := by
              have nDl : H Dl = none := by
                by_cases hb : Dl = w.a
                · rw [hb, e1a] at hDl; cases hDl
                · rw [e1n _ hb] at hDl; exact hDl
              refine ⟨fun b o e z _ => ?_, fun b e => ?_, Sub.refl _, fun b o e => ?_, fun b o e => .inl e, hz, ht, ⟨st.hs, e2a, e2g, e2c, st.hcg, tabs_upd (by rw [← hH1]; exact tabs_upd st.tabs (lo_dK st.ha)) (lo_none hDl)⟩⟩
              · rw [upd_ne (ne_of_none e nDl), e1n _ (fun q => z (.inl q))]; exact e
              · by_cases hb : b = Dl
                · rw [hb]; exact .of nDl
                · rw [upd_ne hb] at e
                  by_cases hb2 : b = w.a
                  · rw [hb2, e1a] at e; cases e
                  · rw [e1n _ hb2] at e; exact .of e
              · have ne1 : b ≠ w.a := fun q => by rw [q, hz _ (.inl rfl)] at e; cases e
                rw [upd_ne (ne_of_none (hs _ _ e) nDl), e1n _ ne1]; exact hs _ _ e
            have g2 : ∀ v, v = V.int (blendF (ls.turn + 1) ls.cells) → Q v (upd H1 Dl (.lst (primes.map V.int))) := fun v e => gg v Hd _ P (by rw [e]; exact .int _)
            clear g gg
            -- the loops
            have step : ∀ {α β : Type} (f : β → α → β) (l : List α) (i : Nat) (x : α) (b : β), l[i]? = some x → (l.take (i + 1)).foldl f b = f ((l.take i).foldl f b) x := fun f l i x b h => by
              rw [List.take_succ, h, List.foldl_append]; rfl
            refine for_list (K := K) (a := Dl) (xs := primes.map V.int) (fun i σ' H' => H' = upd H1 Dl (.lst (primes.map V.int)) ∧ ∃ x3 x4 x5, σ' = [some (.ref w.a), some (.int (ls.turn + 1)), some (.int ((primes.take i).foldl (blendStep (ls.turn + 1) ls.cells) 0)), x3, x4, x5])
              ⟨rfl, none, none, none, rfl⟩ (fun i σ' H' _ ⟨e, _⟩ => by subst e; exact .inl (.inl e2l)) (fun i x σ' H' hx ⟨eH, x3, x4, x5, eσ⟩ => ?_) (fun σ' H' ⟨eH, x3, x4, x5, eσ⟩ => ?_)
            · obtain ⟨p, hp, rfl⟩ := map_get hx
              subst eH eσ
              have hpp : 0 < p ∧ p < 2147483648 := by
                have := List.mem_of_getElem? hp
                unfold primes at this
                simp only [List.mem_cons, List.not_mem_nil, or_false] at this
                rcases this with h | h | h <;> subst h <;> decide
              refine ⟨.int (ls.turn + 1), rfl, 48271, ls.turn + 1, rfl, rfl, .inl ⟨by decide, by decide⟩, .int p, rfl, p, 53, rfl, rfl, ⟨by decide, by decide⟩, _, _, rfl, rfl, ?_⟩
              refine ⟨.ref w.a, rfl, w.a, .ref w.c, rfl, DGet.k (k := .inr "cells") e2a, w.c, rfl, ⟨_, .inl (.inl e2c)⟩, ?_⟩
              refine for_list (K := K) (a := w.c) (xs := ls.cells.map V.int) (fun j σ' H' => H' = upd H1 Dl (.lst (primes.map V.int)) ∧ ∃ x5, σ' = [some (.ref w.a), some (.int (ls.turn + 1)), some (.int ((primes.take i).foldl (blendStep (ls.turn + 1) ls.cells) 0)), some (.int p), some (.int (blendIn p (ls.turn + 1) (ls.cells.take j))), x5])
                ⟨rfl, x5, rfl⟩ (fun j σ' H' _ ⟨e, _⟩ => by subst e; exact .inl (.inl e2c)) (fun j x σ' H' hx ⟨eH, x5, eσ⟩ => ?_) (fun σ' H' ⟨eH, x5, eσ⟩ => ?_)
              · obtain ⟨c, hc, rfl⟩ := map_get hx
                subst eH eσ
                refine ⟨_, rfl, _, 69621, rfl, rfl, .inr ⟨by decide, by decide⟩, _, rfl, _, c, rfl, rfl, _, rfl, _, _, rfl, rfl, .inl ⟨_, rfl, _, rfl, _, p, rfl, rfl, hpp.1, rfl, some (.int c), ?_⟩⟩
                have e : blendIn p (ls.turn + 1) (ls.cells.take (j + 1)) = (blendIn p (ls.turn + 1) (ls.cells.take j) * 69621 + c + (ls.turn + 1)) % p := step _ _ _ _ _ hc
                rw [e]; rfl
              · subst eH eσ
                have eb : ls.cells.take (ls.cells.map V.int).length = ls.cells := by rw [List.length_map, List.take_length]
                rw [eb]
                refine ⟨_, rfl, _, 2147483647, rfl, rfl, .inr ⟨by decide, by decide⟩, _, rfl, _, 5, rfl, rfl, ⟨by decide, by decide, blendIn_lt hpp.1 hpp.2 (by omega) (by omega) _⟩, .inl ⟨_, rfl, _, rfl, _, p, rfl, rfl, hpp.1, _, _, rfl, rfl, rfl, some (.int p), some (.int (blendIn p (ls.turn + 1) ls.cells)), x5, ?_⟩⟩
                have e : (primes.take (i + 1)).foldl (blendStep (ls.turn + 1) ls.cells) 0 = blendStep (ls.turn + 1) ls.cells ((primes.take i).foldl (blendStep (ls.turn + 1) ls.cells) 0) p := step _ _ _ _ _ hp
                rw [e]; rfl
            · subst eH eσ
              exact ⟨_, rfl, g2 _ (by rw [List.length_map, List.take_length]; rfl)⟩
          · rw [if_neg hc] at gg; exact gg.elim
        | _ => exact (show False from g).elim
/-! ### the state's fields -/
def hasSelf (ls : LS) : Option Sl → Bool
  | some (.dat (.ref a)) => decide (a = ls.self)
  | _ => false
def stM {α : Type} (i : Nat) (k : LS → Option (α × LS)) : M α := fun ρ ls => if hasSelf ls ρ[i]? = true then match k ls with
  | some (a, ls') => .ok a ρ ls'
  | none => .no
  else .no
def getRest (i : Nat) : M D := stM i fun ls => some (.int ls.rest, ls)
def greatNE (i : Nat) : M D := stM i fun ls => some (.bl (!decide (ls.great = [])), ls)
def popGreat (i : Nat) : M D := stM i fun ls => match ls.great with
  | x :: xs => some (.int x, { ls with great := xs })
  | [] => none
def setRest (i : Nat) (f : M D) : PM := lift f fun d ρ ls => match d with
  | .int r => if hasSelf ls ρ[i]? = true then .nx ρ { ls with rest := r } else .no
  | _ => .no
variable {X : Cx} {W : WX} {wd : Wd} {B D0 Hd H : Hp} {σ : L2.St} {ρ : Rho} {ls : LS}
theorem EOk.self (E : EOk K wd B D0 Hd H σ ρ ls) {i : Nat} (h : hasSelf ls ρ[i]? = true) : σ[i]? = some (some (.ref wd.a)) := by
  unfold hasSelf at h
  split at h
  · rename_i a e
    obtain ⟨v, h1, h2⟩ := E.dat i _ e
    cases h2
    have h := of_decide_eq_true h
    rw [h1, h, E.st.hs]
  · cases h
theorem EOk.world {ls' : LS} {H' : Hp} (E : EOk K wd B D0 Hd H σ ρ ls) (s : SOk wd ls' H') (h : ∀ b, ¬ wd.Z b → H' b = H b) : EOk K wd B D0 Hd H' σ ρ ls' := by
  have nz : ∀ b o, Hd b = some o → ¬ wd.Z b := fun b o e z => by rw [E.noz b z] at e; cases e
  refine ⟨fun b o e z t => ?_, fun b e => ?_, fun b o e => ?_, E.sub0, E.noz, E.nt, E.fr, s, E.len, E.dat, fun i ds e => ?_, E.apa⟩
  · rw [h b z]; exact E.base b o e z t
  · by_cases z : wd.Z b
    · obtain ⟨o, e2⟩ := s.inH z
      rw [e] at e2; cases e2
    · rw [h b z] at e; exact E.dom b e
  · rw [h b (nz b o e)]; exact E.sub b o e
  · obtain ⟨p, xs, h1, h2, h3, h4, h5, h6⟩ := E.ow i ds e
    exact ⟨p, xs, h1, by rw [h p h6]; exact h2, h3, h4, h5, h6⟩
theorem Go.xSt {α : Type} {i : Nat} {k : LS → Option (α × LS)} {P : Hp → Hp → Rho → LS → α → Prop} (h : Go K W wd B D0 σ Hd (stM i k ρ ls) P) : hasSelf ls ρ[i]? = true ∧ ∃ a ls', k ls = some (a, ls') ∧ ∀ Hd' H', EOk K wd B D0 Hd' H' σ ρ ls' → Sub Hd Hd' → P Hd' H' ρ ls' a := by
  unfold stM at h
  by_cases hs : hasSelf ls ρ[i]? = true
  · rw [if_pos hs] at h
    refine ⟨hs, ?_⟩
    cases e : k ls with
    | none => rw [e] at h; exact h.elim
    | some q => obtain ⟨a, ls'⟩ := q; rw [e] at h; exact ⟨a, ls', rfl, h⟩
  · rw [if_neg hs] at h; exact h.elim
theorem SOk.ne1 (s : SOk wd ls H) : wd.g ≠ wd.a := fun z => by have h := s.hg; rw [z, s.ha] at h; cases h
theorem SOk.ne2 (s : SOk wd ls H) : wd.c ≠ wd.a := fun z => by have h := s.hc; rw [z, s.ha] at h; cases h
variable {e : Expr} {pos : Pos}
theorem u_getRest (i : Nat) (hu : X.A.units + 1 < cLine) {jj pp} (h : PE X e (tVar i)) : PE X (.Subscript e (.Constant (.str "rest") jj pp) pos) (UV X.K W (getRest i)) := pe_imp (pe_dget hu h pe_str (fun _ _ => rfl)) fun σ H Q q => by
  obtain ⟨wd, B, D0, Hd, ρ, ls, E, q⟩ := q
  obtain ⟨hs, a, ls', ek, q⟩ := Go.xSt q
  cases ek
  exact ⟨_, E.self hs, wd.a, _, rfl, DGet.k (k := .inr "rest") E.st.ha, q Hd H E (Sub.refl _) _ (.int _)⟩
theorem read_setRest {i : Nat} {f : M D} {tv : TE} {De : Ends} (hv : ∀ Q, UV K W f σ H Q → tv σ H Q) (h : US K W (setRest i f) De σ H) : sDPut (tVar i) (tC (.str "rest")) tv De σ H := by
  refine hv _ (Ru.imp (US.lift h) fun w B D0 Hd' H' ρ' ls' d E q v r => ?_)
  cases d with
  | int x =>
    cases r
    have q : GoS K W w B D0 Hd' De (if hasSelf ls' ρ'[i]? = true then .nx ρ' { ls' with rest := x } else .no) := q
    by_cases hs : hasSelf ls' ρ'[i]? = true
    · rw [if_pos hs] at q
      refine ⟨_, E.self hs, w.a, _, rfl, DPut.k (k := .inr "rest") E.st.ha (show 4 < sizeLine by decide), ?_⟩
      refine q σ Hd' _ (E.world (ls' := { ls' with rest := x }) ⟨E.st.hs, by rw [upd_same]; rfl, ?_, ?_, E.st.hcg, tabs_upd E.st.tabs (lo_dK E.st.ha)⟩ fun b z => upd_ne fun y => z (.inl y)) (Sub.refl _)
      · rw [upd_ne E.st.ne1]; exact E.st.hg
      · rw [upd_ne E.st.ne2]; exact E.st.hc
    · rw [if_neg hs] at q; exact q.elim
  | _ => exact q.elim
theorem us_setRest (i : Nat) (hu : X.A.units + 1 < cLine) {jj pp spos} {f : M D} {v : Expr} (h : PE X e (tVar i)) (hv : PE X v (UV X.K W f)) (hs : swapsWith v (some (.Subscript e (.Constant (.str "rest") jj pp) spos)) pos.line X.env = pure false := by rfl) :
    PS X (.Assign [.Subscript e (.Constant (.str "rest") jj pp) spos] v pos) (US X.K W (setRest i f)) := ps_imp (ps_dput hu h pe_str hv hs) fun De σ H q => read_setRest (fun _ q => q) q
theorem read_greatNE {i : Nat} {Q : VK} (q : UV K W (greatNE i) σ H Q) : tOp (rNeD K) (tDGet (tVar i) (tC (.str "great"))) (tLst tNil) σ H Q := by
  obtain ⟨wd, B, D0, Hd, ρ, ls, E, q⟩ := q
  obtain ⟨hs, a, ls', ek, q⟩ := Go.xSt q
  cases ek
  refine ⟨_, E.self hs, wd.a, _, rfl, DGet.k (k := .inr "great") E.st.ha, by decide, fun p hp => ?_⟩
  obtain ⟨E2, F2⟩ := E.newList (xs := []) hp
  have hx : RpS K Hd (upd H p (.lst [])) (.ref wd.g) (.lst (zs ls.great)) := ⟨wd.g, _, rfl, E2.st.hg, RpL.ints _⟩
  have hy : RpS K Hd (upd H p (.lst [])) (.ref p) (.lst (zs [])) := ⟨p, [], rfl, upd_same, .nil⟩
  refine od_ne.run E2 hx hy (neD_of okq_ints okq_ints) Q fun t Hd' H' E' s' rt => ?_
  rw [eqb_ints] at rt
  exact q Hd' H' E' s' t rt
theorem ut_greatNE (i : Nat) (hu : X.A.units + 1 < cLine) (hu2 : X.A.units + 64 < cLine) {jj pp p1 p2} (h : PE X e (tVar i)) : PT X (.Compare (.Subscript e (.Constant (.str "great") jj pp) p1) [.NotEq] [.List [] p2] pos) (UT X.K W (bnd (greatNE i) isB)) :=
  pt_imp (pt_cmpR (op_neD hu2) (pe_dget hu h pe_str (fun _ _ => rfl)) (pe_lst pa_nil) (nomark _)) fun _ _ _ q => read_tst (fun _ _ _ q => read_greatNE q) q
theorem u_popGreat (i : Nat) (hu : X.A.units + 1 < cLine) {jj pp p1 apos cpos j0 p0} (h : PE X e (tVar i)) (hbase : attributeBase (.Subscript e (.Constant (.str "great") jj pp) p1) "pop" X.env (eval (.Subscript e (.Constant (.str "great") jj pp) p1) X.env) = eval (.Subscript e (.Constant (.str "great") jj pp) p1) X.env := by rfl)
    (hfew : ((backTo cpos (starEach [(.Constant (.int 0) j0 p0 : Expr)] X.env)).all (fun x => !x.1) && (backToKw cpos (keywordEach [] X.env)).all (fun x => x.1.isSome) && decide ([(.Constant (.int 0) j0 p0 : Expr)].length + ([] : List Keyword).length + (if ([] : List Keyword).isEmpty then 0 else 1) < 30)) = true := by rfl)
    (hline : (apos.endLine == cpos.line) = true := by rfl) :
    PE X (.Call (.Attribute (.Subscript e (.Constant (.str "great") jj pp) p1) "pop" apos) [.Constant (.int 0) j0 p0] [] cpos) (UV X.K W (popGreat i)) :=
  pe_imp (pe_bm PySem.F.plainAttrs_list PySem.F.slot_list_pop PySem.F.type_list_pop mt_popAt (pe_dget hu h pe_str (fun _ _ => rfl)) (pa_cons pe_int pa_nil) hbase hfew hline) fun σ H Q q => by
  obtain ⟨wd, B, D0, Hd, ρ, ls, E, q⟩ := q
  obtain ⟨hs, a, ls', ek, q⟩ := Go.xSt q
  refine ⟨_, E.self hs, wd.a, .ref wd.g, rfl, DGet.k (k := .inr "great") E.st.ha, .inl ⟨rfl, _, SqL.of E.st.hg⟩, ?_⟩
  cases eg : ls.great with
  | nil => rw [eg] at ek; cases ek
  | cons x xs =>
    rw [eg] at ek
    cases ek
    have hg := E.st.hg
    rw [eg] at hg
    refine ⟨wd.g, _, 0, 0, .int x, rfl, rfl, hg, by decide, by decide, ?_, rfl, ?_⟩
    · exact (ixN_seq (by unfold ixN; rw [if_pos (by decide), if_pos (by rw [List.length_map, List.length_cons]; omega)]; rfl)).1
    · refine q Hd _ (E.world ⟨E.st.hs, ?_, upd_same, ?_, E.st.hcg, tabs_upd E.st.tabs (lo_lst E.st.hg)⟩ fun b z => upd_ne fun y => z (.inr (.inl y))) (Sub.refl _) _ (.int _)
      · rw [upd_ne E.st.ne1.symm]; exact E.st.ha
      · rw [upd_ne E.st.hcg]; exact E.st.hc
/-! ### _law_draw -/
def pDraw : PM := seqP (ifP (bnd (bin eqD (dt (getRest 0)) (dt (ret (.int 0)))) isB) (setRest 0 (ifM (bnd (greatNE 0) isB) (popGreat 0) (callM 1 FBlend (consM (bnd (nam 0) give) (ret []))))) skip)
  (seqP (setV 2 (bin modD (dt (uno intD (dt (getRest 0)))) (nam 1))) (seqP (setRest 0 (bin fdivD (dt (getRest 0)) (nam 1))) (retP (bnd (nam 2) give))))
def FDraw : FS := fun ds ls => endF (pDraw (ini 3 ds) ls)
theorem ok_draw {f : Addr} {fd : FuncData} (F : Fun K "_law_draw" "_law_draw" s_law_draw f fd) (Gb : Has P w K mg base "_law_blended" ["_law_state"] 1 1 FBlend) (mi : mg "int" = none) : FnOk P w K mg base (L2.CX P w) 2 f fd ["_law_state", "_law_room"] (spD K 2 FDraw) := by
  refine fn_ok F sc_draw rfl (fun cdv A outer s H E hr => ?_) (p := pDraw) fun ds ls h => .inr rfl
  exact us_cons (us_if (ut_cmp (op_eqD hr.units) od_eq (u_dt (u_getRest 0 (hu_of hr) (pv 0))) (u_dt u_int) (nomark _)) (us_one (us_setRest 0 (hu_of hr) (pv 0) (u_if (ut_greatNE 0 (hu_of hr) hr.units (pv 0)) (u_popGreat 0 (hu_of hr) (pv 0)) (u_callH Gb hr (takes_of rfl rfl rfl rfl) (ua_cons (u_give (u_nam 0 (pv 0))) ua_nil))))) us_nil)
    (us_cons (us_set 2 sc_draw.nd (u_op op_mod od_mod (u_dt (u_intc mi (u_dt (u_getRest 0 (hu_of hr) (pv 0))))) (u_nam 1 (pv 1))))
    (us_cons (us_setRest 0 (hu_of hr) (pv 0) (u_op op_fdiv od_fdiv (u_dt (u_getRest 0 (hu_of hr) (pv 0))) (u_nam 1 (pv 1))))
    (us_one (us_ret (u_give (u_nam 2 (pv 2)))))))
end
end Pd

set_option Elab.async false
set_option linter.all false
set_option maxRecDepth 100000
set_option maxHeartbeats 4000000
namespace Pd
open PySem PySem.Spec PyProof.Rows L2
abbrev s_law_caught : Stmt := topS 38
abbrev nCaught : List Str := ["_law_action", "_law_found", "error"]
theorem sc_caught : FnScope nCaught ["_law_action"] (defScope s_law_caught) := ⟨rfl, rfl, rfl, by decide +kernel, rfl, by decide +kernel, by decide +kernel⟩
theorem caught_gives {X : Cx} {g CS : Addr} {cdg : Value} {q : Str} (hme : X.mg "KeepError" = some (.ref CS)) :
    LamX.GivesTo X nCaught "_law_caught" (defScope s_law_caught) g cdg (defBody s_law_caught) "_law_action" q (TTc X.K CS) := by
  intro f c' s H Q tl act hc h
  refine ⟨_, pss_cons (ps_set (X := (cxOf C8.CX0 X.prog X.w X.K X.mg X.base nCaught "_law_caught" (defScope s_law_caught) g cdg X.A X.stack s H C8.E0).nox) (i := 1) sc_caught.nd rfl (.inl rfl) pe_non rfl (.inr rfl))
    (pss_cons (ps_keep (c := .ref CS) (i := 2) (j := 1) (tb := fun W De σ H => ∃ Ech : XK, (∀ cls d σ' H', Ech cls d H' → W cls d σ' H') ∧ σ[0]? = some (some (.ref f)) ∧ H c' = some (LamX.CodeO c' q) ∧ tl Ech H (fun _ H' => De.nx σ H'))
        rfl rfl sc_caught.nd rfl rfl rfl rfl ⟨rfl, by decide, .inl hme⟩ (by decide) (by decide) (fun _ _ => rfl) LamX.takes0 (fun W pn xe tk _ => ?_) (show 2 < 3 by decide))
    (pss_one (ps_ret (pv 1)))), ?_⟩
  · refine pss_one ⟨fun pins s' σ H' D I h' => ?_⟩
    obtain ⟨Ech, hW, h1, h2, h3⟩ := h'
    exact (ps_expr (act W pn xe Ech _ _ tk hW)).run pins s' σ H' D I ⟨h1, h2, h3⟩
  · refine ⟨fun cls d H' => ∃ C : Addr, cls = .ref C ∧ d = none ∧ PySem.W.exmOne X.K cls (.ref CS) = some true ∧ ∀ a, H' a = none → Q (.ref a) (upd H' a (ExI C a)), fun cls d σ' H' ⟨C, e1, e2, e3, e4⟩ => ⟨C, e1, e2, e3, fun hl a ha => ⟨.ref a, ?_, e4 a ha⟩⟩, rfl, hc, ?_⟩
    · have hl : σ'.length = 3 := hl
      rw [List.getElem?_set_ne (by decide), List.getElem?_set_self (by rw [List.length_set, hl]; decide)]
    · have e : (fun (_ : V) (H' : Hp) => ∃ v, ((L2.start nCaught [V.ref f]).set 1 (some .non))[1]? = some (some v) ∧ Q v H') = fun _ H' => Q .non H' := by
        funext _ H'
        exact propext ⟨fun ⟨v, h1, h2⟩ => by cases h1; exact h2, fun h2 => ⟨.non, rfl, h2⟩⟩
      show tl _ H (fun (_ : V) (H' : Hp) => ∃ v, ((L2.start nCaught [V.ref f]).set 1 (some .non))[1]? = some (some v) ∧ Q v H')
      rw [e]
      exact h
theorem u_caught {X : Cx} {W : WX} {T : List (Addr × Str)} {cs : List Addr} {g c Pt CS : Addr} {fdc : FuncData} {k k2 : Nat} {params : Arguments} {body : Expr} {scope : Scope} {f : M D} {p lpos pos : Pos} (Fc : Fun X.K "_law_caught" "_law_caught" s_law_caught g fdc) (gm : X.mg "_law_caught" = some (.ref g)) (bc : L2.Binds X.K fdc ["_law_action"] [])
    (hme : X.mg "KeepError" = some (.ref CS)) (hcs : ∀ C ∈ cs, PySem.W.exmOne X.K (.ref C) (.ref CS) = some true)
    (TB : LamX.TabB X.base X.mg c Pt) (hcode : X.env.code = .ref c) (hmT : (Pt, X.env.qual ++ "<lambda>") ∈ T) (hu : ∀ p ∈ T, p.1 = Pt → p.2 = X.env.qual ++ "<lambda>") (hr : Room k2 X.A)
    (hbody : ∀ (A : Around) (outer : List Env) (s : Shared) (H : Hp) (E : XK) (f' c' : Addr), Room k (A.deeper (LamX.lamEnv X scope s.heap.objs.size f' c')) → PE (LamX.lamCx X A outer s H E scope f' c') body (UV X.K (fun cls d _ H => E cls d H) f))
    (hk : k + 2 ≤ k2 := by decide) (L : LamX.LamS X.env.scope scope := by exact LamX.lamS_by (by decide +kernel)) (hdef : defaultsOf params X.env = ([], []) := by rfl) (hbind : ∀ (q : Str) (cl : List (Str × Addr)) (pm cv ctv : Value), bindArgs (PySem.W.kla_fn "<lambda>" q params body scope cl pm cv ctv) ⟨[], []⟩ = pure [] := by intros; rfl) (hg : Gl X "_law_caught" := by rfl) :
    PE X (.Call (.Name "_law_caught" p) [.Lambda params body scope lpos] [] pos) (UV X.K W (caughtM T cs f)) := by
  obtain ⟨oc, od, kV, doc, pm, an, cdv, ct, osl, rfl, lk, hcd⟩ := Fc.ex
  exact pe_imp (LamX.pe_lamcall (Ng := nCaught) (t := fun E => UV X.K (fun cls d _ H => E cls d H) f) hg gm Fc.kp lk hcd bc sc_caught rfl (.inl rfl) (caught_gives hme) TB hcode hmT hu (hr.mono hk) L hdef hbind hbody) fun σ H Q q => read_caught hcs (fun _ _ _ _ q => q) q
end Pd

set_option Elab.async false
set_option linter.all false
set_option maxRecDepth 100000
set_option maxHeartbeats 4000000
/-! the walk -/
namespace Pd
open PySem PySem.Spec PyProof.Rows L2
structure En where
  T : List (Addr × Str)
  KeepError : Addr
  BadDeeds : Addr
  BadRows : Addr
  BadMove : Addr
def En.cs (en : En) : List Addr := [en.BadDeeds, en.BadRows, en.BadMove]
def En.t_BadDeeds (en : En) : List (Addr × Bool) := [(en.BadDeeds, true), (en.BadRows, false), (en.BadMove, false)]
def En.t_BadRows (en : En) : List (Addr × Bool) := [(en.BadDeeds, false), (en.BadRows, true), (en.BadMove, false)]
def En.t_BadMove (en : En) : List (Addr × Bool) := [(en.BadDeeds, false), (en.BadRows, false), (en.BadMove, true)]
structure SF (K : PySem.W.Frag) (mg : Str → Option Value) (en : En) : Prop where
  m_abs : mg "abs" = none
  m_all : mg "all" = none
  m_bool : mg "bool" = none
  g_MOST_DEEDS : ∃ t, mg "MOST_DEEDS" = some (.int 4 t)
  g_MOST_IN_ROW : ∃ t, mg "MOST_IN_ROW" = some (.int 200 t)
  g_MOST_ROWS : ∃ t, mg "MOST_ROWS" = some (.int 6 t)
  m_int : mg "int" = none
  m_isinstance : mg "isinstance" = none
  m_len : mg "len" = none
  m_list : mg "list" = none
  m_max : mg "max" = none
  m_min : mg "min" = none
  m_range : mg "range" = none
  m_sorted : mg "sorted" = none
  m_sum : mg "sum" = none
  m_tuple : mg "tuple" = none
  c_BadDeeds : ECl K mg "BadDeeds" en.BadDeeds
  c_BadRows : ECl K mg "BadRows" en.BadRows
  c_BadMove : ECl K mg "BadMove" en.BadMove
  ke : mg "KeepError" = some (.ref en.KeepError)
  cs_ok : ∀ C ∈ en.cs, PySem.W.exmOne K (.ref C) (.ref en.KeepError) = some true
  is_BadDeeds : ∀ p ∈ en.t_BadDeeds, ExcC K p.1 ∧ PySem.W.kitOne K (.ref p.1) (.ref en.BadDeeds) = some p.2
  is_BadRows : ∀ p ∈ en.t_BadRows, ExcC K p.1 ∧ PySem.W.kitOne K (.ref p.1) (.ref en.BadRows) = some p.2
  is_BadMove : ∀ p ∈ en.t_BadMove, ExcC K p.1 ∧ PySem.W.kitOne K (.ref p.1) (.ref en.BadMove) = some p.2
structure Dst (en : En) : Prop where
  n_BadDeeds_BadRows : en.BadDeeds ≠ en.BadRows
  n_BadDeeds_BadMove : en.BadDeeds ≠ en.BadMove
  n_BadRows_BadMove : en.BadRows ≠ en.BadMove
theorem cs_BadDeeds {en : En} : (en.BadDeeds ∈ en.cs) = True := by simp [En.cs]
theorem cs_BadRows {en : En} : (en.BadRows ∈ en.cs) = True := by simp [En.cs]
theorem cs_BadMove {en : En} : (en.BadMove ∈ en.cs) = True := by simp [En.cs]
theorem isiE_BadDeeds {en : En} : isiE en.t_BadDeeds (.exn en.BadDeeds) = some (.bl true) := by
  simp [isiE, En.t_BadDeeds, List.lookup]
theorem isiE_BadRows {en : En} (D : Dst en) : isiE en.t_BadRows (.exn en.BadRows) = some (.bl true) := by
  have h_BadDeeds : (en.BadRows == en.BadDeeds) = false := by simpa using D.n_BadDeeds_BadRows.symm
  simp [isiE, En.t_BadRows, List.lookup, h_BadDeeds]
theorem isiE_BadMove {en : En} (D : Dst en) : isiE en.t_BadMove (.exn en.BadMove) = some (.bl true) := by
  have h_BadDeeds : (en.BadMove == en.BadDeeds) = false := by simpa using D.n_BadDeeds_BadMove.symm
  have h_BadRows : (en.BadMove == en.BadRows) = false := by simpa using D.n_BadRows_BadMove.symm
  simp [isiE, En.t_BadMove, List.lookup, h_BadDeeds, h_BadRows]
structure CaF (K : PySem.W.Frag) (mg : Str → Option Value) (g : Addr) (fdc : FuncData) : Prop where
  Fc : Fun K "_law_caught" "_law_caught" s_law_caught g fdc
  gm : mg "_law_caught" = some (.ref g)
  bc : L2.Binds K fdc ["_law_action"] []
section
variable {P : Program} {w : World} {K : PySem.W.Frag} {mg : Str → Option Value} {base : Heap} {en : En}

/-! ### is_whole -/
abbrev s_is_whole : Stmt := topS 6
abbrev N_is_whole : List Str := ["value"]
theorem sc_is_whole : FnScope N_is_whole ["value"] (defScope s_is_whole) := ⟨rfl, rfl, rfl, by decide +kernel, rfl, by decide +kernel, by decide +kernel⟩
def p_is_whole (en : En) : PM :=
    (retP (andV (uno (isiD .int) (nam 0)) (notV (uno (isiD .bool) (nam 0)))))
def F_is_whole (en : En) : FS := fun ds ls => endF (p_is_whole en (ini 1 ds) ls)
theorem ok_is_whole (S : SF K mg en) {f : Addr} {fd : FuncData} (F : Fun K "is_whole" "is_whole" s_is_whole f fd) : FnOk P w K mg base (L2.CX P w) 1 f fd ["value"] (spD K 1 (F_is_whole en)) := by
  have sc := sc_is_whole
  refine fn_ok F sc rfl (fun cdv A outer s H E hr => ?_) (p := p_is_whole en) fun ds ls h => .inr rfl
  exact (us_one (us_ret (u_and (u_isi .int S.m_isinstance (u_nam 0 (pv 0)) (pe_ty S.m_int)) (u_one (u_not (u_isi .bool S.m_isinstance (u_nam 0 (pv 0)) (pe_ty S.m_bool)))))))

/-! ### plain_of -/
abbrev s_plain_of : Stmt := topS 15
abbrev N_plain_of : List Str := ["letters", "found", "letter"]
theorem sc_plain_of : FnScope N_plain_of ["letters"] (defScope s_plain_of) := ⟨rfl, rfl, rfl, by decide +kernel, rfl, by decide +kernel, by decide +kernel⟩
def p_plain_of (en : En) : PM :=
    (seqP (setN 1 (lstM (ret [])))
    (seqP (forP (tgName 2) (itemsM (bnd (nam 0) give)) (ifP (andM (bnd (bin neD (nam 1) (dt (ls1 (lstM (ret []))))) isB) (bnd (bin eqD (dt (bin atD (nam 1) (dt (uno negD (dt (ret (.int 1))))))) (dt (bin subD (dt (ret (.int 0))) (nam 2)))) isB)) (drop (meth0M 1 popD)) (drop (methM 1 appD (bnd (nam 2) give)))))
    (retP (uno tupleD (nam 1)))))
def F_plain_of (en : En) : FS := fun ds ls => endF (p_plain_of en (ini 3 ds) ls)
theorem ok_plain_of (S : SF K mg en) {f : Addr} {fd : FuncData} (F : Fun K "plain_of" "plain_of" s_plain_of f fd) : FnOk P w K mg base (L2.CX P w) 1 f fd ["letters"] (spD K 1 (F_plain_of en)) := by
  have sc := sc_plain_of
  refine fn_ok F sc rfl (fun cdv A outer s H E hr => ?_) (p := p_plain_of en) fun ds ls h => .inr rfl
  exact (us_cons (us_setN 1 sc.nd (u_lst ua_nil))
    (us_cons (us_for (passes_of rfl) rfl (ui_seq (u_give (u_nam 0 (pv 0)))) (pg_name (i := 2) sc.nd rfl (by first | exact Or.inl rfl | exact Or.inr rfl)) tg_name (us_one (us_if (PW.pt (ut_and (ut_cmp (op_neD hr.units) od_ne (u_nam 1 (pv 1)) (u_dt (u_ls (u_lst ua_nil))) (nomark _)) (ut_and1 (ut_cmp (op_eqD hr.units) od_eq (u_dt (u_at (u_nam 1 (pv 1)) (u_dt (u_neg (u_dt u_int))) (fun _ _ => rfl))) (u_dt (u_op op_sub od_sub (u_dt u_int) (u_nam 2 (pv 2)))) (nomark _))))) (us_one (us_expr (u_pop 1 (pv 1)))) (us_one (us_expr (u_append 1 (pv 1) (u_give (u_nam 2 (pv 2)))))))))
    (us_one (us_ret (u_tuple S.m_tuple (u_nam 1 (pv 1)))))))

/-! ### tail_of -/
abbrev s_tail_of : Stmt := topS 22
abbrev N_tail_of : List Str := ["row", "cut"]
theorem sc_tail_of : FnScope N_tail_of ["row"] (defScope s_tail_of) := ⟨rfl, rfl, rfl, by decide +kernel, rfl, by decide +kernel, by decide +kernel⟩
def p_tail_of (en : En) : PM :=
    (seqP (setV 1 (ret (.int 0)))
    (seqP (whileP (andM (bnd (bin gtD (dt (bin subD (dt (uno lenD (nam 0))) (dt (bin mulD (dt (ret (.int 2))) (nam 1))))) (dt (ret (.int 1)))) isB) (bnd (bin eqD (dt (bin atD (nam 0) (nam 1))) (dt (bin subD (dt (ret (.int 0))) (dt (bin atD (nam 0) (dt (bin subD (dt (bin subD (dt (uno lenD (nam 0))) (dt (ret (.int 1))))) (nam 1)))))))) isB)) (augP 1 (fun a b => a + b) (ret (.int 1))) 1000)
    (retP (bnd (nam 1) give))))
def F_tail_of (en : En) : FS := fun ds ls => endF (p_tail_of en (ini 2 ds) ls)
theorem ok_tail_of (S : SF K mg en) {f : Addr} {fd : FuncData} (F : Fun K "tail_of" "tail_of" s_tail_of f fd) : FnOk P w K mg base (L2.CX P w) 1 f fd ["row"] (spD K 1 (F_tail_of en)) := by
  have sc := sc_tail_of
  refine fn_ok F sc rfl (fun cdv A outer s H E hr => ?_) (p := p_tail_of en) fun ds ls h => .inr rfl
  exact (us_cons (us_set 1 sc.nd u_int)
    (us_cons (us_while 1000 (passes_of rfl) (PW.pt (ut_and (ut_cmp op_gt od_gt (u_dt (u_op op_sub od_sub (u_dt (u_len S.m_len (u_nam 0 (pv 0)))) (u_dt (u_op op_mulU od_mul (u_dt u_int) (u_nam 1 (pv 1)))))) (u_dt u_int) (nomark _)) (ut_and1 (ut_cmp (op_eqD hr.units) od_eq (u_dt (u_at (u_nam 0 (pv 0)) (u_nam 1 (pv 1)) (fun _ _ => rfl))) (u_dt (u_op op_sub od_sub (u_dt u_int) (u_dt (u_at (u_nam 0 (pv 0)) (u_dt (u_op op_sub od_sub (u_dt (u_op op_sub od_sub (u_dt (u_len S.m_len (u_nam 0 (pv 0)))) (u_dt u_int))) (u_nam 1 (pv 1)))) (fun _ _ => rfl))))) (nomark _))))) (us_one (us_aug 1 ip_add sc.nd u_int)))
    (us_one (us_ret (u_give (u_nam 1 (pv 1)))))))

/-! ### least_start -/
abbrev s_least_start : Stmt := topS 23
abbrev N_least_start : List Str := ["row", "size", "one", "other", "same", "first", "second"]
theorem sc_least_start : FnScope N_least_start ["row"] (defScope s_least_start) := ⟨rfl, rfl, rfl, by decide +kernel, rfl, by decide +kernel, by decide +kernel⟩
def p_least_start (en : En) : PM :=
    (seqP (setV 1 (uno lenD (nam 0)))
    (seqP (lift (tupM (consM (ret (.int 0)) (consM (ret (.int 1)) (consM (ret (.int 0)) (ret []))))) (asgP (tgTup (tgCons (tgName 2) (tgCons (tgName 3) (tgCons (tgName 4) tgNil))))))
    (seqP (whileP (andM (bnd (bin ltD (nam 2) (nam 1)) isB) (andM (bnd (bin ltD (nam 3) (nam 1)) isB) (bnd (bin ltD (nam 4) (nam 1)) isB))) (seqP (par2 5 6 (consM (bin atD (nam 0) (dt (bin modD (dt (bin addD (nam 2) (nam 4))) (nam 1)))) (consM (bin atD (nam 0) (dt (bin modD (dt (bin addD (nam 3) (nam 4))) (nam 1)))) (ret []))))
    (seqP (ifP (bnd (bin eqD (nam 5) (nam 6)) isB) (seqP (augP 4 (fun a b => a + b) (ret (.int 1)))
    cnt) skip)
    (seqP (ifP (bnd (bin gtD (nam 5) (nam 6)) isB) (augP 2 (fun a b => a + b) (bin addD (nam 4) (dt (ret (.int 1))))) (augP 3 (fun a b => a + b) (bin addD (nam 4) (dt (ret (.int 1))))))
    (seqP (ifP (bnd (bin eqD (nam 2) (nam 3)) isB) (augP 3 (fun a b => a + b) (ret (.int 1))) skip)
    (setV 4 (ret (.int 0))))))) 1000)
    (retP (bin minD (nam 2) (nam 3))))))
def F_least_start (en : En) : FS := fun ds ls => endF (p_least_start en (ini 7 ds) ls)
theorem ok_least_start (S : SF K mg en) {f : Addr} {fd : FuncData} (F : Fun K "least_start" "least_start" s_least_start f fd) : FnOk P w K mg base (L2.CX P w) 1 f fd ["row"] (spD K 1 (F_least_start en)) := by
  have sc := sc_least_start
  refine fn_ok F sc rfl (fun cdv A outer s H E hr => ?_) (p := p_least_start en) fun ds ls h => .inr rfl
  exact (us_cons (us_set 1 sc.nd (u_len S.m_len (u_nam 0 (pv 0))))
    (us_cons (us_asg (u_tup (ua_cons u_int (ua_cons u_int (ua_cons u_int ua_nil)))) (pg_tup rfl (pgs_cons (pg_name (i := 2) sc.nd rfl (by first | exact Or.inl rfl | exact Or.inr rfl)) (pgs_cons (pg_name (i := 3) sc.nd rfl (by first | exact Or.inl rfl | exact Or.inr rfl)) (pgs_cons (pg_name (i := 4) sc.nd rfl (by first | exact Or.inl rfl | exact Or.inr rfl)) pgs_nil)))) (tgs_len (tgnS (tgnS (tgnS tgn0))) (tg_cons tg_name (tg_cons tg_name (tg_cons tg_name tg_nil)))))
    (us_cons (us_while 1000 (passes_of rfl) (PW.pt (ut_and (ut_cmp op_lt od_lt (u_nam 2 (pv 2)) (u_nam 1 (pv 1)) (nomark _)) (ut_and (ut_cmp op_lt od_lt (u_nam 3 (pv 3)) (u_nam 1 (pv 1)) (nomark _)) (ut_and1 (ut_cmp op_lt od_lt (u_nam 4 (pv 4)) (u_nam 1 (pv 1)) (nomark _)))))) (us_cons (us_par 5 6 rfl sc.nd (ua_cons (u_at (u_nam 0 (pv 0)) (u_dt (u_op op_mod od_mod (u_dt (u_op op_addU od_add (u_nam 2 (pv 2)) (u_nam 4 (pv 4)))) (u_nam 1 (pv 1)))) (fun _ _ => rfl)) (ua_cons (u_at (u_nam 0 (pv 0)) (u_dt (u_op op_mod od_mod (u_dt (u_op op_addU od_add (u_nam 3 (pv 3)) (u_nam 4 (pv 4)))) (u_nam 1 (pv 1)))) (fun _ _ => rfl)) ua_nil)))
    (us_cons (us_if (ut_cmp (op_eqD hr.units) od_eq (u_nam 5 (pv 5)) (u_nam 6 (pv 6)) (nomark _)) (us_cons (us_aug 4 ip_add sc.nd u_int)
    (us_one us_continue)) us_nil)
    (us_cons (us_if (ut_cmp op_gt od_gt (u_nam 5 (pv 5)) (u_nam 6 (pv 6)) (nomark _)) (us_one (us_aug 2 ip_add sc.nd (u_op op_addU od_add (u_nam 4 (pv 4)) (u_dt u_int)))) (us_one (us_aug 3 ip_add sc.nd (u_op op_addU od_add (u_nam 4 (pv 4)) (u_dt u_int)))))
    (us_cons (us_if (ut_cmp (op_eqD hr.units) od_eq (u_nam 2 (pv 2)) (u_nam 3 (pv 3)) (nomark _)) (us_one (us_aug 3 ip_add sc.nd u_int)) us_nil)
    (us_one (us_set 4 sc.nd u_int)))))))
    (us_one (us_ret (u_min S.m_min rfl (u_nam 2 (pv 2)) (u_nam 3 (pv 3))))))))

/-! ### ties_in -/
abbrev s_ties_in : Stmt := topS 28
abbrev N_ties_in : List Str := ["rings", "found", "ring", "at", "pair", "one", "other"]
theorem sc_ties_in : FnScope N_ties_in ["rings"] (defScope s_ties_in) := ⟨rfl, rfl, rfl, by decide +kernel, rfl, by decide +kernel, by decide +kernel⟩
def p_ties_in (en : En) : PM :=
    (seqP (newD 1)
    (seqP (forP (tgName 2) (itemsM (bnd (nam 0) give)) (forP (tgName 3) (bnd (consM (uno lenD (nam 2)) (ret [])) fun ds => opt (rng1D ds)) (seqP (par2 5 6 (consM (bin atD (nam 2) (nam 3)) (consM (bin subD (dt (ret (.int 0))) (dt (bin atD (nam 2) (dt (bin modD (dt (bin addD (nam 3) (dt (ret (.int 1))))) (dt (uno lenD (nam 2)))))))) (ret []))))
    (seqP (setV 4 (ktpM (consM (bin minD (nam 5) (nam 6)) (consM (bin maxD (nam 5) (nam 6)) (ret [])))))
    (putP 1 (bnd (nam 4) give) (bin addD (dt (getOM 1 (bnd (nam 4) give) (ret (.int 0)))) (dt (ret (.int 1)))))))))
    (retP (dcM (ksortM 1) (tgName 4) (bnd (nam 4) give) (getIM 1 (bnd (nam 4) give)) [4]))))
def F_ties_in (en : En) : FS := fun ds ls => endF (p_ties_in en (ini 7 ds) ls)
theorem ok_ties_in (S : SF K mg en) {f : Addr} {fd : FuncData} (F : Fun K "ties_in" "ties_in" s_ties_in f fd) : FnOk P w K mg base (L2.CX P w) 1 f fd ["rings"] (spD K 1 (F_ties_in en)) := by
  have sc := sc_ties_in
  refine fn_ok F sc rfl (fun cdv A outer s H E hr => ?_) (p := p_ties_in en) fun ds ls h => .inr rfl
  exact (us_cons (us_newD 1 sc.nd)
    (us_cons (us_for (passes_of rfl) rfl (ui_seq (u_give (u_nam 0 (pv 0)))) (pg_name (i := 2) sc.nd rfl (by first | exact Or.inl rfl | exact Or.inr rfl)) tg_name (us_one (us_for (passes_of rfl) rfl (ui_range1 S.m_range (ua_cons (u_len S.m_len (u_nam 2 (pv 2))) ua_nil)) (pg_name (i := 3) sc.nd rfl (by first | exact Or.inl rfl | exact Or.inr rfl)) tg_name (us_cons (us_par 5 6 rfl sc.nd (ua_cons (u_at (u_nam 2 (pv 2)) (u_nam 3 (pv 3)) (fun _ _ => rfl)) (ua_cons (u_op op_sub od_sub (u_dt u_int) (u_dt (u_at (u_nam 2 (pv 2)) (u_dt (u_op op_mod od_mod (u_dt (u_op op_addU od_add (u_nam 3 (pv 3)) (u_dt u_int))) (u_dt (u_len S.m_len (u_nam 2 (pv 2)))))) (fun _ _ => rfl)))) ua_nil)))
    (us_cons (us_set 4 sc.nd (u_ktp (ua_cons (u_min S.m_min rfl (u_nam 5 (pv 5)) (u_nam 6 (pv 6))) (ua_cons (u_max S.m_max rfl (u_nam 5 (pv 5)) (u_nam 6 (pv 6))) ua_nil))))
    (us_one (us_put 1 (u1 hr.units) (pv 1) (u_give (u_nam 4 (pv 4))) (u_op op_addU od_add (u_dt (u_getO 1 (u1 hr.units) (pv 1) (u_give (u_nam 4 (pv 4))) u_int ⟨rfl, rfl, rfl, rfl⟩)) (u_dt u_int)))))))))
    (us_one (us_ret (u_dc (own := [("pair", 4)]) rfl (u1 hr.units) sc.nd (ui_sortK 1 S.m_sorted rfl hr.units (pv 1)) (blkOk_by (N := N_ties_in) (sc := defScope s_ties_in) (by decide +kernel)) tg_name (by decide) (fun _ _ _ _ _ => (pg_name (i := 4) sc.nd rfl (by first | exact Or.inl rfl | exact Or.inr rfl))) (fun _ _ _ _ _ => (u_give (u_nam 4 (pv 4)))) (fun _ _ _ _ _ => (u_getI 1 (u1 hr.units) (pv 1) (u_give (u_nam 4 (pv 4))) (fun _ _ => rfl))))))))

/-! ### growth_by -/
abbrev s_growth_by : Stmt := topS 29
abbrev N_growth_by : List Str := ["ties", "move", "found", "pair", "x", "lot", "inside", "y"]
theorem sc_growth_by : FnScope N_growth_by ["ties", "move"] (defScope s_growth_by) := ⟨rfl, rfl, rfl, by decide +kernel, rfl, by decide +kernel, by decide +kernel⟩
def p_growth_by (en : En) : PM :=
    (seqP (lift (bnd (nam 1) give) (asgP (tgTup (tgCons (tgName 4) (tgCons (tgName 5) tgNil)))))
    (seqP (setV 2 (ret (.int 0)))
    (seqP (forP (tgName 3) (keysM (bnd (nam 0) give)) (seqP (setV 6 (ls1 (lcM (itemsM (bnd (nam 3) give)) (tgName 7) (orM (bnd (bin eqD (nam 7) (nam 4)) isB) (bnd (bin inD (nam 7) (nam 5)) isB)) (bnd (nam 7) give) [7])))
    (seqP (augP 2 (fun a b => a + b) (ifM (bnd (bin eqD (dt (uno lenD (nam 6))) (dt (ret (.int 1)))) isB) (bin getF (nam 0) (nam 3)) (ret (.int 0))))
    (augP 2 (fun a b => a - b) (ifM (bnd (bin inD (nam 4) (nam 3)) isB) (bin getF (nam 0) (nam 3)) (ret (.int 0)))))))
    (retP (bnd (nam 2) give)))))
def F_growth_by (en : En) : FS := fun ds ls => endF (p_growth_by en (ini 8 ds) ls)
theorem ok_growth_by (S : SF K mg en) {f : Addr} {fd : FuncData} (F : Fun K "growth_by" "growth_by" s_growth_by f fd) : FnOk P w K mg base (L2.CX P w) 1 f fd ["ties", "move"] (spD K 2 (F_growth_by en)) := by
  have sc := sc_growth_by
  refine fn_ok F sc rfl (fun cdv A outer s H E hr => ?_) (p := p_growth_by en) fun ds ls h => .inr rfl
  exact (us_cons (us_asg (u_give (u_nam 1 (pv 1))) (pg_tup rfl (pgs_cons (pg_name (i := 4) sc.nd rfl (by first | exact Or.inl rfl | exact Or.inr rfl)) (pgs_cons (pg_name (i := 5) sc.nd rfl (by first | exact Or.inl rfl | exact Or.inr rfl)) pgs_nil))) (tgs_len (tgnS (tgnS tgn0)) (tg_cons tg_name (tg_cons tg_name tg_nil))))
    (us_cons (us_set 2 sc.nd u_int)
    (us_cons (us_for (passes_of rfl) rfl (ui_keys (u_give (u_nam 0 (pv 0)))) (pg_name (i := 3) sc.nd rfl (by first | exact Or.inl rfl | exact Or.inr rfl)) tg_name (us_cons (us_setLcV (i := 6) (own := [("y", 7)]) rfl sc.nd (ui_seq (u_give (u_nam 3 (pv 3)))) (blkOk_by (N := N_growth_by) (sc := defScope s_growth_by) (by decide +kernel)) tg_name (by decide) (fun _ _ _ _ _ => (pg_name (i := 7) sc.nd rfl (by first | exact Or.inl rfl | exact Or.inr rfl))) (fun _ _ _ _ _ => (uts_one (PW.pt (ut_or (ut_cmp (op_eqD hr.units) od_eq (u_nam 7 (pv 7)) (u_nam 4 (pv 4)) (nomark _)) (ut_or1 (ut_cmp op_in_seq od_in (u_nam 7 (pv 7)) (u_nam 5 (pv 5)) (by rfl))))))) (fun _ _ _ _ _ => (u_give (u_nam 7 (pv 7)))) rfl)
    (us_cons (us_aug 2 ip_add sc.nd (u_if (ut_cmp (op_eqD hr.units) od_eq (u_dt (u_len S.m_len (u_nam 6 (pv 6)))) (u_dt u_int) (nomark _)) (u_dget (u1 hr.units) (u_nam 0 (pv 0)) (u_nam 3 (pv 3)) (fun _ _ => rfl)) u_int))
    (us_one (us_aug 2 ip_sub sc.nd (u_if (ut_cmp op_in_seq od_in (u_nam 4 (pv 4)) (u_nam 3 (pv 3)) (by rfl)) (u_dget (u1 hr.units) (u_nam 0 (pv 0)) (u_nam 3 (pv 3)) (fun _ _ => rfl)) u_int))))))
    (us_one (us_ret (u_give (u_nam 2 (pv 2))))))))

/-! ### _law_mk_plain -/
abbrev s_law_mk_plain : Stmt := topS 39
abbrev N_law_mk_plain : List Str := ["_law_letters", "_law_found", "_law_letter"]
theorem sc_law_mk_plain : FnScope N_law_mk_plain ["_law_letters"] (defScope s_law_mk_plain) := ⟨rfl, rfl, rfl, by decide +kernel, rfl, by decide +kernel, by decide +kernel⟩
def p_law_mk_plain (en : En) : PM :=
    (seqP (setN 1 (lstM (ret [])))
    (seqP (forP (tgName 2) (itemsM (bnd (nam 0) give)) (ifP (andM (bnd (bin neD (nam 1) (dt (ls1 (lstM (ret []))))) isB) (bnd (bin eqD (dt (bin atD (nam 1) (dt (uno negD (dt (ret (.int 1))))))) (dt (bin subD (dt (ret (.int 0))) (nam 2)))) isB)) (drop (meth0M 1 popD)) (drop (methM 1 appD (bnd (nam 2) give)))))
    (retP (uno tupleD (nam 1)))))
def F_law_mk_plain (en : En) : FS := fun ds ls => endF (p_law_mk_plain en (ini 3 ds) ls)
theorem ok_law_mk_plain (S : SF K mg en) {f : Addr} {fd : FuncData} (F : Fun K "_law_mk_plain" "_law_mk_plain" s_law_mk_plain f fd) : FnOk P w K mg base (L2.CX P w) 1 f fd ["_law_letters"] (spD K 1 (F_law_mk_plain en)) := by
  have sc := sc_law_mk_plain
  refine fn_ok F sc rfl (fun cdv A outer s H E hr => ?_) (p := p_law_mk_plain en) fun ds ls h => .inr rfl
  exact (us_cons (us_setN 1 sc.nd (u_lst ua_nil))
    (us_cons (us_for (passes_of rfl) rfl (ui_seq (u_give (u_nam 0 (pv 0)))) (pg_name (i := 2) sc.nd rfl (by first | exact Or.inl rfl | exact Or.inr rfl)) tg_name (us_one (us_if (PW.pt (ut_and (ut_cmp (op_neD hr.units) od_ne (u_nam 1 (pv 1)) (u_dt (u_ls (u_lst ua_nil))) (nomark _)) (ut_and1 (ut_cmp (op_eqD hr.units) od_eq (u_dt (u_at (u_nam 1 (pv 1)) (u_dt (u_neg (u_dt u_int))) (fun _ _ => rfl))) (u_dt (u_op op_sub od_sub (u_dt u_int) (u_nam 2 (pv 2)))) (nomark _))))) (us_one (us_expr (u_pop 1 (pv 1)))) (us_one (us_expr (u_append 1 (pv 1) (u_give (u_nam 2 (pv 2)))))))))
    (us_one (us_ret (u_tuple S.m_tuple (u_nam 1 (pv 1)))))))

/-! ### _law_mk_undone -/
abbrev s_law_mk_undone : Stmt := topS 40
abbrev N_law_mk_undone : List Str := ["_law_row", "_law_letter"]
theorem sc_law_mk_undone : FnScope N_law_mk_undone ["_law_row"] (defScope s_law_mk_undone) := ⟨rfl, rfl, rfl, by decide +kernel, rfl, by decide +kernel, by decide +kernel⟩
def p_law_mk_undone (en : En) : PM :=
    (retP (uno tupleD (dt (ls1 (lcM (itemsM (uno revD (nam 0))) (tgName 1) (ret true) (bin subD (dt (ret (.int 0))) (nam 1)) [1])))))
def F_law_mk_undone (en : En) : FS := fun ds ls => endF (p_law_mk_undone en (ini 2 ds) ls)
theorem ok_law_mk_undone (S : SF K mg en) {f : Addr} {fd : FuncData} (F : Fun K "_law_mk_undone" "_law_mk_undone" s_law_mk_undone f fd) : FnOk P w K mg base (L2.CX P w) 1 f fd ["_law_row"] (spD K 1 (F_law_mk_undone en)) := by
  have sc := sc_law_mk_undone
  refine fn_ok F sc rfl (fun cdv A outer s H E hr => ?_) (p := p_law_mk_undone en) fun ds ls h => .inr rfl
  exact (us_one (us_ret (u_tuple S.m_tuple (u_dt (u_ls (u_lc (own := [("_law_letter", 1)]) rfl sc.nd (ui_seq (u_rev (u_nam 0 (pv 0)))) (blkOk_by (N := N_law_mk_undone) (sc := defScope s_law_mk_undone) (by decide +kernel)) tg_name (by decide) (fun _ _ _ _ _ => (pg_name (i := 1) sc.nd rfl (by first | exact Or.inl rfl | exact Or.inr rfl))) (fun _ _ _ _ _ => uts_nil) (fun _ _ _ _ _ => (u_op op_sub od_sub (u_dt u_int) (u_nam 1 (pv 1))))))))))

/-! ### _law_mk_letters -/
abbrev s_law_mk_letters : Stmt := topS 41
abbrev N_law_mk_letters : List Str := ["_law_deeds", "_law_deed"]
theorem sc_law_mk_letters : FnScope N_law_mk_letters ["_law_deeds"] (defScope s_law_mk_letters) := ⟨rfl, rfl, rfl, by decide +kernel, rfl, by decide +kernel, by decide +kernel⟩
def p_law_mk_letters (en : En) : PM :=
    (retP (bin addD (dt (ls1 (bin lr2D (dt (ret (.int 1))) (dt (bin addD (nam 0) (dt (ret (.int 1)))))))) (dt (ls1 (lcM (bnd (consM (ret (.int 1)) (consM (bin addD (nam 0) (dt (ret (.int 1)))) (ret []))) fun ds => opt (rng2D ds)) (tgName 1) (ret true) (bin subD (dt (ret (.int 0))) (nam 1)) [1])))))
def F_law_mk_letters (en : En) : FS := fun ds ls => endF (p_law_mk_letters en (ini 2 ds) ls)
theorem ok_law_mk_letters (S : SF K mg en) {f : Addr} {fd : FuncData} (F : Fun K "_law_mk_letters" "_law_mk_letters" s_law_mk_letters f fd) : FnOk P w K mg base (L2.CX P w) 1 f fd ["_law_deeds"] (spD K 1 (F_law_mk_letters en)) := by
  have sc := sc_law_mk_letters
  refine fn_ok F sc rfl (fun cdv A outer s H E hr => ?_) (p := p_law_mk_letters en) fun ds ls h => .inr rfl
  exact (us_one (us_ret (u_op op_addU od_add (u_dt (u_ls (u_listRange2 rfl S.m_list S.m_range (u_dt u_int) (u_dt (u_op op_addU od_add (u_nam 0 (pv 0)) (u_dt u_int)))))) (u_dt (u_ls (u_lc (own := [("_law_deed", 1)]) rfl sc.nd (ui_range2 S.m_range (ua_cons u_int (ua_cons (u_op op_addU od_add (u_nam 0 (pv 0)) (u_dt u_int)) ua_nil))) (blkOk_by (N := N_law_mk_letters) (sc := defScope s_law_mk_letters) (by decide +kernel)) tg_name (by decide) (fun _ _ _ _ _ => (pg_name (i := 1) sc.nd rfl (by first | exact Or.inl rfl | exact Or.inr rfl))) (fun _ _ _ _ _ => uts_nil) (fun _ _ _ _ _ => (u_op op_sub od_sub (u_dt u_int) (u_nam 1 (pv 1))))))))))

/-! ### _law_sh_lots -/
abbrev s_law_sh_lots : Stmt := topS 49
abbrev N_law_sh_lots : List Str := ["_law_letters", "_law_found", "_law_letter", "_law_lot"]
theorem sc_law_sh_lots : FnScope N_law_sh_lots ["_law_letters"] (defScope s_law_sh_lots) := ⟨rfl, rfl, rfl, by decide +kernel, rfl, by decide +kernel, by decide +kernel⟩
def p_law_sh_lots (en : En) : PM :=
    (seqP (setV 1 (ls1 (lstM (consM (tupM (ret [])) (ret [])))))
    (seqP (forP (tgName 2) (itemsM (bnd (nam 0) give)) (setV 1 (bin addD (nam 1) (dt (ls1 (lcM (itemsM (bnd (nam 1) give)) (tgName 3) (ret true) (bin addD (nam 3) (dt (tupM (consM (bnd (nam 2) give) (ret []))))) [3]))))))
    (retP (ls1 (uno sortedRD (dt (ls1 (lcM (itemsM (bnd (nam 1) give)) (tgName 3) (bnd (bin neD (nam 3) (dt (tupM (ret [])))) isB) (uno tupleD (dt (ls1 (uno sortedD (nam 3))))) [3]))))))))
def F_law_sh_lots (en : En) : FS := fun ds ls => endF (p_law_sh_lots en (ini 4 ds) ls)
theorem ok_law_sh_lots (S : SF K mg en) {f : Addr} {fd : FuncData} (F : Fun K "_law_sh_lots" "_law_sh_lots" s_law_sh_lots f fd) : FnOk P w K mg base (L2.CX P w) 1 f fd ["_law_letters"] (spD K 1 (F_law_sh_lots en)) := by
  have sc := sc_law_sh_lots
  refine fn_ok F sc rfl (fun cdv A outer s H E hr => ?_) (p := p_law_sh_lots en) fun ds ls h => .inr rfl
  exact (us_cons (us_set 1 sc.nd (u_ls (u_lst (ua_cons (u_tup ua_nil) ua_nil))))
    (us_cons (us_for (passes_of rfl) rfl (ui_seq (u_give (u_nam 0 (pv 0)))) (pg_name (i := 2) sc.nd rfl (by first | exact Or.inl rfl | exact Or.inr rfl)) tg_name (us_one (us_set 1 sc.nd (u_op op_addU od_add (u_nam 1 (pv 1)) (u_dt (u_ls (u_lc (own := [("_law_lot", 3)]) rfl sc.nd (ui_seq (u_give (u_nam 1 (pv 1)))) (blkOk_by (N := N_law_sh_lots) (sc := defScope s_law_sh_lots) (by decide +kernel)) tg_name (by decide) (fun _ _ _ _ _ => (pg_name (i := 3) sc.nd rfl (by first | exact Or.inl rfl | exact Or.inr rfl))) (fun _ _ _ _ _ => uts_nil) (fun _ _ _ _ _ => (u_op op_addU od_add (u_nam 3 (pv 3)) (u_dt (u_tup (ua_cons (u_give (u_nam 2 (pv 2))) ua_nil))))))))))))
    (us_one (us_ret (u_ls (u_sortedR S.m_sorted hr.units rfl (u_dt (u_ls (u_lc (own := [("_law_lot", 3)]) rfl sc.nd (ui_seq (u_give (u_nam 1 (pv 1)))) (blkOk_by (N := N_law_sh_lots) (sc := defScope s_law_sh_lots) (by decide +kernel)) tg_name (by decide) (fun _ _ _ _ _ => (pg_name (i := 3) sc.nd rfl (by first | exact Or.inl rfl | exact Or.inr rfl))) (fun _ _ _ _ _ => (uts_one (ut_cmp (op_neD hr.units) od_ne (u_nam 3 (pv 3)) (u_dt (u_tup ua_nil)) (nomark _)))) (fun _ _ _ _ _ => (u_tuple S.m_tuple (u_dt (u_ls (u_sorted S.m_sorted (u_nam 3 (pv 3))))))))))))))))

/-! ### _law_sh_images -/
abbrev s_law_sh_images : Stmt := topS 51
abbrev N_law_sh_images : List Str := ["_law_deeds", "_law_move_here", "_law_found", "_law_deed", "_law_letter", "_law_lot", "_law_image"]
theorem sc_law_sh_images : FnScope N_law_sh_images ["_law_deeds", "_law_move_here"] (defScope s_law_sh_images) := ⟨rfl, rfl, rfl, by decide +kernel, rfl, by decide +kernel, by decide +kernel⟩
def p_law_sh_images (en : En) : PM :=
    (seqP (lift (bnd (nam 1) give) (asgP (tgTup (tgCons (tgName 4) (tgCons (tgName 5) tgNil)))))
    (seqP (setN 2 (lstM (ret [])))
    (seqP (forP (tgName 3) (bnd (consM (ret (.int 1)) (consM (bin addD (nam 0) (dt (ret (.int 1)))) (ret []))) fun ds => opt (rng2D ds)) (seqP (setV 6 (bin addD (dt (tupM (consM (bnd (nam 3) give) (ret [])))) (dt (ifM (bnd (bin inD (nam 3) (nam 5)) isB) (tupM (consM (bnd (nam 4) give) (ret []))) (tupM (ret []))))))
    (drop (methM 2 appD (bin addD (dt (ifM (bnd (bin inD (dt (bin subD (dt (ret (.int 0))) (nam 3))) (nam 5)) isB) (tupM (consM (bin subD (dt (ret (.int 0))) (nam 4)) (ret []))) (tupM (ret [])))) (nam 6))))))
    (retP (bnd (nam 2) give)))))
def F_law_sh_images (en : En) : FS := fun ds ls => endF (p_law_sh_images en (ini 7 ds) ls)
theorem ok_law_sh_images (S : SF K mg en) {f : Addr} {fd : FuncData} (F : Fun K "_law_sh_images" "_law_sh_images" s_law_sh_images f fd) : FnOk P w K mg base (L2.CX P w) 1 f fd ["_law_deeds", "_law_move_here"] (spD K 2 (F_law_sh_images en)) := by
  have sc := sc_law_sh_images
  refine fn_ok F sc rfl (fun cdv A outer s H E hr => ?_) (p := p_law_sh_images en) fun ds ls h => .inr rfl
  exact (us_cons (us_asg (u_give (u_nam 1 (pv 1))) (pg_tup rfl (pgs_cons (pg_name (i := 4) sc.nd rfl (by first | exact Or.inl rfl | exact Or.inr rfl)) (pgs_cons (pg_name (i := 5) sc.nd rfl (by first | exact Or.inl rfl | exact Or.inr rfl)) pgs_nil))) (tgs_len (tgnS (tgnS tgn0)) (tg_cons tg_name (tg_cons tg_name tg_nil))))
    (us_cons (us_setN 2 sc.nd (u_lst ua_nil))
    (us_cons (us_for (passes_of rfl) rfl (ui_range2 S.m_range (ua_cons u_int (ua_cons (u_op op_addU od_add (u_nam 0 (pv 0)) (u_dt u_int)) ua_nil))) (pg_name (i := 3) sc.nd rfl (by first | exact Or.inl rfl | exact Or.inr rfl)) tg_name (us_cons (us_set 6 sc.nd (u_op op_addU od_add (u_dt (u_tup (ua_cons (u_give (u_nam 3 (pv 3))) ua_nil))) (u_dt (u_if (ut_cmp op_in_seq od_in (u_nam 3 (pv 3)) (u_nam 5 (pv 5)) (by rfl)) (u_tup (ua_cons (u_give (u_nam 4 (pv 4))) ua_nil)) (u_tup ua_nil)))))
    (us_one (us_expr (u_append 2 (pv 2) (u_op op_addU od_add (u_dt (u_if (ut_cmp op_in_seq od_in (u_dt (u_op op_sub od_sub (u_dt u_int) (u_nam 3 (pv 3)))) (u_nam 5 (pv 5)) (by rfl)) (u_tup (ua_cons (u_op op_sub od_sub (u_dt u_int) (u_nam 4 (pv 4))) ua_nil)) (u_tup ua_nil))) (u_nam 6 (pv 6))))))))
    (us_one (us_ret (u_give (u_nam 2 (pv 2))))))))

/-! ### _law_told_ahead -/
abbrev s_law_told_ahead : Stmt := topS 58
abbrev N_law_told_ahead : List Str := ["_law_told", "_law_many", "_law_letter", "_law_lot", "_law_found", "_law_one", "_law_other", "_law_ends"]
theorem sc_law_told_ahead : FnScope N_law_told_ahead ["_law_told", "_law_many", "_law_letter", "_law_lot"] (defScope s_law_told_ahead) := ⟨rfl, rfl, rfl, by decide +kernel, rfl, by decide +kernel, by decide +kernel⟩
def p_law_told_ahead (en : En) : PM :=
    (seqP (setV 4 (bnd (nam 1) give))
    (seqP (forP (tgTup (tgCons (tgName 5) (tgCons (tgName 6) tgNil))) (keysM (bnd (nam 0) give)) (seqP (setV 7 (bin addD (dt (ifM (orM (bnd (bin eqD (nam 5) (nam 2)) isB) (bnd (bin inD (nam 5) (nam 3)) isB)) (ret (.int 1)) (ret (.int 0)))) (dt (ifM (orM (bnd (bin eqD (nam 6) (nam 2)) isB) (bnd (bin inD (nam 6) (nam 3)) isB)) (ret (.int 1)) (ret (.int 0))))))
    (setV 4 (bin subD (dt (bin addD (nam 4) (dt (ifM (bnd (bin eqD (nam 7) (dt (ret (.int 1)))) isB) (bin getF (nam 0) (dt (ktpM (consM (bnd (nam 5) give) (consM (bnd (nam 6) give) (ret [])))))) (ret (.int 0)))))) (dt (ifM (bnd (bin inD (nam 2) (dt (tupM (consM (bnd (nam 5) give) (consM (bnd (nam 6) give) (ret [])))))) isB) (bin getF (nam 0) (dt (ktpM (consM (bnd (nam 5) give) (consM (bnd (nam 6) give) (ret [])))))) (ret (.int 0))))))))
    (retP (bnd (nam 4) give))))
def F_law_told_ahead (en : En) : FS := fun ds ls => endF (p_law_told_ahead en (ini 8 ds) ls)
theorem ok_law_told_ahead (S : SF K mg en) {f : Addr} {fd : FuncData} (F : Fun K "_law_told_ahead" "_law_told_ahead" s_law_told_ahead f fd) : FnOk P w K mg base (L2.CX P w) 1 f fd ["_law_told", "_law_many", "_law_letter", "_law_lot"] (spD K 4 (F_law_told_ahead en)) := by
  have sc := sc_law_told_ahead
  refine fn_ok F sc rfl (fun cdv A outer s H E hr => ?_) (p := p_law_told_ahead en) fun ds ls h => .inr rfl
  exact (us_cons (us_set 4 sc.nd (u_give (u_nam 1 (pv 1))))
    (us_cons (us_for (passes_of rfl) rfl (ui_keys (u_give (u_nam 0 (pv 0)))) (pg_tup rfl (pgs_cons (pg_name (i := 5) sc.nd rfl (by first | exact Or.inl rfl | exact Or.inr rfl)) (pgs_cons (pg_name (i := 6) sc.nd rfl (by first | exact Or.inl rfl | exact Or.inr rfl)) pgs_nil))) (tgs_len (tgnS (tgnS tgn0)) (tg_cons tg_name (tg_cons tg_name tg_nil))) (us_cons (us_set 7 sc.nd (u_op op_addU od_add (u_dt (u_if (PW.pt (ut_or (ut_cmp (op_eqD hr.units) od_eq (u_nam 5 (pv 5)) (u_nam 2 (pv 2)) (nomark _)) (ut_or1 (ut_cmp op_in_seq od_in (u_nam 5 (pv 5)) (u_nam 3 (pv 3)) (by rfl))))) u_int u_int)) (u_dt (u_if (PW.pt (ut_or (ut_cmp (op_eqD hr.units) od_eq (u_nam 6 (pv 6)) (u_nam 2 (pv 2)) (nomark _)) (ut_or1 (ut_cmp op_in_seq od_in (u_nam 6 (pv 6)) (u_nam 3 (pv 3)) (by rfl))))) u_int u_int))))
    (us_one (us_set 4 sc.nd (u_op op_sub od_sub (u_dt (u_op op_addU od_add (u_nam 4 (pv 4)) (u_dt (u_if (ut_cmp (op_eqD hr.units) od_eq (u_nam 7 (pv 7)) (u_dt u_int) (nomark _)) (u_dget (u1 hr.units) (u_nam 0 (pv 0)) (u_dt (u_ktp (ua_cons (u_give (u_nam 5 (pv 5))) (ua_cons (u_give (u_nam 6 (pv 6))) ua_nil)))) (fun _ _ => rfl)) u_int)))) (u_dt (u_if (ut_cmp op_in_seq od_in (u_nam 2 (pv 2)) (u_dt (u_tup (ua_cons (u_give (u_nam 5 (pv 5))) (ua_cons (u_give (u_nam 6 (pv 6))) ua_nil)))) (by rfl)) (u_dget (u1 hr.units) (u_nam 0 (pv 0)) (u_dt (u_ktp (ua_cons (u_give (u_nam 5 (pv 5))) (ua_cons (u_give (u_nam 6 (pv 6))) ua_nil)))) (fun _ _ => rfl)) u_int)))))))
    (us_one (us_ret (u_give (u_nam 4 (pv 4)))))))

/-! ### is_between -/
abbrev s_is_between : Stmt := topS 7
abbrev N_is_between : List Str := ["value", "low", "high"]
theorem sc_is_between : FnScope N_is_between ["value", "low", "high"] (defScope s_is_between) := ⟨rfl, rfl, rfl, by decide +kernel, rfl, by decide +kernel, by decide +kernel⟩
def p_is_between (en : En) : PM :=
    (retP (andV (callM 1 (F_is_whole en) (consM (bnd (nam 0) give) (ret []))) (chainM leD leD (nam 1) (nam 0) (nam 2))))
def F_is_between (en : En) : FS := fun ds ls => endF (p_is_between en (ini 3 ds) ls)
theorem ok_is_between (S : SF K mg en) {f : Addr} {fd : FuncData} (F : Fun K "is_between" "is_between" s_is_between f fd) (G_is_whole : Has P w K mg base "is_whole" ["value"] 1 1 (F_is_whole en)) : FnOk P w K mg base (L2.CX P w) 2 f fd ["value", "low", "high"] (spD K 3 (F_is_between en)) := by
  have sc := sc_is_between
  refine fn_ok F sc rfl (fun cdv A outer s H E hr => ?_) (p := p_is_between en) fun ds ls h => .inr rfl
  exact (us_one (us_ret (u_and (u_callH G_is_whole hr (takes_of rfl rfl rfl rfl) (ua_cons (u_give (u_nam 0 (pv 0))) ua_nil)) (u_one (u_chain op_le op_le od_le od_le (u_nam 1 (pv 1)) (u_nam 0 (pv 0)) (u_nam 2 (pv 2)))))))

/-! ### is_letter_in -/
abbrev s_is_letter_in : Stmt := topS 18
abbrev N_is_letter_in : List Str := ["deeds", "value"]
theorem sc_is_letter_in : FnScope N_is_letter_in ["deeds", "value"] (defScope s_is_letter_in) := ⟨rfl, rfl, rfl, by decide +kernel, rfl, by decide +kernel, by decide +kernel⟩
def p_is_letter_in (en : En) : PM :=
    (retP (andV (callM 1 (F_is_whole en) (consM (bnd (nam 1) give) (ret []))) (andV (bin neD (nam 1) (dt (ret (.int 0)))) (chainM leD leD (dt (bin subD (dt (ret (.int 0))) (nam 0))) (nam 1) (nam 0)))))
def F_is_letter_in (en : En) : FS := fun ds ls => endF (p_is_letter_in en (ini 2 ds) ls)
theorem ok_is_letter_in (S : SF K mg en) {f : Addr} {fd : FuncData} (F : Fun K "is_letter_in" "is_letter_in" s_is_letter_in f fd) (G_is_whole : Has P w K mg base "is_whole" ["value"] 1 1 (F_is_whole en)) : FnOk P w K mg base (L2.CX P w) 2 f fd ["deeds", "value"] (spD K 2 (F_is_letter_in en)) := by
  have sc := sc_is_letter_in
  refine fn_ok F sc rfl (fun cdv A outer s H E hr => ?_) (p := p_is_letter_in en) fun ds ls h => .inr rfl
  exact (us_one (us_ret (u_and (u_callH G_is_whole hr (takes_of rfl rfl rfl rfl) (ua_cons (u_give (u_nam 1 (pv 1))) ua_nil)) (u_and (u_cmp (op_neD hr.units) od_ne (u_nam 1 (pv 1)) (u_dt u_int) (nomark _)) (u_one (u_chain op_le op_le od_le od_le (u_dt (u_op op_sub od_sub (u_dt u_int) (u_nam 0 (pv 0)))) (u_nam 1 (pv 1)) (u_nam 0 (pv 0))))))))

/-! ### middle_of -/
abbrev s_middle_of : Stmt := topS 24
abbrev N_middle_of : List Str := ["row", "cut"]
theorem sc_middle_of : FnScope N_middle_of ["row"] (defScope s_middle_of) := ⟨rfl, rfl, rfl, by decide +kernel, rfl, by decide +kernel, by decide +kernel⟩
def p_middle_of (en : En) : PM :=
    (seqP (setV 1 (callM 1 (F_tail_of en) (consM (bnd (nam 0) give) (ret []))))
    (retP (cutM cutD (nam 0) (partM (bnd (nam 1) give)) (partM (bin subD (dt (uno lenD (nam 0))) (nam 1))))))
def F_middle_of (en : En) : FS := fun ds ls => endF (p_middle_of en (ini 2 ds) ls)
theorem ok_middle_of (S : SF K mg en) {f : Addr} {fd : FuncData} (F : Fun K "middle_of" "middle_of" s_middle_of f fd) (G_tail_of : Has P w K mg base "tail_of" ["row"] 1 1 (F_tail_of en)) : FnOk P w K mg base (L2.CX P w) 2 f fd ["row"] (spD K 1 (F_middle_of en)) := by
  have sc := sc_middle_of
  refine fn_ok F sc rfl (fun cdv A outer s H E hr => ?_) (p := p_middle_of en) fun ds ls h => .inr rfl
  exact (us_cons (us_set 1 sc.nd (u_callH G_tail_of hr (takes_of rfl rfl rfl rfl) (ua_cons (u_give (u_nam 0 (pv 0))) ua_nil)))
    (us_one (us_ret (u_cut (u_nam 0 (pv 0)) (uo_some (u_give (u_nam 1 (pv 1)))) (uo_some (u_op op_sub od_sub (u_dt (u_len S.m_len (u_nam 0 (pv 0)))) (u_nam 1 (pv 1))))))))

/-! ### _law_mk_ring -/
abbrev s_law_mk_ring : Stmt := topS 44
abbrev N_law_mk_ring : List Str := ["_law_row", "_law_found", "_law_turns", "_law_at"]
theorem sc_law_mk_ring : FnScope N_law_mk_ring ["_law_row"] (defScope s_law_mk_ring) := ⟨rfl, rfl, rfl, by decide +kernel, rfl, by decide +kernel, by decide +kernel⟩
def p_law_mk_ring (en : En) : PM :=
    (seqP (setV 1 (ls1 (uno listD (dt (callM 1 (F_law_mk_plain en) (consM (bnd (nam 0) give) (ret [])))))))
    (seqP (whileP (andM (bnd (bin gtD (dt (uno lenD (nam 1))) (dt (ret (.int 1)))) isB) (bnd (bin eqD (dt (bin atD (nam 1) (dt (ret (.int 0))))) (dt (bin subD (dt (ret (.int 0))) (dt (bin atD (nam 1) (dt (uno negD (dt (ret (.int 1)))))))))) isB)) (setV 1 (cutM cutD (nam 1) (partM (ret (.int 1))) (partM (uno negD (dt (ret (.int 1))))))) 1000)
    (seqP (setV 2 (ls1 (lcM (bnd (consM (uno lenD (nam 1)) (ret [])) fun ds => opt (rng1D ds)) (tgName 3) (ret true) (uno tupleD (dt (bin addD (dt (cutM cutD (nam 1) (partM (bnd (nam 3) give)) (ret none))) (dt (cutM cutD (nam 1) (ret none) (partM (bnd (nam 3) give))))))) [3])))
    (retP (ifM (bnd (bin neD (nam 2) (dt (ls1 (lstM (ret []))))) isB) (uno minLD (nam 2)) (tupM (ret [])))))))
def F_law_mk_ring (en : En) : FS := fun ds ls => endF (p_law_mk_ring en (ini 4 ds) ls)
theorem ok_law_mk_ring (S : SF K mg en) {f : Addr} {fd : FuncData} (F : Fun K "_law_mk_ring" "_law_mk_ring" s_law_mk_ring f fd) (G_law_mk_plain : Has P w K mg base "_law_mk_plain" ["_law_letters"] 1 1 (F_law_mk_plain en)) : FnOk P w K mg base (L2.CX P w) 2 f fd ["_law_row"] (spD K 1 (F_law_mk_ring en)) := by
  have sc := sc_law_mk_ring
  refine fn_ok F sc rfl (fun cdv A outer s H E hr => ?_) (p := p_law_mk_ring en) fun ds ls h => .inr rfl
  exact (us_cons (us_set 1 sc.nd (u_ls (u_list S.m_list (u_dt (u_callH G_law_mk_plain hr (takes_of rfl rfl rfl rfl) (ua_cons (u_give (u_nam 0 (pv 0))) ua_nil))))))
    (us_cons (us_while 1000 (passes_of rfl) (PW.pt (ut_and (ut_cmp op_gt od_gt (u_dt (u_len S.m_len (u_nam 1 (pv 1)))) (u_dt u_int) (nomark _)) (ut_and1 (ut_cmp (op_eqD hr.units) od_eq (u_dt (u_at (u_nam 1 (pv 1)) (u_dt u_int) (fun _ _ => rfl))) (u_dt (u_op op_sub od_sub (u_dt u_int) (u_dt (u_at (u_nam 1 (pv 1)) (u_dt (u_neg (u_dt u_int))) (fun _ _ => rfl))))) (nomark _))))) (us_one (us_set 1 sc.nd (u_cut (u_nam 1 (pv 1)) (uo_some u_int) (uo_some (u_neg (u_dt u_int)))))))
    (us_cons (us_setLcV (i := 2) (own := [("_law_at", 3)]) rfl sc.nd (ui_range1 S.m_range (ua_cons (u_len S.m_len (u_nam 1 (pv 1))) ua_nil)) (blkOk_by (N := N_law_mk_ring) (sc := defScope s_law_mk_ring) (by decide +kernel)) tg_name (by decide) (fun _ _ _ _ _ => (pg_name (i := 3) sc.nd rfl (by first | exact Or.inl rfl | exact Or.inr rfl))) (fun _ _ _ _ _ => uts_nil) (fun _ _ _ _ _ => (u_tuple S.m_tuple (u_dt (u_op op_addU od_add (u_dt (u_cut (u_nam 1 (pv 1)) (uo_some (u_give (u_nam 3 (pv 3)))) uo_none)) (u_dt (u_cut (u_nam 1 (pv 1)) uo_none (uo_some (u_give (u_nam 3 (pv 3)))))))))) rfl)
    (us_one (us_ret (u_if (ut_cmp (op_neD hr.units) od_ne (u_nam 2 (pv 2)) (u_dt (u_ls (u_lst ua_nil))) (nomark _)) (u_minL S.m_min hr.units rfl (u_nam 2 (pv 2))) (u_tup ua_nil)))))))

/-! ### _law_mk_renamed -/
abbrev s_law_mk_renamed : Stmt := topS 45
abbrev N_law_mk_renamed : List Str := ["_law_images", "_law_row", "_law_found", "_law_letter"]
theorem sc_law_mk_renamed : FnScope N_law_mk_renamed ["_law_images", "_law_row"] (defScope s_law_mk_renamed) := ⟨rfl, rfl, rfl, by decide +kernel, rfl, by decide +kernel, by decide +kernel⟩
def p_law_mk_renamed (en : En) : PM :=
    (seqP (setV 2 (ls1 (lstM (ret []))))
    (seqP (forP (tgName 3) (itemsM (bnd (nam 1) give)) (setV 2 (bin addD (nam 2) (dt (ls1 (uno listD (dt (ifM (bnd (bin gtD (nam 3) (dt (ret (.int 0)))) isB) (bin atD (nam 0) (dt (bin subD (nam 3) (dt (ret (.int 1)))))) (callM 1 (F_law_mk_undone en) (consM (bin atD (nam 0) (dt (bin subD (dt (bin subD (dt (ret (.int 0))) (nam 3))) (dt (ret (.int 1)))))) (ret [])))))))))))
    (retP (callM 1 (F_law_mk_plain en) (consM (bnd (nam 2) give) (ret []))))))
def F_law_mk_renamed (en : En) : FS := fun ds ls => endF (p_law_mk_renamed en (ini 4 ds) ls)
theorem ok_law_mk_renamed (S : SF K mg en) {f : Addr} {fd : FuncData} (F : Fun K "_law_mk_renamed" "_law_mk_renamed" s_law_mk_renamed f fd) (G_law_mk_plain : Has P w K mg base "_law_mk_plain" ["_law_letters"] 1 1 (F_law_mk_plain en)) (G_law_mk_undone : Has P w K mg base "_law_mk_undone" ["_law_row"] 1 1 (F_law_mk_undone en)) : FnOk P w K mg base (L2.CX P w) 2 f fd ["_law_images", "_law_row"] (spD K 2 (F_law_mk_renamed en)) := by
  have sc := sc_law_mk_renamed
  refine fn_ok F sc rfl (fun cdv A outer s H E hr => ?_) (p := p_law_mk_renamed en) fun ds ls h => .inr rfl
  exact (us_cons (us_set 2 sc.nd (u_ls (u_lst ua_nil)))
    (us_cons (us_for (passes_of rfl) rfl (ui_seq (u_give (u_nam 1 (pv 1)))) (pg_name (i := 3) sc.nd rfl (by first | exact Or.inl rfl | exact Or.inr rfl)) tg_name (us_one (us_set 2 sc.nd (u_op op_addU od_add (u_nam 2 (pv 2)) (u_dt (u_ls (u_list S.m_list (u_dt (u_if (ut_cmp op_gt od_gt (u_nam 3 (pv 3)) (u_dt u_int) (nomark _)) (u_at (u_nam 0 (pv 0)) (u_dt (u_op op_sub od_sub (u_nam 3 (pv 3)) (u_dt u_int))) (fun _ _ => rfl)) (u_callH G_law_mk_undone hr (takes_of rfl rfl rfl rfl) (ua_cons (u_at (u_nam 0 (pv 0)) (u_dt (u_op op_sub od_sub (u_dt (u_op op_sub od_sub (u_dt u_int) (u_nam 3 (pv 3)))) (u_dt u_int))) (fun _ _ => rfl)) ua_nil)))))))))))
    (us_one (us_ret (u_callH G_law_mk_plain hr (takes_of rfl rfl rfl rfl) (ua_cons (u_give (u_nam 2 (pv 2))) ua_nil))))))

/-! ### _law_sh_moves -/
abbrev s_law_sh_moves : Stmt := topS 50
abbrev N_law_sh_moves : List Str := ["_law_deeds", "_law_found", "_law_letter", "_law_others", "_law_item", "_law_lot"]
theorem sc_law_sh_moves : FnScope N_law_sh_moves ["_law_deeds"] (defScope s_law_sh_moves) := ⟨rfl, rfl, rfl, by decide +kernel, rfl, by decide +kernel, by decide +kernel⟩
def p_law_sh_moves (en : En) : PM :=
    (seqP (setV 1 (ls1 (lstM (ret []))))
    (seqP (forP (tgName 2) (itemsM (ls1 (uno sortedD (dt (callM 1 (F_law_mk_letters en) (consM (bnd (nam 0) give) (ret []))))))) (seqP (setV 3 (ls1 (lcM (itemsM (callM 1 (F_law_mk_letters en) (consM (bnd (nam 0) give) (ret [])))) (tgName 4) (bnd (bin ninD (nam 4) (dt (tupM (consM (bnd (nam 2) give) (consM (bin subD (dt (ret (.int 0))) (nam 2)) (ret [])))))) isB) (bnd (nam 4) give) [4])))
    (setV 1 (bin addD (nam 1) (dt (ls1 (lcM (itemsM (callM 1 (F_law_sh_lots en) (consM (ls1 (uno sortedD (nam 3))) (ret [])))) (tgName 5) (ret true) (tupM (consM (bnd (nam 2) give) (consM (bnd (nam 5) give) (ret [])))) [5])))))))
    (retP (bnd (nam 1) give))))
def F_law_sh_moves (en : En) : FS := fun ds ls => endF (p_law_sh_moves en (ini 6 ds) ls)
theorem ok_law_sh_moves (S : SF K mg en) {f : Addr} {fd : FuncData} (F : Fun K "_law_sh_moves" "_law_sh_moves" s_law_sh_moves f fd) (G_law_mk_letters : Has P w K mg base "_law_mk_letters" ["_law_deeds"] 1 1 (F_law_mk_letters en)) (G_law_sh_lots : Has P w K mg base "_law_sh_lots" ["_law_letters"] 1 1 (F_law_sh_lots en)) : FnOk P w K mg base (L2.CX P w) 2 f fd ["_law_deeds"] (spD K 1 (F_law_sh_moves en)) := by
  have sc := sc_law_sh_moves
  refine fn_ok F sc rfl (fun cdv A outer s H E hr => ?_) (p := p_law_sh_moves en) fun ds ls h => .inr rfl
  exact (us_cons (us_set 1 sc.nd (u_ls (u_lst ua_nil)))
    (us_cons (us_for (passes_of rfl) rfl (ui_seq (u_ls (u_sorted S.m_sorted (u_dt (u_callH G_law_mk_letters hr (takes_of rfl rfl rfl rfl) (ua_cons (u_give (u_nam 0 (pv 0))) ua_nil)))))) (pg_name (i := 2) sc.nd rfl (by first | exact Or.inl rfl | exact Or.inr rfl)) tg_name (us_cons (us_setLcV (i := 3) (own := [("_law_item", 4)]) rfl sc.nd (ui_seq (u_callH G_law_mk_letters hr (takes_of rfl rfl rfl rfl) (ua_cons (u_give (u_nam 0 (pv 0))) ua_nil))) (blkOk_by (N := N_law_sh_moves) (sc := defScope s_law_sh_moves) (by decide +kernel)) tg_name (by decide) (fun _ _ _ _ _ => (pg_name (i := 4) sc.nd rfl (by first | exact Or.inl rfl | exact Or.inr rfl))) (fun _ _ _ _ _ => (uts_one (ut_cmp op_notIn_seq od_notIn (u_nam 4 (pv 4)) (u_dt (u_tup (ua_cons (u_give (u_nam 2 (pv 2))) (ua_cons (u_op op_sub od_sub (u_dt u_int) (u_nam 2 (pv 2))) ua_nil)))) (by rfl)))) (fun _ _ _ _ _ => (u_give (u_nam 4 (pv 4)))) rfl)
    (us_one (us_set 1 sc.nd (u_op op_addU od_add (u_nam 1 (pv 1)) (u_dt (u_ls (u_lc (own := [("_law_lot", 5)]) rfl sc.nd (ui_seq (u_callH G_law_sh_lots hr (takes_of rfl rfl rfl rfl) (ua_cons (u_ls (u_sorted S.m_sorted (u_nam 3 (pv 3)))) ua_nil))) (blkOk_by (N := N_law_sh_moves) (sc := defScope s_law_sh_moves) (by decide +kernel)) tg_name (by decide) (fun _ _ _ _ _ => (pg_name (i := 5) sc.nd rfl (by first | exact Or.inl rfl | exact Or.inr rfl))) (fun _ _ _ _ _ => uts_nil) (fun _ _ _ _ _ => (u_tup (ua_cons (u_give (u_nam 2 (pv 2))) (ua_cons (u_give (u_nam 5 (pv 5))) ua_nil))))))))))))
    (us_one (us_ret (u_give (u_nam 1 (pv 1)))))))

/-! ### _law_rn_turned -/
abbrev s_law_rn_turned : Stmt := topS 54
abbrev N_law_rn_turned : List Str := ["_law_row", "_law_by"]
theorem sc_law_rn_turned : FnScope N_law_rn_turned ["_law_row", "_law_by"] (defScope s_law_rn_turned) := ⟨rfl, rfl, rfl, by decide +kernel, rfl, by decide +kernel, by decide +kernel⟩
def p_law_rn_turned (en : En) : PM :=
    (retP (callM 1 (F_law_mk_plain en) (consM (bin addD (dt (bin addD (dt (uno tupleD (nam 1))) (dt (uno tupleD (nam 0))))) (dt (callM 1 (F_law_mk_undone en) (consM (bnd (nam 1) give) (ret []))))) (ret []))))
def F_law_rn_turned (en : En) : FS := fun ds ls => endF (p_law_rn_turned en (ini 2 ds) ls)
theorem ok_law_rn_turned (S : SF K mg en) {f : Addr} {fd : FuncData} (F : Fun K "_law_rn_turned" "_law_rn_turned" s_law_rn_turned f fd) (G_law_mk_plain : Has P w K mg base "_law_mk_plain" ["_law_letters"] 1 1 (F_law_mk_plain en)) (G_law_mk_undone : Has P w K mg base "_law_mk_undone" ["_law_row"] 1 1 (F_law_mk_undone en)) : FnOk P w K mg base (L2.CX P w) 2 f fd ["_law_row", "_law_by"] (spD K 2 (F_law_rn_turned en)) := by
  have sc := sc_law_rn_turned
  refine fn_ok F sc rfl (fun cdv A outer s H E hr => ?_) (p := p_law_rn_turned en) fun ds ls h => .inr rfl
  exact (us_one (us_ret (u_callH G_law_mk_plain hr (takes_of rfl rfl rfl rfl) (ua_cons (u_op op_addU od_add (u_dt (u_op op_addU od_add (u_dt (u_tuple S.m_tuple (u_nam 1 (pv 1)))) (u_dt (u_tuple S.m_tuple (u_nam 0 (pv 0)))))) (u_dt (u_callH G_law_mk_undone hr (takes_of rfl rfl rfl rfl) (ua_cons (u_give (u_nam 1 (pv 1))) ua_nil)))) ua_nil))))

/-! ### _law_cu_spans -/
abbrev s_law_cu_spans : Stmt := topS 57
abbrev N_law_cu_spans : List Str := ["_law_row", "_law_found"]
theorem sc_law_cu_spans : FnScope N_law_cu_spans ["_law_row"] (defScope s_law_cu_spans) := ⟨rfl, rfl, rfl, by decide +kernel, rfl, by decide +kernel, by decide +kernel⟩
def p_law_cu_spans (en : En) : PM :=
    (seqP (setV 1 (ls1 (uno listD (dt (callM 1 (F_law_mk_plain en) (consM (bnd (nam 0) give) (ret [])))))))
    (seqP (whileP (andM (bnd (bin gtD (dt (uno lenD (nam 1))) (dt (ret (.int 1)))) isB) (bnd (bin eqD (dt (bin atD (nam 1) (dt (ret (.int 0))))) (dt (bin subD (dt (ret (.int 0))) (dt (bin atD (nam 1) (dt (uno negD (dt (ret (.int 1)))))))))) isB)) (setV 1 (cutM cutD (nam 1) (partM (ret (.int 1))) (partM (uno negD (dt (ret (.int 1))))))) 1000)
    (retP (uno lenD (nam 1)))))
def F_law_cu_spans (en : En) : FS := fun ds ls => endF (p_law_cu_spans en (ini 2 ds) ls)
theorem ok_law_cu_spans (S : SF K mg en) {f : Addr} {fd : FuncData} (F : Fun K "_law_cu_spans" "_law_cu_spans" s_law_cu_spans f fd) (G_law_mk_plain : Has P w K mg base "_law_mk_plain" ["_law_letters"] 1 1 (F_law_mk_plain en)) : FnOk P w K mg base (L2.CX P w) 2 f fd ["_law_row"] (spD K 1 (F_law_cu_spans en)) := by
  have sc := sc_law_cu_spans
  refine fn_ok F sc rfl (fun cdv A outer s H E hr => ?_) (p := p_law_cu_spans en) fun ds ls h => .inr rfl
  exact (us_cons (us_set 1 sc.nd (u_ls (u_list S.m_list (u_dt (u_callH G_law_mk_plain hr (takes_of rfl rfl rfl rfl) (ua_cons (u_give (u_nam 0 (pv 0))) ua_nil))))))
    (us_cons (us_while 1000 (passes_of rfl) (PW.pt (ut_and (ut_cmp op_gt od_gt (u_dt (u_len S.m_len (u_nam 1 (pv 1)))) (u_dt u_int) (nomark _)) (ut_and1 (ut_cmp (op_eqD hr.units) od_eq (u_dt (u_at (u_nam 1 (pv 1)) (u_dt u_int) (fun _ _ => rfl))) (u_dt (u_op op_sub od_sub (u_dt u_int) (u_dt (u_at (u_nam 1 (pv 1)) (u_dt (u_neg (u_dt u_int))) (fun _ _ => rfl))))) (nomark _))))) (us_one (us_set 1 sc.nd (u_cut (u_nam 1 (pv 1)) (uo_some u_int) (uo_some (u_neg (u_dt u_int)))))))
    (us_one (us_ret (u_len S.m_len (u_nam 1 (pv 1)))))))

/-! ### need_deeds -/
abbrev s_need_deeds : Stmt := topS 12
abbrev N_need_deeds : List Str := ["deeds"]
theorem sc_need_deeds : FnScope N_need_deeds ["deeds"] (defScope s_need_deeds) := ⟨rfl, rfl, rfl, by decide +kernel, rfl, by decide +kernel, by decide +kernel⟩
def p_need_deeds (en : En) : PM :=
    (ifP (notM (bnd (callM 3 (F_is_between en) (consM (bnd (nam 0) give) (consM (ret (.int 1)) (consM (ret (.int 4)) (ret []))))) isB)) (rsP en.BadDeeds) skip)
def F_need_deeds (en : En) : FS := fun ds ls => endF (p_need_deeds en (ini 1 ds) ls)
theorem ok_need_deeds (S : SF K mg en) {f : Addr} {fd : FuncData} (F : Fun K "need_deeds" "need_deeds" s_need_deeds f fd) (G_is_between : Has P w K mg base "is_between" ["value", "low", "high"] 2 3 (F_is_between en)) : FnOk P w K mg base (L2.CX P w) 3 f fd ["deeds"] (spD K 1 (F_need_deeds en)) := by
  have sc := sc_need_deeds
  refine fn_ok F sc rfl (fun cdv A outer s H E hr => ?_) (p := p_need_deeds en) fun ds ls h => .inr rfl
  exact (us_one (us_if (ut_not (ut_val (u_callH G_is_between hr (takes_of rfl rfl rfl rfl) (ua_cons (u_give (u_nam 0 (pv 0))) (ua_cons u_int (ua_cons (u_gint S.g_MOST_DEEDS) ua_nil)))))) (us_one (us_raise S.c_BadDeeds rfl (takes_of rfl rfl rfl rfl))) us_nil))

/-! ### fits_letter -/
abbrev s_fits_letter : Stmt := topS 13
abbrev N_fits_letter : List Str := ["deeds", "value"]
theorem sc_fits_letter : FnScope N_fits_letter ["deeds", "value"] (defScope s_fits_letter) := ⟨rfl, rfl, rfl, by decide +kernel, rfl, by decide +kernel, by decide +kernel⟩
def p_fits_letter (en : En) : PM :=
    (retP (andV (callM 3 (F_is_between en) (consM (bnd (nam 1) give) (consM (bin subD (dt (ret (.int 0))) (nam 0)) (consM (bnd (nam 0) give) (ret []))))) (bin neD (nam 1) (dt (ret (.int 0))))))
def F_fits_letter (en : En) : FS := fun ds ls => endF (p_fits_letter en (ini 2 ds) ls)
theorem ok_fits_letter (S : SF K mg en) {f : Addr} {fd : FuncData} (F : Fun K "fits_letter" "fits_letter" s_fits_letter f fd) (G_is_between : Has P w K mg base "is_between" ["value", "low", "high"] 2 3 (F_is_between en)) : FnOk P w K mg base (L2.CX P w) 3 f fd ["deeds", "value"] (spD K 2 (F_fits_letter en)) := by
  have sc := sc_fits_letter
  refine fn_ok F sc rfl (fun cdv A outer s H E hr => ?_) (p := p_fits_letter en) fun ds ls h => .inr rfl
  exact (us_one (us_ret (u_and (u_callH G_is_between hr (takes_of rfl rfl rfl rfl) (ua_cons (u_give (u_nam 1 (pv 1))) (ua_cons (u_op op_sub od_sub (u_dt u_int) (u_nam 0 (pv 0))) (ua_cons (u_give (u_nam 0 (pv 0))) ua_nil)))) (u_one (u_cmp (op_neD hr.units) od_ne (u_nam 1 (pv 1)) (u_dt u_int) (nomark _))))))

/-! ### is_move_in -/
abbrev s_is_move_in : Stmt := topS 19
abbrev N_is_move_in : List Str := ["deeds", "value", "x", "lot", "y", "at"]
theorem sc_is_move_in : FnScope N_is_move_in ["deeds", "value"] (defScope s_is_move_in) := ⟨rfl, rfl, rfl, by decide +kernel, rfl, by decide +kernel, by decide +kernel⟩
def p_is_move_in (en : En) : PM :=
    (seqP (ifP (orM (notM (bnd (uno (isiD .tuple) (nam 1)) isB)) (orM (bnd (bin neD (dt (uno lenD (nam 1))) (dt (ret (.int 2)))) isB) (notM (bnd (callM 2 (F_is_letter_in en) (consM (bnd (nam 0) give) (consM (bin atD (nam 1) (dt (ret (.int 0)))) (ret [])))) isB)))) (retP (ret (.bl false))) skip)
    (seqP (lift (bnd (nam 1) give) (asgP (tgTup (tgCons (tgName 2) (tgCons (tgName 3) tgNil)))))
    (seqP (ifP (orM (notM (bnd (uno (isiD .tuple) (nam 3)) isB)) (orM (bnd (bin eqD (nam 3) (dt (tupM (ret [])))) isB) (notM (bnd (uno allD (dt (ls1 (lcM (itemsM (bnd (nam 3) give)) (tgName 4) (ret true) (callM 2 (F_is_letter_in en) (consM (bnd (nam 0) give) (consM (bnd (nam 4) give) (ret [])))) [4])))) isB)))) (retP (ret (.bl false))) skip)
    (retP (andV (uno allD (dt (ls1 (lcM (itemsM (bnd (nam 3) give)) (tgName 4) (ret true) (bin neD (dt (uno absD (nam 4))) (dt (uno absD (nam 2)))) [4])))) (uno allD (dt (ls1 (lcM (bnd (consM (bin subD (dt (uno lenD (nam 3))) (dt (ret (.int 1)))) (ret [])) fun ds => opt (rng1D ds)) (tgName 5) (ret true) (bin ltD (dt (bin atD (nam 3) (nam 5))) (dt (bin atD (nam 3) (dt (bin addD (nam 5) (dt (ret (.int 1)))))))) [5])))))))))
def F_is_move_in (en : En) : FS := fun ds ls => endF (p_is_move_in en (ini 6 ds) ls)
theorem ok_is_move_in (S : SF K mg en) {f : Addr} {fd : FuncData} (F : Fun K "is_move_in" "is_move_in" s_is_move_in f fd) (G_is_letter_in : Has P w K mg base "is_letter_in" ["deeds", "value"] 2 2 (F_is_letter_in en)) : FnOk P w K mg base (L2.CX P w) 3 f fd ["deeds", "value"] (spD K 2 (F_is_move_in en)) := by
  have sc := sc_is_move_in
  refine fn_ok F sc rfl (fun cdv A outer s H E hr => ?_) (p := p_is_move_in en) fun ds ls h => .inr rfl
  exact (us_cons (us_if (PW.pt (ut_or (ut_not (ut_val (u_isi .tuple S.m_isinstance (u_nam 1 (pv 1)) (pe_ty S.m_tuple)))) (ut_or (ut_cmp (op_neD hr.units) od_ne (u_dt (u_len S.m_len (u_nam 1 (pv 1)))) (u_dt u_int) (nomark _)) (ut_or1 (ut_not (ut_val (u_callH G_is_letter_in hr (takes_of rfl rfl rfl rfl) (ua_cons (u_give (u_nam 0 (pv 0))) (ua_cons (u_at (u_nam 1 (pv 1)) (u_dt u_int) (fun _ _ => rfl)) ua_nil))))))))) (us_one (us_ret u_bl)) us_nil)
    (us_cons (us_asg (u_give (u_nam 1 (pv 1))) (pg_tup rfl (pgs_cons (pg_name (i := 2) sc.nd rfl (by first | exact Or.inl rfl | exact Or.inr rfl)) (pgs_cons (pg_name (i := 3) sc.nd rfl (by first | exact Or.inl rfl | exact Or.inr rfl)) pgs_nil))) (tgs_len (tgnS (tgnS tgn0)) (tg_cons tg_name (tg_cons tg_name tg_nil))))
    (us_cons (us_if (PW.pt (ut_or (ut_not (ut_val (u_isi .tuple S.m_isinstance (u_nam 3 (pv 3)) (pe_ty S.m_tuple)))) (ut_or (ut_cmp (op_eqD hr.units) od_eq (u_nam 3 (pv 3)) (u_dt (u_tup ua_nil)) (nomark _)) (ut_or1 (ut_not (ut_val (u_all S.m_all rfl (u_dt (u_ls (u_lc (own := [("y", 4)]) rfl sc.nd (ui_seq (u_give (u_nam 3 (pv 3)))) (blkOk_by (N := N_is_move_in) (sc := defScope s_is_move_in) (by decide +kernel)) tg_name (by decide) (fun _ _ _ _ _ => (pg_name (i := 4) sc.nd rfl (by first | exact Or.inl rfl | exact Or.inr rfl))) (fun _ _ _ _ _ => uts_nil) (fun _ _ _ _ _ => (u_callH G_is_letter_in hr LamX.takes0 (ua_cons (u_give (u_nam 0 (pv 0))) (ua_cons (u_give (u_nam 4 (pv 4))) ua_nil)))))))))))))) (us_one (us_ret u_bl)) us_nil)
    (us_one (us_ret (u_and (u_all S.m_all rfl (u_dt (u_ls (u_lc (own := [("y", 4)]) rfl sc.nd (ui_seq (u_give (u_nam 3 (pv 3)))) (blkOk_by (N := N_is_move_in) (sc := defScope s_is_move_in) (by decide +kernel)) tg_name (by decide) (fun _ _ _ _ _ => (pg_name (i := 4) sc.nd rfl (by first | exact Or.inl rfl | exact Or.inr rfl))) (fun _ _ _ _ _ => uts_nil) (fun _ _ _ _ _ => (u_cmp (op_neD hr.units) od_ne (u_dt (u_abs S.m_abs (u_nam 4 (pv 4)))) (u_dt (u_abs S.m_abs (u_nam 2 (pv 2)))) (nomark _))))))) (u_one (u_all S.m_all rfl (u_dt (u_ls (u_lc (own := [("at", 5)]) rfl sc.nd (ui_range1 S.m_range (ua_cons (u_op op_sub od_sub (u_dt (u_len S.m_len (u_nam 3 (pv 3)))) (u_dt u_int)) ua_nil)) (blkOk_by (N := N_is_move_in) (sc := defScope s_is_move_in) (by decide +kernel)) tg_name (by decide) (fun _ _ _ _ _ => (pg_name (i := 5) sc.nd rfl (by first | exact Or.inl rfl | exact Or.inr rfl))) (fun _ _ _ _ _ => uts_nil) (fun _ _ _ _ _ => (u_cmp op_lt od_lt (u_dt (u_at (u_nam 3 (pv 3)) (u_nam 5 (pv 5)) (fun _ _ => rfl))) (u_dt (u_at (u_nam 3 (pv 3)) (u_dt (u_op op_addU od_add (u_nam 5 (pv 5)) (u_dt u_int))) (fun _ _ => rfl))) (nomark _))))))))))))))

/-! ### ring_in -/
abbrev s_ring_in : Stmt := topS 25
abbrev N_ring_in : List Str := ["row", "middle", "start"]
theorem sc_ring_in : FnScope N_ring_in ["row"] (defScope s_ring_in) := ⟨rfl, rfl, rfl, by decide +kernel, rfl, by decide +kernel, by decide +kernel⟩
def p_ring_in (en : En) : PM :=
    (seqP (setV 1 (callM 1 (F_middle_of en) (consM (bnd (nam 0) give) (ret []))))
    (seqP (setV 2 (callM 1 (F_least_start en) (consM (bnd (nam 1) give) (ret []))))
    (retP (bin addD (dt (cutM cutD (nam 1) (partM (bnd (nam 2) give)) (ret none))) (dt (cutM cutD (nam 1) (ret none) (partM (bnd (nam 2) give))))))))
def F_ring_in (en : En) : FS := fun ds ls => endF (p_ring_in en (ini 3 ds) ls)
theorem ok_ring_in (S : SF K mg en) {f : Addr} {fd : FuncData} (F : Fun K "ring_in" "ring_in" s_ring_in f fd) (G_least_start : Has P w K mg base "least_start" ["row"] 1 1 (F_least_start en)) (G_middle_of : Has P w K mg base "middle_of" ["row"] 2 1 (F_middle_of en)) : FnOk P w K mg base (L2.CX P w) 3 f fd ["row"] (spD K 1 (F_ring_in en)) := by
  have sc := sc_ring_in
  refine fn_ok F sc rfl (fun cdv A outer s H E hr => ?_) (p := p_ring_in en) fun ds ls h => .inr rfl
  exact (us_cons (us_set 1 sc.nd (u_callH G_middle_of hr (takes_of rfl rfl rfl rfl) (ua_cons (u_give (u_nam 0 (pv 0))) ua_nil)))
    (us_cons (us_set 2 sc.nd (u_callH G_least_start hr (takes_of rfl rfl rfl rfl) (ua_cons (u_give (u_nam 1 (pv 1))) ua_nil)))
    (us_one (us_ret (u_op op_addU od_add (u_dt (u_cut (u_nam 1 (pv 1)) (uo_some (u_give (u_nam 2 (pv 2)))) uo_none)) (u_dt (u_cut (u_nam 1 (pv 1)) uo_none (uo_some (u_give (u_nam 2 (pv 2)))))))))))

/-! ### _law_pick -/
abbrev s_law_pick : Stmt := topS 36
abbrev N_law_pick : List Str := ["_law_state", "_law_some"]
theorem sc_law_pick : FnScope N_law_pick ["_law_state", "_law_some"] (defScope s_law_pick) := ⟨rfl, rfl, rfl, by decide +kernel, rfl, by decide +kernel, by decide +kernel⟩
def p_law_pick (en : En) : PM :=
    (retP (bin atD (nam 1) (dt (callM 2 FDraw (consM (bnd (nam 0) give) (consM (uno lenD (nam 1)) (ret [])))))))
def F_law_pick (en : En) : FS := fun ds ls => endF (p_law_pick en (ini 2 ds) ls)
theorem ok_law_pick (S : SF K mg en) {f : Addr} {fd : FuncData} (F : Fun K "_law_pick" "_law_pick" s_law_pick f fd) (G_law_draw : Has P w K mg base "_law_draw" ["_law_state", "_law_room"] 2 2 FDraw) : FnOk P w K mg base (L2.CX P w) 3 f fd ["_law_state", "_law_some"] (spD K 2 (F_law_pick en)) := by
  have sc := sc_law_pick
  refine fn_ok F sc rfl (fun cdv A outer s H E hr => ?_) (p := p_law_pick en) fun ds ls h => .inr rfl
  exact (us_one (us_ret (u_at (u_nam 1 (pv 1)) (u_dt (u_callH G_law_draw hr (takes_of rfl rfl rfl rfl) (ua_cons (u_give (u_nam 0 (pv 0))) (ua_cons (u_len S.m_len (u_nam 1 (pv 1))) ua_nil)))) (fun _ _ => rfl))))

/-! ### _law_shuffled -/
abbrev s_law_shuffled : Stmt := topS 37
abbrev N_law_shuffled : List Str := ["_law_state", "_law_some", "_law_left", "_law_found"]
theorem sc_law_shuffled : FnScope N_law_shuffled ["_law_state", "_law_some"] (defScope s_law_shuffled) := ⟨rfl, rfl, rfl, by decide +kernel, rfl, by decide +kernel, by decide +kernel⟩
def p_law_shuffled (en : En) : PM :=
    (seqP (par2I 2 3 (consL (uno listD (nam 1)) (consL (lstM (ret [])) (ret []))))
    (seqP (whileP (bnd (bin neD (nam 2) (dt (ls1 (lstM (ret []))))) isB) (drop (methM 3 appD (methM 2 popAtD (callM 2 FDraw (consM (bnd (nam 0) give) (consM (uno lenD (nam 2)) (ret []))))))) 1000)
    (retP (bnd (nam 3) give))))
def F_law_shuffled (en : En) : FS := fun ds ls => endF (p_law_shuffled en (ini 4 ds) ls)
theorem ok_law_shuffled (S : SF K mg en) {f : Addr} {fd : FuncData} (F : Fun K "_law_shuffled" "_law_shuffled" s_law_shuffled f fd) (G_law_draw : Has P w K mg base "_law_draw" ["_law_state", "_law_room"] 2 2 FDraw) : FnOk P w K mg base (L2.CX P w) 3 f fd ["_law_state", "_law_some"] (spD K 2 (F_law_shuffled en)) := by
  have sc := sc_law_shuffled
  refine fn_ok F sc rfl (fun cdv A outer s H E hr => ?_) (p := p_law_shuffled en) fun ds ls h => .inr rfl
  exact (us_cons (us_parI 2 3 rfl sc.nd (ui2_n (u_list S.m_list (u_nam 1 (pv 1))) (ui2_n (u_lst ua_nil) ui2_nil)))
    (us_cons (us_while 1000 (passes_of rfl) (ut_cmp (op_neD hr.units) od_ne (u_nam 2 (pv 2)) (u_dt (u_ls (u_lst ua_nil))) (nomark _)) (us_one (us_expr (u_append 3 (pv 3) (u_popAt 2 (pv 2) (u_callH G_law_draw hr (takes_of rfl rfl rfl rfl) (ua_cons (u_give (u_nam 0 (pv 0))) (ua_cons (u_len S.m_len (u_nam 2 (pv 2))) ua_nil))))))))
    (us_one (us_ret (u_give (u_nam 3 (pv 3)))))))

/-! ### _law_mk_renaming -/
abbrev s_law_mk_renaming : Stmt := topS 46
abbrev N_law_mk_renaming : List Str := ["_law_state", "_law_deeds", "_law_steps", "_law_images", "_law_back", "_law_lap", "_law_other", "_law_step", "_law_deed", "_law_way", "_law_one", "_law_sign", "_law_less", "_law_image"]
theorem sc_law_mk_renaming : FnScope N_law_mk_renaming ["_law_state", "_law_deeds", "_law_steps"] (defScope s_law_mk_renaming) := ⟨rfl, rfl, rfl, by decide +kernel, rfl, by decide +kernel, by decide +kernel⟩
def p_law_mk_renaming (en : En) : PM :=
    (seqP (setV 3 (ls1 (lcM (bnd (consM (ret (.int 1)) (consM (bin addD (nam 1) (dt (ret (.int 1)))) (ret []))) fun ds => opt (rng2D ds)) (tgName 8) (ret true) (tupM (consM (bnd (nam 8) give) (ret []))) [8])))
    (seqP (setN 4 (uno listD (nam 3)))
    (seqP (forP (tgName 5) (bnd (consM (bnd (nam 2) give) (ret [])) fun ds => opt (rng1D ds)) (seqP (par2 9 10 (consM (callM 2 FDraw (consM (bnd (nam 0) give) (consM (ret (.int 4)) (ret [])))) (consM (callM 2 FDraw (consM (bnd (nam 0) give) (consM (bnd (nam 1) give) (ret [])))) (ret []))))
    (seqP (setV 6 (ifM (bnd (bin gtD (nam 1) (dt (ret (.int 1)))) isB) (bin modD (dt (bin addD (dt (bin addD (nam 10) (dt (ret (.int 1))))) (dt (callM 2 FDraw (consM (bnd (nam 0) give) (consM (bin subD (nam 1) (dt (ret (.int 1)))) (ret []))))))) (nam 1)) (bnd (nam 10) give)))
    (seqP (setN 7 (lcM (bnd (consM (ret (.int 1)) (consM (bin addD (nam 1) (dt (ret (.int 1)))) (ret []))) fun ds => opt (rng2D ds)) (tgName 8) (ret true) (tupM (consM (bnd (nam 8) give) (ret []))) [8]))
    (seqP (ifP (orM (bnd (bin eqD (nam 9) (dt (ret (.int 0)))) isB) (bnd (bin eqD (nam 6) (nam 10)) isB)) (seqP (setAtP 7 (tupM (consM (bin subD (dt (bin subD (dt (ret (.int 0))) (nam 10))) (dt (ret (.int 1)))) (ret []))) (bnd (nam 10) give))
    (setAtP 4 (callM 1 (F_law_mk_undone en) (consM (bin atD (nam 4) (nam 10)) (ret []))) (bnd (nam 10) give))) (ifP (bnd (bin eqD (nam 9) (dt (ret (.int 1)))) isB) (seqP (setBP 7 7 (tupM (consM (tupM (consM (bin addD (nam 6) (dt (ret (.int 1)))) (ret []))) (consM (tupM (consM (bin addD (nam 10) (dt (ret (.int 1)))) (ret []))) (ret [])))) (bnd (nam 10) give) (bnd (nam 6) give))
    (setBP 4 4 (tupM (consM (bin atD (nam 4) (nam 6)) (consM (bin atD (nam 4) (nam 10)) (ret [])))) (bnd (nam 10) give) (bnd (nam 6) give))) (seqP (setV 11 (ifM (bnd (bin eqD (nam 9) (dt (ret (.int 2)))) isB) (ret (.int 1)) (uno negD (dt (ret (.int 1))))))
    (seqP (setAtP 7 (tupM (consM (bin addD (nam 10) (dt (ret (.int 1)))) (consM (bin mulD (nam 11) (dt (bin addD (nam 6) (dt (ret (.int 1)))))) (ret [])))) (bnd (nam 10) give))
    (seqP (setV 12 (ifM (bnd (bin eqD (nam 11) (dt (ret (.int 1)))) isB) (callM 1 (F_law_mk_undone en) (consM (bin atD (nam 4) (nam 6)) (ret []))) (bin atD (nam 4) (nam 6))))
    (setAtP 4 (callM 1 (F_law_mk_plain en) (consM (bin addD (dt (bin atD (nam 4) (nam 10))) (nam 12)) (ret []))) (bnd (nam 10) give)))))))
    (setV 3 (ls1 (lcM (itemsM (bnd (nam 3) give)) (tgName 13) (ret true) (callM 2 (F_law_mk_renamed en) (consM (bnd (nam 7) give) (consM (bnd (nam 13) give) (ret [])))) [13]))))))))
    (retP (tupM (consM (bnd (nam 3) give) (consM (bnd (nam 4) give) (ret []))))))))
def F_law_mk_renaming (en : En) : FS := fun ds ls => endF (p_law_mk_renaming en (ini 14 ds) ls)
theorem ok_law_mk_renaming (S : SF K mg en) {f : Addr} {fd : FuncData} (F : Fun K "_law_mk_renaming" "_law_mk_renaming" s_law_mk_renaming f fd) (G_law_draw : Has P w K mg base "_law_draw" ["_law_state", "_law_room"] 2 2 FDraw) (G_law_mk_plain : Has P w K mg base "_law_mk_plain" ["_law_letters"] 1 1 (F_law_mk_plain en)) (G_law_mk_renamed : Has P w K mg base "_law_mk_renamed" ["_law_images", "_law_row"] 2 2 (F_law_mk_renamed en)) (G_law_mk_undone : Has P w K mg base "_law_mk_undone" ["_law_row"] 1 1 (F_law_mk_undone en)) : FnOk P w K mg base (L2.CX P w) 3 f fd ["_law_state", "_law_deeds", "_law_steps"] (spD K 3 (F_law_mk_renaming en)) := by
  have sc := sc_law_mk_renaming
  refine fn_ok F sc rfl (fun cdv A outer s H E hr => ?_) (p := p_law_mk_renaming en) fun ds ls h => .inr rfl
  exact (us_cons (us_setLcV (i := 3) (own := [("_law_deed", 8)]) rfl sc.nd (ui_range2 S.m_range (ua_cons u_int (ua_cons (u_op op_addU od_add (u_nam 1 (pv 1)) (u_dt u_int)) ua_nil))) (blkOk_by (N := N_law_mk_renaming) (sc := defScope s_law_mk_renaming) (by decide +kernel)) tg_name (by decide) (fun _ _ _ _ _ => (pg_name (i := 8) sc.nd rfl (by first | exact Or.inl rfl | exact Or.inr rfl))) (fun _ _ _ _ _ => uts_nil) (fun _ _ _ _ _ => (u_tup (ua_cons (u_give (u_nam 8 (pv 8))) ua_nil))) rfl)
    (us_cons (us_setN 4 sc.nd (u_list S.m_list (u_nam 3 (pv 3))))
    (us_cons (us_for (passes_of rfl) rfl (ui_range1 S.m_range (ua_cons (u_give (u_nam 2 (pv 2))) ua_nil)) (pg_name (i := 5) sc.nd rfl (by first | exact Or.inl rfl | exact Or.inr rfl)) tg_name (us_cons (us_par 9 10 rfl sc.nd (ua_cons (u_callH G_law_draw hr (takes_of rfl rfl rfl rfl) (ua_cons (u_give (u_nam 0 (pv 0))) (ua_cons u_int ua_nil))) (ua_cons (u_callH G_law_draw hr (takes_of rfl rfl rfl rfl) (ua_cons (u_give (u_nam 0 (pv 0))) (ua_cons (u_give (u_nam 1 (pv 1))) ua_nil))) ua_nil)))
    (us_cons (us_set 6 sc.nd (u_if (ut_cmp op_gt od_gt (u_nam 1 (pv 1)) (u_dt u_int) (nomark _)) (u_op op_mod od_mod (u_dt (u_op op_addU od_add (u_dt (u_op op_addU od_add (u_nam 10 (pv 10)) (u_dt u_int))) (u_dt (u_callH G_law_draw hr (takes_of rfl rfl rfl rfl) (ua_cons (u_give (u_nam 0 (pv 0))) (ua_cons (u_op op_sub od_sub (u_nam 1 (pv 1)) (u_dt u_int)) ua_nil)))))) (u_nam 1 (pv 1))) (u_give (u_nam 10 (pv 10)))))
    (us_cons (us_setN 7 sc.nd (u_lc (own := [("_law_deed", 8)]) rfl sc.nd (ui_range2 S.m_range (ua_cons u_int (ua_cons (u_op op_addU od_add (u_nam 1 (pv 1)) (u_dt u_int)) ua_nil))) (blkOk_by (N := N_law_mk_renaming) (sc := defScope s_law_mk_renaming) (by decide +kernel)) tg_name (by decide) (fun _ _ _ _ _ => (pg_name (i := 8) sc.nd rfl (by first | exact Or.inl rfl | exact Or.inr rfl))) (fun _ _ _ _ _ => uts_nil) (fun _ _ _ _ _ => (u_tup (ua_cons (u_give (u_nam 8 (pv 8))) ua_nil)))))
    (us_cons (us_if (PW.pt (ut_or (ut_cmp (op_eqD hr.units) od_eq (u_nam 9 (pv 9)) (u_dt u_int) (nomark _)) (ut_or1 (ut_cmp (op_eqD hr.units) od_eq (u_nam 6 (pv 6)) (u_nam 10 (pv 10)) (nomark _))))) (us_cons (us_setAt 7 (pv 7) (u_tup (ua_cons (u_op op_sub od_sub (u_dt (u_op op_sub od_sub (u_dt u_int) (u_nam 10 (pv 10)))) (u_dt u_int)) ua_nil)) (u_give (u_nam 10 (pv 10))))
    (us_one (us_setAt 4 (pv 4) (u_callH G_law_mk_undone hr (takes_of rfl rfl rfl rfl) (ua_cons (u_at (u_nam 4 (pv 4)) (u_nam 10 (pv 10)) (fun _ _ => rfl)) ua_nil)) (u_give (u_nam 10 (pv 10)))))) (us_one (us_if (ut_cmp (op_eqD hr.units) od_eq (u_nam 9 (pv 9)) (u_dt u_int) (nomark _)) (us_cons (us_setB 7 7 rfl (u_tup (ua_cons (u_tup (ua_cons (u_op op_addU od_add (u_nam 6 (pv 6)) (u_dt u_int)) ua_nil)) (ua_cons (u_tup (ua_cons (u_op op_addU od_add (u_nam 10 (pv 10)) (u_dt u_int)) ua_nil)) ua_nil))) (pv 7) (pv 7) (u_give (u_nam 10 (pv 10))) (u_give (u_nam 6 (pv 6))))
    (us_one (us_setB 4 4 rfl (u_tup (ua_cons (u_at (u_nam 4 (pv 4)) (u_nam 6 (pv 6)) (fun _ _ => rfl)) (ua_cons (u_at (u_nam 4 (pv 4)) (u_nam 10 (pv 10)) (fun _ _ => rfl)) ua_nil))) (pv 4) (pv 4) (u_give (u_nam 10 (pv 10))) (u_give (u_nam 6 (pv 6)))))) (us_cons (us_set 11 sc.nd (u_if (ut_cmp (op_eqD hr.units) od_eq (u_nam 9 (pv 9)) (u_dt u_int) (nomark _)) u_int (u_neg (u_dt u_int))))
    (us_cons (us_setAt 7 (pv 7) (u_tup (ua_cons (u_op op_addU od_add (u_nam 10 (pv 10)) (u_dt u_int)) (ua_cons (u_op op_mulU od_mul (u_nam 11 (pv 11)) (u_dt (u_op op_addU od_add (u_nam 6 (pv 6)) (u_dt u_int)))) ua_nil))) (u_give (u_nam 10 (pv 10))))
    (us_cons (us_set 12 sc.nd (u_if (ut_cmp (op_eqD hr.units) od_eq (u_nam 11 (pv 11)) (u_dt u_int) (nomark _)) (u_callH G_law_mk_undone hr (takes_of rfl rfl rfl rfl) (ua_cons (u_at (u_nam 4 (pv 4)) (u_nam 6 (pv 6)) (fun _ _ => rfl)) ua_nil)) (u_at (u_nam 4 (pv 4)) (u_nam 6 (pv 6)) (fun _ _ => rfl))))
    (us_one (us_setAt 4 (pv 4) (u_callH G_law_mk_plain hr (takes_of rfl rfl rfl rfl) (ua_cons (u_op op_addU od_add (u_dt (u_at (u_nam 4 (pv 4)) (u_nam 10 (pv 10)) (fun _ _ => rfl))) (u_nam 12 (pv 12))) ua_nil)) (u_give (u_nam 10 (pv 10)))))))))))
    (us_one (us_setLcV (i := 3) (own := [("_law_image", 13)]) rfl sc.nd (ui_seq (u_give (u_nam 3 (pv 3)))) (blkOk_by (N := N_law_mk_renaming) (sc := defScope s_law_mk_renaming) (by decide +kernel)) tg_name (by decide) (fun _ _ _ _ _ => (pg_name (i := 13) sc.nd rfl (by first | exact Or.inl rfl | exact Or.inr rfl))) (fun _ _ _ _ _ => uts_nil) (fun _ _ _ _ _ => (u_callH G_law_mk_renamed hr LamX.takes0 (ua_cons (u_give (u_nam 7 (pv 7))) (ua_cons (u_give (u_nam 13 (pv 13))) ua_nil)))) rfl)))))))
    (us_one (us_ret (u_tup (ua_cons (u_give (u_nam 3 (pv 3))) (ua_cons (u_give (u_nam 4 (pv 4))) ua_nil))))))))

/-! ### fits_row -/
abbrev s_fits_row : Stmt := topS 14
abbrev N_fits_row : List Str := ["deeds", "value", "letter"]
theorem sc_fits_row : FnScope N_fits_row ["deeds", "value"] (defScope s_fits_row) := ⟨rfl, rfl, rfl, by decide +kernel, rfl, by decide +kernel, by decide +kernel⟩
def p_fits_row (en : En) : PM :=
    (seqP (ifP (orM (notM (bnd (uno (isiD .tuple) (nam 1)) isB)) (bnd (bin gtD (dt (uno lenD (nam 1))) (dt (ret (.int 200)))) isB)) (retP (ret (.bl false))) skip)
    (retP (uno allD (dt (ls1 (lcM (itemsM (bnd (nam 1) give)) (tgName 2) (ret true) (callM 2 (F_fits_letter en) (consM (bnd (nam 0) give) (consM (bnd (nam 2) give) (ret [])))) [2]))))))
def F_fits_row (en : En) : FS := fun ds ls => endF (p_fits_row en (ini 3 ds) ls)
theorem ok_fits_row (S : SF K mg en) {f : Addr} {fd : FuncData} (F : Fun K "fits_row" "fits_row" s_fits_row f fd) (G_fits_letter : Has P w K mg base "fits_letter" ["deeds", "value"] 3 2 (F_fits_letter en)) : FnOk P w K mg base (L2.CX P w) 4 f fd ["deeds", "value"] (spD K 2 (F_fits_row en)) := by
  have sc := sc_fits_row
  refine fn_ok F sc rfl (fun cdv A outer s H E hr => ?_) (p := p_fits_row en) fun ds ls h => .inr rfl
  exact (us_cons (us_if (PW.pt (ut_or (ut_not (ut_val (u_isi .tuple S.m_isinstance (u_nam 1 (pv 1)) (pe_ty S.m_tuple)))) (ut_or1 (ut_cmp op_gt od_gt (u_dt (u_len S.m_len (u_nam 1 (pv 1)))) (u_dt (u_gint S.g_MOST_IN_ROW)) (nomark _))))) (us_one (us_ret u_bl)) us_nil)
    (us_one (us_ret (u_all S.m_all rfl (u_dt (u_ls (u_lc (own := [("letter", 2)]) rfl sc.nd (ui_seq (u_give (u_nam 1 (pv 1)))) (blkOk_by (N := N_fits_row) (sc := defScope s_fits_row) (by decide +kernel)) tg_name (by decide) (fun _ _ _ _ _ => (pg_name (i := 2) sc.nd rfl (by first | exact Or.inl rfl | exact Or.inr rfl))) (fun _ _ _ _ _ => uts_nil) (fun _ _ _ _ _ => (u_callH G_fits_letter hr LamX.takes0 (ua_cons (u_give (u_nam 0 (pv 0))) (ua_cons (u_give (u_nam 2 (pv 2))) ua_nil)))))))))))

/-! ### need_move -/
abbrev s_need_move : Stmt := topS 20
abbrev N_need_move : List Str := ["deeds", "value"]
theorem sc_need_move : FnScope N_need_move ["deeds", "value"] (defScope s_need_move) := ⟨rfl, rfl, rfl, by decide +kernel, rfl, by decide +kernel, by decide +kernel⟩
def p_need_move (en : En) : PM :=
    (ifP (notM (bnd (callM 2 (F_is_move_in en) (consM (bnd (nam 0) give) (consM (bnd (nam 1) give) (ret [])))) isB)) (rsP en.BadMove) skip)
def F_need_move (en : En) : FS := fun ds ls => endF (p_need_move en (ini 2 ds) ls)
theorem ok_need_move (S : SF K mg en) {f : Addr} {fd : FuncData} (F : Fun K "need_move" "need_move" s_need_move f fd) (G_is_move_in : Has P w K mg base "is_move_in" ["deeds", "value"] 3 2 (F_is_move_in en)) : FnOk P w K mg base (L2.CX P w) 4 f fd ["deeds", "value"] (spD K 2 (F_need_move en)) := by
  have sc := sc_need_move
  refine fn_ok F sc rfl (fun cdv A outer s H E hr => ?_) (p := p_need_move en) fun ds ls h => .inr rfl
  exact (us_one (us_if (ut_not (ut_val (u_callH G_is_move_in hr (takes_of rfl rfl rfl rfl) (ua_cons (u_give (u_nam 0 (pv 0))) (ua_cons (u_give (u_nam 1 (pv 1))) ua_nil))))) (us_one (us_raise S.c_BadMove rfl (takes_of rfl rfl rfl rfl))) us_nil))

/-! ### _law_mk_row -/
abbrev s_law_mk_row : Stmt := topS 42
abbrev N_law_mk_row : List Str := ["_law_state", "_law_deeds", "_law_least", "_law_most", "_law_found", "_law_lap", "_law_some", "_law_letter"]
theorem sc_law_mk_row : FnScope N_law_mk_row ["_law_state", "_law_deeds", "_law_least", "_law_most"] (defScope s_law_mk_row) := ⟨rfl, rfl, rfl, by decide +kernel, rfl, by decide +kernel, by decide +kernel⟩
def p_law_mk_row (en : En) : PM :=
    (seqP (setN 4 (lstM (ret [])))
    (seqP (forP (tgName 5) (bnd (consM (bin addD (nam 2) (dt (callM 2 FDraw (consM (bnd (nam 0) give) (consM (bin addD (dt (bin subD (nam 3) (nam 2))) (dt (ret (.int 1)))) (ret [])))))) (ret [])) fun ds => opt (rng1D ds)) (seqP (setV 6 (ls1 (lcM (itemsM (callM 1 (F_law_mk_letters en) (consM (bnd (nam 1) give) (ret [])))) (tgName 7) (orM (bnd (bin eqD (nam 4) (dt (ls1 (lstM (ret []))))) isB) (bnd (bin neD (nam 7) (dt (bin subD (dt (ret (.int 0))) (dt (bin atD (nam 4) (dt (uno negD (dt (ret (.int 1)))))))))) isB)) (bnd (nam 7) give) [7])))
    (drop (methM 4 appD (callM 2 (F_law_pick en) (consM (bnd (nam 0) give) (consM (bnd (nam 6) give) (ret []))))))))
    (retP (uno tupleD (nam 4)))))
def F_law_mk_row (en : En) : FS := fun ds ls => endF (p_law_mk_row en (ini 8 ds) ls)
theorem ok_law_mk_row (S : SF K mg en) {f : Addr} {fd : FuncData} (F : Fun K "_law_mk_row" "_law_mk_row" s_law_mk_row f fd) (G_law_draw : Has P w K mg base "_law_draw" ["_law_state", "_law_room"] 2 2 FDraw) (G_law_mk_letters : Has P w K mg base "_law_mk_letters" ["_law_deeds"] 1 1 (F_law_mk_letters en)) (G_law_pick : Has P w K mg base "_law_pick" ["_law_state", "_law_some"] 3 2 (F_law_pick en)) : FnOk P w K mg base (L2.CX P w) 4 f fd ["_law_state", "_law_deeds", "_law_least", "_law_most"] (spD K 4 (F_law_mk_row en)) := by
  have sc := sc_law_mk_row
  refine fn_ok F sc rfl (fun cdv A outer s H E hr => ?_) (p := p_law_mk_row en) fun ds ls h => .inr rfl
  exact (us_cons (us_setN 4 sc.nd (u_lst ua_nil))
    (us_cons (us_for (passes_of rfl) rfl (ui_range1 S.m_range (ua_cons (u_op op_addU od_add (u_nam 2 (pv 2)) (u_dt (u_callH G_law_draw hr (takes_of rfl rfl rfl rfl) (ua_cons (u_give (u_nam 0 (pv 0))) (ua_cons (u_op op_addU od_add (u_dt (u_op op_sub od_sub (u_nam 3 (pv 3)) (u_nam 2 (pv 2)))) (u_dt u_int)) ua_nil))))) ua_nil)) (pg_name (i := 5) sc.nd rfl (by first | exact Or.inl rfl | exact Or.inr rfl)) tg_name (us_cons (us_setLcV (i := 6) (own := [("_law_letter", 7)]) rfl sc.nd (ui_seq (u_callH G_law_mk_letters hr (takes_of rfl rfl rfl rfl) (ua_cons (u_give (u_nam 1 (pv 1))) ua_nil))) (blkOk_by (N := N_law_mk_row) (sc := defScope s_law_mk_row) (by decide +kernel)) tg_name (by decide) (fun _ _ _ _ _ => (pg_name (i := 7) sc.nd rfl (by first | exact Or.inl rfl | exact Or.inr rfl))) (fun _ _ _ _ _ => (uts_one (PW.pt (ut_or (ut_cmp (op_eqD hr.units) od_eq (u_nam 4 (pv 4)) (u_dt (u_ls (u_lst ua_nil))) (nomark _)) (ut_or1 (ut_cmp (op_neD hr.units) od_ne (u_nam 7 (pv 7)) (u_dt (u_op op_sub od_sub (u_dt u_int) (u_dt (u_at (u_nam 4 (pv 4)) (u_dt (u_neg (u_dt u_int))) (fun _ _ => rfl))))) (nomark _))))))) (fun _ _ _ _ _ => (u_give (u_nam 7 (pv 7)))) rfl)
    (us_one (us_expr (u_append 4 (pv 4) (u_callH G_law_pick hr (takes_of rfl rfl rfl rfl) (ua_cons (u_give (u_nam 0 (pv 0))) (ua_cons (u_give (u_nam 6 (pv 6))) ua_nil))))))))
    (us_one (us_ret (u_tuple S.m_tuple (u_nam 4 (pv 4)))))))

/-! ### _law_mk_of_deeds -/
abbrev s_law_mk_of_deeds : Stmt := topS 43
abbrev N_law_mk_of_deeds : List Str := ["_law_state", "_law_some", "_law_least", "_law_most", "_law_found", "_law_lap", "_law_signs", "_law_deed", "_law_letter"]
theorem sc_law_mk_of_deeds : FnScope N_law_mk_of_deeds ["_law_state", "_law_some", "_law_least", "_law_most"] (defScope s_law_mk_of_deeds) := ⟨rfl, rfl, rfl, by decide +kernel, rfl, by decide +kernel, by decide +kernel⟩
def p_law_mk_of_deeds (en : En) : PM :=
    (seqP (setN 4 (lstM (ret [])))
    (seqP (forP (tgName 5) (bnd (consM (bin addD (nam 2) (dt (callM 2 FDraw (consM (bnd (nam 0) give) (consM (bin addD (dt (bin subD (nam 3) (nam 2))) (dt (ret (.int 1)))) (ret [])))))) (ret [])) fun ds => opt (rng1D ds)) (seqP (setV 6 (bin addD (dt (ls1 (lcM (itemsM (bnd (nam 1) give)) (tgName 7) (ret true) (bnd (nam 7) give) [7]))) (dt (ls1 (lcM (itemsM (bnd (nam 1) give)) (tgName 7) (ret true) (bin subD (dt (ret (.int 0))) (nam 7)) [7])))))
    (drop (methM 4 appD (callM 2 (F_law_pick en) (consM (bnd (nam 0) give) (consM (ls1 (lcM (itemsM (bnd (nam 6) give)) (tgName 8) (orM (bnd (bin eqD (nam 4) (dt (ls1 (lstM (ret []))))) isB) (bnd (bin neD (nam 8) (dt (bin subD (dt (ret (.int 0))) (dt (bin atD (nam 4) (dt (uno negD (dt (ret (.int 1)))))))))) isB)) (bnd (nam 8) give) [8])) (ret []))))))))
    (retP (uno tupleD (nam 4)))))
def F_law_mk_of_deeds (en : En) : FS := fun ds ls => endF (p_law_mk_of_deeds en (ini 9 ds) ls)
theorem ok_law_mk_of_deeds (S : SF K mg en) {f : Addr} {fd : FuncData} (F : Fun K "_law_mk_of_deeds" "_law_mk_of_deeds" s_law_mk_of_deeds f fd) (G_law_draw : Has P w K mg base "_law_draw" ["_law_state", "_law_room"] 2 2 FDraw) (G_law_pick : Has P w K mg base "_law_pick" ["_law_state", "_law_some"] 3 2 (F_law_pick en)) : FnOk P w K mg base (L2.CX P w) 4 f fd ["_law_state", "_law_some", "_law_least", "_law_most"] (spD K 4 (F_law_mk_of_deeds en)) := by
  have sc := sc_law_mk_of_deeds
  refine fn_ok F sc rfl (fun cdv A outer s H E hr => ?_) (p := p_law_mk_of_deeds en) fun ds ls h => .inr rfl
  exact (us_cons (us_setN 4 sc.nd (u_lst ua_nil))
    (us_cons (us_for (passes_of rfl) rfl (ui_range1 S.m_range (ua_cons (u_op op_addU od_add (u_nam 2 (pv 2)) (u_dt (u_callH G_law_draw hr (takes_of rfl rfl rfl rfl) (ua_cons (u_give (u_nam 0 (pv 0))) (ua_cons (u_op op_addU od_add (u_dt (u_op op_sub od_sub (u_nam 3 (pv 3)) (u_nam 2 (pv 2)))) (u_dt u_int)) ua_nil))))) ua_nil)) (pg_name (i := 5) sc.nd rfl (by first | exact Or.inl rfl | exact Or.inr rfl)) tg_name (us_cons (us_set 6 sc.nd (u_op op_addU od_add (u_dt (u_ls (u_lc (own := [("_law_deed", 7)]) rfl sc.nd (ui_seq (u_give (u_nam 1 (pv 1)))) (blkOk_by (N := N_law_mk_of_deeds) (sc := defScope s_law_mk_of_deeds) (by decide +kernel)) tg_name (by decide) (fun _ _ _ _ _ => (pg_name (i := 7) sc.nd rfl (by first | exact Or.inl rfl | exact Or.inr rfl))) (fun _ _ _ _ _ => uts_nil) (fun _ _ _ _ _ => (u_give (u_nam 7 (pv 7))))))) (u_dt (u_ls (u_lc (own := [("_law_deed", 7)]) rfl sc.nd (ui_seq (u_give (u_nam 1 (pv 1)))) (blkOk_by (N := N_law_mk_of_deeds) (sc := defScope s_law_mk_of_deeds) (by decide +kernel)) tg_name (by decide) (fun _ _ _ _ _ => (pg_name (i := 7) sc.nd rfl (by first | exact Or.inl rfl | exact Or.inr rfl))) (fun _ _ _ _ _ => uts_nil) (fun _ _ _ _ _ => (u_op op_sub od_sub (u_dt u_int) (u_nam 7 (pv 7)))))))))
    (us_one (us_expr (u_append 4 (pv 4) (u_callH G_law_pick hr (takes_of rfl rfl rfl rfl) (ua_cons (u_give (u_nam 0 (pv 0))) (ua_cons (u_ls (u_lc (own := [("_law_letter", 8)]) rfl sc.nd (ui_seq (u_give (u_nam 6 (pv 6)))) (blkOk_by (N := N_law_mk_of_deeds) (sc := defScope s_law_mk_of_deeds) (by decide +kernel)) tg_name (by decide) (fun _ _ _ _ _ => (pg_name (i := 8) sc.nd rfl (by first | exact Or.inl rfl | exact Or.inr rfl))) (fun _ _ _ _ _ => (uts_one (PW.pt (ut_or (ut_cmp (op_eqD hr.units) od_eq (u_nam 4 (pv 4)) (u_dt (u_ls (u_lst ua_nil))) (nomark _)) (ut_or1 (ut_cmp (op_neD hr.units) od_ne (u_nam 8 (pv 8)) (u_dt (u_op op_sub od_sub (u_dt u_int) (u_dt (u_at (u_nam 4 (pv 4)) (u_dt (u_neg (u_dt u_int))) (fun _ _ => rfl))))) (nomark _))))))) (fun _ _ _ _ _ => (u_give (u_nam 8 (pv 8)))))) ua_nil))))))))
    (us_one (us_ret (u_tuple S.m_tuple (u_nam 4 (pv 4)))))))

/-! ### _law_mk_bad_deeds -/
abbrev s_law_mk_bad_deeds : Stmt := topS 47
abbrev N_law_mk_bad_deeds : List Str := ["_law_state"]
theorem sc_law_mk_bad_deeds : FnScope N_law_mk_bad_deeds ["_law_state"] (defScope s_law_mk_bad_deeds) := ⟨rfl, rfl, rfl, by decide +kernel, rfl, by decide +kernel, by decide +kernel⟩
def p_law_mk_bad_deeds (en : En) : PM :=
    (retP (callM 2 (F_law_pick en) (consM (bnd (nam 0) give) (consM (ls1 (lstM (consM (ret .non) (consM (ret (.int 0)) (consM (ret (.int 5)) (consM (uno negD (dt (ret (.int 1)))) (consM (ret (.bl true)) (consM (ret (.str "2")) (consM (tupM (consM (ret (.int 2)) (ret []))) (consM (ls1 (lstM (consM (ret (.int 1)) (ret [])))) (ret []))))))))))) (ret [])))))
def F_law_mk_bad_deeds (en : En) : FS := fun ds ls => endF (p_law_mk_bad_deeds en (ini 1 ds) ls)
theorem ok_law_mk_bad_deeds (S : SF K mg en) {f : Addr} {fd : FuncData} (F : Fun K "_law_mk_bad_deeds" "_law_mk_bad_deeds" s_law_mk_bad_deeds f fd) (G_law_pick : Has P w K mg base "_law_pick" ["_law_state", "_law_some"] 3 2 (F_law_pick en)) : FnOk P w K mg base (L2.CX P w) 4 f fd ["_law_state"] (spD K 1 (F_law_mk_bad_deeds en)) := by
  have sc := sc_law_mk_bad_deeds
  refine fn_ok F sc rfl (fun cdv A outer s H E hr => ?_) (p := p_law_mk_bad_deeds en) fun ds ls h => .inr rfl
  exact (us_one (us_ret (u_callH G_law_pick hr (takes_of rfl rfl rfl rfl) (ua_cons (u_give (u_nam 0 (pv 0))) (ua_cons (u_ls (u_lst (ua_cons u_non (ua_cons u_int (ua_cons u_int (ua_cons (u_neg (u_dt u_int)) (ua_cons u_bl (ua_cons u_str (ua_cons (u_tup (ua_cons u_int ua_nil)) (ua_cons (u_ls (u_lst (ua_cons u_int ua_nil))) ua_nil)))))))))) ua_nil)))))

/-! ### _law_mk_bad_rows -/
abbrev s_law_mk_bad_rows : Stmt := topS 48
abbrev N_law_mk_bad_rows : List Str := ["_law_state", "_law_deeds", "_law_some"]
theorem sc_law_mk_bad_rows : FnScope N_law_mk_bad_rows ["_law_state", "_law_deeds"] (defScope s_law_mk_bad_rows) := ⟨rfl, rfl, rfl, by decide +kernel, rfl, by decide +kernel, by decide +kernel⟩
def p_law_mk_bad_rows (en : En) : PM :=
    (seqP (setV 2 (ls1 (lstM (consM (ret .non) (consM (ret (.int 5)) (consM (ret (.str "")) (consM (ret (.dct [] [])) (consM (ls1 (lstM (consM (ret (.int 1)) (ret [])))) (consM (bin mulD (dt (ls1 (lstM (consM (tupM (consM (ret (.int 1)) (ret []))) (ret []))))) (dt (ret (.int 7)))) (consM (ls1 (lstM (consM (tupM (consM (ret (.int 1)) (ret []))) (consM (ls1 (lstM (consM (ret (.int 1)) (ret [])))) (ret []))))) (consM (ls1 (lstM (consM (tupM (consM (ret (.int 0)) (ret []))) (ret [])))) (consM (tupM (consM (tupM (consM (ret (.int 1)) (ret []))) (consM (tupM (consM (bin addD (nam 1) (dt (ret (.int 1)))) (ret []))) (ret [])))) (consM (bin addD (dt (bin mulD (dt (ls1 (lstM (consM (tupM (ret [])) (ret []))))) (dt (ret (.int 6))))) (dt (ls1 (lstM (consM (ret .non) (ret [])))))) (ret []))))))))))))))
    (retP (callM 2 (F_law_pick en) (consM (bnd (nam 0) give) (consM (bnd (nam 2) give) (ret []))))))
def F_law_mk_bad_rows (en : En) : FS := fun ds ls => endF (p_law_mk_bad_rows en (ini 3 ds) ls)
theorem ok_law_mk_bad_rows (S : SF K mg en) {f : Addr} {fd : FuncData} (F : Fun K "_law_mk_bad_rows" "_law_mk_bad_rows" s_law_mk_bad_rows f fd) (G_law_pick : Has P w K mg base "_law_pick" ["_law_state", "_law_some"] 3 2 (F_law_pick en)) : FnOk P w K mg base (L2.CX P w) 4 f fd ["_law_state", "_law_deeds"] (spD K 2 (F_law_mk_bad_rows en)) := by
  have sc := sc_law_mk_bad_rows
  refine fn_ok F sc rfl (fun cdv A outer s H E hr => ?_) (p := p_law_mk_bad_rows en) fun ds ls h => .inr rfl
  exact (us_cons (us_set 2 sc.nd (u_ls (u_lst (ua_cons u_non (ua_cons u_int (ua_cons u_str (ua_cons u_dct0 (ua_cons (u_ls (u_lst (ua_cons u_int ua_nil))) (ua_cons (u_op op_mulU od_mul (u_dt (u_ls (u_lst (ua_cons (u_tup (ua_cons u_int ua_nil)) ua_nil)))) (u_dt u_int)) (ua_cons (u_ls (u_lst (ua_cons (u_tup (ua_cons u_int ua_nil)) (ua_cons (u_ls (u_lst (ua_cons u_int ua_nil))) ua_nil)))) (ua_cons (u_ls (u_lst (ua_cons (u_tup (ua_cons u_int ua_nil)) ua_nil))) (ua_cons (u_tup (ua_cons (u_tup (ua_cons u_int ua_nil)) (ua_cons (u_tup (ua_cons (u_op op_addU od_add (u_nam 1 (pv 1)) (u_dt u_int)) ua_nil)) ua_nil))) (ua_cons (u_op op_addU od_add (u_dt (u_op op_mulU od_mul (u_dt (u_ls (u_lst (ua_cons (u_tup ua_nil) ua_nil)))) (u_dt u_int))) (u_dt (u_ls (u_lst (ua_cons u_non ua_nil))))) ua_nil)))))))))))))
    (us_one (us_ret (u_callH G_law_pick hr (takes_of rfl rfl rfl rfl) (ua_cons (u_give (u_nam 0 (pv 0))) (ua_cons (u_give (u_nam 2 (pv 2))) ua_nil))))))

/-! ### _law_sh_bad_move -/
abbrev s_law_sh_bad_move : Stmt := topS 53
abbrev N_law_sh_bad_move : List Str := ["_law_state", "_law_deeds", "_law_some"]
theorem sc_law_sh_bad_move : FnScope N_law_sh_bad_move ["_law_state", "_law_deeds"] (defScope s_law_sh_bad_move) := ⟨rfl, rfl, rfl, by decide +kernel, rfl, by decide +kernel, by decide +kernel⟩
def p_law_sh_bad_move (en : En) : PM :=
    (seqP (setV 2 (ls1 (lstM (consM (ret .non) (consM (ret (.int 5)) (consM (tupM (ret [])) (consM (tupM (consM (ret (.int 1)) (ret []))) (consM (ls1 (lstM (consM (ret (.int 1)) (consM (tupM (consM (ret (.int 2)) (ret []))) (ret []))))) (consM (tupM (consM (ret (.int 1)) (consM (tupM (ret [])) (ret [])))) (consM (tupM (consM (ret (.int 1)) (consM (tupM (consM (ret (.int 1)) (ret []))) (ret [])))) (consM (tupM (consM (ret (.int 1)) (consM (tupM (consM (uno negD (dt (ret (.int 1)))) (ret []))) (ret [])))) (consM (tupM (consM (ret (.int 0)) (consM (tupM (consM (ret (.int 1)) (ret []))) (ret [])))) (consM (tupM (consM (bin addD (nam 1) (dt (ret (.int 1)))) (consM (tupM (consM (ret (.int 1)) (ret []))) (ret [])))) (consM (tupM (consM (ret (.bl true)) (consM (tupM (consM (ret (.int 2)) (ret []))) (ret [])))) (ret [])))))))))))))))
    (seqP (setV 2 (bin addD (nam 2) (dt (ls1 (lstM (consM (tupM (consM (ret (.int 1)) (consM (ls1 (lstM (consM (ret (.int 2)) (ret [])))) (ret [])))) (consM (tupM (consM (ret (.int 1)) (consM (tupM (consM (ret (.int 2)) (consM (ret (.int 2)) (ret [])))) (ret [])))) (consM (tupM (consM (ret (.int 1)) (consM (tupM (consM (ret (.int 2)) (consM (uno negD (dt (ret (.int 2)))) (ret [])))) (ret [])))) (consM (tupM (consM (ret (.int 1)) (consM (tupM (consM (ret (.int 2)) (ret []))) (consM (ret (.int 0)) (ret []))))) (consM (tupM (consM (ret (.int 1)) (consM (ret (.int 2)) (ret [])))) (consM (tupM (consM (ret (.int 1)) (consM (tupM (consM (bin addD (nam 1) (dt (ret (.int 1)))) (ret []))) (ret [])))) (consM (tupM (consM (ret (.int 1)) (consM (tupM (consM (ret (.bl true)) (ret []))) (ret [])))) (ret [])))))))))))))
    (retP (callM 2 (F_law_pick en) (consM (bnd (nam 0) give) (consM (bin addD (nam 2) (dt (ls1 (lstM (consM (tupM (consM (ret (.str "1")) (consM (tupM (consM (ret (.int 2)) (ret []))) (ret [])))) (ret [])))))) (ret [])))))))
def F_law_sh_bad_move (en : En) : FS := fun ds ls => endF (p_law_sh_bad_move en (ini 3 ds) ls)
theorem ok_law_sh_bad_move (S : SF K mg en) {f : Addr} {fd : FuncData} (F : Fun K "_law_sh_bad_move" "_law_sh_bad_move" s_law_sh_bad_move f fd) (G_law_pick : Has P w K mg base "_law_pick" ["_law_state", "_law_some"] 3 2 (F_law_pick en)) : FnOk P w K mg base (L2.CX P w) 4 f fd ["_law_state", "_law_deeds"] (spD K 2 (F_law_sh_bad_move en)) := by
  have sc := sc_law_sh_bad_move
  refine fn_ok F sc rfl (fun cdv A outer s H E hr => ?_) (p := p_law_sh_bad_move en) fun ds ls h => .inr rfl
  exact (us_cons (us_set 2 sc.nd (u_ls (u_lst (ua_cons u_non (ua_cons u_int (ua_cons (u_tup ua_nil) (ua_cons (u_tup (ua_cons u_int ua_nil)) (ua_cons (u_ls (u_lst (ua_cons u_int (ua_cons (u_tup (ua_cons u_int ua_nil)) ua_nil)))) (ua_cons (u_tup (ua_cons u_int (ua_cons (u_tup ua_nil) ua_nil))) (ua_cons (u_tup (ua_cons u_int (ua_cons (u_tup (ua_cons u_int ua_nil)) ua_nil))) (ua_cons (u_tup (ua_cons u_int (ua_cons (u_tup (ua_cons (u_neg (u_dt u_int)) ua_nil)) ua_nil))) (ua_cons (u_tup (ua_cons u_int (ua_cons (u_tup (ua_cons u_int ua_nil)) ua_nil))) (ua_cons (u_tup (ua_cons (u_op op_addU od_add (u_nam 1 (pv 1)) (u_dt u_int)) (ua_cons (u_tup (ua_cons u_int ua_nil)) ua_nil))) (ua_cons (u_tup (ua_cons u_bl (ua_cons (u_tup (ua_cons u_int ua_nil)) ua_nil))) ua_nil))))))))))))))
    (us_cons (us_set 2 sc.nd (u_op op_addU od_add (u_nam 2 (pv 2)) (u_dt (u_ls (u_lst (ua_cons (u_tup (ua_cons u_int (ua_cons (u_ls (u_lst (ua_cons u_int ua_nil))) ua_nil))) (ua_cons (u_tup (ua_cons u_int (ua_cons (u_tup (ua_cons u_int (ua_cons u_int ua_nil))) ua_nil))) (ua_cons (u_tup (ua_cons u_int (ua_cons (u_tup (ua_cons u_int (ua_cons (u_neg (u_dt u_int)) ua_nil))) ua_nil))) (ua_cons (u_tup (ua_cons u_int (ua_cons (u_tup (ua_cons u_int ua_nil)) (ua_cons u_int ua_nil)))) (ua_cons (u_tup (ua_cons u_int (ua_cons u_int ua_nil))) (ua_cons (u_tup (ua_cons u_int (ua_cons (u_tup (ua_cons (u_op op_addU od_add (u_nam 1 (pv 1)) (u_dt u_int)) ua_nil)) ua_nil))) (ua_cons (u_tup (ua_cons u_int (ua_cons (u_tup (ua_cons u_bl ua_nil)) ua_nil))) ua_nil))))))))))))
    (us_one (us_ret (u_callH G_law_pick hr (takes_of rfl rfl rfl rfl) (ua_cons (u_give (u_nam 0 (pv 0))) (ua_cons (u_op op_addU od_add (u_nam 2 (pv 2)) (u_dt (u_ls (u_lst (ua_cons (u_tup (ua_cons u_str (ua_cons (u_tup (ua_cons u_int ua_nil)) ua_nil))) ua_nil))))) ua_nil)))))))

/-! ### _law_rn_move -/
abbrev s_law_rn_move : Stmt := topS 55
abbrev N_law_rn_move : List Str := ["_law_state", "_law_deeds", "_law_letter", "_law_others", "_law_lot", "_law_item"]
theorem sc_law_rn_move : FnScope N_law_rn_move ["_law_state", "_law_deeds"] (defScope s_law_rn_move) := ⟨rfl, rfl, rfl, by decide +kernel, rfl, by decide +kernel, by decide +kernel⟩
def p_law_rn_move (en : En) : PM :=
    (seqP (setV 2 (callM 2 (F_law_pick en) (consM (bnd (nam 0) give) (consM (callM 1 (F_law_mk_letters en) (consM (bnd (nam 1) give) (ret []))) (ret [])))))
    (seqP (setV 3 (ls1 (lcM (itemsM (callM 1 (F_law_mk_letters en) (consM (bnd (nam 1) give) (ret [])))) (tgName 5) (bnd (bin neD (dt (uno absD (nam 5))) (dt (uno absD (nam 2)))) isB) (bnd (nam 5) give) [5])))
    (seqP (setV 4 (ls1 (lcM (itemsM (bnd (nam 3) give)) (tgName 5) (bnd (bin eqD (dt (callM 2 FDraw (consM (bnd (nam 0) give) (consM (ret (.int 2)) (ret []))))) (dt (ret (.int 1)))) isB) (bnd (nam 5) give) [5])))
    (retP (tupM (consM (bnd (nam 2) give) (consM (uno tupleD (dt (ls1 (uno sortedD (dt (ifM (bnd (bin neD (nam 4) (dt (ls1 (lstM (ret []))))) isB) (bnd (nam 4) give) (ls1 (lstM (consM (callM 2 (F_law_pick en) (consM (bnd (nam 0) give) (consM (bnd (nam 3) give) (ret [])))) (ret [])))))))))) (ret []))))))))
def F_law_rn_move (en : En) : FS := fun ds ls => endF (p_law_rn_move en (ini 6 ds) ls)
theorem ok_law_rn_move (S : SF K mg en) {f : Addr} {fd : FuncData} (F : Fun K "_law_rn_move" "_law_rn_move" s_law_rn_move f fd) (G_law_draw : Has P w K mg base "_law_draw" ["_law_state", "_law_room"] 2 2 FDraw) (G_law_mk_letters : Has P w K mg base "_law_mk_letters" ["_law_deeds"] 1 1 (F_law_mk_letters en)) (G_law_pick : Has P w K mg base "_law_pick" ["_law_state", "_law_some"] 3 2 (F_law_pick en)) : FnOk P w K mg base (L2.CX P w) 4 f fd ["_law_state", "_law_deeds"] (spD K 2 (F_law_rn_move en)) := by
  have sc := sc_law_rn_move
  refine fn_ok F sc rfl (fun cdv A outer s H E hr => ?_) (p := p_law_rn_move en) fun ds ls h => .inr rfl
  exact (us_cons (us_set 2 sc.nd (u_callH G_law_pick hr (takes_of rfl rfl rfl rfl) (ua_cons (u_give (u_nam 0 (pv 0))) (ua_cons (u_callH G_law_mk_letters hr (takes_of rfl rfl rfl rfl) (ua_cons (u_give (u_nam 1 (pv 1))) ua_nil)) ua_nil))))
    (us_cons (us_setLcV (i := 3) (own := [("_law_item", 5)]) rfl sc.nd (ui_seq (u_callH G_law_mk_letters hr (takes_of rfl rfl rfl rfl) (ua_cons (u_give (u_nam 1 (pv 1))) ua_nil))) (blkOk_by (N := N_law_rn_move) (sc := defScope s_law_rn_move) (by decide +kernel)) tg_name (by decide) (fun _ _ _ _ _ => (pg_name (i := 5) sc.nd rfl (by first | exact Or.inl rfl | exact Or.inr rfl))) (fun _ _ _ _ _ => (uts_one (ut_cmp (op_neD hr.units) od_ne (u_dt (u_abs S.m_abs (u_nam 5 (pv 5)))) (u_dt (u_abs S.m_abs (u_nam 2 (pv 2)))) (nomark _)))) (fun _ _ _ _ _ => (u_give (u_nam 5 (pv 5)))) rfl)
    (us_cons (us_setLcV (i := 4) (own := [("_law_item", 5)]) rfl sc.nd (ui_seq (u_give (u_nam 3 (pv 3)))) (blkOk_by (N := N_law_rn_move) (sc := defScope s_law_rn_move) (by decide +kernel)) tg_name (by decide) (fun _ _ _ _ _ => (pg_name (i := 5) sc.nd rfl (by first | exact Or.inl rfl | exact Or.inr rfl))) (fun _ _ _ _ _ => (uts_one (ut_cmp (op_eqD hr.units) od_eq (u_dt (u_callH G_law_draw hr LamX.takes0 (ua_cons (u_give (u_nam 0 (pv 0))) (ua_cons u_int ua_nil)))) (u_dt u_int) (nomark _)))) (fun _ _ _ _ _ => (u_give (u_nam 5 (pv 5)))) rfl)
    (us_one (us_ret (u_tup (ua_cons (u_give (u_nam 2 (pv 2))) (ua_cons (u_tuple S.m_tuple (u_dt (u_ls (u_sorted S.m_sorted (u_dt (u_if (ut_cmp (op_neD hr.units) od_ne (u_nam 4 (pv 4)) (u_dt (u_ls (u_lst ua_nil))) (nomark _)) (u_give (u_nam 4 (pv 4))) (u_ls (u_lst (ua_cons (u_callH G_law_pick hr (takes_of rfl rfl rfl rfl) (ua_cons (u_give (u_nam 0 (pv 0))) (ua_cons (u_give (u_nam 3 (pv 3))) ua_nil))) ua_nil))))))))) ua_nil))))))))

/-! ### need_rows -/
abbrev s_need_rows : Stmt := topS 16
abbrev N_need_rows : List Str := ["deeds", "rows", "row"]
theorem sc_need_rows : FnScope N_need_rows ["deeds", "rows"] (defScope s_need_rows) := ⟨rfl, rfl, rfl, by decide +kernel, rfl, by decide +kernel, by decide +kernel⟩
def p_need_rows (en : En) : PM :=
    (seqP (ifP (orM (notM (bnd (uno (isi2D .list .tuple) (nam 1)) isB)) (bnd (bin gtD (dt (uno lenD (nam 1))) (dt (ret (.int 6)))) isB)) (rsP en.BadRows) skip)
    (seqP (ifP (notM (bnd (uno allD (dt (ls1 (lcM (itemsM (bnd (nam 1) give)) (tgName 2) (ret true) (callM 2 (F_fits_row en) (consM (bnd (nam 0) give) (consM (bnd (nam 2) give) (ret [])))) [2])))) isB)) (rsP en.BadRows) skip)
    (retP (ls1 (lcM (itemsM (bnd (nam 1) give)) (tgName 2) (ret true) (callM 1 (F_plain_of en) (consM (bnd (nam 2) give) (ret []))) [2])))))
def F_need_rows (en : En) : FS := fun ds ls => endF (p_need_rows en (ini 3 ds) ls)
theorem ok_need_rows (S : SF K mg en) {f : Addr} {fd : FuncData} (F : Fun K "need_rows" "need_rows" s_need_rows f fd) (G_fits_row : Has P w K mg base "fits_row" ["deeds", "value"] 4 2 (F_fits_row en)) (G_plain_of : Has P w K mg base "plain_of" ["letters"] 1 1 (F_plain_of en)) : FnOk P w K mg base (L2.CX P w) 5 f fd ["deeds", "rows"] (spD K 2 (F_need_rows en)) := by
  have sc := sc_need_rows
  refine fn_ok F sc rfl (fun cdv A outer s H E hr => ?_) (p := p_need_rows en) fun ds ls h => .inr rfl
  exact (us_cons (us_if (PW.pt (ut_or (ut_not (ut_val (u_isi2 .list .tuple S.m_isinstance (u_nam 1 (pv 1)) (pe_ty S.m_list) (pe_ty S.m_tuple)))) (ut_or1 (ut_cmp op_gt od_gt (u_dt (u_len S.m_len (u_nam 1 (pv 1)))) (u_dt (u_gint S.g_MOST_ROWS)) (nomark _))))) (us_one (us_raise S.c_BadRows rfl (takes_of rfl rfl rfl rfl))) us_nil)
    (us_cons (us_if (ut_not (ut_val (u_all S.m_all rfl (u_dt (u_ls (u_lc (own := [("row", 2)]) rfl sc.nd (ui_seq (u_give (u_nam 1 (pv 1)))) (blkOk_by (N := N_need_rows) (sc := defScope s_need_rows) (by decide +kernel)) tg_name (by decide) (fun _ _ _ _ _ => (pg_name (i := 2) sc.nd rfl (by first | exact Or.inl rfl | exact Or.inr rfl))) (fun _ _ _ _ _ => uts_nil) (fun _ _ _ _ _ => (u_callH G_fits_row hr LamX.takes0 (ua_cons (u_give (u_nam 0 (pv 0))) (ua_cons (u_give (u_nam 2 (pv 2))) ua_nil)))))))))) (us_one (us_raise S.c_BadRows rfl (takes_of rfl rfl rfl rfl))) us_nil)
    (us_one (us_ret (u_ls (u_lc (own := [("row", 2)]) rfl sc.nd (ui_seq (u_give (u_nam 1 (pv 1)))) (blkOk_by (N := N_need_rows) (sc := defScope s_need_rows) (by decide +kernel)) tg_name (by decide) (fun _ _ _ _ _ => (pg_name (i := 2) sc.nd rfl (by first | exact Or.inl rfl | exact Or.inr rfl))) (fun _ _ _ _ _ => uts_nil) (fun _ _ _ _ _ => (u_callH G_plain_of hr LamX.takes0 (ua_cons (u_give (u_nam 2 (pv 2))) ua_nil)))))))))

/-! ### _law_sh_base -/
abbrev s_law_sh_base : Stmt := topS 52
abbrev N_law_sh_base : List Str := ["_law_state", "_law_deeds", "_law_way", "_law_one", "_law_other", "_law_some"]
theorem sc_law_sh_base : FnScope N_law_sh_base ["_law_state", "_law_deeds"] (defScope s_law_sh_base) := ⟨rfl, rfl, rfl, by decide +kernel, rfl, by decide +kernel, by decide +kernel⟩
def p_law_sh_base (en : En) : PM :=
    (seqP (setV 2 (callM 2 FDraw (consM (bnd (nam 0) give) (consM (ret (.int 6)) (ret [])))))
    (seqP (setV 3 (bin addD (dt (ret (.int 1))) (dt (callM 2 FDraw (consM (bnd (nam 0) give) (consM (bnd (nam 1) give) (ret [])))))))
    (seqP (setV 4 (bin addD (dt (ret (.int 1))) (dt (bin modD (dt (uno intD (dt (bin addD (nam 3) (dt (callM 2 FDraw (consM (bnd (nam 0) give) (consM (bin maxD (dt (ret (.int 1))) (dt (bin subD (nam 1) (dt (ret (.int 1)))))) (ret []))))))))) (nam 1)))))
    (seqP (setV 5 (ls1 (lstM (consM (tupM (consM (bnd (nam 3) give) (ret []))) (consM (bin mulD (dt (tupM (consM (bnd (nam 3) give) (ret [])))) (dt (bin addD (dt (ret (.int 2))) (dt (callM 2 FDraw (consM (bnd (nam 0) give) (consM (ret (.int 3)) (ret [])))))))) (consM (tupM (consM (bnd (nam 3) give) (consM (bnd (nam 4) give) (consM (bin subD (dt (ret (.int 0))) (nam 3)) (consM (bin subD (dt (ret (.int 0))) (nam 4)) (ret [])))))) (consM (tupM (consM (bnd (nam 3) give) (consM (bnd (nam 3) give) (consM (bnd (nam 4) give) (consM (bnd (nam 4) give) (ret [])))))) (ret []))))))))
    (seqP (ifP (bnd (bin ltD (nam 2) (dt (ret (.int 4)))) isB) (retP (callM 1 (F_law_mk_plain en) (consM (bin atD (nam 5) (nam 2)) (ret [])))) skip)
    (retP (callM 4 (F_law_mk_row en) (consM (bnd (nam 0) give) (consM (bnd (nam 1) give) (consM (ifM (bnd (bin eqD (nam 2) (dt (ret (.int 4)))) isB) (ret (.int 0)) (ret (.int 2))) (consM (ret (.int 5)) (ret []))))))))))))
def F_law_sh_base (en : En) : FS := fun ds ls => endF (p_law_sh_base en (ini 6 ds) ls)
theorem ok_law_sh_base (S : SF K mg en) {f : Addr} {fd : FuncData} (F : Fun K "_law_sh_base" "_law_sh_base" s_law_sh_base f fd) (G_law_draw : Has P w K mg base "_law_draw" ["_law_state", "_law_room"] 2 2 FDraw) (G_law_mk_plain : Has P w K mg base "_law_mk_plain" ["_law_letters"] 1 1 (F_law_mk_plain en)) (G_law_mk_row : Has P w K mg base "_law_mk_row" ["_law_state", "_law_deeds", "_law_least", "_law_most"] 4 4 (F_law_mk_row en)) : FnOk P w K mg base (L2.CX P w) 5 f fd ["_law_state", "_law_deeds"] (spD K 2 (F_law_sh_base en)) := by
  have sc := sc_law_sh_base
  refine fn_ok F sc rfl (fun cdv A outer s H E hr => ?_) (p := p_law_sh_base en) fun ds ls h => .inr rfl
  exact (us_cons (us_set 2 sc.nd (u_callH G_law_draw hr (takes_of rfl rfl rfl rfl) (ua_cons (u_give (u_nam 0 (pv 0))) (ua_cons u_int ua_nil))))
    (us_cons (us_set 3 sc.nd (u_op op_addU od_add (u_dt u_int) (u_dt (u_callH G_law_draw hr (takes_of rfl rfl rfl rfl) (ua_cons (u_give (u_nam 0 (pv 0))) (ua_cons (u_give (u_nam 1 (pv 1))) ua_nil))))))
    (us_cons (us_set 4 sc.nd (u_op op_addU od_add (u_dt u_int) (u_dt (u_op op_mod od_mod (u_dt (u_intc S.m_int (u_dt (u_op op_addU od_add (u_nam 3 (pv 3)) (u_dt (u_callH G_law_draw hr (takes_of rfl rfl rfl rfl) (ua_cons (u_give (u_nam 0 (pv 0))) (ua_cons (u_max S.m_max rfl (u_dt u_int) (u_dt (u_op op_sub od_sub (u_nam 1 (pv 1)) (u_dt u_int)))) ua_nil)))))))) (u_nam 1 (pv 1))))))
    (us_cons (us_set 5 sc.nd (u_ls (u_lst (ua_cons (u_tup (ua_cons (u_give (u_nam 3 (pv 3))) ua_nil)) (ua_cons (u_op op_mulU od_mul (u_dt (u_tup (ua_cons (u_give (u_nam 3 (pv 3))) ua_nil))) (u_dt (u_op op_addU od_add (u_dt u_int) (u_dt (u_callH G_law_draw hr (takes_of rfl rfl rfl rfl) (ua_cons (u_give (u_nam 0 (pv 0))) (ua_cons u_int ua_nil))))))) (ua_cons (u_tup (ua_cons (u_give (u_nam 3 (pv 3))) (ua_cons (u_give (u_nam 4 (pv 4))) (ua_cons (u_op op_sub od_sub (u_dt u_int) (u_nam 3 (pv 3))) (ua_cons (u_op op_sub od_sub (u_dt u_int) (u_nam 4 (pv 4))) ua_nil))))) (ua_cons (u_tup (ua_cons (u_give (u_nam 3 (pv 3))) (ua_cons (u_give (u_nam 3 (pv 3))) (ua_cons (u_give (u_nam 4 (pv 4))) (ua_cons (u_give (u_nam 4 (pv 4))) ua_nil))))) ua_nil)))))))
    (us_cons (us_if (ut_cmp op_lt od_lt (u_nam 2 (pv 2)) (u_dt u_int) (nomark _)) (us_one (us_ret (u_callH G_law_mk_plain hr (takes_of rfl rfl rfl rfl) (ua_cons (u_at (u_nam 5 (pv 5)) (u_nam 2 (pv 2)) (fun _ _ => rfl)) ua_nil)))) us_nil)
    (us_one (us_ret (u_callH G_law_mk_row hr (takes_of rfl rfl rfl rfl) (ua_cons (u_give (u_nam 0 (pv 0))) (ua_cons (u_give (u_nam 1 (pv 1))) (ua_cons (u_if (ut_cmp (op_eqD hr.units) od_eq (u_nam 2 (pv 2)) (u_dt u_int) (nomark _)) u_int u_int) (ua_cons u_int ua_nil))))))))))))

/-! ### need_row_rings -/
abbrev s_need_row_rings : Stmt := topS 27
abbrev N_need_row_rings : List Str := ["deeds", "rows", "row"]
theorem sc_need_row_rings : FnScope N_need_row_rings ["deeds", "rows"] (defScope s_need_row_rings) := ⟨rfl, rfl, rfl, by decide +kernel, rfl, by decide +kernel, by decide +kernel⟩
def p_need_row_rings (en : En) : PM :=
    (seqP (drop (callM 1 (F_need_deeds en) (consM (bnd (nam 0) give) (ret []))))
    (retP (ls1 (lcM (itemsM (callM 2 (F_need_rows en) (consM (bnd (nam 0) give) (consM (bnd (nam 1) give) (ret []))))) (tgName 2) (ret true) (callM 1 (F_ring_in en) (consM (bnd (nam 2) give) (ret []))) [2]))))
def F_need_row_rings (en : En) : FS := fun ds ls => endF (p_need_row_rings en (ini 3 ds) ls)
theorem ok_need_row_rings (S : SF K mg en) {f : Addr} {fd : FuncData} (F : Fun K "need_row_rings" "need_row_rings" s_need_row_rings f fd) (G_need_deeds : Has P w K mg base "need_deeds" ["deeds"] 3 1 (F_need_deeds en)) (G_need_rows : Has P w K mg base "need_rows" ["deeds", "rows"] 5 2 (F_need_rows en)) (G_ring_in : Has P w K mg base "ring_in" ["row"] 3 1 (F_ring_in en)) : FnOk P w K mg base (L2.CX P w) 6 f fd ["deeds", "rows"] (spD K 2 (F_need_row_rings en)) := by
  have sc := sc_need_row_rings
  refine fn_ok F sc rfl (fun cdv A outer s H E hr => ?_) (p := p_need_row_rings en) fun ds ls h => .inr rfl
  exact (us_cons (us_expr (u_callH G_need_deeds hr (takes_of rfl rfl rfl rfl) (ua_cons (u_give (u_nam 0 (pv 0))) ua_nil)))
    (us_one (us_ret (u_ls (u_lc (own := [("row", 2)]) rfl sc.nd (ui_seq (u_callH G_need_rows hr (takes_of rfl rfl rfl rfl) (ua_cons (u_give (u_nam 0 (pv 0))) (ua_cons (u_give (u_nam 1 (pv 1))) ua_nil)))) (blkOk_by (N := N_need_row_rings) (sc := defScope s_need_row_rings) (by decide +kernel)) tg_name (by decide) (fun _ _ _ _ _ => (pg_name (i := 2) sc.nd rfl (by first | exact Or.inl rfl | exact Or.inr rfl))) (fun _ _ _ _ _ => uts_nil) (fun _ _ _ _ _ => (u_callH G_ring_in hr LamX.takes0 (ua_cons (u_give (u_nam 2 (pv 2))) ua_nil))))))))

/-! ### _law_cu_rows -/
abbrev s_law_cu_rows : Stmt := topS 56
abbrev N_law_cu_rows : List Str := ["_law_state", "_law_deeds", "_law_images", "_law_way", "_law_found", "_law_some", "_law_cut", "_law_lot", "_law_row", "_law_lap"]
theorem sc_law_cu_rows : FnScope N_law_cu_rows ["_law_state", "_law_deeds"] (defScope s_law_cu_rows) := ⟨rfl, rfl, rfl, by decide +kernel, rfl, by decide +kernel, by decide +kernel⟩
def p_law_cu_rows (en : En) : PM :=
    (seqP (par2 3 4 (consM (callM 2 FDraw (consM (bnd (nam 0) give) (consM (ret (.int 4)) (ret [])))) (consM (ls1 (lstM (ret []))) (ret []))))
    (seqP (ifP (bnd (bin eqD (nam 3) (dt (ret (.int 0)))) isB) (setV 4 (ls1 (lstM (consM (tupM (consM (bin addD (dt (ret (.int 1))) (dt (callM 2 FDraw (consM (bnd (nam 0) give) (consM (bnd (nam 1) give) (ret [])))))) (ret []))) (ret []))))) (ifP (bnd (bin eqD (nam 3) (dt (ret (.int 1)))) isB) (seqP (setV 5 (callM 2 (F_law_shuffled en) (consM (bnd (nam 0) give) (consM (ls1 (bin lr2D (dt (ret (.int 1))) (dt (bin addD (nam 1) (dt (ret (.int 1))))))) (ret [])))))
    (seqP (setV 6 (bin addD (dt (ret (.int 1))) (dt (callM 2 FDraw (consM (bnd (nam 0) give) (consM (bin maxD (dt (ret (.int 1))) (dt (bin subD (nam 1) (dt (ret (.int 1)))))) (ret [])))))))
    (forP (tgName 7) (itemsM (tupM (consM (cutM cutD (nam 5) (ret none) (partM (bnd (nam 6) give))) (consM (cutM cutD (nam 5) (partM (bnd (nam 6) give)) (ret none)) (ret []))))) (setV 4 (bin addD (nam 4) (dt (ls1 (lcM (bnd (consM (bin addD (dt (ret (.int 1))) (dt (callM 2 FDraw (consM (bnd (nam 0) give) (consM (ret (.int 2)) (ret [])))))) (ret [])) fun ds => opt (rng1D ds)) (tgName 9) (bnd (bin neD (nam 7) (dt (ls1 (lstM (ret []))))) isB) (callM 4 (F_law_mk_of_deeds en) (consM (bnd (nam 0) give) (consM (bnd (nam 7) give) (consM (ret (.int 1)) (consM (ret (.int 4)) (ret [])))))) [9])))))))) (setV 4 (ls1 (lcM (bnd (consM (bin addD (dt (ret (.int 1))) (dt (callM 2 FDraw (consM (bnd (nam 0) give) (consM (ret (.int 3)) (ret [])))))) (ret [])) fun ds => opt (rng1D ds)) (tgName 9) (ret true) (callM 2 (F_law_sh_base en) (consM (bnd (nam 0) give) (consM (bnd (nam 1) give) (ret [])))) [9])))))
    (seqP (setV 2 (bin atD (dt (callM 3 (F_law_mk_renaming en) (consM (bnd (nam 0) give) (consM (bnd (nam 1) give) (consM (callM 2 FDraw (consM (bnd (nam 0) give) (consM (ret (.int 4)) (ret [])))) (ret [])))))) (dt (ret (.int 0)))))
    (retP (ls1 (lcM (itemsM (bnd (nam 4) give)) (tgName 8) (ret true) (callM 2 (F_law_rn_turned en) (consM (callM 2 (F_law_mk_renamed en) (consM (bnd (nam 2) give) (consM (bnd (nam 8) give) (ret [])))) (consM (callM 4 (F_law_mk_row en) (consM (bnd (nam 0) give) (consM (bnd (nam 1) give) (consM (ret (.int 0)) (consM (ret (.int 2)) (ret [])))))) (ret [])))) [8]))))))
def F_law_cu_rows (en : En) : FS := fun ds ls => endF (p_law_cu_rows en (ini 10 ds) ls)
theorem ok_law_cu_rows (S : SF K mg en) {f : Addr} {fd : FuncData} (F : Fun K "_law_cu_rows" "_law_cu_rows" s_law_cu_rows f fd) (G_law_draw : Has P w K mg base "_law_draw" ["_law_state", "_law_room"] 2 2 FDraw) (G_law_mk_of_deeds : Has P w K mg base "_law_mk_of_deeds" ["_law_state", "_law_some", "_law_least", "_law_most"] 4 4 (F_law_mk_of_deeds en)) (G_law_mk_renamed : Has P w K mg base "_law_mk_renamed" ["_law_images", "_law_row"] 2 2 (F_law_mk_renamed en)) (G_law_mk_renaming : Has P w K mg base "_law_mk_renaming" ["_law_state", "_law_deeds", "_law_steps"] 3 3 (F_law_mk_renaming en)) (G_law_mk_row : Has P w K mg base "_law_mk_row" ["_law_state", "_law_deeds", "_law_least", "_law_most"] 4 4 (F_law_mk_row en)) (G_law_rn_turned : Has P w K mg base "_law_rn_turned" ["_law_row", "_law_by"] 2 2 (F_law_rn_turned en)) (G_law_sh_base : Has P w K mg base "_law_sh_base" ["_law_state", "_law_deeds"] 5 2 (F_law_sh_base en)) (G_law_shuffled : Has P w K mg base "_law_shuffled" ["_law_state", "_law_some"] 3 2 (F_law_shuffled en)) : FnOk P w K mg base (L2.CX P w) 6 f fd ["_law_state", "_law_deeds"] (spD K 2 (F_law_cu_rows en)) := by
  have sc := sc_law_cu_rows
  refine fn_ok F sc rfl (fun cdv A outer s H E hr => ?_) (p := p_law_cu_rows en) fun ds ls h => .inr rfl
  exact (us_cons (us_par 3 4 rfl sc.nd (ua_cons (u_callH G_law_draw hr (takes_of rfl rfl rfl rfl) (ua_cons (u_give (u_nam 0 (pv 0))) (ua_cons u_int ua_nil))) (ua_cons (u_ls (u_lst ua_nil)) ua_nil)))
    (us_cons (us_if (ut_cmp (op_eqD hr.units) od_eq (u_nam 3 (pv 3)) (u_dt u_int) (nomark _)) (us_one (us_set 4 sc.nd (u_ls (u_lst (ua_cons (u_tup (ua_cons (u_op op_addU od_add (u_dt u_int) (u_dt (u_callH G_law_draw hr (takes_of rfl rfl rfl rfl) (ua_cons (u_give (u_nam 0 (pv 0))) (ua_cons (u_give (u_nam 1 (pv 1))) ua_nil))))) ua_nil)) ua_nil))))) (us_one (us_if (ut_cmp (op_eqD hr.units) od_eq (u_nam 3 (pv 3)) (u_dt u_int) (nomark _)) (us_cons (us_set 5 sc.nd (u_callH G_law_shuffled hr (takes_of rfl rfl rfl rfl) (ua_cons (u_give (u_nam 0 (pv 0))) (ua_cons (u_ls (u_listRange2 rfl S.m_list S.m_range (u_dt u_int) (u_dt (u_op op_addU od_add (u_nam 1 (pv 1)) (u_dt u_int))))) ua_nil))))
    (us_cons (us_set 6 sc.nd (u_op op_addU od_add (u_dt u_int) (u_dt (u_callH G_law_draw hr (takes_of rfl rfl rfl rfl) (ua_cons (u_give (u_nam 0 (pv 0))) (ua_cons (u_max S.m_max rfl (u_dt u_int) (u_dt (u_op op_sub od_sub (u_nam 1 (pv 1)) (u_dt u_int)))) ua_nil))))))
    (us_one (us_for (passes_of rfl) rfl (ui_seq (u_tup (ua_cons (u_cut (u_nam 5 (pv 5)) uo_none (uo_some (u_give (u_nam 6 (pv 6))))) (ua_cons (u_cut (u_nam 5 (pv 5)) (uo_some (u_give (u_nam 6 (pv 6)))) uo_none) ua_nil)))) (pg_name (i := 7) sc.nd rfl (by first | exact Or.inl rfl | exact Or.inr rfl)) tg_name (us_one (us_set 4 sc.nd (u_op op_addU od_add (u_nam 4 (pv 4)) (u_dt (u_ls (u_lc (own := [("_law_lap", 9)]) rfl sc.nd (ui_range1 S.m_range (ua_cons (u_op op_addU od_add (u_dt u_int) (u_dt (u_callH G_law_draw hr (takes_of rfl rfl rfl rfl) (ua_cons (u_give (u_nam 0 (pv 0))) (ua_cons u_int ua_nil))))) ua_nil)) (blkOk_by (N := N_law_cu_rows) (sc := defScope s_law_cu_rows) (by decide +kernel)) tg_name (by decide) (fun _ _ _ _ _ => (pg_name (i := 9) sc.nd rfl (by first | exact Or.inl rfl | exact Or.inr rfl))) (fun _ _ _ _ _ => (uts_one (ut_cmp (op_neD hr.units) od_ne (u_nam 7 (pv 7)) (u_dt (u_ls (u_lst ua_nil))) (nomark _)))) (fun _ _ _ _ _ => (u_callH G_law_mk_of_deeds hr LamX.takes0 (ua_cons (u_give (u_nam 0 (pv 0))) (ua_cons (u_give (u_nam 7 (pv 7))) (ua_cons u_int (ua_cons u_int ua_nil)))))))))))))))) (us_one (us_setLcV (i := 4) (own := [("_law_lap", 9)]) rfl sc.nd (ui_range1 S.m_range (ua_cons (u_op op_addU od_add (u_dt u_int) (u_dt (u_callH G_law_draw hr (takes_of rfl rfl rfl rfl) (ua_cons (u_give (u_nam 0 (pv 0))) (ua_cons u_int ua_nil))))) ua_nil)) (blkOk_by (N := N_law_cu_rows) (sc := defScope s_law_cu_rows) (by decide +kernel)) tg_name (by decide) (fun _ _ _ _ _ => (pg_name (i := 9) sc.nd rfl (by first | exact Or.inl rfl | exact Or.inr rfl))) (fun _ _ _ _ _ => uts_nil) (fun _ _ _ _ _ => (u_callH G_law_sh_base hr LamX.takes0 (ua_cons (u_give (u_nam 0 (pv 0))) (ua_cons (u_give (u_nam 1 (pv 1))) ua_nil)))) rfl)))))
    (us_cons (us_set 2 sc.nd (u_at (u_dt (u_callH G_law_mk_renaming hr (takes_of rfl rfl rfl rfl) (ua_cons (u_give (u_nam 0 (pv 0))) (ua_cons (u_give (u_nam 1 (pv 1))) (ua_cons (u_callH G_law_draw hr (takes_of rfl rfl rfl rfl) (ua_cons (u_give (u_nam 0 (pv 0))) (ua_cons u_int ua_nil))) ua_nil))))) (u_dt u_int) (fun _ _ => rfl)))
    (us_one (us_ret (u_ls (u_lc (own := [("_law_row", 8)]) rfl sc.nd (ui_seq (u_give (u_nam 4 (pv 4)))) (blkOk_by (N := N_law_cu_rows) (sc := defScope s_law_cu_rows) (by decide +kernel)) tg_name (by decide) (fun _ _ _ _ _ => (pg_name (i := 8) sc.nd rfl (by first | exact Or.inl rfl | exact Or.inr rfl))) (fun _ _ _ _ _ => uts_nil) (fun _ _ _ _ _ => (u_callH G_law_rn_turned hr LamX.takes0 (ua_cons (u_callH G_law_mk_renamed hr LamX.takes0 (ua_cons (u_give (u_nam 2 (pv 2))) (ua_cons (u_give (u_nam 8 (pv 8))) ua_nil))) (ua_cons (u_callH G_law_mk_row hr LamX.takes0 (ua_cons (u_give (u_nam 0 (pv 0))) (ua_cons (u_give (u_nam 1 (pv 1))) (ua_cons u_int (ua_cons u_int ua_nil))))) ua_nil)))))))))))

/-! ### neighbours -/
abbrev s_neighbours : Stmt := topS 30
abbrev N_neighbours : List Str := ["deeds", "rows"]
theorem sc_neighbours : FnScope N_neighbours ["deeds", "rows"] (defScope s_neighbours) := ⟨rfl, rfl, rfl, by decide +kernel, rfl, by decide +kernel, by decide +kernel⟩
def p_neighbours (en : En) : PM :=
    (retP (callM 1 (F_ties_in en) (consM (callM 2 (F_need_row_rings en) (consM (bnd (nam 0) give) (consM (bnd (nam 1) give) (ret [])))) (ret []))))
def F_neighbours (en : En) : FS := fun ds ls => endF (p_neighbours en (ini 2 ds) ls)
theorem ok_neighbours (S : SF K mg en) {f : Addr} {fd : FuncData} (F : Fun K "neighbours" "neighbours" s_neighbours f fd) (G_need_row_rings : Has P w K mg base "need_row_rings" ["deeds", "rows"] 6 2 (F_need_row_rings en)) (G_ties_in : Has P w K mg base "ties_in" ["rings"] 1 1 (F_ties_in en)) : FnOk P w K mg base (L2.CX P w) 7 f fd ["deeds", "rows"] (spD K 2 (F_neighbours en)) := by
  have sc := sc_neighbours
  refine fn_ok F sc rfl (fun cdv A outer s H E hr => ?_) (p := p_neighbours en) fun ds ls h => .inr rfl
  exact (us_one (us_ret (u_callH G_ties_in hr (takes_of rfl rfl rfl rfl) (ua_cons (u_callH G_need_row_rings hr (takes_of rfl rfl rfl rfl) (ua_cons (u_give (u_nam 0 (pv 0))) (ua_cons (u_give (u_nam 1 (pv 1))) ua_nil))) ua_nil))))

/-! ### length_behind -/
abbrev s_length_behind : Stmt := topS 31
abbrev N_length_behind : List Str := ["deeds", "rows", "move", "rings", "ring"]
theorem sc_length_behind : FnScope N_length_behind ["deeds", "rows", "move"] (defScope s_length_behind) := ⟨rfl, rfl, rfl, by decide +kernel, rfl, by decide +kernel, by decide +kernel⟩
def p_length_behind (en : En) : PM :=
    (seqP (setV 3 (callM 2 (F_need_row_rings en) (consM (bnd (nam 0) give) (consM (bnd (nam 1) give) (ret [])))))
    (seqP (drop (callM 2 (F_need_move en) (consM (bnd (nam 0) give) (consM (bnd (nam 2) give) (ret [])))))
    (retP (bin addD (dt (uno sumD (dt (ls1 (lcM (itemsM (bnd (nam 3) give)) (tgName 4) (ret true) (uno lenD (nam 4)) [4]))))) (dt (callM 2 (F_growth_by en) (consM (callM 1 (F_ties_in en) (consM (bnd (nam 3) give) (ret []))) (consM (bnd (nam 2) give) (ret [])))))))))
def F_length_behind (en : En) : FS := fun ds ls => endF (p_length_behind en (ini 5 ds) ls)
theorem ok_length_behind (S : SF K mg en) {f : Addr} {fd : FuncData} (F : Fun K "length_behind" "length_behind" s_length_behind f fd) (G_growth_by : Has P w K mg base "growth_by" ["ties", "move"] 1 2 (F_growth_by en)) (G_need_move : Has P w K mg base "need_move" ["deeds", "value"] 4 2 (F_need_move en)) (G_need_row_rings : Has P w K mg base "need_row_rings" ["deeds", "rows"] 6 2 (F_need_row_rings en)) (G_ties_in : Has P w K mg base "ties_in" ["rings"] 1 1 (F_ties_in en)) : FnOk P w K mg base (L2.CX P w) 7 f fd ["deeds", "rows", "move"] (spD K 3 (F_length_behind en)) := by
  have sc := sc_length_behind
  refine fn_ok F sc rfl (fun cdv A outer s H E hr => ?_) (p := p_length_behind en) fun ds ls h => .inr rfl
  exact (us_cons (us_set 3 sc.nd (u_callH G_need_row_rings hr (takes_of rfl rfl rfl rfl) (ua_cons (u_give (u_nam 0 (pv 0))) (ua_cons (u_give (u_nam 1 (pv 1))) ua_nil))))
    (us_cons (us_expr (u_callH G_need_move hr (takes_of rfl rfl rfl rfl) (ua_cons (u_give (u_nam 0 (pv 0))) (ua_cons (u_give (u_nam 2 (pv 2))) ua_nil))))
    (us_one (us_ret (u_op op_addU od_add (u_dt (u_sum S.m_sum rfl (u_dt (u_ls (u_lc (own := [("ring", 4)]) rfl sc.nd (ui_seq (u_give (u_nam 3 (pv 3)))) (blkOk_by (N := N_length_behind) (sc := defScope s_length_behind) (by decide +kernel)) tg_name (by decide) (fun _ _ _ _ _ => (pg_name (i := 4) sc.nd rfl (by first | exact Or.inl rfl | exact Or.inr rfl))) (fun _ _ _ _ _ => uts_nil) (fun _ _ _ _ _ => (u_len S.m_len (u_nam 4 (pv 4))))))))) (u_dt (u_callH G_growth_by hr (takes_of rfl rfl rfl rfl) (ua_cons (u_callH G_ties_in hr (takes_of rfl rfl rfl rfl) (ua_cons (u_give (u_nam 3 (pv 3))) ua_nil)) (ua_cons (u_give (u_nam 2 (pv 2))) ua_nil)))))))))
end
end Pd

set_option Elab.async false
set_option linter.all false
set_option maxRecDepth 100000
set_option maxHeartbeats 4000000
/-! the walk -/
namespace Pd
open PySem PySem.Spec PyProof.Rows L2
section
variable {P : Program} {w : World} {K : PySem.W.Frag} {mg : Str → Option Value} {base : Heap} {en : En}

/-! ### law -/
abbrev s_law : Stmt := topS 59
abbrev N_law : List Str := ["_law_script", "_law_state", "_law_turn", "_law_deeds", "_law_rows", "_law_rings", "_law_some", "_law_told", "_law_many", "_law_letter", "_law_lot", "_law_images", "_law_due", "_law_rest", "_law_bad", "_law_none", "_law_worse", "_law_row", "_law_lap", "_law_ring", "_law_x"]
theorem sc_law : FnScope N_law ["_law_script"] (defScope s_law) := ⟨rfl, rfl, rfl, by decide +kernel, rfl, by decide +kernel, by decide +kernel⟩
def p_law (en : En) : PM :=
    (seqP (forP (tgName 2) (bnd (consM (bin addD (dt (ret (.int 1))) (dt (bin minD (dt (uno lenD (nam 0))) (dt (ret (.int 2)))))) (ret [])) fun ds => opt (rng1D ds)) (seqP (setV 3 (callM 2 (F_law_pick en) (consM (bnd (nam 1) give) (consM (ls1 (lstM (consM (ret (.int 2)) (consM (ret (.int 3)) (consM (ret (.int 2)) (consM (ret (.int 4)) (ret []))))))) (ret [])))))
    (seqP (setV 4 (callM 2 (F_law_cu_rows en) (consM (bnd (nam 1) give) (consM (bnd (nam 3) give) (ret [])))))
    (seqP (setV 5 (ls1 (lcM (itemsM (bnd (nam 4) give)) (tgName 17) (ret true) (callM 1 (F_law_mk_ring en) (consM (bnd (nam 17) give) (ret []))) [17])))
    (seqP (par2 7 8 (consM (callM 2 (F_neighbours en) (consM (bnd (nam 3) give) (consM (ls1 (uno listD (nam 4))) (ret [])))) (consM (uno sumD (dt (ls1 (lcM (itemsM (bnd (nam 5) give)) (tgName 19) (ret true) (uno lenD (nam 19)) [19])))) (ret []))))
    (seqP (setV 6 (ifM (bnd (bin eqD (nam 3) (dt (ret (.int 2)))) isB) (callM 1 (F_law_sh_moves en) (consM (bnd (nam 3) give) (ret []))) (ls1 (lcM (bnd (consM (ret (.int 24)) (ret [])) fun ds => opt (rng1D ds)) (tgName 18) (ret true) (callM 2 (F_law_rn_move en) (consM (bnd (nam 1) give) (consM (bnd (nam 3) give) (ret [])))) [18]))))
    (seqP (forP (tgTup (tgCons (tgName 9) (tgCons (tgName 10) tgNil))) (itemsM (bnd (nam 6) give)) (seqP (setV 11 (callM 2 (F_law_sh_images en) (consM (bnd (nam 3) give) (consM (tupM (consM (bnd (nam 9) give) (consM (bnd (nam 10) give) (ret [])))) (ret [])))))
    (seqP (setV 12 (uno sumD (dt (ls1 (lcM (itemsM (bnd (nam 5) give)) (tgName 19) (ret true) (callM 1 (F_law_cu_spans en) (consM (callM 2 (F_law_mk_renamed en) (consM (bnd (nam 11) give) (consM (bnd (nam 19) give) (ret [])))) (ret []))) [19])))))
    (seqP (ifP (bnd (bin neD (dt (keyM 3 (F_length_behind en) 0 3 [2, 0, 1] (ret []) (consM (ls1 (uno listD (nam 4))) (consM (tupM (consM (bnd (nam 9) give) (consM (bnd (nam 10) give) (ret [])))) (consM (bnd (nam 3) give) (ret [])))))) (nam 12)) isB) (retP (ret (.bl false))) skip)
    (seqP (ifP (bnd (bin neD (dt (callM 4 (F_law_told_ahead en) (consM (bnd (nam 7) give) (consM (bnd (nam 8) give) (consM (bnd (nam 9) give) (consM (bnd (nam 10) give) (ret []))))))) (nam 12)) isB) (retP (ret (.bl false))) skip)
    (seqP (setV 13 (uno tupleD (dt (ls1 (uno sortedD (dt (ls1 (lcM (itemsM (callM 1 (F_law_mk_letters en) (consM (bnd (nam 3) give) (ret [])))) (tgName 20) (andM (bnd (bin neD (dt (uno absD (nam 20))) (dt (uno absD (nam 9)))) isB) (bnd (bin ninD (nam 20) (nam 10)) isB)) (bnd (nam 20) give) [20]))))))))
    (seqP (ifP (andM (bnd (bin eqD (nam 13) (dt (tupM (ret [])))) isB) (bnd (bin neD (nam 12) (nam 8)) isB)) (retP (ret (.bl false))) skip)
    (ifP (andM (bnd (bin neD (nam 13) (dt (tupM (ret [])))) isB) (bnd (bin neD (dt (callM 3 (F_length_behind en) (consM (bnd (nam 3) give) (consM (bnd (nam 4) give) (consM (tupM (consM (bin subD (dt (ret (.int 0))) (nam 9)) (consM (bnd (nam 13) give) (ret [])))) (ret [])))))) (nam 12)) isB)) (retP (ret (.bl false))) skip))))))))
    (seqP (lift (tupM (consM (callM 2 (F_law_sh_bad_move en) (consM (bnd (nam 1) give) (consM (bnd (nam 3) give) (ret [])))) (consM (callM 1 (F_law_mk_bad_deeds en) (consM (bnd (nam 1) give) (ret []))) (consM (callM 2 (F_law_mk_bad_rows en) (consM (bnd (nam 1) give) (consM (bnd (nam 3) give) (ret [])))) (ret []))))) (asgP (tgTup (tgCons (tgName 14) (tgCons (tgName 15) (tgCons (tgName 16) tgNil))))))
    (seqP (ifP (notM (bnd (uno (isiE en.t_BadMove) (dt (caughtM en.T en.cs (callM 3 (F_length_behind en) (consM (bnd (nam 3) give) (consM (bnd (nam 4) give) (consM (bnd (nam 14) give) (ret [])))))))) isB)) (retP (ret (.bl false))) skip)
    (seqP (ifP (notM (bnd (uno (isiE en.t_BadRows) (dt (caughtM en.T en.cs (callM 3 (F_length_behind en) (consM (bnd (nam 3) give) (consM (bnd (nam 16) give) (consM (bnd (nam 14) give) (ret [])))))))) isB)) (retP (ret (.bl false))) skip)
    (ifP (notM (bnd (uno (isiE en.t_BadDeeds) (dt (caughtM en.T en.cs (callM 3 (F_length_behind en) (consM (bnd (nam 15) give) (consM (bnd (nam 16) give) (consM (bnd (nam 14) give) (ret [])))))))) isB)) (retP (ret (.bl false))) skip)))))))))))
    (retP (ret (.bl true))))
theorem ok_lawbody (S : SF K mg en) {f fb : Addr} {fdb : FuncData} (Gb : FnOk P w K mg base (L2.CX P w) 1 fb fdb ["_law_script"] (spBegun K en.T)) (gb : mg "_law_begun" = some (.ref fb)) (kb : PySem.W.keepIn K (.ref fb) = true) (bb : L2.Binds K fdb ["_law_script"] []) {c Pt g : Addr} {fdc : FuncData} (C : CaF K mg g fdc) (TB : LamX.TabB base mg c Pt) (hmT : (Pt, ("law.<locals>." : Str) ++ "<lambda>") ∈ en.T) (hu : ∀ p ∈ en.T, p.1 = Pt → p.2 = ("law.<locals>." : Str) ++ "<lambda>") {A : Around} {outer : List Env} {s : Shared} {H : Hp} {E : XK} (hr : Room 9 (A.deeper (envOfC "law" (defScope s_law) s.heap.objs.size f (.ref c)))) (G_law_cu_rows : Has P w K mg base "_law_cu_rows" ["_law_state", "_law_deeds"] 6 2 (F_law_cu_rows en)) (G_law_cu_spans : Has P w K mg base "_law_cu_spans" ["_law_row"] 2 1 (F_law_cu_spans en)) (G_law_mk_bad_deeds : Has P w K mg base "_law_mk_bad_deeds" ["_law_state"] 4 1 (F_law_mk_bad_deeds en)) (G_law_mk_bad_rows : Has P w K mg base "_law_mk_bad_rows" ["_law_state", "_law_deeds"] 4 2 (F_law_mk_bad_rows en)) (G_law_mk_letters : Has P w K mg base "_law_mk_letters" ["_law_deeds"] 1 1 (F_law_mk_letters en)) (G_law_mk_renamed : Has P w K mg base "_law_mk_renamed" ["_law_images", "_law_row"] 2 2 (F_law_mk_renamed en)) (G_law_mk_ring : Has P w K mg base "_law_mk_ring" ["_law_row"] 2 1 (F_law_mk_ring en)) (G_law_pick : Has P w K mg base "_law_pick" ["_law_state", "_law_some"] 3 2 (F_law_pick en)) (G_law_rn_move : Has P w K mg base "_law_rn_move" ["_law_state", "_law_deeds"] 4 2 (F_law_rn_move en)) (G_law_sh_bad_move : Has P w K mg base "_law_sh_bad_move" ["_law_state", "_law_deeds"] 4 2 (F_law_sh_bad_move en)) (G_law_sh_images : Has P w K mg base "_law_sh_images" ["_law_deeds", "_law_move_here"] 1 2 (F_law_sh_images en)) (G_law_sh_moves : Has P w K mg base "_law_sh_moves" ["_law_deeds"] 2 1 (F_law_sh_moves en)) (G_law_told_ahead : Has P w K mg base "_law_told_ahead" ["_law_told", "_law_many", "_law_letter", "_law_lot"] 1 4 (F_law_told_ahead en)) (G_length_behind : Has P w K mg base "length_behind" ["deeds", "rows", "move"] 7 3 (F_length_behind en)) (G_neighbours : Has P w K mg base "neighbours" ["deeds", "rows"] 7 2 (F_neighbours en)) (K_length_behind_0_rows_move_deeds : HasK P w K mg base "length_behind" ["deeds", "rows", "move"] 7 3 (F_length_behind en) 0 ["rows", "move", "deeds"] [2, 0, 1]) : PSs (cxOf (L2.CX P w) P w K mg base N_law "law" (defScope s_law) f (.ref c) A outer s H E) (defBody s_law) (tSeq (tAsg (tCallS (spBegun K en.T) (WE fun cls d _ H => E cls d H) (tCons (tVar 0) tNil)) (gName 1)) (US K (fun cls d _ H => E cls d H) (p_law en))) := by
  have sc := sc_law
  exact pss_cons (ps_set (i := 1) sc.nd rfl (by first | exact Or.inl rfl | exact Or.inr rfl) (pe_callS Gb (hr.mono (by decide)) rfl gb kb bb (fun σ => passAt (takes_of rfl rfl rfl rfl) σ) (pa_cons (pv 0) pa_nil))) (us_cons (us_for (passes_of rfl) rfl (ui_range1 S.m_range (ua_cons (u_op op_addU od_add (u_dt u_int) (u_dt (u_min S.m_min rfl (u_dt (u_len S.m_len (u_nam 0 (pv 0)))) (u_dt u_int)))) ua_nil)) (pg_name (i := 2) sc.nd rfl (by first | exact Or.inl rfl | exact Or.inr rfl)) tg_name (us_cons (us_set 3 sc.nd (u_callH G_law_pick hr (takes_of rfl rfl rfl rfl) (ua_cons (u_give (u_nam 1 (pv 1))) (ua_cons (u_ls (u_lst (ua_cons u_int (ua_cons u_int (ua_cons u_int (ua_cons u_int ua_nil)))))) ua_nil))))
    (us_cons (us_set 4 sc.nd (u_callH G_law_cu_rows hr (takes_of rfl rfl rfl rfl) (ua_cons (u_give (u_nam 1 (pv 1))) (ua_cons (u_give (u_nam 3 (pv 3))) ua_nil))))
    (us_cons (us_setLcV (i := 5) (own := [("_law_row", 17)]) rfl sc.nd (ui_seq (u_give (u_nam 4 (pv 4)))) (blkOk_by (N := N_law) (sc := defScope s_law) (by decide +kernel)) tg_name (by decide) (fun _ _ _ _ _ => (pg_name (i := 17) sc.nd rfl (by first | exact Or.inl rfl | exact Or.inr rfl))) (fun _ _ _ _ _ => uts_nil) (fun _ _ _ _ _ => (u_callH G_law_mk_ring hr LamX.takes0 (ua_cons (u_give (u_nam 17 (pv 17))) ua_nil))) rfl)
    (us_cons (us_par 7 8 rfl sc.nd (ua_cons (u_callH G_neighbours hr (takes_of rfl rfl rfl rfl) (ua_cons (u_give (u_nam 3 (pv 3))) (ua_cons (u_ls (u_list S.m_list (u_nam 4 (pv 4)))) ua_nil))) (ua_cons (u_sum S.m_sum rfl (u_dt (u_ls (u_lc (own := [("_law_ring", 19)]) rfl sc.nd (ui_seq (u_give (u_nam 5 (pv 5)))) (blkOk_by (N := N_law) (sc := defScope s_law) (by decide +kernel)) tg_name (by decide) (fun _ _ _ _ _ => (pg_name (i := 19) sc.nd rfl (by first | exact Or.inl rfl | exact Or.inr rfl))) (fun _ _ _ _ _ => uts_nil) (fun _ _ _ _ _ => (u_len S.m_len (u_nam 19 (pv 19)))))))) ua_nil)))
    (us_cons (us_set 6 sc.nd (u_if (ut_cmp (op_eqD hr.units) od_eq (u_nam 3 (pv 3)) (u_dt u_int) (nomark _)) (u_callH G_law_sh_moves hr (takes_of rfl rfl rfl rfl) (ua_cons (u_give (u_nam 3 (pv 3))) ua_nil)) (u_ls (u_lc (own := [("_law_lap", 18)]) rfl sc.nd (ui_range1 S.m_range (ua_cons u_int ua_nil)) (blkOk_by (N := N_law) (sc := defScope s_law) (by decide +kernel)) tg_name (by decide) (fun _ _ _ _ _ => (pg_name (i := 18) sc.nd rfl (by first | exact Or.inl rfl | exact Or.inr rfl))) (fun _ _ _ _ _ => uts_nil) (fun _ _ _ _ _ => (u_callH G_law_rn_move hr LamX.takes0 (ua_cons (u_give (u_nam 1 (pv 1))) (ua_cons (u_give (u_nam 3 (pv 3))) ua_nil))))))))
    (us_cons (us_for (passes_of rfl) rfl (ui_seq (u_give (u_nam 6 (pv 6)))) (pg_tup rfl (pgs_cons (pg_name (i := 9) sc.nd rfl (by first | exact Or.inl rfl | exact Or.inr rfl)) (pgs_cons (pg_name (i := 10) sc.nd rfl (by first | exact Or.inl rfl | exact Or.inr rfl)) pgs_nil))) (tgs_len (tgnS (tgnS tgn0)) (tg_cons tg_name (tg_cons tg_name tg_nil))) (us_cons (us_set 11 sc.nd (u_callH G_law_sh_images hr (takes_of rfl rfl rfl rfl) (ua_cons (u_give (u_nam 3 (pv 3))) (ua_cons (u_tup (ua_cons (u_give (u_nam 9 (pv 9))) (ua_cons (u_give (u_nam 10 (pv 10))) ua_nil))) ua_nil))))
    (us_cons (us_set 12 sc.nd (u_sum S.m_sum rfl (u_dt (u_ls (u_lc (own := [("_law_ring", 19)]) rfl sc.nd (ui_seq (u_give (u_nam 5 (pv 5)))) (blkOk_by (N := N_law) (sc := defScope s_law) (by decide +kernel)) tg_name (by decide) (fun _ _ _ _ _ => (pg_name (i := 19) sc.nd rfl (by first | exact Or.inl rfl | exact Or.inr rfl))) (fun _ _ _ _ _ => uts_nil) (fun _ _ _ _ _ => (u_callH G_law_cu_spans hr LamX.takes0 (ua_cons (u_callH G_law_mk_renamed hr LamX.takes0 (ua_cons (u_give (u_nam 11 (pv 11))) (ua_cons (u_give (u_nam 19 (pv 19))) ua_nil))) ua_nil))))))))
    (us_cons (us_if (ut_cmp (op_neD hr.units) od_ne (u_dt (u_callK0 K_length_behind_0_rows_move_deeds hr (takes_of rfl rfl rfl rfl) (uk_cons (u_ls (u_list S.m_list (u_nam 4 (pv 4)))) (uk_cons (u_tup (ua_cons (u_give (u_nam 9 (pv 9))) (ua_cons (u_give (u_nam 10 (pv 10))) ua_nil))) (uk_cons (u_give (u_nam 3 (pv 3))) uk_nil))))) (u_nam 12 (pv 12)) (nomark _)) (us_one (us_ret u_bl)) us_nil)
    (us_cons (us_if (ut_cmp (op_neD hr.units) od_ne (u_dt (u_callH G_law_told_ahead hr (takes_of rfl rfl rfl rfl) (ua_cons (u_give (u_nam 7 (pv 7))) (ua_cons (u_give (u_nam 8 (pv 8))) (ua_cons (u_give (u_nam 9 (pv 9))) (ua_cons (u_give (u_nam 10 (pv 10))) ua_nil)))))) (u_nam 12 (pv 12)) (nomark _)) (us_one (us_ret u_bl)) us_nil)
    (us_cons (us_set 13 sc.nd (u_tuple S.m_tuple (u_dt (u_ls (u_sorted S.m_sorted (u_dt (u_ls (u_lc (own := [("_law_x", 20)]) rfl sc.nd (ui_seq (u_callH G_law_mk_letters hr (takes_of rfl rfl rfl rfl) (ua_cons (u_give (u_nam 3 (pv 3))) ua_nil))) (blkOk_by (N := N_law) (sc := defScope s_law) (by decide +kernel)) tg_name (by decide) (fun _ _ _ _ _ => (pg_name (i := 20) sc.nd rfl (by first | exact Or.inl rfl | exact Or.inr rfl))) (fun _ _ _ _ _ => (uts_one (PW.pt (ut_and (ut_cmp (op_neD hr.units) od_ne (u_dt (u_abs S.m_abs (u_nam 20 (pv 20)))) (u_dt (u_abs S.m_abs (u_nam 9 (pv 9)))) (nomark _)) (ut_and1 (ut_cmp op_notIn_seq od_notIn (u_nam 20 (pv 20)) (u_nam 10 (pv 10)) (by rfl))))))) (fun _ _ _ _ _ => (u_give (u_nam 20 (pv 20))))))))))))
    (us_cons (us_if (PW.pt (ut_and (ut_cmp (op_eqD hr.units) od_eq (u_nam 13 (pv 13)) (u_dt (u_tup ua_nil)) (nomark _)) (ut_and1 (ut_cmp (op_neD hr.units) od_ne (u_nam 12 (pv 12)) (u_nam 8 (pv 8)) (nomark _))))) (us_one (us_ret u_bl)) us_nil)
    (us_one (us_if (PW.pt (ut_and (ut_cmp (op_neD hr.units) od_ne (u_nam 13 (pv 13)) (u_dt (u_tup ua_nil)) (nomark _)) (ut_and1 (ut_cmp (op_neD hr.units) od_ne (u_dt (u_callH G_length_behind hr (takes_of rfl rfl rfl rfl) (ua_cons (u_give (u_nam 3 (pv 3))) (ua_cons (u_give (u_nam 4 (pv 4))) (ua_cons (u_tup (ua_cons (u_op op_sub od_sub (u_dt u_int) (u_nam 9 (pv 9))) (ua_cons (u_give (u_nam 13 (pv 13))) ua_nil))) ua_nil))))) (u_nam 12 (pv 12)) (nomark _))))) (us_one (us_ret u_bl)) us_nil)))))))))
    (us_cons (us_asg (u_tup (ua_cons (u_callH G_law_sh_bad_move hr (takes_of rfl rfl rfl rfl) (ua_cons (u_give (u_nam 1 (pv 1))) (ua_cons (u_give (u_nam 3 (pv 3))) ua_nil))) (ua_cons (u_callH G_law_mk_bad_deeds hr (takes_of rfl rfl rfl rfl) (ua_cons (u_give (u_nam 1 (pv 1))) ua_nil)) (ua_cons (u_callH G_law_mk_bad_rows hr (takes_of rfl rfl rfl rfl) (ua_cons (u_give (u_nam 1 (pv 1))) (ua_cons (u_give (u_nam 3 (pv 3))) ua_nil))) ua_nil)))) (pg_tup rfl (pgs_cons (pg_name (i := 14) sc.nd rfl (by first | exact Or.inl rfl | exact Or.inr rfl)) (pgs_cons (pg_name (i := 15) sc.nd rfl (by first | exact Or.inl rfl | exact Or.inr rfl)) (pgs_cons (pg_name (i := 16) sc.nd rfl (by first | exact Or.inl rfl | exact Or.inr rfl)) pgs_nil)))) (tgs_len (tgnS (tgnS (tgnS tgn0))) (tg_cons tg_name (tg_cons tg_name (tg_cons tg_name tg_nil)))))
    (us_cons (us_if (ut_not (ut_val (u_isE S.is_BadMove S.m_isinstance (u_dt (u_caught (k := 7) C.Fc C.gm C.bc S.ke S.cs_ok TB rfl hmT hu hr (fun A outer s H E f' c' hr => (u_callH G_length_behind hr (takes_of rfl rfl rfl rfl) (ua_cons (u_give (u_nam 3 (pv 3))) (ua_cons (u_give (u_nam 4 (pv 4))) (ua_cons (u_give (u_nam 14 (pv 14))) ua_nil))))) (L := LamX.lamS_by (sc := defScope s_law) (by decide +kernel)))) S.c_BadMove.gC))) (us_one (us_ret u_bl)) us_nil)
    (us_cons (us_if (ut_not (ut_val (u_isE S.is_BadRows S.m_isinstance (u_dt (u_caught (k := 7) C.Fc C.gm C.bc S.ke S.cs_ok TB rfl hmT hu hr (fun A outer s H E f' c' hr => (u_callH G_length_behind hr (takes_of rfl rfl rfl rfl) (ua_cons (u_give (u_nam 3 (pv 3))) (ua_cons (u_give (u_nam 16 (pv 16))) (ua_cons (u_give (u_nam 14 (pv 14))) ua_nil))))) (L := LamX.lamS_by (sc := defScope s_law) (by decide +kernel)))) S.c_BadRows.gC))) (us_one (us_ret u_bl)) us_nil)
    (us_one (us_if (ut_not (ut_val (u_isE S.is_BadDeeds S.m_isinstance (u_dt (u_caught (k := 7) C.Fc C.gm C.bc S.ke S.cs_ok TB rfl hmT hu hr (fun A outer s H E f' c' hr => (u_callH G_length_behind hr (takes_of rfl rfl rfl rfl) (ua_cons (u_give (u_nam 15 (pv 15))) (ua_cons (u_give (u_nam 16 (pv 16))) (ua_cons (u_give (u_nam 14 (pv 14))) ua_nil))))) (L := LamX.lamS_by (sc := defScope s_law) (by decide +kernel)))) S.c_BadDeeds.gC))) (us_one (us_ret u_bl)) us_nil))))))))))))
    (us_one (us_ret u_bl)))
end
end Pd

set_option Elab.async false
set_option linter.all false
set_option maxRecDepth 100000
set_option maxHeartbeats 4000000
/-! Pw: what a program comes to: weakest wishes, computed. -/
namespace Pd
open PySem PySem.Spec PyProof.Rows L2
abbrev EX := XV → LS → Prop
def wU {α : Type} (o : Out α) (Q : α → Rho → LS → Prop) (E : EX) : Prop := match o with
  | .ok a ρ' ls' => Q a ρ' ls'
  | .rs x ls' => E x ls'
  | .no => False
def wM {α : Type} (f : M α) (ρ : Rho) (ls : LS) (Q : α → Rho → LS → Prop) (E : EX) : Prop := wU (f ρ ls) Q E
structure PQ where
  nx : Rho → LS → Prop
  bk : Rho → LS → Prop
  ct : Rho → LS → Prop
  rt : D → LS → Prop
  rs : EX
  rtN : List D → LS → Prop := fun _ _ => False
def wO (o : PO) (Q : PQ) : Prop := match o with
  | .nx ρ ls => Q.nx ρ ls
  | .bk ρ ls => Q.bk ρ ls
  | .ct ρ ls => Q.ct ρ ls
  | .rt d ls => Q.rt d ls
  | .rtN l ls => Q.rtN l ls
  | .rs x ls => Q.rs x ls
  | .no => False
def wP (p : PM) (ρ : Rho) (ls : LS) (Q : PQ) : Prop := wO (p ρ ls) Q
def wF (o : FO) (G : D → LS → Prop) (E : EX) : Prop := match o with
  | .ok d ls => G d ls
  | .okN _ _ => False
  | .rs x ls => E x ls
  | .no => False
/-- a def that gives a new list -/
def wFN (o : FO) (G : List D → LS → Prop) (E : EX) : Prop := match o with
  | .okN l ls => G l ls
  | .rs x ls => E x ls
  | _ => False
/-- an option that must be there -/
def wI {α : Type} (o : Option α) (Q : α → Prop) : Prop := match o with
  | some a => Q a
  | none => False
/-- a slot as a name, as data, as a list of one's own -/
def nmI (i : Nat) (o : Option Sl) (q : Rf → Prop) : Prop := match o with
  | some (.dat x) => q (.d x)
  | some (.own _) => q (.sl i)
  | _ => False
def gvI (i : Nat) (ρ : Rho) (ls : LS) (o : Option Sl) (q : D → Rho → LS → Prop) : Prop := match o with
  | some (.dat x) => q x ρ ls
  | some (.own ds) => q (.lst ds) (ρ.set i (.dat (.lst ds))) ls
  | _ => False
def owI (o : Option Sl) (q : List D → Prop) : Prop := match o with
  | some (.own ds) => q ds
  | _ => False
def inI (o : Option Sl) (q : Int → Prop) : Prop := match o with
  | some (.dat (.int a)) => q a
  | _ => False
def itI (d : D) (q : Int → Prop) : Prop := match d with
  | .int a => q a
  | _ => False
section
variable {α β : Type} {ρ : Rho} {ls : LS} {Q : α → Rho → LS → Prop} {Qb : β → Rho → LS → Prop} {QD : D → Rho → LS → Prop} {QB : Bool → Rho → LS → Prop} {QL : List D → Rho → LS → Prop} {QR : Rf → Rho → LS → Prop} {E : EX} {R : PQ}
theorem wM_imp {f : M α} {Q' : α → Rho → LS → Prop} {E' : EX} (h : wM f ρ ls Q E) (i : ∀ a ρ ls, Q a ρ ls → Q' a ρ ls) (j : ∀ x ls, E x ls → E' x ls) : wM f ρ ls Q' E' := by
  unfold wM wU at *
  cases e : f ρ ls with
  | ok a ρ' ls' => rw [e] at h; exact i _ _ _ h
  | rs x ls' => rw [e] at h; exact j _ _ h
  | no => rw [e] at h; exact h
theorem wM_bnd {f : M α} {g : α → M β} : wM (bnd f g) ρ ls Qb E = wM f ρ ls (fun a ρ ls => wM (g a) ρ ls Qb E) E := by
  show wU (match f ρ ls with | .ok a ρ' ls' => g a ρ' ls' | .rs x ls' => .rs x ls' | .no => .no) Qb E = wU (f ρ ls) _ E
  cases f ρ ls <;> rfl
theorem wM_ret {a : α} : wM (ret a) ρ ls Q E = Q a ρ ls := rfl
theorem wM_opt {o : Option α} : wM (opt o) ρ ls Q E = wI o fun a => Q a ρ ls := by cases o <;> rfl
theorem wI_some {a : α} {q : α → Prop} : wI (some a) q = q a := rfl
theorem wM_nam {i : Nat} : wM (nam i) ρ ls QR E = nmI i ρ[i]? fun r => QR r ρ ls := by
  show wU (namS i ρ ls ρ[i]?) QR E = _
  unfold namS
  cases ρ[i]? with
  | none => rfl
  | some s => cases s with
    | ow o => cases o <;> rfl
    | _ => rfl
theorem wM_lookd {x : D} : wM (look (.d x)) ρ ls QD E = QD x ρ ls := rfl
theorem wM_looks {i : Nat} : wM (look (.sl i)) ρ ls QD E = wI (slD ρ[i]?) fun a => QD a ρ ls := by
  show wU (opt (slD ρ[i]?) ρ ls) QD E = _
  cases slD ρ[i]? <;> rfl
theorem wM_gived {x : D} : wM (give (.d x)) ρ ls QD E = QD x ρ ls := rfl
theorem wM_gives {i : Nat} : wM (give (.sl i)) ρ ls QD E = gvI i ρ ls ρ[i]? QD := by
  show wU (giveS i ρ ls ρ[i]?) QD E = _
  unfold giveS
  cases ρ[i]? with
  | none => rfl
  | some s => cases s with
    | ow o => cases o <;> rfl
    | _ => rfl
theorem nmI_dat {i : Nat} {x : D} {q : Rf → Prop} : nmI i (some (.dat x)) q = q (.d x) := rfl
theorem nmI_own {i : Nat} {x : List D} {q : Rf → Prop} : nmI i (some (.own x)) q = q (.sl i) := rfl
theorem gvI_dat {i : Nat} {x : D} {q : D → Rho → LS → Prop} : gvI i ρ ls (some (.dat x)) q = q x ρ ls := rfl
theorem gvI_own {i : Nat} {x : List D} {q : D → Rho → LS → Prop} : gvI i ρ ls (some (.own x)) q = q (.lst x) (ρ.set i (.dat (.lst x))) ls := rfl
theorem owI_own {x : List D} {q : List D → Prop} : owI (some (.own x)) q = q x := rfl
theorem inI_int {x : Int} {q : Int → Prop} : inI (some (.dat (.int x))) q = q x := rfl
theorem itI_int {x : Int} {q : Int → Prop} : itI (.int x) q = q x := rfl
theorem wM_isB {b : Bool} : wM (isB (.bl b)) ρ ls QB E = QB b ρ ls := rfl
theorem wM_ite {c : Prop} [Decidable c] {f g : M α} : wM (if c then f else g) ρ ls Q E = if c then wM f ρ ls Q E else wM g ρ ls Q E := by split <;> rfl
theorem wM_andM {p q : M Bool} : wM (andM p q) ρ ls QB E = wM p ρ ls (fun c ρ ls => if c = true then wM q ρ ls QB E else QB false ρ ls) E := by
  unfold andM
  rw [wM_bnd]
  congr 1
  funext c ρ ls
  rw [wM_ite]; rfl
theorem wM_orM {p q : M Bool} : wM (orM p q) ρ ls QB E = wM p ρ ls (fun c ρ ls => if c = true then QB true ρ ls else wM q ρ ls QB E) E := by
  unfold orM
  rw [wM_bnd]
  congr 1
  funext c ρ ls
  rw [wM_ite]; rfl
theorem wM_notM {p : M Bool} : wM (notM p) ρ ls QB E = wM p ρ ls (fun c ρ ls => QB (!c) ρ ls) E := wM_bnd
theorem wM_ifM {p : M Bool} {f g : M α} : wM (ifM p f g) ρ ls Q E = wM p ρ ls (fun c ρ ls => if c = true then wM f ρ ls Q E else wM g ρ ls Q E) E := by
  unfold ifM
  rw [wM_bnd]
  congr 1
  funext c ρ ls
  rw [wM_ite]
theorem wM_andV {f g : M D} : wM (andV f g) ρ ls QD E = wM f ρ ls (fun d ρ ls => wM (isB d) ρ ls (fun c ρ ls => if c = true then wM g ρ ls QD E else QD (.bl false) ρ ls) E) E := by
  unfold andV
  rw [wM_bnd]
  congr 1
  funext d ρ ls
  rw [wM_bnd]
  congr 1
  funext c ρ ls
  rw [wM_ite]; rfl
theorem wM_orV {f g : M D} : wM (orV f g) ρ ls QD E = wM f ρ ls (fun d ρ ls => wM (isB d) ρ ls (fun c ρ ls => if c = true then QD (.bl true) ρ ls else wM g ρ ls QD E) E) E := by
  unfold orV
  rw [wM_bnd]
  congr 1
  funext d ρ ls
  rw [wM_bnd]
  congr 1
  funext c ρ ls
  rw [wM_ite]; rfl
theorem wM_notV {f : M D} : wM (notV f) ρ ls QD E = wM f ρ ls (fun d ρ ls => wM (isB d) ρ ls (fun c ρ ls => QD (.bl (!c)) ρ ls) E) E := by
  unfold notV
  rw [wM_bnd]
  congr 1
  funext d ρ ls
  rw [wM_bnd]; rfl
theorem wM_bin {op : D → D → Option α} {f g : M Rf} : wM (bin op f g) ρ ls Q E = wM f ρ ls (fun r ρ ls => wM g ρ ls (fun s ρ ls => wM (look r) ρ ls (fun x ρ ls => wM (look s) ρ ls (fun y ρ ls => wI (op x y) fun z => Q z ρ ls) E) E) E) E := by
  unfold bin
  simp only [wM_bnd, wM_opt]
theorem wM_uno {op : D → Option α} {f : M Rf} : wM (uno op f) ρ ls Q E = wM f ρ ls (fun r ρ ls => wM (look r) ρ ls (fun x ρ ls => wI (op x) fun z => Q z ρ ls) E) E := by
  unfold uno
  simp only [wM_bnd, wM_opt]
theorem wM_dt {f : M D} : wM (dt f) ρ ls QR E = wM f ρ ls (fun d ρ ls => QR (.d d) ρ ls) E := wM_bnd
theorem wM_ls1 {f : M (List D)} : wM (ls1 f) ρ ls QD E = wM f ρ ls (fun d ρ ls => QD (.lst d) ρ ls) E := wM_bnd
theorem wM_consM {f : M D} {g : M (List D)} : wM (consM f g) ρ ls QL E = wM f ρ ls (fun d ρ ls => wM g ρ ls (fun ds ρ ls => QL (d :: ds) ρ ls) E) E := by
  unfold consM
  simp only [wM_bnd, wM_ret]
theorem wM_tupM {g : M (List D)} : wM (tupM g) ρ ls QD E = wM g ρ ls (fun ds ρ ls => wI (few ds) fun ds => QD (.tup ds) ρ ls) E := by
  unfold tupM
  simp only [wM_bnd, wM_opt, wM_ret]
theorem wM_lstM {g : M (List D)} : wM (lstM g) ρ ls QL E = wM g ρ ls (fun ds ρ ls => wI (few ds) fun ds => QL ds ρ ls) E := by
  unfold lstM
  simp only [wM_bnd, wM_opt]
theorem wM_itemsM {f : M D} : wM (itemsM f) ρ ls QL E = wM f ρ ls (fun d ρ ls => wI (itemsD d) fun l => QL l ρ ls) E := by
  unfold itemsM
  simp only [wM_bnd, wM_opt]
theorem wM_ritemsM {f : M D} : wM (ritemsM f) ρ ls QL E = wM f ρ ls (fun d ρ ls => wI (ritemsD d) fun l => QL l ρ ls) E := by
  unfold ritemsM
  simp only [wM_bnd, wM_opt]
theorem wM_callM {n : Nat} {F : FS} {ga : M (List D)} : wM (callM n F ga) ρ ls QD E = wM ga ρ ls (fun ds ρ ls => ds.length = n ∧ wF (F ds ls) (fun d ls => QD d ρ ls) E) E := by
  unfold callM
  rw [wM_bnd]
  congr 1
  funext ds ρ ls
  show wU (if ds.length = n then callF (F ds ls) ρ ls else .no) QD E = _
  by_cases h : ds.length = n
  · rw [if_pos h]
    cases F ds ls <;> simp [h, callF, wU, wF]
  · rw [if_neg h]
    simp [h, wU]
theorem wM_keyM {n np nk : Nat} {o : List Nat} {F : FS} {ga gk : M (List D)} : wM (keyM n F np nk o ga gk) ρ ls QD E = wM ga ρ ls (fun ds ρ ls => wM gk ρ ls (fun es ρ ls => (ds.length = np ∧ es.length = nk ∧ (ordL o (ds ++ es)).length = n) ∧ wF (F (ordL o (ds ++ es)) ls) (fun d ls => QD d ρ ls) E) E) E := by
  unfold keyM
  rw [wM_bnd]
  congr 1
  funext ds ρ ls
  rw [wM_bnd]
  congr 1
  funext es ρ ls
  show wU (if ds.length = np ∧ es.length = nk ∧ (ordL o (ds ++ es)).length = n then callF (F (ordL o (ds ++ es)) ls) ρ ls else .no) QD E = _
  by_cases h : ds.length = np ∧ es.length = nk ∧ (ordL o (ds ++ es)).length = n
  · rw [if_pos h]
    cases F (ordL o (ds ++ es)) ls <;> simp [h, callF, wU, wF]
  · rw [if_neg h]
    simp [h, wU]
theorem wM_callN {n : Nat} {F : FS} {ga : M (List D)} : wM (callN n F ga) ρ ls QL E = wM ga ρ ls (fun ds ρ ls => ds.length = n ∧ wFN (F ds ls) (fun l ls => QL l ρ ls) E) E := by
  unfold callN
  rw [wM_bnd]
  congr 1
  funext ds ρ ls
  show wU (if ds.length = n then callFN (F ds ls) ρ ls else .no) QL E = _
  by_cases h : ds.length = n
  · rw [if_pos h]
    cases F ds ls <;> simp [h, callFN, wU, wFN]
  · rw [if_neg h]
    simp [h, wU]
theorem wM_keyN {n np nk : Nat} {o : List Nat} {F : FS} {ga gk : M (List D)} : wM (keyN n F np nk o ga gk) ρ ls QL E = wM ga ρ ls (fun ds ρ ls => wM gk ρ ls (fun es ρ ls => (ds.length = np ∧ es.length = nk ∧ (ordL o (ds ++ es)).length = n) ∧ wFN (F (ordL o (ds ++ es)) ls) (fun d ls => QL d ρ ls) E) E) E := by
  unfold keyN
  rw [wM_bnd]
  congr 1
  funext ds ρ ls
  rw [wM_bnd]
  congr 1
  funext es ρ ls
  show wU (if ds.length = np ∧ es.length = nk ∧ (ordL o (ds ++ es)).length = n then callFN (F (ordL o (ds ++ es)) ls) ρ ls else .no) QL E = _
  by_cases h : ds.length = np ∧ es.length = nk ∧ (ordL o (ds ++ es)).length = n
  · rw [if_pos h]
    cases F (ordL o (ds ++ es)) ls <;> simp [h, callFN, wU, wFN]
  · rw [if_neg h]
    simp [h, wU]
theorem wM_takeM {i : Nat} : wM (takeM i) ρ ls QL E = owI ρ[i]? fun ds => QL ds (ρ.set i .un) ls := by
  show wU (takeS i ρ ls ρ[i]?) QL E = _
  cases ρ[i]? with
  | none => rfl
  | some s => cases s with
    | ow o => cases o <;> rfl
    | _ => rfl
theorem wM_methM {i : Nat} {op : List D → D → Option (D × List D)} {f : M D} : wM (methM i op f) ρ ls QD E = owI ρ[i]? fun _ => wM f ρ ls (fun d ρ ls => owI ρ[i]? fun ds => wI (op ds d) fun z => QD z.1 (ρ.set i (.own z.2)) ls) E := by
  have h : wM (methM i op f) ρ ls QD E = wU (ownAt (fun _ => bnd f (mut1 i op) ρ ls) .no ρ[i]?) QD E := rfl
  rw [h]
  cases ρ[i]? with
  | none => rfl
  | some s =>
    cases s with
    | un => rfl
    | dat _ => rfl
    | ow o => cases o with
     | d _ _ => rfl
     | l ds =>
      show wM (bnd f (mut1 i op)) ρ ls QD E = _
      rw [wM_bnd]
      show wM f ρ ls _ E = wM f ρ ls _ E
      congr 1
      funext d ρ ls
      show wU (ownAt (fun ds => mutE i (op ds d) ρ ls) .no ρ[i]?) QD E = _
      cases ρ[i]? with
      | none => rfl
      | some s =>
        cases s with
        | un => rfl
        | dat _ => rfl
        | ow o => cases o with
         | d _ _ => rfl
         | l ds =>
          show wU (mutE i (op ds d) ρ ls) QD E = wI (op ds d) fun z => QD z.1 (ρ.set i (.own z.2)) ls
          cases op ds d <;> rfl
theorem wM_meth0M {i : Nat} {op : List D → Option (D × List D)} : wM (meth0M i op) ρ ls QD E = owI ρ[i]? fun ds => wI (op ds) fun z => QD z.1 (ρ.set i (.own z.2)) ls := by
  have h : wM (meth0M i op) ρ ls QD E = wU (ownAt (fun ds => mutE i (op ds) ρ ls) .no ρ[i]?) QD E := rfl
  rw [h]
  cases ρ[i]? with
  | none => rfl
  | some s =>
    cases s with
    | un => rfl
    | dat _ => rfl
    | ow o => cases o with
     | d _ _ => rfl
     | l ds =>
      show wU (mutE i (op ds) ρ ls) QD E = wI (op ds) fun z => QD z.1 (ρ.set i (.own z.2)) ls
      cases op ds <;> rfl
theorem wM_mthM {op : D → D → Option D} {f g : M D} : wM (mthM op f g) ρ ls QD E = wM f ρ ls (fun x ρ ls => if isTup x = true then wM g ρ ls (fun y ρ ls => wI (op x y) fun z => QD z ρ ls) E else False) E := by
  unfold mthM
  rw [wM_bnd]
  congr 1
  funext x ρ ls
  by_cases h : isTup x = true
  · rw [if_pos h, if_pos h, wM_bnd]
    simp only [wM_opt]
  · rw [if_neg h, if_neg h]; rfl
theorem wM_chainM {op op' : D → D → Option D} {f g h : M Rf} : wM (chainM op op' f g h) ρ ls QD E = wM f ρ ls (fun r ρ ls => wM g ρ ls (fun s ρ ls => wM (look r) ρ ls (fun x ρ ls => wM (look s) ρ ls (fun y ρ ls => wI (op x y) fun t => wM (isB t) ρ ls (fun b ρ ls =>
    if b = true then wM h ρ ls (fun u ρ ls => wM (look s) ρ ls (fun y' ρ ls => wM (look u) ρ ls (fun z ρ ls => wI (op' y' z) fun v => QD v ρ ls) E) E) E else QD (.bl false) ρ ls) E) E) E) E) E := by
  unfold chainM
  simp only [wM_bnd, wM_opt]
  congr 1; funext r ρ ls
  congr 1; funext s ρ ls
  congr 1; funext x ρ ls
  congr 1; funext y ρ ls
  congr 1; funext t
  congr 1; funext b ρ ls
  rw [wM_ite]
  simp only [wM_bnd, wM_opt, wM_ret]
theorem wM_partM {f : M D} {QO : Option Int → Rho → LS → Prop} : wM (partM f) ρ ls QO E = wM f ρ ls (fun d ρ ls => itI d fun i => QO (some i) ρ ls) E := by
  unfold partM
  rw [wM_bnd]
  congr 1
  funext d ρ ls
  cases d <;> rfl
theorem wM_cutM {op : Option Int → Option Int → D → Option α} {f : M Rf} {l u : M (Option Int)} : wM (cutM op f l u) ρ ls Q E = wM f ρ ls (fun r ρ ls => wM l ρ ls (fun lo ρ ls => wM u ρ ls (fun hi ρ ls => wM (look r) ρ ls (fun x ρ ls => wI (op lo hi x) fun z => Q z ρ ls) E) E) E) E := by
  unfold cutM
  simp only [wM_bnd, wM_opt]
/-! statements -/
theorem wP_seqP {p q : PM} : wP (seqP p q) ρ ls R = wP p ρ ls { R with nx := fun ρ ls => wP q ρ ls R } := by
  unfold wP seqP
  cases p ρ ls <;> rfl
theorem wP_lift {f : M α} {k : α → PM} : wP (lift f k) ρ ls R = wM f ρ ls (fun a ρ ls => wP (k a) ρ ls R) R.rs := by
  show wO (match f ρ ls with | .ok a ρ' ls' => k a ρ' ls' | .rs x ls' => .rs x ls' | .no => .no) R = wU (f ρ ls) _ _
  cases f ρ ls <;> rfl
theorem wP_skip : wP skip ρ ls R = R.nx ρ ls := rfl
theorem wP_brk : wP brk ρ ls R = R.bk ρ ls := rfl
theorem wP_cnt : wP cnt ρ ls R = R.ct ρ ls := rfl
theorem wP_rsP {C : Addr} : wP (rsP C) ρ ls R = R.rs ⟨C, none⟩ ls := rfl
theorem wP_sto {i : Nat} {d : D} : wP (sto i d) ρ ls R = if i < ρ.length then R.nx (ρ.set i (.dat d)) ls else False := by
  unfold wP sto
  split <;> rfl
theorem wP_stoN {i : Nat} {d : List D} : wP (stoN i d) ρ ls R = if i < ρ.length then R.nx (ρ.set i (.own d)) ls else False := by
  unfold wP stoN
  split <;> rfl
theorem wP_setV {i : Nat} {f : M D} : wP (setV i f) ρ ls R = wM f ρ ls (fun d ρ ls => if i < ρ.length then R.nx (ρ.set i (.dat d)) ls else False) R.rs := by
  unfold setV
  simp only [wP_lift, wP_sto]
theorem wP_setN {i : Nat} {f : M (List D)} : wP (setN i f) ρ ls R = wM f ρ ls (fun d ρ ls => if i < ρ.length then R.nx (ρ.set i (.own d)) ls else False) R.rs := by
  unfold setN
  simp only [wP_lift, wP_stoN]
theorem wP_retN {f : M (List D)} : wP (retN f) ρ ls R = wM f ρ ls (fun l _ ls => R.rtN l ls) R.rs := wP_lift
theorem wP_retP {f : M D} : wP (retP f) ρ ls R = wM f ρ ls (fun d _ ls => R.rt d ls) R.rs := wP_lift
theorem wP_drop {f : M D} : wP (drop f) ρ ls R = wM f ρ ls (fun _ ρ ls => R.nx ρ ls) R.rs := wP_lift
theorem wP_ite {c : Prop} [Decidable c] {p q : PM} : wP (if c then p else q) ρ ls R = if c then wP p ρ ls R else wP q ρ ls R := by split <;> rfl
theorem wP_ifP {c : M Bool} {p q : PM} : wP (ifP c p q) ρ ls R = wM c ρ ls (fun b ρ ls => if b = true then wP p ρ ls R else wP q ρ ls R) R.rs := by
  unfold ifP
  simp only [wP_lift, wP_ite]
theorem wP_asgP {t : D → Rho → Option Rho} {d : D} : wP (asgP t d) ρ ls R = wI (t d ρ) fun ρ => R.nx ρ ls := by
  unfold wP asgP
  cases t d ρ <;> rfl
theorem wP_par2 {i j : Nat} {ga : M (List D)} : wP (par2 i j ga) ρ ls R = wM ga ρ ls (fun ds ρ ls => match ds with | [x, y] => wP (seqP (sto i x) (sto j y)) ρ ls R | _ => False) R.rs := by
  unfold par2
  rw [wP_lift]
  congr 1
  funext ds ρ ls
  match ds with
  | [] => rfl
  | [_] => rfl
  | [_, _] => rfl
  | _ :: _ :: _ :: _ => rfl
theorem wP_par3 {i j k : Nat} {ga : M (List D)} : wP (par3 i j k ga) ρ ls R = wM ga ρ ls (fun ds ρ ls => match ds with | [x, y, z] => wP (seqP (sto i x) (seqP (sto j y) (sto k z))) ρ ls R | _ => False) R.rs := by
  unfold par3
  rw [wP_lift]
  congr 1
  funext ds ρ ls
  match ds with
  | [] => rfl
  | [_] => rfl
  | [_, _] => rfl
  | [_, _, _] => rfl
  | _ :: _ :: _ :: _ :: _ => rfl
theorem wP_augP {i : Nat} {g : Int → Int → Int} {f : M D} : wP (augP i g f) ρ ls R = inI ρ[i]? fun a => wM f ρ ls (fun d ρ ls => itI d fun b => wP (sto i (.int (g a b))) ρ ls R) R.rs := by
  have h : wP (augP i g f) ρ ls R = wO (augS i g f ρ ls ρ[i]?) R := rfl
  rw [h]
  cases ρ[i]? with
  | none => rfl
  | some s =>
    cases s with
    | un => rfl
    | ow o => cases o <;> rfl
    | dat d =>
      cases d with
      | int a =>
        show wP (lift f (augK i g a)) ρ ls R = _
        rw [wP_lift]
        show wM f ρ ls _ R.rs = wM f ρ ls _ R.rs
        congr 1
        funext d ρ ls
        cases d <;> rfl
      | _ => rfl
/-! loops -/
theorem wP_forP {t : D → Rho → Option Rho} {f : M (List D)} {b : PM} : wP (forP t f b) ρ ls R = wM f ρ ls (fun ds ρ ls => wP (forL t b ds) ρ ls R) R.rs := wP_lift
/-- a loop over ds, I told of what is done -/
theorem wP_for {t : D → Rho → Option Rho} {b : PM} {ds : List D} (I : List D → Rho → LS → Prop) (h0 : I [] ρ ls)
    (hs : ∀ done d rest ρ ls, ds = done ++ d :: rest → I done ρ ls → wI (t d ρ) fun ρ1 => wP b ρ1 ls { R with nx := I (done ++ [d]), ct := I (done ++ [d]), bk := R.nx }) (hd : ∀ ρ ls, I ds ρ ls → R.nx ρ ls) : wP (forL t b ds) ρ ls R := by
  have go : ∀ (rest done : List D) (ρ : Rho) (ls : LS), ds = done ++ rest → I done ρ ls → wP (forL t b rest) ρ ls R := by
    intro rest
    induction rest with
    | nil => intro done ρ ls e i; rw [List.append_nil] at e; subst e; exact hd ρ ls i
    | cons d rest ih =>
      intro done ρ ls e i
      have h := hs done d rest ρ ls e i
      have e2 : ds = (done ++ [d]) ++ rest := by rw [e, List.append_assoc]; rfl
      cases et : t d ρ with
      | none => rw [et] at h; exact h.elim
      | some ρ1 =>
        rw [et] at h
        have h : wO (b ρ1 ls) { R with nx := I (done ++ [d]), ct := I (done ++ [d]), bk := R.nx } := h
        unfold wP
        rw [forL_cons et]
        cases eb : b ρ1 ls with
        | nx ρ' ls' => rw [eb] at h; exact ih _ _ _ e2 h
        | ct ρ' ls' => rw [eb] at h; exact ih _ _ _ e2 h
        | bk ρ' ls' => rw [eb] at h; exact h
        | rt d ls' => rw [eb] at h; exact h
        | rtN l ls' => rw [eb] at h; exact h
        | rs x ls' => rw [eb] at h; exact h
        | no => rw [eb] at h; exact h
  exact go ds [] ρ ls rfl h0
/-- while: a measure -/
theorem wP_while {c : M Bool} {b : PM} {n : Nat} (I : Nat → Rho → LS → Prop) (m : Nat) (hm : m < n) (h0 : I m ρ ls)
    (hs : ∀ m ρ ls, I m ρ ls → wM c ρ ls (fun t ρ ls => if t = true then 0 < m ∧ wP b ρ ls { R with nx := I (m - 1), ct := I (m - 1), bk := R.nx } else R.nx ρ ls) R.rs) : wP (whileP c b n) ρ ls R := by
  induction n generalizing m ρ ls with
  | zero => omega
  | succ n ih =>
    have h := hs m ρ ls h0
    show wP (lift c fun t => if t = true then fun ρ ls => match b ρ ls with
      | .nx ρ' ls' => whileP c b n ρ' ls'
      | .ct ρ' ls' => whileP c b n ρ' ls'
      | .bk ρ' ls' => .nx ρ' ls'
      | o => o
    else skip) ρ ls R
    rw [wP_lift]
    refine wM_imp h (fun t ρ ls q => ?_) fun _ _ z => z
    cases t with
    | false => exact q
    | true =>
      obtain ⟨hp, q⟩ : 0 < m ∧ wO (b ρ ls) { R with nx := I (m - 1), ct := I (m - 1), bk := R.nx } := q
      show wO (match b ρ ls with
        | .nx ρ' ls' => whileP c b n ρ' ls'
        | .ct ρ' ls' => whileP c b n ρ' ls'
        | .bk ρ' ls' => .nx ρ' ls'
        | o => o) R
      cases eb : b ρ ls with
      | nx ρ' ls' => rw [eb] at q; exact ih (m := m - 1) (by omega) q
      | ct ρ' ls' => rw [eb] at q; exact ih (m := m - 1) (by omega) q
      | bk ρ' ls' => rw [eb] at q; exact q
      | rt d ls' => rw [eb] at q; exact q
      | rtN l ls' => rw [eb] at q; exact q
      | rs x ls' => rw [eb] at q; exact q
      | no => rw [eb] at q; exact q
/-! comprehensions -/
theorem wM_lcL {t : D → Rho → Option Rho} {c : M Bool} {e : M D} {vs : List Nat} {ds : List D} (I : List D → List D → Rho → LS → Prop) {acc : List D} (h0 : I [] acc ρ ls)
    (hs : ∀ done d rest acc ρ ls, ds = done ++ d :: rest → I done acc ρ ls → wI (t d ρ) fun ρ1 => wM c ρ1 ls (fun b ρ2 ls2 => if b = true then wM e ρ2 ls2 (fun x ρ3 ls3 => acc.length < top ∧ I (done ++ [d]) (acc ++ [x]) (wipeR ρ3 vs) ls3) fun _ _ => False else I (done ++ [d]) acc (wipeR ρ2 vs) ls2) fun _ _ => False) :
    ∃ acc' ρ' ls', lcL t c e vs ds acc ρ ls = .ok acc' ρ' ls' ∧ I ds acc' ρ' ls' := by
  have go : ∀ (rest done acc : List D) (ρ : Rho) (ls : LS), ds = done ++ rest → I done acc ρ ls → ∃ acc' ρ' ls', lcL t c e vs rest acc ρ ls = .ok acc' ρ' ls' ∧ I ds acc' ρ' ls' := by
    intro rest
    induction rest with
    | nil => intro done acc ρ ls ee i; rw [List.append_nil] at ee; subst ee; exact ⟨_, _, _, rfl, i⟩
    | cons d rest ih =>
      intro done acc ρ ls ee i
      have h := hs done d rest acc ρ ls ee i
      have e2 : ds = (done ++ [d]) ++ rest := by rw [ee, List.append_assoc]; rfl
      have el : lcL t c e vs (d :: rest) acc ρ ls = lcT (fun acc ρ ls => lcL t c e vs rest acc (wipeR ρ vs) ls) c e acc ls (t d ρ) := rfl
      rw [el]
      cases et : t d ρ with
      | none => rw [et] at h; exact h.elim
      | some ρ1 =>
        rw [et] at h
        show ∃ acc' ρ' ls', lcC (fun acc ρ ls => lcL t c e vs rest acc (wipeR ρ vs) ls) c e acc ρ1 ls = .ok acc' ρ' ls' ∧ _
        unfold lcC
        have h : wM c ρ1 ls _ _ := h
        unfold wM wU at h
        cases ec : c ρ1 ls with
        | no => rw [ec] at h; exact h.elim
        | rs x l => rw [ec] at h; exact h.elim
        | ok b ρ2 ls2 =>
          rw [ec] at h
          cases b with
          | false => exact ih _ _ _ _ e2 h
          | true =>
            have h : wM e ρ2 ls2 _ _ := h
            unfold wM wU at h
            show ∃ acc' ρ' ls', lcE (fun acc ρ ls => lcL t c e vs rest acc (wipeR ρ vs) ls) e acc ρ2 ls2 = .ok acc' ρ' ls' ∧ _
            unfold lcE
            cases ee2 : e ρ2 ls2 with
            | no => rw [ee2] at h; exact h.elim
            | rs x l => rw [ee2] at h; exact h.elim
            | ok x ρ3 ls3 =>
              rw [ee2] at h
              obtain ⟨h1, h2⟩ := h
              show ∃ acc' ρ' ls', (if acc.length < top then lcL t c e vs rest (acc ++ [x]) (wipeR ρ3 vs) ls3 else .no) = .ok acc' ρ' ls' ∧ _
              rw [if_pos h1]
              exact ih _ _ _ _ e2 h2
  exact go ds [] acc ρ ls rfl h0
theorem wM_lcM {src : M (List D)} {t : D → Rho → Option Rho} {c : M Bool} {e : M D} {vs : List Nat} : wM (lcM src t c e vs) ρ ls QL E = wM src ρ ls (fun ds ρ ls => if noOwn ρ vs = true then wM (fun ρ' ls' => lcEnd ρ vs (lcL t c e vs ds [] ρ' ls')) (wipeR ρ vs) ls QL E else False) E := by
  unfold lcM
  rw [wM_bnd]
  congr 1
  funext ds ρ ls
  by_cases h : noOwn ρ vs = true
  · rw [if_pos h]
    show wU (if noOwn ρ vs = true then _ else _) QL E = _
    rw [if_pos h]; rfl
  · rw [if_neg h]
    show wU (if noOwn ρ vs = true then _ else _) QL E = _
    rw [if_neg h]; rfl
/-- a comprehension with an invariant -/
theorem wM_lc {src : M (List D)} {t : D → Rho → Option Rho} {c : M Bool} {e : M D} {vs : List Nat} (h : wM src ρ ls (fun ds ρ ls => noOwn ρ vs = true ∧ ∃ I : List D → List D → Rho → LS → Prop, I [] [] (wipeR ρ vs) ls ∧
    (∀ done d rest acc ρ ls, ds = done ++ d :: rest → I done acc ρ ls → wI (t d ρ) fun ρ1 => wM c ρ1 ls (fun b ρ2 ls2 => if b = true then wM e ρ2 ls2 (fun x ρ3 ls3 => acc.length < top ∧ I (done ++ [d]) (acc ++ [x]) (wipeR ρ3 vs) ls3) fun _ _ => False else I (done ++ [d]) acc (wipeR ρ2 vs) ls2) fun _ _ => False) ∧
    ∀ acc ρ' ls', I ds acc ρ' ls' → QL acc (unwipe ρ ρ' vs) ls') E) : wM (lcM src t c e vs) ρ ls QL E := by
  rw [wM_lcM]
  refine wM_imp h (fun ds ρ ls hh => ?_) fun _ _ z => z
  obtain ⟨h1, I, i0, is, ie⟩ := hh
  rw [if_pos h1]
  obtain ⟨acc', ρ', ls', e1, i'⟩ := wM_lcL I i0 is
  show wU (lcEnd ρ vs (lcL t c e vs ds [] (wipeR ρ vs) ls)) QL E
  rw [e1]
  exact ie _ _ _ i'
/-- .. whose test and item change nothing -/
theorem wM_lcp {src : M (List D)} {t : D → Rho → Option Rho} {c : M Bool} {e : M D} {vs : List Nat} (h : wM src ρ ls (fun ds ρ ls => noOwn ρ vs = true ∧ unwipe ρ (wipeR ρ vs) vs = ρ ∧ ds.length ≤ top ∧ ∃ (cb : D → Bool) (f : D → D),
    (∀ d ∈ ds, wI (t d (wipeR ρ vs)) fun ρ1 => wipeR ρ1 vs = wipeR ρ vs ∧ c ρ1 ls = .ok (cb d) ρ1 ls ∧ (cb d = true → e ρ1 ls = .ok (f d) ρ1 ls)) ∧ QL ((ds.filter cb).map f) ρ ls) E) : wM (lcM src t c e vs) ρ ls QL E := by
  refine wM_lc (wM_imp h (fun ds ρ ls hh => ?_) fun _ _ z => z)
  obtain ⟨h1, h2, h3, cb, f, hs, q⟩ := hh
  refine ⟨h1, fun done acc ρ' ls' => ρ' = wipeR ρ vs ∧ ls' = ls ∧ acc = (done.filter cb).map f, ⟨rfl, rfl, rfl⟩, ?_, ?_⟩
  · rintro done d rest acc ρ' ls' ed ⟨rfl, rfl, rfl⟩
    have hd := hs d (by rw [ed]; exact List.mem_append_right _ List.mem_cons_self)
    cases et : t d (wipeR ρ vs) with
    | none => rw [et] at hd; exact hd.elim
    | some ρ1 =>
      rw [et] at hd
      obtain ⟨w1, c1, e1⟩ := hd
      show wM c ρ1 ls' _ _
      unfold wM
      rw [c1]
      show if cb d = true then _ else _
      by_cases hc : cb d = true
      · rw [if_pos hc]
        show wU (e ρ1 ls') _ _
        rw [e1 hc]
        refine ⟨?_, w1, rfl, by rw [List.filter_append, List.map_append]; simp [hc]⟩
        rw [List.length_map]
        have a1 := List.length_filter_le cb done
        have a2 : ds.length = done.length + (rest.length + 1) := by rw [ed]; simp
        omega
      · rw [if_neg hc]
        exact ⟨w1, rfl, by rw [List.filter_append]; simp [hc]⟩
  · rintro acc ρ' ls' ⟨rfl, rfl, rfl⟩
    rw [h2]
    exact q
/-- the end of a def -/
theorem wF_end {p : PM} {ρ : Rho} {G : D → LS → Prop} : wF (endF (p ρ ls)) G E = wP p ρ ls { nx := fun _ ls => G .non ls, bk := fun _ _ => False, ct := fun _ _ => False, rt := G, rs := E } := by
  unfold wP
  cases p ρ ls <;> rfl
theorem wFN_end {p : PM} {ρ : Rho} {G : List D → LS → Prop} : wFN (endF (p ρ ls)) G E = wP p ρ ls { nx := fun _ _ => False, bk := fun _ _ => False, ct := fun _ _ => False, rt := fun _ _ => False, rs := E, rtN := G } := by
  unfold wP
  cases p ρ ls <;> rfl
theorem wFN_is {d : List D} {ls' : LS} {o : FO} (h : wFN o (fun d' l' => d' = d ∧ l' = ls') fun _ _ => False) : o = .okN d ls' := by
  cases o with
  | okN a l => obtain ⟨rfl, rfl⟩ := h; rfl
  | ok a l => exact h.elim
  | rs x l => exact h.elim
  | no => exact h.elim
theorem wFN_k {d : List D} {ls' : LS} {G : List D → LS → Prop} : wFN (.okN d ls') G E = G d ls' := rfl
theorem wFN_x {x : XV} {ls' : LS} {G : List D → LS → Prop} : wFN (.rs x ls') G E = E x ls' := rfl
theorem wF_ok {d : D} {ls' : LS} {o : FO} {G : D → LS → Prop} (e : o = .ok d ls') (h : G d ls') : wF o G E := by rw [e]; exact h
theorem wF_is {d : D} {ls' : LS} {o : FO} (h : wF o (fun d' l' => d' = d ∧ l' = ls') fun _ _ => False) : o = .ok d ls' := by
  cases o with
  | ok a l => obtain ⟨rfl, rfl⟩ := h; rfl
  | okN a l => exact h.elim
  | rs x l => exact h.elim
  | no => exact h.elim
theorem wF_rs {x : XV} {ls' : LS} {o : FO} (h : wF o (fun _ _ => False) fun x' l' => x' = x ∧ l' = ls') : o = .rs x ls' := by
  cases o with
  | ok a l => exact h.elim
  | okN a l => exact h.elim
  | rs a l => obtain ⟨rfl, rfl⟩ := h; rfl
  | no => exact h.elim
end
end Pd

set_option Elab.async false
set_option linter.all false
/-! Mth: plain rows. -/
namespace Pd
def push : List Int → Int → List Int
  | [], x => [x]
  | y :: t, x => if y = 0 - x then t else x :: y :: t
def redR (s l : List Int) : List Int := l.foldl push s
def red (l : List Int) : List Int := (redR [] l).reverse
def und (l : List Int) : List Int := (l.reverse).map fun x => 0 - x
/-- a stack of a plain row -/
def stk : List Int → Prop
  | [] => True
  | [_] => True
  | y :: z :: t => z ≠ 0 - y ∧ stk (z :: t)
theorem stk_tail {y : Int} {t : List Int} (h : stk (y :: t)) : stk t := by
  cases t with
  | nil => trivial
  | cons z t => exact h.2
theorem stk_push {s : List Int} (h : stk s) (x : Int) : stk (push s x) := by
  cases s with
  | nil => trivial
  | cons y t =>
    show stk (if y = 0 - x then t else x :: y :: t)
    by_cases e : y = 0 - x
    · rw [if_pos e]; exact stk_tail h
    · rw [if_neg e]; exact ⟨e, h⟩
theorem stk_redR : ∀ {s : List Int} (l : List Int), stk s → stk (redR s l)
  | s, [], h => h
  | s, x :: l, h => stk_redR (s := push s x) l (stk_push h x)
theorem redR_append (s a b : List Int) : redR s (a ++ b) = redR (redR s a) b := List.foldl_append ..
/-- x and then 0 - x leave a plain stack -/
theorem push_push {s : List Int} (h : stk s) (x : Int) : push (push s x) (0 - x) = s := by
  cases s with
  | nil => show (if x = 0 - (0 - x) then [] else _) = []; rw [if_pos (by omega)]
  | cons y t =>
    show push (if y = 0 - x then t else x :: y :: t) (0 - x) = y :: t
    by_cases e : y = 0 - x
    · rw [if_pos e]
      cases t with
      | nil => show [0 - x] = [y]; rw [e]
      | cons z t =>
        show (if z = 0 - (0 - x) then t else (0 - x) :: z :: t) = y :: z :: t
        have : z ≠ 0 - y := h.1
        rw [if_neg (by omega), e]
    · rw [if_neg e]
      show (if x = 0 - (0 - x) then y :: t else _) = y :: t
      rw [if_pos (by omega)]
/-- the stack's row, done upon a plain stack, is as the letters that made it -/
theorem redR_stack {s : List Int} (h : stk s) : ∀ (l t : List Int), stk t → redR s ((redR t l).reverse) = redR (redR s t.reverse) l := by
  intro l
  induction l with
  | nil => intro t _; rfl
  | cons x l ih =>
    intro t ht
    show redR s ((redR (push t x) l).reverse) = redR (push (redR s t.reverse) x) l
    rw [ih (push t x) (stk_push ht x)]
    congr 1
    cases t with
    | nil => rfl
    | cons y t =>
      show redR s (if y = 0 - x then t else x :: y :: t).reverse = push (redR s (y :: t).reverse) x
      by_cases e : y = 0 - x
      · rw [if_pos e, List.reverse_cons, redR_append]
        show redR s t.reverse = push (push (redR s t.reverse) y) x
        have := push_push (stk_redR (s := s) t.reverse h) y
        have e2 : x = 0 - y := by omega
        rw [e2, this]
      · rw [if_neg e, List.reverse_cons, redR_append]; rfl
theorem redR_red {s : List Int} (h : stk s) (l : List Int) : redR s (red l) = redR s l := redR_stack h l [] trivial
theorem red_red (l : List Int) : red (red l) = red l := by unfold red; rw [show redR [] (redR [] l).reverse = redR [] l from redR_red (s := []) trivial l]
theorem red_left (a b : List Int) : red (red a ++ b) = red (a ++ b) := by
  unfold red
  rw [redR_append, redR_append, show redR [] (redR [] a).reverse = redR [] a from redR_red (s := []) trivial a]
theorem red_right (a b : List Int) : red (a ++ red b) = red (a ++ b) := by
  have h : redR (redR [] a) (red b) = redR (redR [] a) b := redR_red (stk_redR (s := []) a trivial) b
  show (redR [] (a ++ red b)).reverse = (redR [] (a ++ b)).reverse
  rw [redR_append, redR_append, h]
theorem push_mem {s : List Int} {x y : Int} (h : y ∈ push s x) : y = x ∨ y ∈ s := by
  cases s with
  | nil => exact .inl (List.mem_singleton.mp h)
  | cons z t =>
    have h : y ∈ (if z = 0 - x then t else x :: z :: t) := h
    by_cases e : z = 0 - x
    · rw [if_pos e] at h; exact .inr (List.mem_cons_of_mem _ h)
    · rw [if_neg e] at h; exact (List.mem_cons.mp h)
theorem redR_mem : ∀ {s : List Int} (l : List Int) {y : Int}, y ∈ redR s l → y ∈ l ∨ y ∈ s
  | s, [], y, h => .inr h
  | s, x :: l, y, h => by
    rcases redR_mem (s := push s x) l h with h | h
    · exact .inl (List.mem_cons_of_mem _ h)
    · rcases push_mem h with h | h
      · exact .inl (by rw [h]; exact List.mem_cons_self)
      · exact .inr h
theorem red_mem {l : List Int} {y : Int} (h : y ∈ red l) : y ∈ l := by
  rcases redR_mem (s := []) l (List.mem_reverse.mp h) with h | h
  · exact h
  · exact nomatch h
theorem push_len (s : List Int) (x : Int) : (push s x).length ≤ s.length + 1 := by
  cases s with
  | nil => exact Nat.le_refl _
  | cons z t =>
    show (if z = 0 - x then t else x :: z :: t).length ≤ _
    split
    · simp; omega
    · simp
theorem redR_len : ∀ (s l : List Int), (redR s l).length ≤ s.length + l.length
  | s, [] => Nat.le_refl _
  | s, x :: l => by
    have h1 := redR_len (push s x) l
    have h2 := push_len s x
    show (redR (push s x) l).length ≤ _
    simp only [List.length_cons]
    omega
theorem red_len (l : List Int) : (red l).length ≤ l.length := by
  unfold red
  rw [List.length_reverse]
  have := redR_len [] l
  simpa using this
theorem und_len (l : List Int) : (und l).length = l.length := by unfold und; simp
theorem und_mem {l : List Int} {y : Int} (h : y ∈ und l) : 0 - y ∈ l := by
  unfold und at h
  obtain ⟨x, h1, h2⟩ := List.mem_map.mp h
  have : 0 - y = x := by omega
  rw [this]; exact List.mem_reverse.mp h1
/-- sums -/
def bal (d : Int) (l : List Int) : Int := (l.count d : Int) - l.count (0 - d)
theorem bal_cons (d x : Int) (l : List Int) : bal d (x :: l) = bal d l + (if x = d then 1 else 0) - (if x = 0 - d then 1 else 0) := by
  unfold bal
  rw [List.count_cons, List.count_cons]
  simp only [beq_iff_eq]
  split <;> split <;> simp <;> omega
theorem bal_append (d : Int) (a b : List Int) : bal d (a ++ b) = bal d a + bal d b := by
  unfold bal
  rw [List.count_append, List.count_append]
  simp; omega
theorem bal_rev (d : Int) (a : List Int) : bal d a.reverse = bal d a := by
  unfold bal
  rw [List.count_reverse, List.count_reverse]
theorem bal_push (d : Int) (s : List Int) (x : Int) : bal d (push s x) = bal d (x :: s) := by
  cases s with
  | nil => rfl
  | cons y t =>
    show bal d (if y = 0 - x then t else x :: y :: t) = _
    by_cases e : y = 0 - x
    · rw [if_pos e, bal_cons, bal_cons]
      subst e
      by_cases h1 : x = d
      · by_cases h2 : x = 0 - d
        · have a : d = 0 := by omega
          subst a
          simp [h1]
        · rw [if_pos h1, if_neg h2, if_neg (show ¬ 0 - x = d by omega), if_pos (show 0 - x = 0 - d by omega)]; omega
      · by_cases h2 : x = 0 - d
        · rw [if_neg h1, if_pos h2, if_pos (show 0 - x = d by omega), if_neg (show ¬ 0 - x = 0 - d by omega)]; omega
        · rw [if_neg h1, if_neg h2, if_neg (show ¬ 0 - x = d by omega), if_neg (show ¬ 0 - x = 0 - d by omega)]; omega
    · rw [if_neg e]
theorem bal_redR (d : Int) : ∀ (s l : List Int), bal d (redR s l) = bal d s + bal d l
  | s, [] => by show bal d s = bal d s + 0; omega
  | s, x :: l => by
    show bal d (redR (push s x) l) = _
    rw [bal_redR d (push s x) l, bal_push, bal_cons, bal_cons]; omega
theorem bal_red (d : Int) (l : List Int) : bal d (red l) = bal d l := by
  unfold red
  rw [bal_rev, bal_redR]
  show 0 + bal d l = bal d l
  omega
end Pd

set_option Elab.async false
set_option linter.all false
set_option maxRecDepth 100000
set_option maxHeartbeats 4000000
/-! Rg: rings. -/
namespace Pd
theorem und_app (a b : List Int) : und (a ++ b) = und b ++ und a := by unfold und; simp
theorem und_und (a : List Int) : und (und a) = a := by
  unfold und
  rw [← List.map_reverse, List.reverse_reverse, List.map_map]
  have : ((fun x : Int => 0 - x) ∘ fun x => 0 - x) = id := by
    funext x
    show 0 - (0 - x) = x
    omega
  rw [this, List.map_id]
theorem redR_can : ∀ (w s : List Int), stk s → redR s (w ++ und w) = s
  | [], s, _ => rfl
  | x :: w, s, h => by
    have e : und (x :: w) = und w ++ [0 - x] := by unfold und; simp
    rw [e]
    show redR (push s x) (w ++ (und w ++ [0 - x])) = s
    rw [← List.append_assoc, redR_append, redR_can w (push s x) (stk_push h x)]
    exact push_push h x
theorem red_can (a w b : List Int) : red (a ++ (w ++ (und w ++ b))) = red (a ++ b) := by
  unfold red
  have h : stk (redR [] a) := stk_redR a trivial
  rw [redR_append, ← List.append_assoc, redR_append, redR_can w _ h, redR_append]
theorem red_can2 (a w b : List Int) : red (a ++ (und w ++ (w ++ b))) = red (a ++ b) := by
  have := red_can a (und w) b
  rwa [und_und] at this
theorem red_nil_of (w : List Int) : red (w ++ und w) = [] := by
  have := red_can [] w []
  rw [List.append_nil, List.nil_append] at this
  exact this
theorem red_und_red (z : List Int) : red (und (red z)) = red (und z) := by
  have h1 : red (z ++ und (red z)) = [] := by
    rw [← red_left, red_nil_of]
  have h2 : red (und z ++ (z ++ und (red z))) = red (und z) := by
    rw [← red_right, h1, List.append_nil]
  have h3 := red_can2 [] z (und (red z))
  rw [List.nil_append, List.nil_append] at h3
  rw [← h3, h2]
theorem red_undred (a z : List Int) : red (a ++ und (red z)) = red (a ++ und z) := by
  rw [← red_right, red_und_red, red_right]
/-! ### the tail -/
def isT (l : List Int) (c : Nat) : Bool := decide (2 * c + 1 < l.length) && decide (l.getD c 0 = 0 - l.getD (l.length - 1 - c) 0)
def TailAt (l : List Int) (c : Nat) : Prop := (∀ i, i < c → isT l i = true) ∧ isT l c = false
theorem first_false (p : Nat → Bool) : ∀ n, (∀ i, i < n → p i = true) ∨ ∃ c, c < n ∧ (∀ i, i < c → p i = true) ∧ p c = false
  | 0 => .inl fun i hi => absurd hi (Nat.not_lt_zero i)
  | n + 1 => by
    rcases first_false p n with h | ⟨c, h1, h2, h3⟩
    · cases e : p n with
      | true =>
        refine .inl fun i hi => ?_
        rcases Nat.lt_succ_iff_lt_or_eq.mp hi with h' | rfl
        · exact h i h'
        · exact e
      | false => exact .inr ⟨n, Nat.lt_succ_self n, h, e⟩
    · exact .inr ⟨c, Nat.lt_succ_of_lt h1, h2, h3⟩
theorem tail_ex (l : List Int) : ∃ c, TailAt l c := by
  rcases first_false (isT l) (l.length + 1) with h | ⟨c, _, h2, h3⟩
  · have := h l.length (Nat.lt_succ_self _)
    unfold isT at this
    rw [decide_eq_false (by omega)] at this
    cases this
  · exact ⟨c, h2, h3⟩
theorem tail_len {l : List Int} {c : Nat} (h : ∀ i, i < c → isT l i = true) : 2 * c ≤ l.length := by
  cases c with
  | zero => omega
  | succ c =>
    have := h c (Nat.lt_succ_self c)
    unfold isT at this
    rw [Bool.and_eq_true, decide_eq_true_eq] at this
    omega
theorem tail_at {l : List Int} {c i : Nat} (h : ∀ i, i < c → isT l i = true) (hi : i < c) : l.getD i 0 = 0 - l.getD (l.length - 1 - i) 0 := by
  have := h i hi
  unfold isT at this
  rw [Bool.and_eq_true, decide_eq_true_eq, decide_eq_true_eq] at this
  exact this.2
def mid (l : List Int) (c : Nat) : List Int := (l.drop c).take (l.length - 2 * c)
theorem mid_len {l : List Int} {c : Nat} (h : 2 * c ≤ l.length) : (mid l c).length = l.length - 2 * c := by
  unfold mid
  rw [List.length_take, List.length_drop]
  omega
theorem mid_getD {l : List Int} {c i : Nat} (h : i < l.length - 2 * c) : (mid l c).getD i 0 = l.getD (c + i) 0 := by
  unfold mid
  rw [List.getD_eq_getElem?_getD, List.getD_eq_getElem?_getD, List.getElem?_take, if_pos h, List.getElem?_drop]
theorem mid_zero (l : List Int) : mid l 0 = l := by
  unfold mid
  rw [List.drop_zero, Nat.mul_zero, Nat.sub_zero, List.take_length]
theorem mid_succ {l : List Int} {c : Nat} (h : 2 * c + 1 < l.length) : ((mid l c).drop 1).take ((mid l c).length - 2) = mid l (c + 1) := by
  rw [mid_len (by omega)]
  unfold mid
  rw [List.drop_take, List.take_take, List.drop_drop]
  congr 1
  omega
theorem tail_split {l : List Int} {c : Nat} (h : ∀ i, i < c → isT l i = true) : l = l.take c ++ (mid l c ++ und (l.take c)) := by
  have hl := tail_len h
  have e : l.drop (l.length - c) = und (l.take c) := by
    apply List.ext_getElem?
    intro i
    unfold und
    rw [List.getElem?_drop, List.getElem?_map]
    by_cases hi : i < c
    · rw [List.getElem?_reverse (by rw [List.length_take]; omega), List.length_take, Nat.min_eq_left (by omega), List.getElem?_take, if_pos (by omega)]
      have h2 := tail_at h (i := c - 1 - i) (by omega)
      rw [List.getD_eq_getElem?_getD, List.getD_eq_getElem?_getD, show l.length - 1 - (c - 1 - i) = l.length - c + i by omega] at h2
      rw [List.getElem?_eq_getElem (show l.length - c + i < l.length by omega), List.getElem?_eq_getElem (show c - 1 - i < l.length by omega)] at h2 ⊢
      show some _ = some _
      simp only [Option.getD_some] at h2
      rw [h2]
      congr 1
      show _ = 0 - (0 - _)
      omega
    · rw [List.getElem?_eq_none (show l.length ≤ l.length - c + i by omega), List.getElem?_eq_none]
      · rfl
      · rw [List.length_reverse, List.length_take]; omega
  have e2 : l.drop c = mid l c ++ l.drop (l.length - c) := by
    have h3 := List.take_append_drop (l.length - 2 * c) (l.drop c)
    rw [List.drop_drop, show c + (l.length - 2 * c) = l.length - c by omega] at h3
    exact h3.symm
  rw [← e, ← e2, List.take_append_drop]
/-! ### the first of all turns -/
def xr (m : List Int) (i : Nat) : Int := m.getD (i % m.length) 0
def rot (m : List Int) (k : Nat) : List Int := m.drop k ++ m.take k
def lss (m : List Int) (p q : Nat) : Prop := ∃ j, j < m.length ∧ (∀ i, i < j → xr m (p + i) = xr m (q + i)) ∧ xr m (p + j) < xr m (q + j)
def btn (m : List Int) (p : Nat) : Prop := ∃ q, q < m.length ∧ lss m q p
def LeastAt (m : List Int) (k : Nat) : Prop := (m = [] ∧ k = 0) ∨ (k < m.length ∧ ¬ btn m k ∧ ∀ p, p < k → btn m p)
section
variable {m : List Int} {p q r : Nat}
theorem xr_mod (i : Nat) : xr m (q % m.length + i) = xr m (q + i) := by
  unfold xr
  rw [Nat.mod_add_mod]
theorem lss_trans (h1 : lss m p q) (h2 : lss m q r) : lss m p r := by
  obtain ⟨j, a1, a2, a3⟩ := h1
  obtain ⟨k, b1, b2, b3⟩ := h2
  rcases Nat.lt_trichotomy j k with h | rfl | h
  · exact ⟨j, a1, fun i hi => (a2 i hi).trans (b2 i (by omega)), by rw [← b2 j h]; exact a3⟩
  · exact ⟨j, a1, fun i hi => (a2 i hi).trans (b2 i hi), Int.lt_trans a3 b3⟩
  · exact ⟨k, b1, fun i hi => (a2 i (by omega)).trans (b2 i hi), by rw [a2 k h]; exact b3⟩
theorem lss_irr : ¬ lss m p p := fun ⟨_, _, _, h⟩ => Int.lt_irrefl _ h
theorem lss_btn (h : lss m q p) (hm : 0 < m.length) : btn m p := by
  obtain ⟨j, a1, a2, a3⟩ := h
  exact ⟨q % m.length, Nat.mod_lt _ hm, j, a1, fun i hi => by rw [xr_mod]; exact a2 i hi, by rw [xr_mod]; exact a3⟩
theorem unbeaten : ∀ n, 0 < n → n ≤ m.length → ∃ k, k < n ∧ ∀ q, q < n → ¬ lss m q k
  | 0, h, _ => absurd h (Nat.lt_irrefl 0)
  | n + 1, _, hn => by
    by_cases h0 : n = 0
    · subst h0
      exact ⟨0, by omega, fun q hq => by
        have : q = 0 := by omega
        subst this
        exact lss_irr⟩
    · obtain ⟨k, h1, h2⟩ := unbeaten n (by omega) (by omega)
      by_cases h : lss m n k
      · refine ⟨n, by omega, fun q hq hl => ?_⟩
        rcases Nat.lt_succ_iff_lt_or_eq.mp hq with hq | rfl
        · exact h2 q hq (lss_trans hl h)
        · exact lss_irr hl
      · refine ⟨k, by omega, fun q hq hl => ?_⟩
        rcases Nat.lt_succ_iff_lt_or_eq.mp hq with hq | rfl
        · exact h2 q hq hl
        · exact h hl
theorem least_ex (m : List Int) : ∃ k, LeastAt m k := by
  by_cases hm : m = []
  · exact ⟨0, .inl ⟨hm, rfl⟩⟩
  · have hl := List.length_pos_iff.mpr hm
    obtain ⟨k, h1, h2⟩ := unbeaten (m := m) m.length hl (Nat.le_refl _)
    have hk : ¬ btn m k := fun ⟨q, a, b⟩ => h2 q a b
    rcases first_false (fun p => @decide (btn m p) (Classical.propDecidable _)) m.length with h | ⟨c, a, b, d⟩
    · have := h k h1
      exact absurd (@of_decide_eq_true _ (Classical.propDecidable _) this) hk
    · exact ⟨c, .inr ⟨a, @of_decide_eq_false _ (Classical.propDecidable _) d, fun p hp => @of_decide_eq_true _ (Classical.propDecidable _) (b p hp)⟩⟩
theorem rot_len (hp : p ≤ m.length) : (rot m p).length = m.length := by
  unfold rot
  rw [List.length_append, List.length_drop, List.length_take]
  omega
theorem rot_at (hp : p < m.length) {i : Nat} (hi : i < m.length) : (rot m p)[i]? = some (xr m (p + i)) := by
  unfold rot xr
  rw [List.getD_eq_getElem?_getD]
  by_cases h : p + i < m.length
  · rw [List.getElem?_append_left (by rw [List.length_drop]; omega), List.getElem?_drop, Nat.mod_eq_of_lt h, List.getElem?_eq_getElem h]; rfl
  · rw [List.getElem?_append_right (by rw [List.length_drop]; omega), List.length_drop, List.getElem?_take, if_pos (by omega), Nat.mod_eq_sub_mod (by omega), Nat.mod_eq_of_lt (by omega), show i - (m.length - p) = p + i - m.length by omega,
      List.getElem?_eq_getElem (show p + i - m.length < m.length by omega)]; rfl
theorem rot_get (hp : p < m.length) {i : Nat} (hi : i < m.length) (h : i < (rot m p).length) : (rot m p)[i] = xr m (p + i) := by
  have := rot_at hp hi
  rw [List.getElem?_eq_getElem h] at this
  exact Option.some.inj this
theorem rot_lt (hp : p < m.length) (hq : q < m.length) : rot m p < rot m q ↔ lss m p q := by
  have lp := rot_len (m := m) (p := p) (by omega)
  have lq := rot_len (m := m) (p := q) (by omega)
  rw [List.lt_iff_exists]
  constructor
  · rintro (⟨_, h⟩ | ⟨i, h1, h2, h3, h4⟩)
    · omega
    · rw [lp] at h1
      refine ⟨i, h1, fun j hj => ?_, ?_⟩
      · have := h3 j hj
        rwa [rot_get hp (by omega), rot_get hq (by omega)] at this
      · rwa [rot_get hp (by omega), rot_get hq (by omega)] at h4
  · rintro ⟨j, h1, h2, h3⟩
    refine .inr ⟨j, by omega, by omega, fun i hi => ?_, ?_⟩
    · rw [rot_get hp (by omega), rot_get hq (by omega)]; exact h2 i hi
    · rw [rot_get hp (by omega), rot_get hq (by omega)]; exact h3
end
theorem minR_fold : ∀ (xs : List (List Int)) (x : List Int), (xs.foldl (fun a y => if y < a then y else a) x) ∈ x :: xs ∧ ∀ y ∈ x :: xs, ¬ y < xs.foldl (fun a y => if y < a then y else a) x
  | [], x => ⟨List.mem_cons_self, fun y hy => by
      rw [List.mem_singleton.mp hy]
      exact List.lt_irrefl x⟩
  | y :: xs, x => by
    obtain ⟨h1, h2⟩ := minR_fold xs (if y < x then y else x)
    show (xs.foldl _ (if y < x then y else x)) ∈ _ ∧ ∀ z ∈ _, ¬ z < xs.foldl _ (if y < x then y else x)
    by_cases h : y < x
    · rw [if_pos h] at h1 h2 ⊢
      refine ⟨?_, fun z hz => ?_⟩
      · rcases List.mem_cons.mp h1 with e | e
        · rw [e]; simp
        · simp [e]
      · rcases List.mem_cons.mp hz with rfl | hz
        · exact fun hl => h2 y List.mem_cons_self (List.lt_trans h hl)
        · exact h2 z hz
    · rw [if_neg h] at h1 h2 ⊢
      refine ⟨?_, fun z hz => ?_⟩
      · rcases List.mem_cons.mp h1 with e | e
        · rw [e]; simp
        · simp [e]
      · rcases List.mem_cons.mp hz with rfl | hz
        · exact h2 z List.mem_cons_self
        · rcases List.mem_cons.mp hz with rfl | hz
          · intro hl
            have h3 : ¬ x < xs.foldl (fun a y => if y < a then y else a) x := h2 x List.mem_cons_self
            exact h3 (List.lt_of_le_of_lt h hl)
          · exact h2 z (List.mem_cons_of_mem _ hz)
theorem minR_rot {m : List Int} {k : Nat} (h : LeastAt m k) (hm : m ≠ []) : minR ((List.range m.length).map (rot m)) = rot m k := by
  rcases h with ⟨h, _⟩ | ⟨h1, h2, _⟩
  · exact absurd h hm
  cases e : (List.range m.length).map (rot m) with
  | nil =>
    have := congrArg List.length e
    rw [List.length_map, List.length_range, List.length_nil] at this
    omega
  | cons x xs =>
    obtain ⟨a, b⟩ := minR_fold xs x
    rw [← e] at a b
    obtain ⟨p, hp, ep⟩ := List.mem_map.mp a
    have hp := List.mem_range.mp hp
    have b1 := b (rot m k) (List.mem_map.mpr ⟨k, List.mem_range.mpr h1, rfl⟩)
    show xs.foldl _ x = _
    rw [← ep] at b1 ⊢
    have b2 : ¬ rot m p < rot m k := fun hl => h2 ⟨p, hp, (rot_lt hp h1).mp hl⟩
    exact List.le_antisymm b1 b2
end Pd

set_option Elab.async false
set_option linter.all false
set_option maxRecDepth 100000
set_option maxHeartbeats 4000000
/-! Ev: operations on known data. -/
namespace Pd
open PySem PySem.Spec PyProof.Rows L2
theorem addD_int {a b : Int} : addD (.int a) (.int b) = some (.int (a + b)) := rfl
theorem subD_int {a b : Int} : subD (.int a) (.int b) = some (.int (a - b)) := rfl
theorem ltD_int {a b : Int} : ltD (.int a) (.int b) = some (.bl (decide (a < b))) := rfl
theorem leD_int {a b : Int} : leD (.int a) (.int b) = some (.bl (decide (a ≤ b))) := rfl
theorem gtD_int {a b : Int} : gtD (.int a) (.int b) = some (.bl (decide (b < a))) := rfl
theorem geD_int {a b : Int} : geD (.int a) (.int b) = some (.bl (decide (b ≤ a))) := rfl
theorem negD_int {a : Int} : negD (.int a) = some (.int (0 - a)) := by
  show some (D.int (-a)) = _
  rw [show -a = 0 - a by omega]
theorem eqD_int {a b : Int} : eqD (.int a) (.int b) = some (.bl (decide (a = b))) := by rw [eqD_of okq_int okq_int, eqb_int]
theorem neD_int {a b : Int} : neD (.int a) (.int b) = some (.bl (!decide (a = b))) := by rw [neD_of okq_int okq_int, eqb_int]
theorem neD_zs {a : List Int} : neD (.lst (zs a)) (.lst []) = some (.bl (!decide (a = []))) := by
  rw [show (D.lst [] : D) = .lst (zs []) from rfl, neD_of okq_ints okq_ints, eqb_ints]
theorem eqD_zs {a : List Int} : eqD (.lst (zs a)) (.lst []) = some (.bl (decide (a = []))) := by
  rw [show (D.lst [] : D) = .lst (zs []) from rfl, eqD_of okq_ints okq_ints, eqb_ints]
theorem eqD_row {a b : List Int} : eqD (row a) (row b) = some (.bl (decide (a = b))) := by rw [eqD_of okq_row okq_row, eqb_row]
theorem neD_row {a b : List Int} : neD (row a) (row b) = some (.bl (!decide (a = b))) := by rw [neD_of okq_row okq_row, eqb_row]
theorem zs_app {a b : List Int} : zs a ++ zs b = zs (a ++ b) := by unfold zs; rw [List.map_append]
theorem zs_one {x : Int} : [D.int x] = zs [x] := rfl
theorem zs_len {a : List Int} : (zs a).length = a.length := by unfold zs; rw [List.length_map]
theorem zs_drop {a : List Int} : (zs a).dropLast = zs a.dropLast := by unfold zs; rw [List.map_dropLast]
theorem zs_rev {a : List Int} : (zs a).reverse = zs a.reverse := by unfold zs; rw [List.map_reverse]
theorem zs_mem {a : List Int} {d : D} (h : d ∈ zs a) : ∃ i, i ∈ a ∧ d = .int i := by
  obtain ⟨i, h1, h2⟩ := List.mem_map.mp h
  exact ⟨i, h1, h2.symm⟩
theorem atD_last {a : List Int} {x : Int} : atD (.lst (zs (a ++ [x]))) (.int (0 - 1)) = some (.int x) := by
  show L2.atI (zs (a ++ [x])) (0 - 1) = _
  rw [← zs_app, ← zs_one]
  show L2.atI (zs a ++ [D.int x]) (-1) = _
  unfold L2.atI L2.ixN
  have : (zs a ++ [D.int x]).length = (zs a).length + 1 := by simp
  rw [this]
  rw [if_neg (by omega), if_pos (by omega)]
  show (zs a ++ [D.int x])[(-1 + (((zs a).length + 1 : Nat) : Int)).toNat]? = _
  rw [show (-1 + (((zs a).length + 1 : Nat) : Int)).toNat = (zs a).length by omega]
  simp
theorem popD_app {a : List D} {x : D} : popD (a ++ [x]) = some (x, a) := by
  unfold popD
  have : (a ++ [x]).length - 1 = a.length := by simp
  rw [this]
  simp
theorem appD_some {a : List D} {x : D} (h : a.length < top) : appD a x = some (.non, a ++ [x]) := if_pos h
theorem few_some' {α : Type} {l : List α} (h : l.length ≤ top) : few l = some l := if_pos h
theorem few_nil {α : Type} : few ([] : List α) = some [] := rfl
theorem few_1 {α : Type} {a : α} : few [a] = some [a] := rfl
theorem few_2 {α : Type} {a b : α} : few [a, b] = some [a, b] := rfl
theorem few_3 {α : Type} {a b c : α} : few [a, b, c] = some [a, b, c] := rfl
theorem few_4 {α : Type} {a b c d : α} : few [a, b, c, d] = some [a, b, c, d] := rfl
theorem tgName_at {i : Nat} {d : D} {ρ : Rho} (h : i < ρ.length) : tgName i d ρ = some (ρ.set i (.dat d)) := if_pos h
theorem boolsD_map {α : Type} {l : List α} {p : α → Bool} : boolsD (l.map fun d => D.bl (p d)) = some (l.map p) := by
  induction l with
  | nil => rfl
  | cons a l ih =>
    show (boolsD (l.map fun d => D.bl (p d))).map (p a :: ·) = _
    rw [ih]; rfl
theorem allD_map {α : Type} {l : List α} {p : α → Bool} : allD (.lst (l.map fun d => D.bl (p d))) = some (.bl (l.all p)) := by
  show (boolsD (l.map fun d => D.bl (p d))).map _ = _
  rw [boolsD_map]
  show some (D.bl ((l.map p).all fun b => b)) = _
  rw [List.all_map]; rfl
theorem filt_true {α : Type} {l : List α} : l.filter (fun _ => true) = l := List.filter_eq_self.mpr fun _ _ => rfl
theorem isi_tt {l : List D} : isiD .tuple (.tup l) = some (.bl true) := rfl
theorem lenD_tup {l : List D} : lenD (.tup l) = some (.int l.length) := rfl
theorem lenD_lst {l : List D} : lenD (.lst l) = some (.int l.length) := rfl
theorem tupleD_tup {l : List D} : tupleD (.tup l) = some (.tup l) := rfl
theorem tupleD_lst {l : List D} : tupleD (.lst l) = some (.tup l) := rfl
theorem listD_tup {l : List D} : listD (.tup l) = some l := rfl
theorem listD_lst {l : List D} : listD (.lst l) = some l := rfl
theorem itemsD_tup {l : List D} : itemsD (.tup l) = some l := rfl
theorem itemsD_lst {l : List D} : itemsD (.lst l) = some l := rfl
theorem ritemsD_tup {l : List D} : ritemsD (.tup l) = some l.reverse := rfl
theorem revD_tup {l : List D} : revD (.tup l) = some (.tup l.reverse) := rfl
theorem wF_k {d : D} {ls' : LS} {G : D → LS → Prop} {E : EX} : wF (.ok d ls') G E = G d ls' := rfl
theorem wF_x {x : XV} {ls' : LS} {G : D → LS → Prop} {E : EX} : wF (.rs x ls') G E = E x ls' := rfl
local macro_rules | `(tactic| walk_at "ev") => `(tactic| try simp only [wM_bnd, wM_ret, wM_opt, wI_some, wM_nam, nmI_dat, nmI_own, gvI_dat, gvI_own, owI_own, inI_int, itI_int, wM_lookd, wM_looks, wM_gived, wM_gives, wM_isB, wM_andM, wM_orM, wM_notM, wM_ifM, wM_andV, wM_orV, wM_notV, wM_bin, wM_uno, wM_dt, wM_ls1, wM_consM, wM_tupM, wM_lstM, wM_itemsM, wM_ritemsM, wM_callM, wM_keyM, wM_methM, wM_meth0M, wM_mthM, wM_chainM, wM_partM, wM_cutM, wP_seqP, wP_lift, wP_skip, wP_brk, wP_cnt, wP_rsP, wP_sto, wP_stoN, wP_setV, wP_setN, wP_retP, wP_drop, wP_ifP, wP_asgP, wP_par2, wP_par3, wP_augP, wP_forP, slD,
  addD_int, subD_int, ltD_int, leD_int, gtD_int, geD_int, negD_int, eqD_int, neD_int, neD_zs, eqD_zs, eqD_row, neD_row, isi_tt, lenD_tup, lenD_lst, tupleD_tup, tupleD_lst, listD_tup, listD_lst, itemsD_tup, itemsD_lst, ritemsD_tup, revD_tup, few_nil, few_1, few_2, few_3, few_4, tgName,
  ini, List.map_cons, List.map_nil, List.length_cons, List.length_nil, List.replicate, List.cons_append, List.nil_append, List.getElem?_cons_zero, List.getElem?_cons_succ, List.set_cons_zero, List.set_cons_succ, Nat.reduceAdd, Nat.reduceSub, Nat.reduceLT, Nat.zero_add, Nat.sub_self, if_true, if_false, reduceIte, true_and, and_true, and_self, wF_k, wF_x, Bool.not_true, Bool.not_false, Bool.false_eq_true, Nat.lt_irrefl])
variable {en : En} {ls : LS}
/-- whole numbers -/
def isW : D → Bool
  | .int _ => true
  | _ => false
def plainV : D → Bool
  | .ref _ => false
  | .exn _ => false
  | .ktp _ => false
  | .dcf _ _ => false
  | _ => true
theorem sp_is_whole {d : D} (h : plainV d = true) : F_is_whole en [d] ls = .ok (.bl (isW d)) ls := by cases d <;> first | rfl | cases h
def btw : D → Int → Int → Bool
  | .int i, lo, hi => decide (lo ≤ i) && decide (i ≤ hi)
  | _, _, _ => false
theorem sp_is_between {d : D} {lo hi : Int} (h : plainV d = true) : F_is_between en [d, .int lo, .int hi] ls = .ok (.bl (btw d lo hi)) ls := by
  refine wF_is ?_
  unfold F_is_between
  rw [wF_end]
  unfold p_is_between
  walk_at "ev"
  rw [sp_is_whole h]
  cases d <;> try (exact ⟨rfl, rfl⟩)
  rename_i i
  show wM (isB (.bl true)) _ _ _ _
  walk_at "ev"
  unfold btw
  by_cases h1 : lo ≤ i <;> by_cases h2 : i ≤ hi <;> simp [h1, h2]
theorem sp_need_deeds {d : D} (h : plainV d = true) : F_need_deeds en [d] ls = if btw d 1 4 = true then .ok .non ls else .rs ⟨en.BadDeeds, none⟩ ls := by
  by_cases hb : btw d 1 4 = true
  · rw [if_pos hb]
    refine wF_is ?_
    unfold F_need_deeds
    rw [wF_end]
    unfold p_need_deeds
    walk_at "ev"
    rw [sp_is_between h, hb]
    first | exact ⟨rfl, rfl⟩ | rfl
  · rw [if_neg hb]
    refine wF_rs ?_
    unfold F_need_deeds
    rw [wF_end]
    unfold p_need_deeds
    walk_at "ev"
    rw [sp_is_between h, Bool.eq_false_iff.mpr hb]
    first | exact ⟨rfl, rfl⟩ | rfl
/-- letters of n deeds -/
def lett (n : Int) : D → Bool
  | .int i => (decide (0 - n ≤ i) && decide (i ≤ n)) && !decide (i = 0)
  | _ => false
theorem sp_fits_letter {d : D} {n : Int} (h : plainV d = true) : F_fits_letter en [.int n, d] ls = .ok (.bl (lett n d)) ls := by
  refine wF_is ?_
  unfold F_fits_letter
  rw [wF_end]
  unfold p_fits_letter
  walk_at "ev"
  rw [sp_is_between h]
  cases d with
  | int i =>
    show wM (isB (.bl _)) _ _ _ _
    walk_at "ev"
    rw [show lett n (.int i) = (btw (.int i) (0 - n) n && !decide (i = 0)) from rfl]
    cases btw (.int i) (0 - n) n <;> simp
  | _ => first | exact ⟨rfl, rfl⟩ | rfl
def plainL (l : List D) : Bool := l.all plainV
def isRow (n : Int) : D → Bool
  | .tup l => decide (l.length ≤ 200) && l.all (lett n)
  | _ => false
/-- data whose items may be asked -/
def plainR : D → Bool
  | .tup l => plainL l
  | d => plainV d
theorem sp_fits_row {d : D} {n : Int} (h : plainR d = true) : F_fits_row en [.int n, d] ls = .ok (.bl (isRow n d)) ls := by
  refine wF_is ?_
  unfold F_fits_row
  rw [wF_end]
  unfold p_fits_row
  walk_at "ev"
  cases d with
  | tup l =>
    walk_at "ev"
    by_cases hl : (200 : Int) < (l.length : Int)
    · simp only [hl, decide_true, if_true]
      unfold isRow
      have : ¬ l.length ≤ 200 := by omega
      simp [this]
    · simp only [hl, decide_false, if_false, Bool.false_eq_true]
      refine wM_lcp ?_
      walk_at "ev"
      refine ⟨rfl, rfl, Nat.le_trans (show l.length ≤ 200 by omega) (by decide), fun _ => true, fun d => .bl (lett n d), fun d hd => ?_, ?_⟩
      · have hp : plainV d = true := List.all_eq_true.mp h d hd
        walk_at "ev"
        refine ⟨rfl, rfl, fun _ => ?_⟩
        have e : F_fits_letter en [.int n, d] ls = .ok (.bl (lett n d)) ls := sp_fits_letter hp
        show callM 2 (F_fits_letter en) _ _ _ = _
        unfold callM bnd
        show (if [D.int n, d].length = 2 then callF (F_fits_letter en [.int n, d] ls) _ _ else .no) = _
        rw [e]; rfl
      · rw [filt_true, allD_map]
        unfold isRow
        have : l.length ≤ 200 := by omega
        simp [wI, this]
  | _ => first | (cases h; done) | rfl | exact ⟨rfl, rfl⟩
/-! plain rows -/
theorem zs_split {l : List Int} {done rest : List D} {d : D} (h : zs l = done ++ d :: rest) : ∃ a x b, l = a ++ x :: b ∧ done = zs a ∧ d = .int x ∧ rest = zs b := by
  induction done generalizing l with
  | nil =>
    cases l with
    | nil => cases h
    | cons x b => cases h; exact ⟨[], x, b, rfl, rfl, rfl, rfl⟩
  | cons e done ih =>
    cases l with
    | nil => cases h
    | cons y l =>
      have h1 : D.int y = e := (List.cons.inj h).1
      obtain ⟨a, x, b, e1, e2, e3, e4⟩ := ih (l := l) (List.cons.inj h).2
      exact ⟨y :: a, x, b, by rw [e1]; rfl, by rw [e2, ← h1]; rfl, e3, e4⟩
theorem zs_inj {a b : List Int} (h : zs a = zs b) : a = b := by
  have := congrArg intsOf h
  rw [intsOf_zs, intsOf_zs] at this
  exact Option.some.inj this
theorem sp_plain_of {x : D} {l : List Int} (hx : itemsD x = some (zs l)) (hl : l.length ≤ 10000) : F_plain_of en [x] ls = .ok (row (red l)) ls := by
  refine wF_is ?_
  unfold F_plain_of
  rw [wF_end]
  unfold p_plain_of
  walk_at "ev"
  rw [hx]
  show wP _ _ _ _
  refine wP_for (fun done ρ ls' => ls' = ls ∧ ∃ s2 l1, done = zs l1 ∧ ρ = [.dat x, .own (zs (redR [] l1).reverse), s2]) ⟨rfl, .un, [], rfl, rfl⟩ ?_ ?_
  · rintro done d rest ρ ls' ed ⟨rfl, s2, l1, e1, rfl⟩
    obtain ⟨a, y, b, el, ea, rfl, eb⟩ := zs_split ed
    have e2 : l1 = a := zs_inj (e1.symm.trans ea)
    subst e2
    have hlen : (redR [] l1).length ≤ 10000 := by
      have := redR_len [] l1
      have : l.length = l1.length + (b.length + 1) := by rw [el]; simp
      simp at *; omega
    have hn : zs (l1 ++ [y]) = done ++ [.int y] := by rw [← zs_app, e1]; rfl
    have hr : redR [] (l1 ++ [y]) = push (redR [] l1) y := by rw [redR_append]; rfl
    walk_at "ev"
    cases hst : redR [] l1 with
    | nil =>
      simp only [List.reverse_nil, decide_true, Bool.not_true, if_false, Bool.false_eq_true]
      rw [appD_some (by decide)]
      refine ⟨.dat (.int y), l1 ++ [y], hn.symm, ?_⟩
      rw [hr, hst]; rfl
    | cons z t =>
      rw [List.reverse_cons, atD_last]
      walk_at "ev"
      have ne : ¬ (t.reverse ++ [z] = []) := by simp
      rw [decide_eq_false ne]
      simp only [Bool.not_false, if_true]
      by_cases hz : z = 0 - y
      · rw [if_pos (decide_eq_true hz), ← zs_app, ← zs_one, popD_app]
        refine ⟨.dat (.int y), l1 ++ [y], hn.symm, ?_⟩
        rw [hr, hst]
        show _ = [Sl.dat x, Sl.own (zs (if z = 0 - y then t else y :: z :: t).reverse), _]
        rw [if_pos hz]
      · rw [decide_eq_false hz]
        simp only [if_false, Bool.false_eq_true]
        rw [appD_some (by rw [zs_len, ← List.reverse_cons, List.length_reverse, ← hst]; exact Nat.lt_of_le_of_lt hlen (by decide))]
        refine ⟨.dat (.int y), l1 ++ [y], hn.symm, ?_⟩
        rw [hr, hst]
        show _ = [Sl.dat x, Sl.own (zs (if z = 0 - y then t else y :: z :: t).reverse), _]
        rw [if_neg hz, List.reverse_cons, List.reverse_cons, ← zs_app (b := [y])]; rfl
  · rintro ρ ls' ⟨rfl, s2, l1, e1, rfl⟩
    cases zs_inj e1
    walk_at "ev"
    rfl
theorem sp_mk_plain {x : D} {l : List Int} (hx : itemsD x = some (zs l)) (hl : l.length ≤ 10000) : F_law_mk_plain en [x] ls = .ok (row (red l)) ls := sp_plain_of (en := en) (ls := ls) hx hl
theorem sub_map {l : List Int} : (zs l).map (fun d => (subD (.int 0) d).getD .non) = zs (l.map fun x => 0 - x) := by
  unfold zs
  rw [List.map_map, List.map_map]; rfl
theorem sp_mk_undone {l : List Int} (hl : l.length ≤ 10000) : F_law_mk_undone en [row l] ls = .ok (row (und l)) ls := by
  refine wF_is ?_
  unfold F_law_mk_undone
  rw [wF_end]
  unfold p_law_mk_undone
  walk_at "ev"
  refine wM_lcp ?_
  unfold row
  walk_at "ev"
  refine ⟨rfl, rfl, by rw [List.length_reverse, zs_len]; exact Nat.le_trans hl (by decide), fun _ => true, fun d => (subD (.int 0) d).getD .non, fun d hd => ?_, ?_⟩
  · obtain ⟨i, _, rfl⟩ := zs_mem (List.mem_reverse.mp hd)
    walk_at "ev"
    exact ⟨rfl, rfl, fun _ => rfl⟩
  · rw [filt_true, zs_rev, sub_map]; rfl
theorem flat_append {α : Type} {a : List (List α)} {b : List α} : (a ++ [b]).flatten = a.flatten ++ b := by simp
/-- two fors, nothing changed -/
theorem wM_lc2p {ρ : Rho} {Q : List D → Rho → LS → Prop} {E : EX} {src : M (List D)} {t : D → Rho → Option Rho} {src1 : M (List D)} {t1 : D → Rho → Option Rho} {e : M D} {vs vs1 : List Nat} (h : wM src ρ ls (fun ds ρ ls => noOwn ρ vs = true ∧ unwipe ρ (wipeR ρ vs) vs = ρ ∧ ∃ (f : D → List D) (g : D → D),
    (∀ d ∈ ds, ∃ ρ1, t d (wipeR ρ vs) = some ρ1 ∧ src1 ρ1 ls = .ok (f d) ρ1 ls ∧ wipeR (wipeR ρ1 vs1) vs = wipeR ρ vs ∧ ∀ x ∈ f d, ∃ ρ2, t1 x (wipeR ρ1 vs1) = some ρ2 ∧ e ρ2 ls = .ok (g x) ρ2 ls ∧ wipeR ρ2 vs1 = wipeR ρ1 vs1) ∧ (ds.map f).flatten.length ≤ top ∧ Q ((ds.map f).flatten.map g) ρ ls) E) :
    wM (lc2M src t (ret true) src1 t1 (ret true) e vs vs1) ρ ls Q E := by
  unfold lc2M
  rw [wM_bnd]
  refine wM_imp h (fun ds ρ ls hh => ?_) fun _ _ z => z
  obtain ⟨h1, h2, f, g, hs, hl, q⟩ := hh
  show wU (if noOwn ρ vs = true then _ else _) Q E
  rw [if_pos h1]
  have go : ∀ (rest done : List D), ds = done ++ rest → lc2L t (ret true) src1 t1 (ret true) e vs vs1 rest ((done.map f).flatten.map g) (wipeR ρ vs) ls = .ok ((ds.map f).flatten.map g) (wipeR ρ vs) ls := by
    intro rest
    induction rest with
    | nil => intro done ed; rw [List.append_nil] at ed; subst ed; rfl
    | cons d rest ih =>
      intro done ed
      obtain ⟨ρ1, e1, e2, e3, hx⟩ := hs d (by rw [ed]; simp)
      have e4 : ds = (done ++ [d]) ++ rest := by rw [ed, List.append_assoc]; rfl
      have inner : lcL t1 (ret true) e vs1 (f d) ((done.map f).flatten.map g) (wipeR ρ1 vs1) ls = .ok (((done ++ [d]).map f).flatten.map g) (wipeR ρ1 vs1) ls := by
        obtain ⟨acc', ρ', ls', r1, r2, r3, r4⟩ := wM_lcL (t := t1) (c := ret true) (e := e) (vs := vs1) (ds := f d) (acc := (done.map f).flatten.map g) (ρ := wipeR ρ1 vs1) (ls := ls) (fun dn acc ρ' ls' => ρ' = wipeR ρ1 vs1 ∧ ls' = ls ∧ acc = (done.map f).flatten.map g ++ dn.map g) ⟨rfl, rfl, by simp⟩ (by
          rintro dn x rs acc ρ' ls' ex ⟨rfl, rfl, rfl⟩
          obtain ⟨ρ2, g1, g2, g3⟩ := hx x (by rw [ex]; simp)
          rw [g1]
          show wU (e ρ2 ls') _ _
          rw [g2]
          refine ⟨?_, g3, rfl, by simp⟩
          have a1 : (ds.map f).flatten.length = ((done.map f).flatten).length + (dn.length + (rs.length + 1)) + ((rest.map f).flatten).length := by
            rw [ed]
            simp only [List.map_append, List.map_cons, List.flatten_append, List.flatten_cons, List.length_append]
            rw [ex]
            simp
            omega
          rw [List.length_append, List.length_map, List.length_map]
          omega)
        rw [r1, r2, r3, r4]
        simp
      show lc2T (fun acc ρ ls => lc2L t (ret true) src1 t1 (ret true) e vs vs1 rest acc (wipeR ρ vs) ls) (ret true) src1 t1 (ret true) e vs1 _ ls (t d (wipeR ρ vs)) = _
      rw [e1]
      show lc2S (fun acc ρ ls => lc2L t (ret true) src1 t1 (ret true) e vs vs1 rest acc (wipeR ρ vs) ls) src1 t1 (ret true) e vs1 _ ρ1 ls = _
      unfold lc2S
      rw [e2]
      show lc2K _ (lcL t1 (ret true) e vs1 (f d) _ (wipeR ρ1 vs1) ls) = _
      rw [inner]
      show lc2L t (ret true) src1 t1 (ret true) e vs vs1 rest _ (wipeR (wipeR ρ1 vs1) vs) ls = _
      rw [e3]
      exact ih (done ++ [d]) e4
  have r := go ds [] rfl
  show wU (lcEnd ρ vs (lc2L t (ret true) src1 t1 (ret true) e vs vs1 ds [] (wipeR ρ vs) ls)) Q E
  rw [show ([] : List D) = ((([] : List D).map f).flatten.map g) from rfl, r]
  show Q _ (unwipe ρ (wipeR ρ vs) vs) ls
  rw [h2]
  exact q
def itemsG (d : D) : List D := (itemsD d).getD []
theorem rows_flat : ∀ (rs : List (List Int)), ((rs.map row).map itemsG).flatten = zs rs.flatten
  | [] => rfl
  | r :: rs => by
    show zs r ++ ((rs.map row).map itemsG).flatten = zs (r ++ rs.flatten)
    rw [rows_flat rs, zs_app]
/-- letters of l -/
def fitL (n : Int) (l : List Int) : Prop := ∀ x ∈ l, (0 - n ≤ x ∧ x ≤ n) ∧ x ≠ 0
theorem isRow_row {n : Int} {l : List Int} (h : fitL n l) (hl : l.length ≤ 200) : isRow n (row l) = true := by
  show (decide ((zs l).length ≤ 200) && (zs l).all (lett n)) = true
  rw [zs_len, decide_eq_true hl, Bool.true_and, List.all_eq_true]
  intro d hd
  obtain ⟨i, hi, rfl⟩ := zs_mem hd
  obtain ⟨⟨h1, h2⟩, h3⟩ := h i hi
  show ((decide (0 - n ≤ i) && decide (i ≤ n)) && !decide (i = 0)) = true
  rw [decide_eq_true h1, decide_eq_true h2, decide_eq_false h3]; rfl
theorem plainR_row {l : List Int} : plainR (row l) = true := List.all_eq_true.mpr fun d hd => by
  obtain ⟨i, _, rfl⟩ := zs_mem hd
  rfl
/-- a number of deeds -/
def dOk (n : Int) : Prop := 1 ≤ n ∧ n ≤ 4
theorem dOk_btw {n : Int} (h : dOk n) : btw (.int n) 1 4 = true := by
  show (decide (1 ≤ n) && decide (n ≤ 4)) = true
  rw [decide_eq_true h.1, decide_eq_true h.2]; rfl
theorem sp_nd {n : Int} (h : dOk n) : F_need_deeds en [.int n] ls = .ok .non ls := by rw [sp_need_deeds rfl, if_pos (dOk_btw h)]
theorem sp_ndX {d : D} (hp : plainV d = true) (h : btw d 1 4 = false) : F_need_deeds en [d] ls = .rs ⟨en.BadDeeds, none⟩ ls := by rw [sp_need_deeds hp, h]; rfl
theorem fitL_red {n : Int} {l : List Int} (h : fitL n l) : fitL n (red l) := fun x hx => h x (red_mem hx)
theorem fitL_und {n : Int} {l : List Int} (h : fitL n l) : fitL n (und l) := fun x hx => by
  have := h _ (und_mem hx)
  omega
theorem fitL_app {n : Int} {a b : List Int} (h : fitL n a) (h2 : fitL n b) : fitL n (a ++ b) := fun x hx => (List.mem_append.mp hx).elim (h x) (h2 x)
end Pd

set_option Elab.async false
set_option linter.all false
set_option maxRecDepth 100000
set_option maxHeartbeats 4000000
/-! Ev2: draws, rows drawn. -/
namespace Pd
open PySem PySem.Spec PyProof.Rows L2
theorem mulD_lst {a : List D} {k : Int} (h0 : 0 ≤ k) (h1 : k ≤ 1000) (hl : a.length ≤ 1000) : mulD (.lst a) (.int k) = some (.lst (List.replicate k.toNat a).flatten) := by
  have e : mulL (.lst a) (.int k) = some (List.replicate k.toNat a).flatten := by
    show (if decide (k ≤ 1000) && decide (a.length ≤ 1000) && decide (0 - 1000 ≤ k) then _ else _) = _
    rw [decide_eq_true h1, decide_eq_true hl, decide_eq_true (show 0 - 1000 ≤ k by omega)]; rfl
  show (none : Option D).or ((none : Option D).or ((mulL (.lst a) (.int k)).map .lst)) = _
  rw [e]; rfl
theorem mulD_tup {a : List D} {k : Int} (h0 : 0 ≤ k) (h1 : k ≤ 1000) (hl : a.length ≤ 1000) : mulD (.tup a) (.int k) = some (.tup (List.replicate k.toNat a).flatten) := by
  have e : mulT (.tup a) (.int k) = some (.tup (List.replicate k.toNat a).flatten) := by
    show (if (decide (k ≤ 1000) && decide (0 - 1000 ≤ k)) && decide (a.length ≤ 1000) then _ else _) = _
    rw [decide_eq_true h1, decide_eq_true hl, decide_eq_true (show 0 - 1000 ≤ k by omega)]; rfl
  show (none : Option D).or ((mulT (.tup a) (.int k)).or _) = _
  rw [e]; rfl
theorem absD_int {i : Int} : absD (.int i) = some (.int i.natAbs) := by
  show some (D.int (if i < 0 then -i else i)) = _
  congr 2
  split <;> omega
theorem addD_tup {a b : List D} (h : a.length + b.length ≤ top) : addD (.tup a) (.tup b) = some (.tup (a ++ b)) := by
  show (none : Option D).or ((if a.length + b.length ≤ top then some (D.tup (a ++ b)) else none).or _) = _
  rw [if_pos h]; rfl
theorem addD_lst {a b : List D} (h : a.length + b.length ≤ top) : addD (.lst a) (.lst b) = some (.lst (a ++ b)) := by
  have e : addL (.lst a) (.lst b) = some (a ++ b) := if_pos h
  show (none : Option D).or ((none : Option D).or (((addL (.lst a) (.lst b)).map .lst).or _)) = _
  rw [e]; rfl
theorem cntD_row {l : List Int} {k : Int} : cntD (row l) (.int k) = some (.int (l.count k : Nat)) := by
  show (intsOf (zs l)).map _ = _
  rw [intsOf_zs]; rfl
theorem modD_int {a b : Int} (h : 0 < b) : modD (.int a) (.int b) = some (.int (a % b)) := by
  show (if decide (0 < b) = true then some (D.int (a % b)) else none) = _
  rw [decide_eq_true h]; rfl
theorem fdivD_int {a b : Int} (h : 0 < b) (h1 : b < 1073741824) : fdivD (.int a) (.int b) = some (.int (a / b)) := by
  show (if (decide (0 < b) && decide (b < 1073741824)) = true then some (D.int (a / b)) else none) = _
  rw [decide_eq_true h, decide_eq_true h1]; rfl
theorem minD_int {a b : Int} : minD (.int a) (.int b) = some (.int (if b < a then b else a)) := rfl
theorem rng1D_int {n : Int} (h : n < 1000000) (h0 : 0 - 1000000 < n) : rng1D [.int n] = some (rangeL 0 n.toNat) := by
  show (if decide (n < 1000000) && decide (0 - 1000000 < n) then _ else _) = _
  rw [decide_eq_true h, decide_eq_true h0]; rfl
theorem rng2D_int {a b : Int} (h : a < 1000000) (h0 : 0 - 1000000 < a) (h2 : b < 1000000) (h3 : 0 - 1000000 < b) : rng2D [.int a, .int b] = some (rangeL a (b - a).toNat) := by
  show (if (decide (a < 1000000) && decide (0 - 1000000 < a)) && (decide (b < 1000000) && decide (0 - 1000000 < b)) then _ else _) = _
  rw [decide_eq_true h, decide_eq_true h0, decide_eq_true h2, decide_eq_true h3]; rfl
theorem lr2D_int {a b : Int} (h : a < 1000000) (h0 : 0 - 1000000 < a) (h2 : b < 1000000) (h3 : 0 - 1000000 < b) : lr2D (.int a) (.int b) = some (rangeL a (b - a).toNat) := by
  show (if (decide (a < 1000000) && decide (0 - 1000000 < a)) && (decide (b < 1000000) && decide (0 - 1000000 < b)) then _ else _) = _
  rw [decide_eq_true h, decide_eq_true h0, decide_eq_true h2, decide_eq_true h3]; rfl
theorem rangeL_zs (lo : Int) (n : Nat) : rangeL lo n = zs ((List.range n).map fun (i : Nat) => lo + (i : Int)) := by
  unfold rangeL zs
  rw [List.map_map]; rfl
local macro_rules | `(tactic| walk_at "ev") => `(tactic| try simp only [wM_bnd, wM_ret, wM_opt, wI_some, wM_nam, nmI_dat, nmI_own, gvI_dat, gvI_own, owI_own, inI_int, itI_int, wM_lookd, wM_looks, wM_gived, wM_gives, wM_isB, wM_andM, wM_orM, wM_notM, wM_ifM, wM_andV, wM_orV, wM_notV, wM_bin, wM_uno, wM_dt, wM_ls1, wM_consM, wM_tupM, wM_lstM, wM_itemsM, wM_ritemsM, wM_callM, wM_keyM, wM_methM, wM_meth0M, wM_mthM, wM_chainM, wM_partM, wM_cutM, wP_seqP, wP_lift, wP_skip, wP_brk, wP_cnt, wP_rsP, wP_sto, wP_stoN, wP_setV, wP_setN, wP_retP, wP_drop, wP_ifP, wP_asgP, wP_par2, wP_par3, wP_augP, wP_forP, slD,
  addD_int, subD_int, ltD_int, leD_int, gtD_int, geD_int, negD_int, eqD_int, neD_int, neD_zs, eqD_zs, eqD_row, neD_row, isi_tt, lenD_tup, lenD_lst, tupleD_tup, tupleD_lst, listD_tup, listD_lst, itemsD_tup, itemsD_lst, ritemsD_tup, revD_tup, few_nil, few_1, few_2, few_3, few_4, tgName,
  ini, List.map_cons, List.map_nil, List.length_cons, List.length_nil, List.replicate, List.cons_append, List.nil_append, List.getElem?_cons_zero, List.getElem?_cons_succ, List.set_cons_zero, List.set_cons_succ, Nat.reduceAdd, Nat.reduceSub, Nat.reduceLT, Nat.zero_add, Nat.sub_self, if_true, if_false, reduceIte, true_and, and_true, and_self, wF_k, wF_x, Bool.not_true, Bool.not_false, Bool.false_eq_true, Nat.lt_irrefl])
variable {en : En} {ls : LS}
/-- the state of the draws: c draws are left -/
structure Sz (a : Addr) (T : List (Addr × Str)) (c : Nat) (ls : LS) : Prop where
  self : ls.self = a
  tb : ls.tb = T
  great : ∀ x ∈ ls.great, 0 ≤ x
  cells : ∀ x ∈ ls.cells, 0 ≤ x
  rest : 0 ≤ ls.rest
  t0 : 0 ≤ ls.turn
  t1 : ls.turn + c ≤ 1000000000000
variable {a : Addr} {T : List (Addr × Str)} {c : Nat} {G : D → LS → Prop} {E : EX}
theorem Sz.mono {c' : Nat} (h : Sz a T c ls) (hc : c' ≤ c) : Sz a T c' ls := ⟨h.self, h.tb, h.great, h.cells, h.rest, h.t0, by have := h.t1; omega⟩
theorem sp_draw {room : Int} (h : Sz a T (c + 1) ls) (h0 : 0 < room) (h1 : room < 1073741824) (q : ∀ r ls', 0 ≤ r → r < room → Sz a T c ls' → G (.int r) ls') : wF (FDraw [.ref a, .int room] ls) G E := by
  have gr : ∀ (ρ : Rho) (l2 : LS) (Q : D → Rho → LS → Prop) (E : EX), l2.self = a → ρ[0]? = some (.dat (.ref a)) → wM (getRest 0) ρ l2 Q E = Q (.int l2.rest) ρ l2 := fun ρ l2 Q E e1 e2 => by
    show wU (stM 0 _ ρ l2) Q E = _
    unfold stM hasSelf
    rw [e2]
    simp [e1, wU]
  have hself : ∀ (l2 : LS), l2.self = a → hasSelf l2 (some (.dat (.ref a))) = true := fun l2 e => by show decide (a = l2.self) = true; rw [e]; exact decide_eq_true rfl
  -- what the state gives
  have key : ∀ (rest : Int) (ls1 : LS), 0 ≤ rest → ls1.rest = rest → Sz a T c ls1 → ∀ s2, wP (seqP (setV 2 (bin modD (dt (uno intD (dt (getRest 0)))) (nam 1))) (seqP (setRest 0 (bin fdivD (dt (getRest 0)) (nam 1))) (retP (bnd (nam 2) give)))) [.dat (.ref a), .dat (.int room), s2] ls1 { nx := fun _ ls => G .non ls, bk := fun _ _ => False, ct := fun _ _ => False, rt := G, rs := E } := by
    intro rest ls1 hr er hs s2
    walk_at "ev"
    rw [gr _ _ _ _ hs.self rfl]
    walk_at "ev"
    rw [show intD (.int ls1.rest) = some (.int ls1.rest) from rfl]
    walk_at "ev"
    rw [modD_int h0]
    walk_at "ev"
    unfold setRest
    walk_at "ev"
    rw [gr _ _ _ _ hs.self rfl]
    walk_at "ev"
    rw [fdivD_int h0 h1]
    walk_at "ev"
    show wO (if hasSelf ls1 (some (.dat (.ref a))) = true then .nx _ { ls1 with rest := ls1.rest / room } else .no) _
    rw [show hasSelf ls1 (some (.dat (.ref a))) = true from by show decide (a = ls1.self) = true; rw [hs.self]; exact decide_eq_true rfl]
    rw [if_pos rfl]
    show G (.int (ls1.rest % room)) _
    refine q _ _ (Int.emod_nonneg _ (by omega)) (Int.emod_lt_of_pos _ h0) ⟨hs.self, hs.tb, hs.great, hs.cells, ?_, hs.t0, hs.t1⟩
    exact Int.ediv_nonneg hs.rest (by omega)
  have first : ∀ R : PQ, (∀ ls1, Sz a T c ls1 → R.nx [.dat (.ref a), .dat (.int room), .un] ls1) → wP (ifP (bnd (bin eqD (dt (getRest 0)) (dt (ret (.int 0)))) isB) (setRest 0 (ifM (bnd (greatNE 0) isB) (popGreat 0) (callM 1 FBlend (consM (bnd (nam 0) give) (ret []))))) skip) [.dat (.ref a), .dat (.int room), .un] ls R := fun R hR => by
   rw [wP_ifP]
   simp only [wM_bnd, wM_bin, wM_dt]
   show wM (getRest 0) [.dat (.ref a), .dat (.int room), .un] ls _ _
   rw [gr _ _ _ _ h.self rfl]
   walk_at "ev"
   by_cases h00 : ls.rest = 0
   · rw [decide_eq_true h00]
     simp only [if_true]
     show wP (setRest 0 _) _ _ _
     unfold setRest
     rw [wP_lift, wM_ifM, wM_bnd]
     have e1 : ∀ (Q : D → Rho → LS → Prop) (E : EX), wM (greatNE 0) [.dat (.ref a), .dat (.int room), .un] ls Q E = Q (.bl (!decide (ls.great = []))) [.dat (.ref a), .dat (.int room), .un] ls := fun Q E => by
       show wU (stM 0 _ _ ls) Q E = _
       unfold stM
       rw [show hasSelf ls ([.dat (.ref a), .dat (.int room), .un] : Rho)[0]? = true from hself ls h.self]
       rfl
     rw [e1]
     cases eg : ls.great with
     | nil =>
       simp only [decide_true, Bool.not_true, wM_isB, if_false, Bool.false_eq_true]
       rw [wM_callM]
       walk_at "ev"
       have eb : FBlend [.ref a] ls = .ok (.int (blendF (ls.turn + 1) ls.cells)) { ls with turn := ls.turn + 1 } := by
         show (if a = ls.self ∧ (0 ≤ ls.turn ∧ ls.turn < 1000000000000) then _ else _) = _
         rw [if_pos ⟨h.self.symm, h.t0, by have := h.t1; omega⟩]
       rw [eb]
       walk_at "ev"
       show wO (if hasSelf _ (some (.dat (.ref a))) = true then .nx _ _ else .no) _
       rw [hself { ls with turn := ls.turn + 1 } h.self, if_pos rfl]
       exact hR { ls with turn := ls.turn + 1, rest := blendF (ls.turn + 1) ls.cells } ⟨h.self, h.tb, by rw [eg]; exact (fun x hx => nomatch hx), h.cells, blendF_nn (by have := h.t0; omega) _, by have := h.t0; show 0 ≤ ls.turn + 1; omega, by have := h.t1; show ls.turn + 1 + (c : Int) ≤ _; omega⟩
     | cons x xs =>
       simp only [reduceCtorEq, decide_false, Bool.not_false, wM_isB, if_true]
       have e2 : ∀ (Q : D → Rho → LS → Prop) (E : EX), wM (popGreat 0) [.dat (.ref a), .dat (.int room), .un] ls Q E = Q (.int x) [.dat (.ref a), .dat (.int room), .un] { ls with great := xs } := fun Q E => by
         show wU (stM 0 _ _ ls) Q E = _
         unfold stM
         rw [show hasSelf ls ([.dat (.ref a), .dat (.int room), .un] : Rho)[0]? = true from hself ls h.self]
         simp only [if_true]
         rw [eg]; rfl
       rw [e2]
       show wO (if hasSelf _ (some (.dat (.ref a))) = true then .nx _ _ else .no) _
       rw [hself { ls with great := xs } h.self, if_pos rfl]
       have hx := h.great
       rw [eg] at hx
       exact hR { ls with great := xs, rest := x } ⟨h.self, h.tb, fun y hy => hx y (List.mem_cons_of_mem _ hy), h.cells, hx x List.mem_cons_self, h.t0, by have := h.t1; show ls.turn + (c : Int) ≤ _; omega⟩
   · rw [decide_eq_false h00]
     simp only [if_false, Bool.false_eq_true]
     exact hR ls (h.mono (Nat.le_succ c))
  unfold FDraw
  rw [wF_end]
  unfold pDraw
  rw [wP_seqP]
  exact first _ fun ls1 hs => key ls1.rest ls1 hs.rest rfl hs _
theorem wM_is {α : Type} {f : M α} {ρ ρ0 : Rho} {ls0 : LS} {b : α} (h : wM f ρ ls (fun b' ρ' ls' => b' = b ∧ ρ' = ρ0 ∧ ls' = ls0) fun _ _ => False) : f ρ ls = .ok b ρ0 ls0 := by
  unfold wM at h
  cases e : f ρ ls with
  | ok x y z => rw [e] at h; obtain ⟨rfl, rfl, rfl⟩ := h; rfl
  | rs x y => rw [e] at h; exact h.elim
  | no => rw [e] at h; exact h.elim
theorem atD_lst {l : List D} {r : Int} (h0 : 0 ≤ r) (h1 : r < l.length) : ∃ d, d ∈ l ∧ atD (.lst l) (.int r) = some d := by
  have hl : r.toNat < l.length := by omega
  refine ⟨l[r.toNat], List.getElem_mem hl, ?_⟩
  show L2.atI l r = _
  unfold L2.atI L2.ixN
  rw [if_pos h0, if_pos (by omega)]
  exact List.getElem?_eq_getElem hl
theorem sp_pick {l : List D} (h : Sz a T (c + 1) ls) (hn : l ≠ []) (hl : l.length ≤ 1000) (q : ∀ d ls', d ∈ l → Sz a T c ls' → G d ls') : wF (F_law_pick en [.ref a, .lst l] ls) G E := by
  have hp : 0 < l.length := List.length_pos_iff.mpr hn
  unfold F_law_pick
  rw [wF_end]
  unfold p_law_pick
  walk_at "ev"
  refine sp_draw h (by omega) (by omega) fun r ls' h0 h1 hs => ?_
  obtain ⟨d, hd, e⟩ := atD_lst h0 h1
  rw [e]
  exact q d ls' hd hs
theorem sp_mk_letters {n : Int} (hn : dOk n) : ∃ l, F_law_mk_letters en [.int n] ls = .ok (.lst (zs l)) ls ∧ fitL n l ∧ l.length ≤ 8 ∧ n ∈ l ∧ (0 - n) ∈ l := by
  obtain ⟨h1, h2⟩ := hn
  have : n = 1 ∨ n = 2 ∨ n = 3 ∨ n = 4 := by omega
  rcases this with rfl | rfl | rfl | rfl
  · exact ⟨[1, -1], rfl, by unfold fitL; decide, by decide, by decide, by decide⟩
  · exact ⟨[1, 2, -1, -2], rfl, by unfold fitL; decide, by decide, by decide, by decide⟩
  · exact ⟨[1, 2, 3, -1, -2, -3], rfl, by unfold fitL; decide, by decide, by decide, by decide⟩
  · exact ⟨[1, 2, 3, 4, -1, -2, -3, -4], rfl, by unfold fitL; decide, by decide, by decide, by decide⟩
theorem zs_filter {l : List Int} {p : D → Bool} : (zs l).filter p = zs (l.filter fun i => p (.int i)) := by
  unfold zs
  rw [List.filter_map]; rfl
theorem last_cases (l : List Int) : l = [] ∨ ∃ m x, l = m ++ [x] := by
  rcases List.eq_nil_or_concat l with h | ⟨m, x, h⟩
  · exact .inl h
  · exact .inr ⟨m, x, by rw [h]; simp⟩
theorem sp_mk_row {n least most : Int} (hn : dOk n) (h : Sz a T (c + 20) ls) (h0 : 0 ≤ least) (h1 : least ≤ most) (h2 : most ≤ 9) (q : ∀ l ls', fitL n l → (l.length : Int) ≤ most → least ≤ l.length → Sz a T c ls' → G (row l) ls') : wF (F_law_mk_row en [.ref a, .int n, .int least, .int most] ls) G E := by
  unfold F_law_mk_row
  rw [wF_end]
  unfold p_law_mk_row
  walk_at "ev"
  refine sp_draw (c := c + 19) h (by omega) (by omega) fun r ls' hr0 hr1 hs => ?_
  walk_at "ev"
  rw [rng1D_int (by omega) (by omega), rangeL_zs]
  walk_at "ev"
  have hlen : (zs ((List.range (least + r).toNat).map fun (i : Nat) => (0 : Int) + (i : Int))).length = (least + r).toNat := by rw [zs_len]; simp
  refine wP_for (fun done ρ ls' => ∃ l s5 s6, ρ = [.dat (.ref a), .dat (.int n), .dat (.int least), .dat (.int most), .own (zs l), s5, s6, .un] ∧ fitL n l ∧ l.length = done.length ∧ Sz a T (c + 19 - done.length) ls') ⟨[], .un, .un, rfl, (fun x hx => nomatch hx), rfl, hs⟩ ?_ ?_
  · rintro done d rest ρ ls' ed ⟨l, s5, s6, rfl, hf, el, hs⟩
    have hd : done.length + (rest.length + 1) = (least + r).toNat := by rw [← hlen, ed]; simp
    walk_at "ev"
    refine wM_lcp ?_
    walk_at "ev"
    obtain ⟨lt, e1, ft, ll, hm1, hm2⟩ := sp_mk_letters (en := en) (ls := ls') hn
    rw [e1]
    walk_at "ev"
    refine ⟨rfl, rfl, by rw [zs_len]; exact Nat.le_trans ll (by decide), fun y => match y with | .int y => decide (l = []) || !decide (some y = l.getLast?.map fun x => 0 - x) | _ => false, id, fun y hy => ?_, ?_⟩
    · obtain ⟨y, hy, rfl⟩ := zs_mem hy
      walk_at "ev"
      refine ⟨rfl, ?_, fun _ => rfl⟩
      refine wM_is ?_
      show wM _ [.dat (.ref a), .dat (.int n), .dat (.int least), .dat (.int most), .own (zs l), .dat d, s6, .dat (.int y)] ls' _ _
      walk_at "ev"
      rcases last_cases l with rfl | ⟨m, x, rfl⟩
      · simp
        rfl
      · rw [decide_eq_false (show ¬ (m ++ [x] = []) by simp)]
        walk_at "ev"
        rw [atD_last]
        walk_at "ev"
        simp
        rfl
    · have hne : ∃ y ∈ lt, (decide (l = []) || !decide (some y = l.getLast?.map fun x => 0 - x)) = true := by
        rcases last_cases l with rfl | ⟨m, x, rfl⟩
        · exact ⟨n, hm1, rfl⟩
        · by_cases hx : n = 0 - x
          · refine ⟨0 - n, hm2, ?_⟩
            have hn1 := hn.1
            have : ¬ (0 - n = 0 - x) := by omega
            simp [this]
            omega
          · exact ⟨n, hm1, by simp [hx]; omega⟩
      rw [List.map_id, zs_filter]
      obtain ⟨y0, hy0, hc0⟩ := hne
      refine sp_pick (c := c + 19 - done.length - 1) (hs.mono (by omega)) ?_ (by rw [zs_len]; exact Nat.le_trans (List.length_filter_le _ _) (by omega)) fun d1 l1 hd1 hs1 => ?_
      · intro e0
        have : y0 ∈ lt.filter fun i => (decide (l = []) || !decide (some i = l.getLast?.map fun x => 0 - x)) := List.mem_filter.mpr ⟨hy0, hc0⟩
        have e1 : (lt.filter fun i => (decide (l = []) || !decide (some i = l.getLast?.map fun x => 0 - x))) = [] := by
          cases e2 : (lt.filter fun i => (decide (l = []) || !decide (some i = l.getLast?.map fun x => 0 - x))) with
          | nil => rfl
          | cons u v =>
            have e0 : zs (lt.filter fun i => (decide (l = []) || !decide (some i = l.getLast?.map fun x => 0 - x))) = [] := e0
            rw [e2] at e0; cases e0
        rw [e1] at this
        cases this
      · obtain ⟨y, hy, rfl⟩ := zs_mem hd1
        rw [appD_some (by rw [zs_len, el]; exact Nat.lt_of_lt_of_le (show done.length < 1000 by omega) (by decide))]
        refine ⟨l ++ [y], _, _, by rw [← zs_app]; rfl, fitL_app hf fun z hz => ?_, by rw [List.length_append, List.length_append, el]; rfl, hs1.mono ?_⟩
        · rw [List.mem_singleton.mp hz]
          exact ft y (List.mem_filter.mp hy).1
        · rw [List.length_append]; simp; omega
  · rintro ρ ls' ⟨l, s5, s6, rfl, hf, el, hs⟩
    walk_at "ev"
    rw [hlen] at el hs
    refine q l ls' hf (by omega) (by omega) (hs.mono (by omega))
theorem cut_to {l : List Int} {k : Nat} (h : k ≤ l.length) : cutD none (some (k : Int)) (.lst (zs l)) = some (.lst (zs (l.take k))) := by
  show some (D.lst (cutG (zs l) none (some (k : Int)))) = _
  unfold cutG
  rw [HT.sIx_none, HT.sIx_nat, List.drop_zero, Nat.sub_zero, zs_len, Nat.min_eq_left h]
  unfold zs
  rw [List.map_take]
theorem cut_from {l : List Int} {k : Nat} (h : k ≤ l.length) : cutD (some (k : Int)) none (.lst (zs l)) = some (.lst (zs (l.drop k))) := by
  show some (D.lst (cutG (zs l) (some (k : Int)) none)) = _
  unfold cutG
  rw [HT.sIx_none, HT.sIx_nat, zs_len, Nat.min_eq_left h]
  have e : (zs l).drop k = zs (l.drop k) := by unfold zs; rw [List.map_drop]
  rw [e, List.take_of_length_le (by rw [zs_len, List.length_drop]; exact Nat.le_refl _)]
theorem sp_bad_deeds (h : Sz a T (c + 1) ls) (q : ∀ d ls', plainV d = true → btw d 1 4 = false → Sz a T c ls' → G d ls') : wF (F_law_mk_bad_deeds en [.ref a] ls) G E := by
  unfold F_law_mk_bad_deeds
  rw [wF_end]
  unfold p_law_mk_bad_deeds
  walk_at "ev"
  rw [few_some' (by decide)]
  walk_at "ev"
  refine sp_pick h (by simp) (by decide) fun d ls' hd hs => ?_
  have : plainV d = true ∧ btw d 1 4 = false := by
    simp only [List.mem_cons, List.not_mem_nil, or_false] at hd
    rcases hd with rfl | rfl | rfl | rfl | rfl | rfl | rfl | rfl <;> exact ⟨rfl, by decide⟩
  exact q d ls' this.1 this.2 hs
theorem rep1 {n : Nat} {x : D} : (List.replicate n [x]).flatten = List.replicate n x := by
  induction n with
  | zero => rfl
  | succ n ih => rw [List.replicate_succ, List.flatten_cons, ih, List.replicate_succ]; rfl
/-- so many times -/
def tms (l : List Int) (k : Int) : List Int := red (List.replicate k.natAbs (if k < 0 then und l else l)).flatten
theorem zs_rep {l : List Int} {n : Nat} : (List.replicate n (zs l)).flatten = zs (List.replicate n l).flatten := by
  induction n with
  | zero => rfl
  | succ n ih => rw [List.replicate_succ, List.flatten_cons, ih, List.replicate_succ, List.flatten_cons, zs_app]
theorem flat_rep_len {α : Type} {l : List α} {n : Nat} : (List.replicate n l).flatten.length = n * l.length := by
  induction n with
  | zero => simp
  | succ n ih => rw [List.replicate_succ, List.flatten_cons, List.length_append, ih, Nat.succ_mul]; omega
theorem tms_len {l : List Int} {k : Int} : (tms l k).length ≤ k.natAbs * l.length := by
  unfold tms
  refine Nat.le_trans (red_len _) ?_
  rw [flat_rep_len]
  split
  · rw [und_len]; exact Nat.le_refl _
  · exact Nat.le_refl _
theorem mem_flat_rep {α : Type} {l : List α} {x : α} : ∀ {n : Nat}, x ∈ (List.replicate n l).flatten → x ∈ l
  | 0, h => nomatch h
  | n + 1, h => by
    rw [List.replicate_succ, List.flatten_cons] at h
    rcases List.mem_append.mp h with h | h
    · exact h
    · exact mem_flat_rep h
theorem fitL_tms {n k : Int} {l : List Int} (h : fitL n l) : fitL n (tms l k) := fun x hx => by
  have := mem_flat_rep (red_mem hx)
  split at this
  · exact fitL_und h x this
  · exact h x this
end Pd

set_option Elab.async false
set_option linter.all false
set_option maxRecDepth 100000
set_option maxHeartbeats 4000000
/-! Ev3: more of the rows. -/
namespace Pd
open PySem PySem.Spec PyProof.Rows L2
local macro_rules | `(tactic| walk_at "ev") => `(tactic| try simp only [wM_bnd, wM_ret, wM_opt, wI_some, wM_nam, nmI_dat, nmI_own, gvI_dat, gvI_own, owI_own, inI_int, itI_int, wM_lookd, wM_looks, wM_gived, wM_gives, wM_isB, wM_andM, wM_orM, wM_notM, wM_ifM, wM_andV, wM_orV, wM_notV, wM_bin, wM_uno, wM_dt, wM_ls1, wM_consM, wM_tupM, wM_lstM, wM_itemsM, wM_ritemsM, wM_callM, wM_keyM, wM_methM, wM_meth0M, wM_mthM, wM_chainM, wM_partM, wM_cutM, wP_seqP, wP_lift, wP_skip, wP_brk, wP_cnt, wP_rsP, wP_sto, wP_stoN, wP_setV, wP_setN, wP_retP, wP_drop, wP_ifP, wP_asgP, wP_par2, wP_par3, wP_augP, wP_forP, slD,
  addD_int, subD_int, ltD_int, leD_int, gtD_int, geD_int, negD_int, eqD_int, neD_int, neD_zs, eqD_zs, eqD_row, neD_row, isi_tt, lenD_tup, lenD_lst, tupleD_tup, tupleD_lst, listD_tup, listD_lst, itemsD_tup, itemsD_lst, ritemsD_tup, revD_tup, few_nil, few_1, few_2, few_3, few_4, tgName,
  ini, List.map_cons, List.map_nil, List.length_cons, List.length_nil, List.replicate, List.cons_append, List.nil_append, List.getElem?_cons_zero, List.getElem?_cons_succ, List.set_cons_zero, List.set_cons_succ, Nat.reduceAdd, Nat.reduceSub, Nat.reduceLT, Nat.zero_add, Nat.sub_self, if_true, if_false, reduceIte, true_and, and_true, and_self, wF_k, wF_x, Bool.not_true, Bool.not_false, Bool.false_eq_true, Nat.lt_irrefl])
variable {en : En} {ls : LS} {a : Addr} {T : List (Addr × Str)} {c : Nat} {G : D → LS → Prop} {E : EX}
theorem top_of {n : Nat} (h : n ≤ 50000) : n ≤ top := Nat.le_trans h (by decide)
theorem addD_row {l m : List Int} (h : l.length + m.length ≤ 50000) : addD (row l) (row m) = some (row (l ++ m)) := by
  unfold row
  rw [addD_tup (by rw [zs_len, zs_len]; exact top_of h), zs_app]
theorem rep_rows {l : List Int} {n : Nat} : (List.replicate n [row l]).flatten = (List.replicate n l).map row := by
  rw [rep1, List.map_replicate]
/-- the sums of a row -/
def smsL (n : Nat) (l : List Int) : List Int := (List.range n).map fun (i : Nat) => bal (1 + (i : Int)) l
theorem smsL_red (n : Nat) (l : List Int) : smsL n (red l) = smsL n l := by
  unfold smsL
  exact List.map_congr_left fun i _ => bal_red _ _
theorem sums_comp {n : Int} {l : List Int} {ρ : Rho} {i j : Nat} {Q : List D → Rho → LS → Prop} {E : EX} (hn : dOk n) (hi : ρ[i]? = some (.dat (row l))) (hj : j < ρ.length) (hij : i ≠ j) (hno : isOwn ρ[j]? = false) (huw : unwipe ρ (wipeR ρ [j]) [j] = ρ)
    (src : M (List D)) (hs : wM src ρ ls (fun ds ρ' ls' => ds = zs ((List.range n.toNat).map fun (i : Nat) => 1 + (i : Int)) ∧ ρ' = ρ ∧ ls' = ls) E) (q : Q (zs (smsL n.toNat l)) ρ ls) :
    wM (lcM src (tgName j) (ret true) (bin subD (dt (mthM cntD (bnd (nam i) give) (bnd (nam j) give))) (dt (mthM cntD (bnd (nam i) give) (bin subD (dt (ret (.int 0))) (nam j))))) [j]) ρ ls Q E := by
  refine wM_lcp (wM_imp hs (fun ds ρ' ls' hh => ?_) fun _ _ z => z)
  obtain ⟨rfl, rfl, rfl⟩ := hh
  refine ⟨by unfold noOwn; simp [hno], huw, by rw [zs_len, List.length_map, List.length_range]; have := hn.2; exact top_of (show n.toNat ≤ 50000 by omega), fun _ => true, fun d => match d with | .int d => .int (bal d l) | _ => .non, fun d hd => ?_, ?_⟩
  · obtain ⟨d, _, rfl⟩ := zs_mem hd
    have hjw : j < (wipeR ρ' [j]).length := by rw [wipeR_len]; exact hj
    rw [tgName_at hjw]
    have e1 : ((wipeR ρ' [j]).set j (.dat (.int d)))[i]? = some (.dat (row l)) := by
      rw [List.getElem?_set_ne (Ne.symm hij)]
      show (ρ'.set j .un)[i]? = _
      rw [List.getElem?_set_ne (Ne.symm hij)]; exact hi
    have e2 : ((wipeR ρ' [j]).set j (.dat (.int d)))[j]? = some (.dat (.int d)) := List.getElem?_set_self hjw
    refine ⟨?_, rfl, fun _ => wM_is ?_⟩
    · show ((ρ'.set j .un).set j (.dat (.int d))).set j .un = ρ'.set j .un
      rw [List.set_set, List.set_set]
    · walk_at "ev"
      rw [e1]
      walk_at "ev"
      rw [show isTup (row l) = true from rfl]
      walk_at "ev"
      rw [e2]
      walk_at "ev"
      rw [cntD_row]
      walk_at "ev"
      rw [e1]
      walk_at "ev"
      rw [show isTup (row l) = true from rfl]
      walk_at "ev"
      rw [e2]
      walk_at "ev"
      rw [cntD_row]
      walk_at "ev"
      exact rfl
  · rw [filt_true]
    have e : ∀ m : List Int, (zs m).map (fun d => (match d with | .int d => .int (bal d l) | _ => .non : D)) = zs (m.map fun d => bal d l) := fun m => by
      unfold zs
      rw [List.map_map, List.map_map]; rfl
    rw [e, List.map_map]
    exact q
end Pd

set_option Elab.async false
set_option linter.all false
set_option maxRecDepth 100000
set_option maxHeartbeats 4000000
/-! Ev4: the faults. -/
namespace Pd
open PySem PySem.Spec PyProof.Rows L2
def catI (cs : List Addr) (x : XV) (q : Addr → Prop) : Prop := (x.fld = none ∧ x.cls ∈ cs) ∧ q x.cls
theorem catI_mk {cs : List Addr} {C : Addr} {q : Addr → Prop} : catI cs ⟨C, none⟩ q = (C ∈ cs ∧ q C) := by
  unfold catI
  simp
theorem wM_caughtM {T : List (Addr × Str)} {cs : List Addr} {f : M D} {ρ : Rho} {ls : LS} {Q : D → Rho → LS → Prop} {E : EX} : wM (caughtM T cs f) ρ ls Q E = (ls.tb = T ∧ wM f (hide ρ) ls (fun _ _ ls' => Q .non ρ ls') fun x ls' => catI cs x fun C => Q (.exn C) ρ ls') := by
  show wU (if ls.tb = T then _ else _) Q E = _
  by_cases h : ls.tb = T
  · rw [if_pos h]
    unfold wM
    cases f (hide ρ) ls with
    | ok a b c => simp [wU, h]
    | no => simp [wU]
    | rs x l =>
      show wU (if x.fld = none ∧ x.cls ∈ cs then (.ok (.exn x.cls) ρ l : Out D) else .no) Q E = (ls.tb = T ∧ catI cs x fun C => Q (.exn C) ρ l)
      unfold catI
      by_cases h2 : x.fld = none ∧ x.cls ∈ cs
      · rw [if_pos h2]; simp [wU, h, h2]
      · rw [if_neg h2]; simp [wU, h2]
  · rw [if_neg h]
    simp [wU, h]
theorem wP_forL_nil {t : D → Rho → Option Rho} {b : PM} {ρ : Rho} {ls : LS} {R : PQ} : wP (forL t b []) ρ ls R = R.nx ρ ls := rfl
theorem wP_forL_cons {t : D → Rho → Option Rho} {b : PM} {d : D} {ds : List D} {ρ : Rho} {ls : LS} {R : PQ} : wP (forL t b (d :: ds)) ρ ls R = wI (t d ρ) fun ρ1 => wP b ρ1 ls { R with nx := fun ρ ls => wP (forL t b ds) ρ ls R, ct := fun ρ ls => wP (forL t b ds) ρ ls R, bk := R.nx } := by
  cases e : t d ρ with
  | none => unfold wP; rw [forL_none e]; rfl
  | some ρ1 =>
    unfold wP
    rw [forL_cons e]
    show _ = wO (b ρ1 ls) _
    cases b ρ1 ls <;> rfl
theorem wP_seq {p q : PM} {ρ : Rho} {ls : LS} {R : PQ} (A : Rho → LS → Prop) (h1 : wP p ρ ls { R with nx := A }) (h2 : ∀ ρ ls, A ρ ls → wP q ρ ls R) : wP (seqP p q) ρ ls R := by
  unfold wP seqP at *
  cases e : p ρ ls with
  | nx ρ1 l1 => rw [e] at h1; exact h2 _ _ h1
  | bk ρ1 l1 => rw [e] at h1; exact h1
  | ct ρ1 l1 => rw [e] at h1; exact h1
  | rt d l1 => rw [e] at h1; exact h1
  | rtN l l1 => rw [e] at h1; exact h1
  | rs x l1 => rw [e] at h1; exact h1
  | no => rw [e] at h1; exact h1
theorem hide_nil : hide [] = [] := rfl
theorem hide_cons {s : Sl} {r : Rho} : hide (s :: r) = hideS s :: hide r := rfl
theorem hideS_dat {d : D} : hideS (.dat d) = .dat d := rfl
theorem hideS_own {d : List D} : hideS (.own d) = .un := rfl
theorem hideS_un : hideS .un = .un := rfl
theorem tgTup_eq {u : List D → Rho → Option Rho} {ds : List D} {ρ : Rho} : tgTup u (.tup ds) ρ = u ds ρ := rfl
theorem tgLst_eq {u : List D → Rho → Option Rho} {ds : List D} {ρ : Rho} : tgLst u (.lst ds) ρ = u ds ρ := rfl
theorem tgCons_eq {t : D → Rho → Option Rho} {u : List D → Rho → Option Rho} {d : D} {ds : List D} {ρ : Rho} : tgCons t u (d :: ds) ρ = (t d ρ).bind (u ds) := rfl
theorem tgNil_eq {ρ : Rho} : tgNil [] ρ = some ρ := rfl
local macro_rules | `(tactic| walk_at "ev") => `(tactic| try simp only [wM_bnd, wM_ret, wM_opt, wI_some, wM_nam, nmI_dat, nmI_own, gvI_dat, gvI_own, owI_own, inI_int, itI_int, wM_lookd, wM_looks, wM_gived, wM_gives, wM_isB, wM_andM, wM_orM, wM_notM, wM_ifM, wM_andV, wM_orV, wM_notV, wM_bin, wM_uno, wM_dt, wM_ls1, wM_consM, wM_tupM, wM_lstM, wM_itemsM, wM_ritemsM, wM_callM, wM_keyM, wM_methM, wM_meth0M, wM_mthM, wM_chainM, wM_partM, wM_cutM, wP_seqP, wP_lift, wP_skip, wP_brk, wP_cnt, wP_rsP, wP_sto, wP_stoN, wP_setV, wP_setN, wP_retP, wP_drop, wP_ifP, wP_asgP, wP_par2, wP_par3, wP_augP, wP_forP, wM_caughtM, catI_mk, cs_BadDeeds, isiE_BadDeeds, hide_nil, hide_cons, hideS_dat, hideS_own, hideS_un, tgTup_eq, tgLst_eq, tgCons_eq, tgNil_eq, Option.bind_some, slD,
  addD_int, subD_int, ltD_int, leD_int, gtD_int, geD_int, negD_int, eqD_int, neD_int, neD_zs, eqD_zs, eqD_row, neD_row, isi_tt, lenD_tup, lenD_lst, tupleD_tup, tupleD_lst, listD_tup, listD_lst, itemsD_tup, itemsD_lst, ritemsD_tup, revD_tup, few_nil, few_1, few_2, few_3, few_4, tgName,
  ini, List.map_cons, List.map_nil, List.length_cons, List.length_nil, List.replicate, List.cons_append, List.nil_append, List.getElem?_cons_zero, List.getElem?_cons_succ, List.set_cons_zero, List.set_cons_succ, Nat.reduceAdd, Nat.reduceSub, Nat.reduceLT, Nat.zero_add, Nat.sub_self, if_true, if_false, reduceIte, true_and, and_true, and_self, wF_k, wF_x, Bool.not_true, Bool.not_false, Bool.false_eq_true, Nat.lt_irrefl])
variable {en : En} {ls : LS} {a : Addr} {T : List (Addr × Str)} {c : Nat} {G : D → LS → Prop} {E : EX}
end Pd

set_option Elab.async false
set_option linter.all false
set_option maxRecDepth 100000
set_option maxHeartbeats 4000000
/-! Ev5: the law. -/
namespace Pd
open PySem PySem.Spec PyProof.Rows L2
theorem ord2 {x y : D} : ordL [0, 1] [x, y] = [x, y] := rfl
theorem ord3 {x y z : D} : ordL [0, 1, 2] [x, y, z] = [x, y, z] := rfl
theorem lenD_lsk {l : List D} : lenD (.lsk l) = some (.int l.length) := rfl
theorem isntD_bl {x y : Bool} : isntD (.bl x) (.bl y) = some (.bl (!decide (x = y))) := rfl
local macro_rules | `(tactic| walk_at "ev") => `(tactic| try simp only [wM_bnd, wM_ret, wM_opt, wI_some, wM_nam, nmI_dat, nmI_own, gvI_dat, gvI_own, owI_own, inI_int, itI_int, wM_lookd, wM_looks, wM_gived, wM_gives, wM_isB, wM_andM, wM_orM, wM_notM, wM_ifM, wM_andV, wM_orV, wM_notV, wM_bin, wM_uno, wM_dt, wM_ls1, wM_consM, wM_tupM, wM_lstM, wM_itemsM, wM_ritemsM, wM_callM, wM_keyM, wM_methM, wM_meth0M, wM_mthM, wM_chainM, wM_partM, wM_cutM, wP_seqP, wP_lift, wP_skip, wP_brk, wP_cnt, wP_rsP, wP_sto, wP_stoN, wP_setV, wP_setN, wP_retP, wP_drop, wP_ifP, wP_asgP, wP_par2, wP_par3, wP_augP, wP_forP, wM_caughtM, catI_mk, cs_BadDeeds, isiE_BadDeeds, hide_nil, hide_cons, hideS_dat, hideS_own, hideS_un, ord2, ord3, lenD_lsk, isntD_bl, tgTup_eq, tgLst_eq, tgCons_eq, tgNil_eq, Option.bind_some, slD,
  addD_int, subD_int, ltD_int, leD_int, gtD_int, geD_int, negD_int, eqD_int, neD_int, neD_zs, eqD_zs, eqD_row, neD_row, isi_tt, lenD_tup, lenD_lst, tupleD_tup, tupleD_lst, listD_tup, listD_lst, itemsD_tup, itemsD_lst, ritemsD_tup, revD_tup, few_nil, few_1, few_2, few_3, few_4, tgName,
  ini, List.map_cons, List.map_nil, List.length_cons, List.length_nil, List.replicate, List.cons_append, List.nil_append, List.getElem?_cons_zero, List.getElem?_cons_succ, List.set_cons_zero, List.set_cons_succ, Nat.reduceAdd, Nat.reduceSub, Nat.reduceLT, Nat.zero_add, Nat.sub_self, if_true, if_false, reduceIte, true_and, and_true, and_self, wF_k, wF_x, Bool.not_true, Bool.not_false, Bool.false_eq_true, Nat.lt_irrefl])
variable {en : En} {ls : LS} {a : Addr} {T : List (Addr × Str)} {c : Nat} {G : D → LS → Prop} {E : EX}
theorem tri {o t : List Int} : red (red (red (o ++ t)) ++ red o) = red (o ++ t ++ o) := by
  rw [red_red, red_left, red_right]
theorem tri2 {o t : List Int} : red (red o ++ red (red (t ++ o))) = red (o ++ t ++ o) := by
  rw [red_red, red_left, red_right, List.append_assoc]
theorem two {o t : List Int} : red (red o ++ red t) = red (o ++ t) := by rw [red_left, red_right]
end Pd

set_option Elab.async false
set_option linter.all false
set_option maxRecDepth 100000
set_option maxHeartbeats 4000000
/-! Pw2: what holds of the later programs. -/
namespace Pd
open PySem PySem.Spec PyProof.Rows L2
section
variable {α β : Type} {ρ : Rho} {ls : LS} {QL : List D → Rho → LS → Prop} {QI : List It → Rho → LS → Prop} {E : EX} {R : PQ}
theorem wM_consD {f : M D} {g : M (List It)} : wM (consD f g) ρ ls QI E = wM f ρ ls (fun d ρ ls => wM g ρ ls (fun is ρ ls => QI (.d d :: is) ρ ls) E) E := by
  unfold consD
  simp only [wM_bnd, wM_ret]
theorem wM_consL {f : M (List D)} {g : M (List It)} : wM (consL f g) ρ ls QI E = wM f ρ ls (fun d ρ ls => wM g ρ ls (fun is ρ ls => QI (.n d :: is) ρ ls) E) E := by
  unfold consL
  simp only [wM_bnd, wM_ret]
theorem wP_par2I {i j : Nat} {ga : M (List It)} : wP (par2I i j ga) ρ ls R = wM ga ρ ls (fun ds ρ ls => match ds with | [x, y] => wP (seqP (stoI i x) (seqP (stoI j y) skip)) ρ ls R | _ => False) R.rs := by
  unfold par2I
  rw [wP_lift]
  congr 1
  funext ds ρ ls
  match ds with
  | [] => rfl
  | [_] => rfl
  | [_, _] => rfl
  | _ :: _ :: _ :: _ => rfl
theorem stoI_d {i : Nat} {x : D} : stoI i (.d x) = sto i x := rfl
theorem stoI_n {i : Nat} {x : List D} : stoI i (.n x) = stoN i x := rfl
end
end Pd

set_option Elab.async false
set_option linter.all false
set_option maxRecDepth 100000
set_option maxHeartbeats 4000000
/-! Gl: rows as values. -/
namespace Pd
open PySem PySem.Spec PyProof.Rows L2
theorem eqD_zz {a b : List Int} : eqD (.lst (zs a)) (.lst (zs b)) = some (.bl (decide (a = b))) := by rw [eqD_of okq_ints okq_ints, eqb_ints]
theorem neD_zz {a b : List Int} : neD (.lst (zs a)) (.lst (zs b)) = some (.bl (!decide (a = b))) := by rw [neD_of okq_ints okq_ints, eqb_ints]
theorem atI_map {α : Type} {f : α → D} {l : List α} {i : Int} {x : α} (h0 : 0 ≤ i) (h : l[i.toNat]? = some x) : L2.atI (l.map f) i = some (f x) := by
  have hl : i.toNat < l.length := (List.getElem?_eq_some_iff.mp h).1
  unfold L2.atI L2.ixN
  rw [if_pos h0, List.length_map, if_pos (by omega)]
  show (l.map f)[i.toNat]? = _
  rw [List.getElem?_map, h]; rfl
theorem atI_mapN {α : Type} {f : α → D} {l : List α} {x : α} (h : l.getLast? = some x) : L2.atI (l.map f) (0 - 1) = some (f x) := by
  have hl : 0 < l.length := by
    cases l with
    | nil => cases h
    | cons => simp
  unfold L2.atI L2.ixN
  rw [if_neg (by decide), List.length_map, if_pos (by omega)]
  show (l.map f)[_]? = _
  rw [List.getElem?_map, show ((0 : Int) - 1 + (l.length : Int)).toNat = l.length - 1 by omega, ← List.getLast?_eq_getElem?, h]; rfl
theorem atD_row {l : List Int} {i x : Int} (h0 : 0 ≤ i) (h : l[i.toNat]? = some x) : atD (row l) (.int i) = some (.int x) := atI_map h0 h
theorem atD_rowN {l : List Int} {i : Nat} (h : i < l.length) : atD (row l) (.int (i : Int)) = some (.int (l.getD i 0)) := atD_row (Int.natCast_nonneg i) (by
  rw [Int.toNat_natCast, List.getD_eq_getElem?_getD, List.getElem?_eq_getElem h]; rfl)
theorem atD_zsN {l : List Int} {i : Nat} (h : i < l.length) : atD (.lst (zs l)) (.int (i : Int)) = some (.int (l.getD i 0)) := atD_rowN (l := l) h
theorem lenD_row {l : List Int} : lenD (row l) = some (.int l.length) := by
  show some (D.int ((zs l).length : Nat)) = _
  rw [zs_len]
theorem lenD_zs {l : List Int} : lenD (.lst (zs l)) = some (.int l.length) := lenD_row (l := l)
theorem isi_row {l : List Int} : isiD .tuple (row l) = some (.bl true) := rfl
theorem items_row {l : List Int} : itemsD (row l) = some (zs l) := rfl
theorem listD_row {l : List Int} : listD (row l) = some (zs l) := rfl
theorem tupleD_zs {l : List Int} : tupleD (.lst (zs l)) = some (row l) := rfl
theorem cutG_zs {l : List Int} {a b : Option Int} : cutG (zs l) a b = zs (cutG l a b) := by
  unfold cutG zs
  rw [List.length_map, List.map_take, List.map_drop]
theorem cut_row {l : List Int} {a b : Option Int} : cutD a b (row l) = some (row (cutG l a b)) := by
  show some (D.tup (cutG (zs l) a b)) = _
  rw [cutG_zs]; rfl
theorem cut_zs {l : List Int} {a b : Option Int} : cutD a b (.lst (zs l)) = some (.lst (zs (cutG l a b))) := by
  show some (D.lst (cutG (zs l) a b)) = _
  rw [cutG_zs]
theorem cutG_to {α : Type} {l : List α} {k : Nat} (h : k ≤ l.length) : cutG l none (some (k : Int)) = l.take k := by
  unfold cutG
  rw [HT.sIx_none, HT.sIx_nat, List.drop_zero, Nat.sub_zero, Nat.min_eq_left h]
theorem cutG_to2 {α : Type} {l : List α} {k : Nat} : cutG l none (some (k : Int)) = l.take k := by
  unfold cutG
  rw [HT.sIx_none, HT.sIx_nat, List.drop_zero, Nat.sub_zero]
  by_cases h : k ≤ l.length
  · rw [Nat.min_eq_left h]
  · rw [Nat.min_eq_right (by omega), List.take_length, List.take_of_length_le (by omega)]
theorem cutG_from {α : Type} {l : List α} {k : Nat} (h : k ≤ l.length) : cutG l (some (k : Int)) none = l.drop k := by
  unfold cutG
  rw [HT.sIx_none, HT.sIx_nat, Nat.min_eq_left h, List.take_of_length_le (by rw [List.length_drop]; exact Nat.le_refl _)]
theorem cutG_mid {α : Type} {l : List α} {j k : Nat} (h : k ≤ l.length) (hj : j ≤ k) : cutG l (some (j : Int)) (some (k : Int)) = (l.drop j).take (k - j) := by
  unfold cutG
  rw [HT.sIx_nat, HT.sIx_nat, Nat.min_eq_left h, Nat.min_eq_left (by omega)]
theorem cutG_in {α : Type} {l : List α} (h : 2 ≤ l.length) : cutG l (some (1 : Int)) (some (0 - 1 : Int)) = (l.drop 1).take (l.length - 2) := by
  unfold cutG
  have e1 : HT.sIx l.length 0 (some (1 : Int)) = 1 := by
    have := HT.sIx_nat l.length 0 1
    rw [Nat.min_eq_left (by omega)] at this
    exact this
  have e2 : HT.sIx l.length l.length (some (0 - 1 : Int)) = l.length - 1 := by
    have e3 : HT.sIx l.length l.length (some (0 - 1 : Int)) = ((0 - 1 : Int) + (l.length : Int)).toNat := rfl
    rw [e3]
    omega
  rw [e1, e2]
  rfl
end Pd

set_option Elab.async false
set_option linter.all false
set_option maxRecDepth 100000
set_option maxHeartbeats 4000000
/-! Rg2: rings as a function; turners. -/
namespace Pd
noncomputable def tl (l : List Int) : Nat := Classical.choose (tail_ex l)
theorem tl_at (l : List Int) : TailAt l (tl l) := Classical.choose_spec (tail_ex l)
noncomputable def st (l : List Int) : Nat := Classical.choose (least_ex (mid l (tl l)))
theorem st_at (l : List Int) : LeastAt (mid l (tl l)) (st l) := Classical.choose_spec (least_ex (mid l (tl l)))
noncomputable def rgl (l : List Int) : List Int := rot (mid l (tl l)) (st l)
noncomputable def way (l : List Int) : List Int := l.take (tl l + st l)
theorem tl_len (l : List Int) : 2 * tl l ≤ l.length := tail_len (tl_at l).1
theorem mid_le (l : List Int) (c : Nat) : (mid l c).length ≤ l.length := by
  unfold mid
  rw [List.length_take, List.length_drop]
  omega
theorem st_len (l : List Int) : st l ≤ (mid l (tl l)).length := by
  rcases st_at l with ⟨_, h⟩ | ⟨h, _⟩
  · rw [h]; exact Nat.zero_le _
  · omega
theorem rgl_len (l : List Int) : (rgl l).length ≤ l.length := by
  unfold rgl
  rw [rot_len (st_len l)]
  exact mid_le l _
theorem mid_mem {l : List Int} {c : Nat} {x : Int} (h : x ∈ mid l c) : x ∈ l := List.mem_of_mem_drop (List.mem_of_mem_take h)
theorem rgl_mem {l : List Int} {x : Int} (h : x ∈ rgl l) : x ∈ l := by
  unfold rgl rot at h
  rcases List.mem_append.mp h with h | h
  · exact mid_mem (List.mem_of_mem_drop h)
  · exact mid_mem (List.mem_of_mem_take h)
theorem way_len (l : List Int) : (way l).length ≤ l.length := by
  unfold way
  rw [List.length_take]
  omega
/-- the row, cut in pieces -/
theorem pieces (l : List Int) : ∃ t a b, l = t ++ (a ++ (b ++ und t)) ∧ way l = t ++ a ∧ rgl l = b ++ a := by
  have h := tail_split (tl_at l).1
  refine ⟨l.take (tl l), (mid l (tl l)).take (st l), (mid l (tl l)).drop (st l), ?_, ?_, rfl⟩
  · rw [← List.append_assoc ((mid l (tl l)).take (st l)), List.take_append_drop]
    exact h
  · have hl := tl_len l
    have hm := mid_len (l := l) hl
    have hs := st_len l
    unfold way mid
    rw [List.take_take]
    rw [hm] at hs
    rw [Nat.min_eq_left hs, List.take_add]
theorem turn_ok {a b : List Int} (hb : red b = b) (e : rgl a = rgl b) : red ((red (way b ++ und (way a)) ++ a) ++ und (red (way b ++ und (way a)))) = b := by
  obtain ⟨t1, a1, b1, p1, w1, r1⟩ := pieces a
  obtain ⟨t2, a2, b2, p2, w2, r2⟩ := pieces b
  rw [r1, r2] at e
  rw [red_undred, w1, w2, List.append_assoc, red_left]
  have e0 : a = t1 ++ (a1 ++ (b1 ++ und t1)) := p1
  have eu : und (t2 ++ a2 ++ und (t1 ++ a1)) = t1 ++ (a1 ++ (und a2 ++ und t2)) := by
    rw [und_app, und_und, und_app, List.append_assoc]
  rw [eu, und_app, e0]
  simp only [List.append_assoc]
  have s1 : red (t2 ++ (a2 ++ (und a1 ++ (und t1 ++ (t1 ++ (a1 ++ (b1 ++ (und t1 ++ (t1 ++ (a1 ++ (und a2 ++ und t2))))))))))) = red (t2 ++ (a2 ++ (und a1 ++ (a1 ++ (b1 ++ (und t1 ++ (t1 ++ (a1 ++ (und a2 ++ und t2))))))))) := by
    have := red_can2 (t2 ++ (a2 ++ und a1)) t1 (a1 ++ (b1 ++ (und t1 ++ (t1 ++ (a1 ++ (und a2 ++ und t2))))))
    simpa only [List.append_assoc] using this
  have s2 : red (t2 ++ (a2 ++ (und a1 ++ (a1 ++ (b1 ++ (und t1 ++ (t1 ++ (a1 ++ (und a2 ++ und t2))))))))) = red (t2 ++ (a2 ++ (b1 ++ (und t1 ++ (t1 ++ (a1 ++ (und a2 ++ und t2))))))) := by
    have := red_can2 (t2 ++ a2) a1 (b1 ++ (und t1 ++ (t1 ++ (a1 ++ (und a2 ++ und t2)))))
    simpa only [List.append_assoc] using this
  have s3 : red (t2 ++ (a2 ++ (b1 ++ (und t1 ++ (t1 ++ (a1 ++ (und a2 ++ und t2))))))) = red (t2 ++ (a2 ++ (b1 ++ (a1 ++ (und a2 ++ und t2))))) := by
    have := red_can2 (t2 ++ (a2 ++ b1)) t1 (a1 ++ (und a2 ++ und t2))
    simpa only [List.append_assoc] using this
  have s4 : red (t2 ++ (a2 ++ (b1 ++ (a1 ++ (und a2 ++ und t2))))) = red (t2 ++ (a2 ++ (b2 ++ (a2 ++ (und a2 ++ und t2))))) := by
    rw [← List.append_assoc b1, e, List.append_assoc]
  have s5 : red (t2 ++ (a2 ++ (b2 ++ (a2 ++ (und a2 ++ und t2))))) = red (t2 ++ (a2 ++ (b2 ++ und t2))) := by
    have := red_can (t2 ++ (a2 ++ b2)) a2 (und t2)
    simpa only [List.append_assoc] using this
  rw [s1, s2, s3, s4, s5, ← p2, hb]
end Pd

set_option Elab.async false
set_option linter.all false
set_option maxRecDepth 100000
set_option maxHeartbeats 4000000
/-! Shf: rows shuffled. -/
namespace Pd
open PySem PySem.Spec PyProof.Rows L2
local macro_rules | `(tactic| walk_at "ev") => `(tactic| try simp only [wM_bnd, wM_ret, wM_opt, wI_some, wM_nam, nmI_dat, nmI_own, gvI_dat, gvI_own, owI_own, inI_int, itI_int, wM_lookd, wM_looks, wM_gived, wM_gives, wM_isB, wM_andM, wM_orM, wM_notM, wM_ifM, wM_andV, wM_orV, wM_notV, wM_bin, wM_uno, wM_dt, wM_ls1, wM_consM, wM_tupM, wM_lstM, wM_itemsM, wM_ritemsM, wM_callM, wM_keyM, wM_methM, wM_meth0M, wM_mthM, wM_chainM, wM_partM, wM_cutM, wP_seqP, wP_lift, wP_skip, wP_brk, wP_cnt, wP_rsP, wP_sto, wP_stoN, wP_setV, wP_setN, wP_retP, wP_drop, wP_ifP, wP_asgP, wP_par2, wP_par3, wP_par2I, wM_consD, wM_consL, stoI_d, stoI_n, wM_callN, wM_keyN, wM_takeM, wP_retN, wFN_k, wFN_x,  wP_augP, wP_forP, wM_caughtM, catI_mk, hide_nil, hide_cons, hideS_dat, hideS_own, hideS_un, ord2, ord3, lenD_lsk, isntD_bl, tgTup_eq, tgLst_eq, tgCons_eq, tgNil_eq, Option.bind_some, slD,
  addD_int, subD_int, ltD_int, leD_int, gtD_int, geD_int, negD_int, eqD_int, neD_int, neD_zs, eqD_zs, eqD_row, neD_row, isi_tt, lenD_tup, lenD_lst, tupleD_tup, tupleD_lst, listD_tup, listD_lst, itemsD_tup, itemsD_lst, ritemsD_tup, revD_tup, few_nil, few_1, few_2, few_3, few_4, tgName,
  ini, List.map_cons, List.map_nil, List.length_cons, List.length_nil, List.replicate, List.cons_append, List.nil_append, List.getElem?_cons_zero, List.getElem?_cons_succ, List.set_cons_zero, List.set_cons_succ, Nat.reduceAdd, Nat.reduceSub, Nat.reduceLT, Nat.zero_add, Nat.sub_self, if_true, if_false, reduceIte, true_and, and_true, and_self, wF_k, wF_x, Bool.not_true, Bool.not_false, Bool.false_eq_true, Nat.lt_irrefl])
section
variable {en : En} {ls : LS} {a : Addr} {T : List (Addr × Str)} {c : Nat} {G : D → LS → Prop} {E : EX} {n : Int}
theorem zs_erase : ∀ (l : List Int) (i : Nat), (zs l).eraseIdx i = zs (l.eraseIdx i)
  | [], _ => rfl
  | _ :: _, 0 => rfl
  | x :: l, i + 1 => by
    show D.int x :: (zs l).eraseIdx i = D.int x :: zs (l.eraseIdx i)
    rw [zs_erase l i]
theorem erase_perm : ∀ (l : List Int) (i : Nat) (h : i < l.length), (l[i] :: l.eraseIdx i).Perm l
  | _ :: _, 0, _ => .refl _
  | x :: l, i + 1, h => by
    have hi : i < l.length := by simpa using h
    have ih := erase_perm l i hi
    show (l[i] :: x :: l.eraseIdx i).Perm (x :: l)
    exact (List.Perm.swap x l[i] _).trans (ih.cons x)
theorem popAtD_zs {l : List Int} {r : Int} (h0 : 0 ≤ r) (h1 : r < l.length) (h2 : l.length ≤ 1000) : ∃ x, popAtD (zs l) (.int r) = some (.int x, zs (l.eraseIdx r.toNat)) ∧ (x :: l.eraseIdx r.toNat).Perm l ∧ (l.eraseIdx r.toNat).length = l.length - 1 := by
  have hl : r.toNat < l.length := by omega
  refine ⟨l[r.toNat], ?_, ?_, ?_⟩
  · show (if decide (0 ≤ r) && decide (r < 1000000) then match (zs l)[r.toNat]? with | some d => some (d, (zs l).eraseIdx r.toNat) | none => none else none) = _
    rw [decide_eq_true h0, decide_eq_true (show r < 1000000 by omega)]
    have e : (zs l)[r.toNat]? = some (.int l[r.toNat]) := by
      unfold zs
      rw [List.getElem?_map, List.getElem?_eq_getElem hl]; rfl
    rw [e]
    show some (D.int l[r.toNat], (zs l).eraseIdx r.toNat) = _
    rw [zs_erase]
  · exact erase_perm l _ hl
  · rw [List.length_eraseIdx_of_lt hl]
theorem sp_shuffled {l : List Int} (hl : l.length ≤ 300) (h : Sz a T (c + l.length) ls) (q : ∀ l' ls', l'.Perm l → Sz a T c ls' → G (.lst (zs l')) ls') : wF (F_law_shuffled en [.ref a, .lst (zs l)] ls) G E := by
  unfold F_law_shuffled
  rw [wF_end]
  unfold p_law_shuffled
  walk_at "ev"
  refine wP_while (fun k ρ ls' => ∃ s t, ρ = [.dat (.ref a), .dat (.lst (zs l)), .own (zs s), .own (zs t)] ∧ s.length = k ∧ (s ++ t).Perm l ∧ Sz a T (c + k) ls') l.length (by omega) ⟨l, [], rfl, rfl, by simp, h⟩ ?_
  rintro k ρ ls1 ⟨s, t, rfl, hk, hp, hz⟩
  have hlen := hp.length_eq
  rw [List.length_append] at hlen
  walk_at "ev"
  by_cases e : s = []
  · subst e
    simp only [decide_true, Bool.not_true, Bool.false_eq_true, if_false]
    walk_at "ev"
    have hk : 0 = k := hk
    subst hk
    exact q t ls1 (by simpa using hp) (by simpa using hz)
  · rw [decide_eq_false e]
    have hpos := List.length_pos_iff.mpr e
    simp only [Bool.not_false, if_true]
    refine ⟨by omega, ?_⟩
    walk_at "ev"
    have hz' : Sz a T (c + (k - 1) + 1) ls1 := by rw [show c + (k - 1) + 1 = c + k by omega]; exact hz
    refine sp_draw hz' (by rw [zs_len]; omega) (by rw [zs_len]; omega) fun r ls2 r0 r1 hz2 => ?_
    rw [zs_len] at r1
    obtain ⟨x, e1, e2, e3⟩ := popAtD_zs r0 r1 (by omega)
    walk_at "ev"
    rw [e1]
    walk_at "ev"
    rw [appD_some (by rw [zs_len]; have : (300 : Nat) < top := by decide
                      omega)]
    walk_at "ev"
    refine ⟨s.eraseIdx r.toNat, t ++ [x], by rw [← zs_app]; rfl, by omega, ?_, hz2⟩
    refine List.Perm.trans ?_ hp
    have z1 : (s.eraseIdx r.toNat ++ (t ++ [x])).Perm ((x :: s.eraseIdx r.toNat) ++ t) := by
      rw [← List.append_assoc]
      exact (List.perm_append_comm).trans (by simp)
    exact z1.trans (e2.append_right t)
end
end Pd

set_option Elab.async false
set_option linter.all false
set_option maxRecDepth 100000
set_option maxHeartbeats 4000000
/-! R1: tails, first turns. -/
namespace Pd
open PySem PySem.Spec PyProof.Rows L2
local macro_rules | `(tactic| walk_at "ev") => `(tactic| try simp only [wM_bnd, wM_ret, wM_opt, wI_some, wM_nam, nmI_dat, nmI_own, gvI_dat, gvI_own, owI_own, inI_int, itI_int, wM_lookd, wM_looks, wM_gived, wM_gives, wM_isB, wM_andM, wM_orM, wM_notM, wM_ifM, wM_andV, wM_orV, wM_notV, wM_bin, wM_uno, wM_dt, wM_ls1, wM_consM, wM_tupM, wM_lstM, wM_itemsM, wM_ritemsM, wM_callM, wM_keyM, wM_methM, wM_meth0M, wM_mthM, wM_chainM, wM_partM, wM_cutM, wP_seqP, wP_lift, wP_skip, wP_brk, wP_cnt, wP_rsP, wP_sto, wP_stoN, wP_setV, wP_setN, wP_retP, wP_drop, wP_ifP, wP_asgP, wP_par2, wP_par3, wP_par2I, wM_consD, wM_consL, stoI_d, stoI_n, wM_callN, wM_keyN, wM_takeM, wP_retN, wFN_k, wFN_x, eqD_zz, neD_zz, lenD_row, lenD_zs, isi_row, items_row, listD_row, tupleD_zs, cut_row, cut_zs,  wP_augP, wP_forP, wM_caughtM, catI_mk, hide_nil, hide_cons, hideS_dat, hideS_own, hideS_un, ord2, ord3, lenD_lsk, isntD_bl, tgTup_eq, tgLst_eq, tgCons_eq, tgNil_eq, Option.bind_some, slD,
  addD_int, subD_int, ltD_int, leD_int, gtD_int, geD_int, negD_int, eqD_int, neD_int, neD_zs, eqD_zs, eqD_row, neD_row, isi_tt, lenD_tup, lenD_lst, tupleD_tup, tupleD_lst, listD_tup, listD_lst, itemsD_tup, itemsD_lst, ritemsD_tup, revD_tup, few_nil, few_1, few_2, few_3, few_4, tgName,
  ini, List.map_cons, List.map_nil, List.length_cons, List.length_nil, List.replicate, List.cons_append, List.nil_append, List.getElem?_cons_zero, List.getElem?_cons_succ, List.set_cons_zero, List.set_cons_succ, Nat.reduceAdd, Nat.reduceSub, Nat.reduceLT, Nat.zero_add, Nat.sub_self, if_true, if_false, reduceIte, true_and, and_true, and_self, wF_k, wF_x, Bool.not_true, Bool.not_false, Bool.false_eq_true, Nat.lt_irrefl])
section
variable {en : En} {ls : LS} {a : Addr} {T : List (Addr × Str)} {c : Nat} {G : D → LS → Prop} {E : EX} {n : Int} {l m : List Int} {k : Nat}
theorem mulD_two {i : Int} : mulD (.int 2) (.int i) = some (.int (2 * i)) := rfl
theorem sp_tail_of (h : TailAt l c) (hl : l.length ≤ 1000) : F_tail_of en [row l] ls = .ok (.int (c : Nat)) ls := by
  have hc := tail_len h.1
  refine wF_is ?_
  unfold F_tail_of
  rw [wF_end]
  unfold p_tail_of
  walk_at "ev"
  refine wP_while (fun k ρ ls' => ls' = ls ∧ ∃ i : Nat, i + k = c ∧ ρ = [.dat (row l), .dat (.int (i : Nat))]) c (by omega) ⟨rfl, 0, by omega, rfl⟩ ?_
  rintro k ρ ls' ⟨rfl, i, hi, rfl⟩
  walk_at "ev"
  rw [mulD_two]
  walk_at "ev"
  by_cases h1 : 2 * i + 1 < l.length
  · rw [decide_eq_true (show (1 : Int) < (l.length : Int) - 2 * (i : Int) by omega)]
    simp only [if_true]
    walk_at "ev"
    rw [atD_rowN (show i < l.length by omega)]
    walk_at "ev"
    rw [show (l.length : Int) - 1 - (i : Int) = ((l.length - 1 - i : Nat) : Int) by omega, atD_rowN (show l.length - 1 - i < l.length by omega)]
    walk_at "ev"
    have e : decide (l.getD i 0 = 0 - l.getD (l.length - 1 - i) 0) = isT l i := by
      unfold isT
      rw [decide_eq_true h1, Bool.true_and]
    rw [e]
    by_cases hk : 0 < k
    · rw [h.1 i (by omega)]
      simp only [if_true]
      refine ⟨hk, ?_⟩
      walk_at "ev"
      exact ⟨i + 1, by omega, rfl⟩
    · have : i = c := by omega
      subst this
      rw [h.2]
      walk_at "ev"
  · rw [decide_eq_false (show ¬ (1 : Int) < (l.length : Int) - 2 * (i : Int) by omega)]
    simp only [Bool.false_eq_true, if_false]
    by_cases hk : 0 < k
    · have := h.1 i (by omega)
      unfold isT at this
      rw [decide_eq_false h1] at this
      cases this
    · have : i = c := by omega
      subst this
      walk_at "ev"
/-- the place that stands at the two heads' mod -/
theorem at_mod (hm : 0 < m.length) (o s : Nat) : ∃ M, M = (m.length : Int) ∧ atD (row m) (.int (((o : Int) + (s : Int)) % M)) = some (.int (xr m (o + s))) := by
  refine ⟨_, rfl, ?_⟩
  rw [show ((o : Int) + (s : Int)) % (m.length : Int) = (((o + s) % m.length : Nat) : Int) by rw [Int.natCast_emod, Int.natCast_add]]
  exact atD_rowN (Nat.mod_lt _ hm)
theorem beat {o t s p : Nat} (hs : s < m.length) (h1 : ∀ i, i < s → xr m (o + i) = xr m (t + i)) (h2 : xr m (t + s) < xr m (o + s)) (hp : o ≤ p) (hp2 : p ≤ o + s) : btn m p := by
  have e : p = o + (p - o) := by omega
  refine lss_btn (q := t + (p - o)) ?_ (by omega)
  refine ⟨s - (p - o), by omega, fun i hi => ?_, ?_⟩
  · have := h1 (p - o + i) (by omega)
    rw [show t + (p - o) + i = t + (p - o + i) by omega, show p + i = o + (p - o + i) by omega]
    exact this.symm
  · rw [show t + (p - o) + (s - (p - o)) = t + s by omega, show p + (s - (p - o)) = o + s by omega]
    exact h2
theorem per {o t : Nat} (h : ∀ i, i < m.length → xr m (o + i) = xr m (t + i)) (hm : 0 < m.length) (i : Nat) : xr m (o + i) = xr m (t + i) := by
  have h2 := h (i % m.length) (Nat.mod_lt _ hm)
  have e : ∀ o : Nat, xr m (o + i % m.length) = xr m (o + i) := fun o => by
    unfold xr
    rw [Nat.add_mod_mod]
  rwa [e, e] at h2
theorem end_min {o t s k : Nat} (hk : LeastAt m k) (hm : m ≠ []) (hot : o ≠ t) (b1 : ∀ p, p < o → p ≠ t → btn m p) (b2 : ∀ p, p < t → p ≠ o → btn m p) (hs : ∀ i, i < s → xr m (o + i) = xr m (t + i)) (hend : ¬ (o < m.length ∧ t < m.length ∧ s < m.length)) : (if t < o then t else o) = k := by
  rcases hk with ⟨h, _⟩ | ⟨h1, h2, h3⟩
  · exact absurd h hm
  by_cases c1 : k < o
  · have : k = t := Classical.byContradiction fun h => h2 (b1 k c1 h)
    rw [if_pos (by omega)]; exact this.symm
  · by_cases c2 : k < t
    · have : k = o := Classical.byContradiction fun h => h2 (b2 k c2 h)
      rw [if_neg (by omega)]; exact this.symm
    · have hsn : m.length ≤ s := by omega
      have hp := per (m := m) (o := o) (t := t) (fun i hi => hs i (by omega)) (by omega)
      exfalso
      have go : ∀ u v : Nat, u < v → v ≤ k → (∀ i, xr m (u + i) = xr m (v + i)) → False := fun u v huv hv hh => by
        obtain ⟨q, q1, j, j1, j2, j3⟩ := h3 (k - (v - u)) (by omega)
        have e : ∀ i, xr m (k - (v - u) + i) = xr m (k + i) := fun i => by
          have := hh (k - v + i)
          rw [show u + (k - v + i) = k - (v - u) + i by omega, show v + (k - v + i) = k + i by omega] at this
          exact this
        exact h2 ⟨q, q1, j, j1, fun i hi => by rw [← e i]; exact j2 i hi, by rw [← e j]; exact j3⟩
      rcases Nat.lt_or_gt_of_ne hot with h | h
      · exact go o t h (by omega) hp
      · exact go t o h (by omega) fun i => (hp i).symm
theorem sp_least_start (h : LeastAt m k) (hl : m.length ≤ 300) : F_least_start en [row m] ls = .ok (.int (k : Nat)) ls := by
  by_cases hm : m = []
  · subst hm
    have hk : k = 0 := by
      rcases h with ⟨_, h⟩ | ⟨h, _⟩
      · exact h
      · exact absurd h (Nat.not_lt_zero _)
    subst hk
    rfl
  have hmp := List.length_pos_iff.mpr hm
  refine wF_is ?_
  unfold F_least_start
  rw [wF_end]
  unfold p_least_start
  walk_at "ev"
  obtain ⟨M, hM⟩ : ∃ M, M = (m.length : Int) := ⟨_, rfl⟩
  rw [← hM]
  refine wP_while (fun k ρ ls' => ls' = ls ∧ ∃ (o t s : Nat) (s5 s6 : Sl), 3 * m.length + 2 ≤ o + t + s + k ∧ o ≠ t ∧ (∀ p, p < o → p ≠ t → btn m p) ∧ (∀ p, p < t → p ≠ o → btn m p) ∧ (∀ i, i < s → xr m (o + i) = xr m (t + i)) ∧
    ρ = [.dat (row m), .dat (.int M), .dat (.int (o : Nat)), .dat (.int (t : Nat)), .dat (.int (s : Nat)), s5, s6]) (3 * m.length + 1) (by omega) ⟨rfl, 0, 1, 0, .un, .un, by omega, by omega, fun p hp _ => absurd hp (by omega), fun p hp hp0 => absurd hp (by omega), fun i hi => absurd hi (by omega), rfl⟩ ?_
  rintro w ρ ls' ⟨rfl, o, t, s, s5, s6, hw, hot, b1, b2, b3, rfl⟩
  have fin : ¬ (o < m.length ∧ t < m.length ∧ s < m.length) → wI (minD (.int (o : Nat)) (.int (t : Nat))) fun z => z = .int (k : Nat) := fun hend => by
    rw [minD_int]
    walk_at "ev"
    have e := end_min h hm hot b1 b2 b3 hend
    rw [← e]
    by_cases hto : t < o
    · rw [if_pos hto, if_pos (by omega)]
    · rw [if_neg hto, if_neg (by omega)]
  walk_at "ev"
  by_cases c1 : o < m.length
  · rw [decide_eq_true (show (o : Int) < M by omega)]
    simp only [if_true]
    walk_at "ev"
    by_cases c2 : t < m.length
    · rw [decide_eq_true (show (t : Int) < M by omega)]
      simp only [if_true]
      walk_at "ev"
      by_cases c3 : s < m.length
      · rw [decide_eq_true (show (s : Int) < M by omega)]
        simp only [if_true]
        refine ⟨by omega, ?_⟩
        obtain ⟨M1, hM1, a1⟩ := at_mod hmp o s
        obtain ⟨M2, hM2, a2⟩ := at_mod hmp t s
        have hM1 : M1 = M := by omega
        have hM2 : M2 = M := by omega
        subst hM1
        subst hM2
        walk_at "ev"
        rw [modD_int (by omega)]
        walk_at "ev"
        rw [a1]
        walk_at "ev"
        rw [modD_int (by omega)]
        walk_at "ev"
        rw [a2]
        walk_at "ev"
        by_cases e : xr m (o + s) = xr m (t + s)
        · rw [decide_eq_true e]
          walk_at "ev"
          refine ⟨o, t, s + 1, _, _, by omega, hot, b1, b2, fun i hi => ?_, rfl⟩
          rcases Nat.lt_succ_iff_lt_or_eq.mp hi with hi | rfl
          · exact b3 i hi
          · exact e
        · rw [decide_eq_false e]
          walk_at "ev"
          by_cases g : xr m (t + s) < xr m (o + s)
          · rw [decide_eq_true g]
            walk_at "ev"
            have bo : ∀ p, p < o + (s + 1) → p ≠ t → btn m p := fun p hp hpt => by
              by_cases hpo : p < o
              · exact b1 p hpo hpt
              · exact beat c3 b3 g (by omega) (by omega)
            by_cases ee : o + (s + 1) = t
            · rw [decide_eq_true (show (o : Int) + ((s : Int) + 1) = (t : Int) by omega)]
              walk_at "ev"
              refine ⟨o + (s + 1), t + 1, 0, _, _, by omega, by omega, fun p hp _ => bo p hp (by omega), fun p hp hpo => bo p (by omega) (by omega), fun i hi => absurd hi (by omega), rfl⟩
            · rw [decide_eq_false (show ¬ (o : Int) + ((s : Int) + 1) = (t : Int) by omega)]
              walk_at "ev"
              refine ⟨o + (s + 1), t, 0, _, _, by omega, ee, bo, fun p hp hpo => ?_, fun i hi => absurd hi (by omega), rfl⟩
              by_cases hp2 : p = o
              · subst hp2
                exact beat c3 b3 g (by omega) (by omega)
              · exact b2 p hp hp2
          · rw [decide_eq_false g]
            walk_at "ev"
            have g2 : xr m (o + s) < xr m (t + s) := by omega
            have b3' : ∀ i, i < s → xr m (t + i) = xr m (o + i) := fun i hi => (b3 i hi).symm
            have bt' : ∀ p, p < t + (s + 1) → p ≠ o → btn m p := fun p hp hpt => by
              by_cases hpo : p < t
              · exact b2 p hpo hpt
              · exact beat c3 b3' g2 (by omega) (by omega)
            by_cases ee : o = t + (s + 1)
            · rw [decide_eq_true (show (o : Int) = (t : Int) + ((s : Int) + 1) by omega)]
              walk_at "ev"
              refine ⟨o, t + (s + 1) + 1, 0, _, _, by omega, by omega, fun p hp hpt => ?_, fun p hp hpo => bt' p (by omega) hpo, fun i hi => absurd hi (by omega), rfl⟩
              by_cases hp2 : p = t
              · subst hp2
                exact beat c3 b3' g2 (by omega) (by omega)
              · exact b1 p hp hp2
            · rw [decide_eq_false (show ¬ (o : Int) = (t : Int) + ((s : Int) + 1) by omega)]
              walk_at "ev"
              refine ⟨o, t + (s + 1), 0, _, _, by omega, ee, fun p hp hpt => ?_, bt', fun i hi => absurd hi (by omega), rfl⟩
              by_cases hp2 : p = t
              · subst hp2
                exact beat c3 b3' g2 (by omega) (by omega)
              · exact b1 p hp hp2
      · rw [decide_eq_false (show ¬ (s : Int) < M by omega)]
        simp only [Bool.false_eq_true, if_false]
        exact fin (by omega)
    · rw [decide_eq_false (show ¬ (t : Int) < M by omega)]
      simp only [Bool.false_eq_true, if_false]
      exact fin (by omega)
  · rw [decide_eq_false (show ¬ (o : Int) < M by omega)]
    simp only [Bool.false_eq_true, if_false]
    exact fin (by omega)
end
end Pd

set_option Elab.async false
set_option linter.all false
set_option maxRecDepth 100000
set_option maxHeartbeats 4000000
/-! Cy: rings of renamed rows: the letters less the ties at the letter, plus the ties with one end in the lot. -/
namespace Pd
theorem stk_at : ∀ {l : List Int}, stk l ↔ ∀ i, i + 1 < l.length → l.getD (i + 1) 0 ≠ 0 - l.getD i 0
  | [] => ⟨fun _ i h => absurd h (by simp), fun _ => trivial⟩
  | [a] => ⟨fun _ i h => absurd h (by simp), fun _ => trivial⟩
  | a :: b :: t => by
    rw [show stk (a :: b :: t) ↔ (b ≠ 0 - a ∧ stk (b :: t)) from Iff.rfl, stk_at (l := b :: t)]
    constructor
    · rintro ⟨h1, h2⟩ i hi
      cases i with
      | zero => exact h1
      | succ i => exact h2 i (by simpa using hi)
    · intro h
      exact ⟨h 0 (by simp), fun i hi => h (i + 1) (by simpa using hi)⟩
theorem getD_rev {l : List Int} {i : Nat} (h : i < l.length) : l.reverse.getD i 0 = l.getD (l.length - 1 - i) 0 := by
  rw [List.getD_eq_getElem?_getD, List.getElem?_reverse h, List.getD_eq_getElem?_getD]
theorem stk_rev {l : List Int} (h : stk l) : stk l.reverse := by
  rw [stk_at] at h ⊢
  intro i hi
  rw [List.length_reverse] at hi
  rw [getD_rev hi, getD_rev (by omega)]
  have := h (l.length - 1 - (i + 1)) (by omega)
  rw [show l.length - 1 - (i + 1) + 1 = l.length - 1 - i by omega] at this
  omega
theorem redR_stk : ∀ (l : List Int) (y : Int) (s : List Int), stk (y :: l) → redR (y :: s) l = l.reverse ++ y :: s
  | [], y, s, _ => rfl
  | x :: l, y, s, h => by
    have h1 : x ≠ 0 - y := h.1
    show redR (if y = 0 - x then s else x :: y :: s) l = _
    rw [if_neg (by omega), redR_stk l x (y :: s) h.2]
    simp
theorem red_stk {l : List Int} (h : stk l) : red l = l := by
  cases l with
  | nil => rfl
  | cons y l =>
    show (redR [y] l).reverse = _
    rw [redR_stk l y [] h]
    simp
theorem stk_red (l : List Int) : stk (red l) := stk_rev (stk_redR l trivial)
/-! ### rings -/
def cyc (v : List Int) : Prop := ∀ i, i < v.length → xr v (i + 1) ≠ 0 - xr v i
theorem xr_lt {v : List Int} {i : Nat} (h : i < v.length) : xr v i = v.getD i 0 := by
  unfold xr
  rw [Nat.mod_eq_of_lt h]
theorem xr_len (v : List Int) : xr v v.length = v.getD 0 0 := by
  unfold xr
  rw [Nat.mod_self]
theorem cyc_stk {v : List Int} (h : cyc v) : stk v := by
  rw [stk_at]
  intro i hi
  rw [← xr_lt hi, ← xr_lt (show i < v.length by omega)]
  exact h i (by omega)
theorem cyc_tail {v : List Int} (h : cyc v) : isT v 0 = false := by
  unfold isT
  by_cases h1 : 2 * 0 + 1 < v.length
  · rw [decide_eq_true h1, Bool.true_and]
    refine decide_eq_false fun e => ?_
    have := h (v.length - 1) (by omega)
    rw [show v.length - 1 + 1 = v.length by omega, xr_len, xr_lt (by omega)] at this
    exact this (by rw [e]; simp)
  · rw [decide_eq_false h1, Bool.false_and]
theorem stk_cyc {v : List Int} (h : stk v) (ht : isT v 0 = false) (h0 : ∀ y ∈ v, y ≠ 0) : cyc v := by
  intro i hi
  by_cases h1 : i + 1 < v.length
  · rw [xr_lt h1, xr_lt hi]
    exact stk_at.mp h i h1
  · have e : i + 1 = v.length := by omega
    rw [e, xr_len, xr_lt hi]
    by_cases h2 : 1 < v.length
    · intro z
      unfold isT at ht
      rw [decide_eq_true (by omega), Bool.true_and] at ht
      refine of_decide_eq_false ht ?_
      rw [z, show v.length - 1 - 0 = i by omega]
    · have : i = 0 := by omega
      subst this
      have hm : v.getD 0 0 ∈ v := by
        rw [List.getD_eq_getElem?_getD, List.getElem?_eq_getElem hi]
        exact List.getElem_mem hi
      have := h0 _ hm
      omega
theorem xr_rot {m : List Int} {k : Nat} (hk : k < m.length) (i : Nat) : xr (rot m k) i = xr m (k + i) := by
  have hl := rot_len (m := m) (p := k) (by omega)
  have hm : i % m.length < m.length := Nat.mod_lt _ (by omega)
  have := rot_at hk hm
  unfold xr at this ⊢
  rw [hl, List.getD_eq_getElem?_getD, this]
  show m.getD ((k + i % m.length) % m.length) 0 = _
  rw [Nat.add_mod_mod]
theorem cyc_rot {m : List Int} {k : Nat} (h : cyc m) (hk : k ≤ m.length) : cyc (rot m k) := by
  by_cases e : k = m.length
  · subst e
    have : rot m m.length = m := by unfold rot; simp
    rw [this]; exact h
  · have hk : k < m.length := by omega
    intro i hi
    rw [rot_len (by omega)] at hi
    rw [xr_rot hk, xr_rot hk]
    have h1 := h ((k + i) % m.length) (Nat.mod_lt _ (by omega))
    have e1 : xr m ((k + i) % m.length + 1) = xr m (k + (i + 1)) := by
      unfold xr
      rw [Nat.mod_add_mod]; rfl
    have e2 : xr m ((k + i) % m.length) = xr m (k + i) := by
      unfold xr
      rw [Nat.mod_mod]
    rw [e1, e2] at h1
    exact h1
theorem tail_uni {l : List Int} {c d : Nat} (h : TailAt l c) (g : TailAt l d) : c = d := by
  rcases Nat.lt_trichotomy c d with e | e | e
  · have := g.1 c e; rw [h.2] at this; cases this
  · exact e
  · have := h.1 d e; rw [g.2] at this; cases this
theorem rgl_mid (l : List Int) : (rgl l).length = (mid l (tl l)).length := rot_len (st_len l)
theorem cyc_cl {v : List Int} (h : cyc v) : (mid (red v) (tl (red v))).length = v.length := by
  rw [red_stk (cyc_stk h)]
  have : tl v = 0 := tail_uni (tl_at v) ⟨fun i hi => absurd hi (Nat.not_lt_zero i), cyc_tail h⟩
  rw [this, mid_zero]
theorem cyc_ring {l : List Int} (h0 : ∀ y ∈ l, y ≠ 0) : cyc (rgl (red l)) := by
  unfold rgl
  refine cyc_rot ?_ (st_len _)
  have hl := tl_len (red l)
  have ml := mid_len hl
  refine stk_cyc ?_ ?_ fun y hy => h0 y (red_mem (mid_mem hy))
  · have hs := stk_red l
    rw [stk_at] at hs ⊢
    intro i hi
    have := hs (tl (red l) + i) (by omega)
    rw [mid_getD (by omega), mid_getD (by omega)]
    exact this
  · have ht := (tl_at (red l)).2
    unfold isT at ht ⊢
    by_cases h1 : 2 * tl (red l) + 1 < (red l).length
    · rw [decide_eq_true h1, Bool.true_and] at ht
      rw [decide_eq_true (by omega), Bool.true_and]
      refine decide_eq_false fun e => of_decide_eq_false ht ?_
      rw [mid_getD (by omega), mid_getD (by omega)] at e
      rw [show (red l).length - 1 - tl (red l) = tl (red l) + ((mid (red l) (tl (red l))).length - 1 - 0) by omega]
      exact e
    · rw [decide_eq_false (by omega), Bool.false_and]
theorem und_one (y : Int) : und [y] = [0 - y] := rfl
theorem rot_cons (y : Int) (t : List Int) : rot (y :: t) 1 = t ++ [y] := rfl
theorem rot_snoc (t : List Int) (y : Int) : rot (t ++ [y]) t.length = y :: t := by
  unfold rot
  simp
/-- a ring turned by a letter -/
theorem turn_cl {v : List Int} (hv : cyc v) (y : Int) : (mid (red ([y] ++ (v ++ und [y]))) (tl (red ([y] ++ (v ++ und [y]))))).length = v.length := by
  by_cases e0 : v = []
  · subst e0
    rw [List.nil_append, red_nil_of]
    have := mid_le [] (tl [])
    simpa using this
  by_cases e1 : v.getD 0 0 = 0 - y
  · cases v with
    | nil => exact absurd rfl e0
    | cons h t =>
      have e1 : h = 0 - y := e1
      subst e1
      have e2 : red ([y] ++ ((0 - y) :: t ++ und [y])) = red (rot ((0 - y) :: t) 1) := by
        rw [rot_cons]
        exact red_can [] [y] (t ++ und [y])
      rw [e2]
      have := cyc_cl (cyc_rot hv (k := 1) (by simp))
      rw [this, rot_len (by simp)]
  by_cases e2 : v.getD (v.length - 1) 0 = y
  · have hl : 0 < v.length := List.length_pos_iff.mpr e0
    have ev : v = v.dropLast ++ [y] := by
      conv => lhs; rw [← List.dropLast_concat_getLast e0]
      congr 2
      rw [← e2, List.getD_eq_getElem?_getD, List.getElem?_eq_getElem (by omega), List.getLast_eq_getElem]; rfl
    generalize v.dropLast = t at ev
    subst ev
    have e3 : red ([y] ++ (t ++ [y] ++ und [y])) = red (rot (t ++ [y]) t.length) := by
      rw [rot_snoc]
      have := red_can (y :: t) [y] []
      rw [List.append_nil, List.append_nil] at this
      rw [← this]
      simp
    rw [e3, cyc_cl (cyc_rot hv (by simp)), rot_len (by simp)]
  · have hl : 0 < v.length := List.length_pos_iff.mpr e0
    have hs := stk_at.mp (cyc_stk hv)
    obtain ⟨u, hu⟩ : ∃ u, u = [y] ++ (v ++ und [y]) := ⟨_, rfl⟩
    have ul : u.length = v.length + 2 := by rw [hu, und_one]; simp
    have u0 : u.getD 0 0 = y := by rw [hu]; rfl
    have ui : ∀ i, i < v.length → u.getD (i + 1) 0 = v.getD i 0 := fun i hi => by
      rw [hu]
      show (v ++ und [y]).getD i 0 = _
      rw [List.getD_eq_getElem?_getD, List.getElem?_append_left hi, List.getD_eq_getElem?_getD]
    have uz : u.getD (v.length + 1) 0 = 0 - y := by
      rw [hu]
      show (v ++ und [y]).getD v.length 0 = _
      rw [List.getD_eq_getElem?_getD, List.getElem?_append_right (Nat.le_refl _), Nat.sub_self]; rfl
    have us : stk u := by
      rw [stk_at]
      intro i hi
      cases i with
      | zero => rw [ui 0 hl, u0]; exact e1
      | succ i =>
        by_cases hi2 : i + 1 < v.length
        · rw [ui (i + 1) hi2, ui i (by omega)]
          exact hs i hi2
        · have : i = v.length - 1 := by omega
          subst this
          rw [show v.length - 1 + 1 + 1 = v.length + 1 by omega, uz, ui (v.length - 1) (by omega)]
          omega
    rw [← hu, red_stk us]
    have t1 : TailAt u 1 := by
      refine ⟨fun i hi => ?_, ?_⟩
      · have : i = 0 := by omega
        subst this
        unfold isT
        rw [decide_eq_true (by omega), u0, show u.length - 1 - 0 = v.length + 1 by omega, uz, decide_eq_true (by omega)]; rfl
      · have ht := cyc_tail hv
        unfold isT at ht ⊢
        by_cases h1 : 1 < v.length
        · rw [decide_eq_true (by omega), Bool.true_and] at ht ⊢
          refine decide_eq_false fun e => of_decide_eq_false ht ?_
          rw [ui 0 hl, show u.length - 1 - 1 = v.length - 1 + 1 by omega, ui _ (by omega)] at e
          rw [e]; rfl
        · rw [decide_eq_false (by omega), Bool.false_and]
    rw [tail_uni (tl_at u) t1, mid_len (by omega), ul]
    omega
/-! ### a move -/
theorem red_mid {u v : List Int} (h : red u = red v) (a b : List Int) : red (a ++ (u ++ b)) = red (a ++ (v ++ b)) := by
  rw [← red_right, ← red_left u b, h, red_left, red_right]
theorem red_pre {u v : List Int} (h : red u = red v) (a : List Int) : red (a ++ u) = red (a ++ v) := by
  rw [← red_right, h, red_right]
theorem red_post {u v : List Int} (h : red u = red v) (b : List Int) : red (u ++ b) = red (v ++ b) := by
  rw [← red_left, h, red_left]
def inA (x : Int) (lot : List Int) (u : Int) : Bool := decide (u = x) || decide (u ∈ lot)
def ph (x : Int) (lot : List Int) (y : Int) : List Int := (if 0 - y ∈ lot then [0 - x] else []) ++ ([y] ++ if y ∈ lot then [x] else [])
def core (x y : Int) : List Int := if y = x ∨ y = 0 - x then [] else [y]
def ep (x : Int) (p q : Bool) : List Int := if p = q then [] else if p = true then [x] else [0 - x]
def wd (x : Int) (A : Int → Bool) (z : Int) : List Int → List Int
  | [] => []
  | y :: r => core x y ++ (ep x (A y) (A (0 - r.headD z)) ++ wd x A z r)
def pP (x : Int) (b : Bool) : List Int := if b = true then [0 - x] else []
def pQ (x : Int) (b : Bool) : List Int := if b = true then [x] else []
section
variable {x : Int} {lot : List Int}
theorem inA_x : inA x lot x = true := by unfold inA; simp
theorem inA_n (h0 : x ≠ 0) (h2 : 0 - x ∉ lot) : inA x lot (0 - x) = false := by
  unfold inA
  rw [decide_eq_false (show ¬ 0 - x = x by omega), decide_eq_false h2]; rfl
theorem inA_o {u : Int} (h : u ≠ x) : inA x lot u = decide (u ∈ lot) := by
  unfold inA
  rw [decide_eq_false h, Bool.false_or]
theorem ph_eq (h0 : x ≠ 0) (h1 : x ∉ lot) (h2 : 0 - x ∉ lot) (y : Int) : ph x lot y = pP x (inA x lot (0 - y)) ++ (core x y ++ pQ x (inA x lot y)) := by
  unfold ph pP pQ core
  by_cases e1 : y = x
  · subst e1
    rw [if_neg h2, if_neg h1, if_pos (Or.inl rfl), inA_x, inA_n h0 h2]
    simp
  · by_cases e2 : y = 0 - x
    · subst e2
      rw [show 0 - (0 - x) = x by omega, if_neg h1, if_neg h2, if_pos (Or.inr rfl), inA_x, inA_n h0 h2]
      simp
    · rw [if_neg (show ¬ (y = x ∨ y = 0 - x) from fun h => h.elim e1 e2), inA_o e1, inA_o (show 0 - y ≠ x by omega)]
      simp
theorem ep_eq (p q : Bool) : red (pQ x p ++ pP x q) = red (ep x p q) := by
  cases p <;> cases q <;> try rfl
  exact red_nil_of [x]
theorem wd_red (h0 : x ≠ 0) (h1 : x ∉ lot) (h2 : 0 - x ∉ lot) (z : Int) : ∀ r : List Int, red (r.flatMap (ph x lot) ++ pP x (inA x lot (0 - z))) = red (pP x (inA x lot (0 - r.headD z)) ++ wd x (inA x lot) z r)
  | [] => by
    show red (pP x (inA x lot (0 - z))) = red (pP x (inA x lot (0 - z)) ++ [])
    rw [List.append_nil]
  | y :: r => by
    have ih := wd_red h0 h1 h2 z r
    rw [List.flatMap_cons, List.append_assoc, red_pre ih, ph_eq h0 h1 h2]
    show red (pP x (inA x lot (0 - y)) ++ (core x y ++ pQ x (inA x lot y)) ++ (pP x (inA x lot (0 - r.headD z)) ++ wd x (inA x lot) z r)) = red (pP x (inA x lot (0 - y)) ++ (core x y ++ (ep x (inA x lot y) (inA x lot (0 - r.headD z)) ++ wd x (inA x lot) z r)))
    have := red_mid (ep_eq (x := x) (inA x lot y) (inA x lot (0 - r.headD z))) (pP x (inA x lot (0 - y)) ++ core x y) (wd x (inA x lot) z r)
    simp only [List.append_assoc] at this ⊢
    exact this
def Fst (x : Int) (A : Int → Bool) (y f : Int) : Prop := (y ≠ x ∧ y ≠ 0 - x ∧ f = y) ∨ (y = x ∧ (f = x ∨ (f ≠ x ∧ f ≠ 0 - x ∧ A (0 - f) = true))) ∨ (y = 0 - x ∧ (f = 0 - x ∨ (f ≠ x ∧ f ≠ 0 - x ∧ A (0 - f) = false)))
theorem fst_self {A : Int → Bool} (y : Int) : Fst x A y y := by
  by_cases e1 : y = x
  · exact .inr (.inl ⟨e1, .inl e1⟩)
  · by_cases e2 : y = 0 - x
    · exact .inr (.inr ⟨e2, .inl e2⟩)
    · exact .inl ⟨e1, e2, rfl⟩
theorem lin {A : Int → Bool} (h0 : x ≠ 0) (a1 : A x = true) (a2 : A (0 - x) = false) {z f : Int} (hf : Fst x A z f) : ∀ r : List Int, stk (r ++ [z]) → stk (wd x A z r ++ [f]) ∧ Fst x A (r.headD z) ((wd x A z r ++ [f]).headD 0)
  | [], _ => ⟨trivial, hf⟩
  | y :: r, hs => by
    obtain ⟨i1, i2⟩ := lin h0 a1 a2 hf r (stk_tail hs)
    have hy : r.headD z ≠ 0 - y := by
      cases r with
      | nil => exact hs.1
      | cons a r => exact hs.1
    show stk (core x y ++ (ep x (A y) (A (0 - r.headD z)) ++ wd x A z r) ++ [f]) ∧ Fst x A y ((core x y ++ (ep x (A y) (A (0 - r.headD z)) ++ wd x A z r) ++ [f]).headD 0)
    rw [List.append_assoc, List.append_assoc]
    have hw : wd x A z r ++ [f] ≠ [] := by simp
    generalize wd x A z r ++ [f] = w at i1 i2 hw ⊢
    cases w with
    | nil => exact absurd rfl hw
    | cons f1 w' =>
      have i2 : Fst x A (r.headD z) f1 := i2
      generalize r.headD z = y' at hy i2 ⊢
      unfold core ep
      by_cases e1 : y = x
      · subst e1
        rw [if_pos (Or.inl rfl), a1]
        cases hA : A (0 - y') with
        | true =>
          rw [if_pos rfl]
          refine ⟨i1, .inr (.inl ⟨rfl, .inr ?_⟩)⟩
          rcases i2 with ⟨n1, n2, rfl⟩ | ⟨rfl, _⟩ | ⟨rfl, _⟩
          · exact ⟨n1, n2, hA⟩
          · rw [a2] at hA; cases hA
          · exact absurd rfl hy
        | false =>
          rw [if_neg (by decide), if_pos rfl]
          refine ⟨⟨?_, i1⟩, .inr (.inl ⟨rfl, .inl rfl⟩)⟩
          rcases i2 with ⟨n1, n2, rfl⟩ | ⟨rfl, rfl | ⟨n1, n2, _⟩⟩ | ⟨rfl, _⟩
          · exact n2
          · omega
          · exact n2
          · exact absurd rfl hy
      by_cases e2 : y = 0 - x
      · subst e2
        rw [if_pos (Or.inr rfl), a2]
        have hy : y' ≠ x := by omega
        cases hA : A (0 - y') with
        | false =>
          rw [if_pos rfl]
          refine ⟨i1, .inr (.inr ⟨rfl, .inr ?_⟩)⟩
          rcases i2 with ⟨n1, n2, rfl⟩ | ⟨rfl, _⟩ | ⟨rfl, _⟩
          · exact ⟨n1, n2, hA⟩
          · exact absurd rfl hy
          · rw [show 0 - (0 - x) = x by omega, a1] at hA; cases hA
        | true =>
          rw [if_neg (by decide), if_neg (by decide)]
          refine ⟨⟨?_, i1⟩, .inr (.inr ⟨rfl, .inl rfl⟩)⟩
          rcases i2 with ⟨n1, n2, rfl⟩ | ⟨rfl, _⟩ | ⟨rfl, rfl | ⟨n1, n2, _⟩⟩
          · omega
          · exact absurd rfl hy
          · omega
          · omega
      · rw [if_neg (show ¬ (y = x ∨ y = 0 - x) from fun h => h.elim e1 e2)]
        by_cases hA : A y = A (0 - y')
        · rw [if_pos hA]
          refine ⟨⟨?_, i1⟩, .inl ⟨e1, e2, rfl⟩⟩
          rcases i2 with ⟨n1, n2, rfl⟩ | ⟨rfl, rfl | ⟨n1, n2, n3⟩⟩ | ⟨rfl, rfl | ⟨n1, n2, n3⟩⟩
          · exact hy
          · omega
          · rintro rfl
            rw [show 0 - (0 - y) = y by omega, hA, a2] at n3
            cases n3
          · omega
          · rintro rfl
            rw [show 0 - (0 - y) = y by omega, hA, show 0 - (0 - x) = x by omega, a1] at n3
            cases n3
        · rw [if_neg hA]
          cases hB : A y with
          | true =>
            rw [if_pos rfl]
            refine ⟨⟨by omega, ?_, i1⟩, .inl ⟨e1, e2, rfl⟩⟩
            rcases i2 with ⟨n1, n2, rfl⟩ | ⟨rfl, rfl | ⟨n1, n2, n3⟩⟩ | ⟨rfl, _⟩
            · exact n2
            · omega
            · exact n2
            · rw [hB, show 0 - (0 - x) = x by omega, a1] at hA; exact absurd rfl hA
          | false =>
            rw [if_neg (by decide)]
            refine ⟨⟨by omega, ?_, i1⟩, .inl ⟨e1, e2, rfl⟩⟩
            rcases i2 with ⟨n1, n2, rfl⟩ | ⟨rfl, _⟩ | ⟨rfl, rfl | ⟨n1, n2, n3⟩⟩
            · omega
            · rw [hB, a2] at hA; exact absurd rfl hA
            · omega
            · omega
theorem ring_end {r : List Int} (h : cyc r) : stk (r ++ [r.headD 0]) := by
  cases r with
  | nil => trivial
  | cons a t =>
    rw [stk_at]
    intro i hi
    rw [List.length_append, List.length_singleton] at hi
    have hi1 : i < (a :: t).length := by omega
    have := h i hi1
    rw [xr_lt hi1] at this
    have e1 : ((a :: t) ++ [(a :: t).headD 0]).getD i 0 = (a :: t).getD i 0 := by
      rw [List.getD_eq_getElem?_getD, List.getElem?_append_left hi1, List.getD_eq_getElem?_getD]
    rw [e1]
    have e2 : ((a :: t) ++ [(a :: t).headD 0]).getD (i + 1) 0 = xr (a :: t) (i + 1) := by
      by_cases h2 : i + 1 < (a :: t).length
      · rw [List.getD_eq_getElem?_getD, List.getElem?_append_left h2, xr_lt h2, List.getD_eq_getElem?_getD]
      · have h3 : i + 1 = (a :: t).length := by omega
        rw [h3, xr_len, List.getD_eq_getElem?_getD, List.getElem?_append_right (Nat.le_refl _), Nat.sub_self]; rfl
    rw [e2]
    exact this
theorem end_ring {r : List Int} (h : stk (r ++ [r.headD 0])) : cyc r := by
  cases r with
  | nil => exact fun i hi => absurd hi (Nat.not_lt_zero i)
  | cons a t =>
    intro i hi
    have := stk_at.mp h i (by rw [List.length_append, List.length_singleton]; omega)
    have e1 : ((a :: t) ++ [(a :: t).headD 0]).getD i 0 = (a :: t).getD i 0 := by
      rw [List.getD_eq_getElem?_getD, List.getElem?_append_left hi, List.getD_eq_getElem?_getD]
    have e2 : ((a :: t) ++ [(a :: t).headD 0]).getD (i + 1) 0 = xr (a :: t) (i + 1) := by
      by_cases h2 : i + 1 < (a :: t).length
      · rw [List.getD_eq_getElem?_getD, List.getElem?_append_left h2, xr_lt h2, List.getD_eq_getElem?_getD]
      · have h3 : i + 1 = (a :: t).length := by omega
        rw [h3, xr_len, List.getD_eq_getElem?_getD, List.getElem?_append_right (Nat.le_refl _), Nat.sub_self]; rfl
    rw [e1, e2] at this
    rw [xr_lt hi]
    exact this
theorem wd_cyc {A : Int → Bool} (h0 : x ≠ 0) (a1 : A x = true) (a2 : A (0 - x) = false) {r : List Int} (h : cyc r) : cyc (wd x A (r.headD 0) r) := by
  have hs := ring_end h
  cases r with
  | nil => exact fun i hi => absurd hi (Nat.not_lt_zero i)
  | cons a t =>
    have hs : stk ((a :: t) ++ [a]) := hs
    show cyc (wd x A a (a :: t))
    obtain ⟨_, g⟩ := lin h0 a1 a2 (fst_self (x := x) (A := A) a) (a :: t) hs
    have g : Fst x A a ((wd x A a (a :: t) ++ [a]).headD 0) := g
    obtain ⟨k, _⟩ := lin h0 a1 a2 g (a :: t) hs
    generalize wd x A a (a :: t) = w at k
    cases w with
    | nil => exact fun i hi => absurd hi (Nat.not_lt_zero i)
    | cons b w => exact end_ring k
/-- the renamed ring's ring -/
theorem ring_len (h0 : x ≠ 0) (h1 : x ∉ lot) (h2 : 0 - x ∉ lot) {r : List Int} (h : cyc r) : (rgl (red (r.flatMap (ph x lot)))).length = (wd x (inA x lot) (r.headD 0) r).length := by
  rw [rgl_mid]
  cases r with
  | nil =>
    show (mid (red []) (tl (red []))).length = 0
    have e : red [] = [] := rfl
    rw [e]
    have := mid_le [] (tl [])
    simpa using this
  | cons a t =>
    have hw := wd_red h0 h1 h2 a (a :: t)
    have hw : red ((a :: t).flatMap (ph x lot) ++ pP x (inA x lot (0 - a))) = red (pP x (inA x lot (0 - a)) ++ wd x (inA x lot) a (a :: t)) := hw
    have hc := wd_cyc (A := inA x lot) h0 inA_x (inA_n h0 h2) h
    have hc : cyc (wd x (inA x lot) a (a :: t)) := hc
    show (mid (red ((a :: t).flatMap (ph x lot))) (tl (red ((a :: t).flatMap (ph x lot))))).length = (wd x (inA x lot) a (a :: t)).length
    generalize wd x (inA x lot) a (a :: t) = v at hw hc
    generalize (a :: t).flatMap (ph x lot) = u at hw
    cases hb : inA x lot (0 - a) with
    | false =>
      rw [hb] at hw
      have hw : red (u ++ []) = red v := hw
      rw [List.append_nil] at hw
      rw [hw]
      exact cyc_cl hc
    | true =>
      rw [hb] at hw
      have hw : red (u ++ [0 - x]) = red ([0 - x] ++ v) := hw
      have e : red u = red ([0 - x] ++ (v ++ und [0 - x])) := by
        have := red_can u [0 - x] []
        rw [List.append_nil, List.append_nil, ← List.append_assoc, red_post hw] at this
        rw [← this, List.append_assoc]
      rw [e]
      exact turn_cl hc (0 - x)
/-! ### ties -/
def tsz (z : Int) : List Int → List (Int × Int)
  | [] => []
  | y :: r => (y, 0 - r.headD z) :: tsz z r
def wt (x : Int) (A : Int → Bool) (t : Int × Int) : Int := (if A t.1 = A t.2 then 0 else 1) - (if t.1 = x ∨ t.2 = x then 1 else 0)
def cn (x u : Int) : Int := if u = x then 1 else 0
theorem head_ok {y z : Int} {r : List Int} (hs : stk ((y :: r) ++ [z])) : r.headD z ≠ 0 - y := by
  cases r with
  | nil => exact hs.1
  | cons a r => exact hs.1
theorem wd_len {A : Int → Bool} (h0 : x ≠ 0) (z : Int) : ∀ r : List Int, stk (r ++ [z]) → ((wd x A z r).length : Int) = r.length + ((tsz z r).map (wt x A)).sum + cn (0 - x) z - cn (0 - x) (r.headD z)
  | [], _ => by
    show (0 : Int) = 0 + 0 + cn (0 - x) z - cn (0 - x) z
    omega
  | y :: r, hs => by
    have ih := wd_len (A := A) h0 z r (stk_tail hs)
    have hy := head_ok hs
    show ((core x y ++ (ep x (A y) (A (0 - r.headD z)) ++ wd x A z r)).length : Int) = ((y :: r).length : Int) + (((y, 0 - r.headD z) :: tsz z r).map (wt x A)).sum + cn (0 - x) z - cn (0 - x) y
    rw [List.map_cons, List.sum_cons, List.length_append, List.length_append, List.length_cons]
    have e1 : ((core x y).length : Int) = 1 - cn x y - cn (0 - x) y := by
      unfold core cn
      by_cases c1 : y = x
      · rw [if_pos (Or.inl c1), if_pos c1, if_neg (by omega)]; rfl
      · by_cases c2 : y = 0 - x
        · rw [if_pos (Or.inr c2), if_neg c1, if_pos c2]; rfl
        · rw [if_neg (fun h => h.elim c1 c2), if_neg c1, if_neg c2]; rfl
    have e2 : ((ep x (A y) (A (0 - r.headD z))).length : Int) - wt x A (y, 0 - r.headD z) = cn x y + cn (0 - x) (r.headD z) := by
      have e3 : ((ep x (A y) (A (0 - r.headD z))).length : Int) = if A y = A (0 - r.headD z) then 0 else 1 := by
        unfold ep
        split
        · rfl
        · split <;> rfl
      have e4 : (if y = x ∨ 0 - r.headD z = x then (1 : Int) else 0) = cn x y + cn (0 - x) (r.headD z) := by
        unfold cn
        by_cases c1 : y = x
        · rw [if_pos (Or.inl c1), if_pos c1, if_neg (by omega)]; rfl
        · by_cases c2 : r.headD z = 0 - x
          · rw [if_pos (Or.inr (by omega)), if_neg c1, if_pos c2]; rfl
          · rw [if_neg (fun h => h.elim c1 fun g => c2 (by omega)), if_neg c1, if_neg c2]; rfl
      rw [e3]
      show _ - ((if A y = A (0 - r.headD z) then (0 : Int) else 1) - if y = x ∨ 0 - r.headD z = x then (1 : Int) else 0) = _
      rw [e4]
      omega
    simp only [Int.natCast_add, Int.natCast_one]
    omega
theorem ties_comp {A A' : Int → Bool} (h0 : x ≠ 0) (z : Int) : ∀ r : List Int, stk (r ++ [z]) → (∀ t ∈ tsz z r, (A' t.1 = A' t.2 ↔ A t.1 = A t.2)) →
    ((tsz z r).map (wt x A)).sum - ((tsz z r).map (wt (0 - x) A')).sum = cn (0 - x) (r.headD z) - cn (0 - x) z + cn x z - cn x (r.headD z)
  | [], _, _ => by
    show (0 : Int) - 0 = cn (0 - x) z - cn (0 - x) z + cn x z - cn x z
    omega
  | y :: r, hs, hA => by
    have ih := ties_comp h0 z r (stk_tail hs) fun t ht => hA t (List.mem_cons_of_mem _ ht)
    have hy := head_ok hs
    have hA := hA (y, 0 - r.headD z) List.mem_cons_self
    show (((y, 0 - r.headD z) :: tsz z r).map (wt x A)).sum - (((y, 0 - r.headD z) :: tsz z r).map (wt (0 - x) A')).sum = cn (0 - x) y - cn (0 - x) z + cn x z - cn x y
    rw [List.map_cons, List.sum_cons, List.map_cons, List.sum_cons]
    have e : wt x A (y, 0 - r.headD z) - wt (0 - x) A' (y, 0 - r.headD z) = cn (0 - x) y + cn x (r.headD z) - cn x y - cn (0 - x) (r.headD z) := by
      unfold wt cn
      have e1 : (if A' (y, 0 - r.headD z).1 = A' (y, 0 - r.headD z).2 then (0 : Int) else 1) = if A (y, 0 - r.headD z).1 = A (y, 0 - r.headD z).2 then (0 : Int) else 1 := by
        by_cases c : A (y, 0 - r.headD z).1 = A (y, 0 - r.headD z).2
        · rw [if_pos c, if_pos (hA.mpr c)]
        · rw [if_neg c, if_neg (fun g => c (hA.mp g))]
      rw [e1]
      generalize (if A (y, 0 - r.headD z).1 = A (y, 0 - r.headD z).2 then (0 : Int) else 1) = X
      show X - (if y = x ∨ 0 - r.headD z = x then (1 : Int) else 0) - (X - if y = 0 - x ∨ 0 - r.headD z = 0 - x then (1 : Int) else 0) = _
      generalize r.headD z = y' at hy
      repeat' split
      all_goals omega
    omega
theorem ties_zero {A : Int → Bool} (hA : ∀ u, A u = decide (u = x)) (z : Int) : ∀ r : List Int, stk (r ++ [z]) → ((tsz z r).map (wt x A)).sum = 0
  | [], _ => rfl
  | y :: r, hs => by
    have ih := ties_zero hA z r (stk_tail hs)
    have hy := head_ok hs
    show (((y, 0 - r.headD z) :: tsz z r).map (wt x A)).sum = 0
    rw [List.map_cons, List.sum_cons, ih]
    have hy2 : 0 - r.headD z ≠ y := by omega
    unfold wt
    simp only [hA]
    generalize 0 - r.headD z = v at hy2
    by_cases c1 : y = x <;> by_cases c2 : v = x
    · omega
    · simp [c1, c2]
    · simp [c1, c2]
    · simp [c1, c2]
theorem tsz_len (z : Int) : ∀ r : List Int, (tsz z r).length = r.length
  | [] => rfl
  | y :: r => by
    show (tsz z r).length + 1 = r.length + 1
    rw [tsz_len z r]
theorem tsz_get (z : Int) : ∀ (r : List Int) (i : Nat), i < r.length → (tsz z r)[i]? = some (r.getD i 0, 0 - (r ++ [z]).getD (i + 1) 0)
  | [], i, h => absurd h (Nat.not_lt_zero i)
  | y :: r, 0, _ => by
    show some (y, 0 - r.headD z) = some (y, 0 - (r ++ [z]).getD 0 0)
    cases r <;> rfl
  | y :: r, i + 1, h => tsz_get z r i (by simpa using h)
theorem ring_ties (r : List Int) : ((List.range r.length).map fun i => (xr r i, 0 - xr r (i + 1))) = tsz (r.headD 0) r := by
  apply List.ext_getElem?
  intro i
  rw [List.getElem?_map]
  by_cases hi : i < r.length
  · rw [List.getElem?_range hi, tsz_get _ _ _ hi]
    show some (xr r i, 0 - xr r (i + 1)) = _
    rw [xr_lt hi]
    have e2 : (r ++ [r.headD 0]).getD (i + 1) 0 = xr r (i + 1) := by
      by_cases h2 : i + 1 < r.length
      · rw [List.getD_eq_getElem?_getD, List.getElem?_append_left h2, xr_lt h2, List.getD_eq_getElem?_getD]
      · have h3 : i + 1 = r.length := by omega
        rw [h3, xr_len, List.getD_eq_getElem?_getD, List.getElem?_append_right (Nat.le_refl _), Nat.sub_self]
        cases r <;> rfl
    rw [e2]
  · rw [List.getElem?_eq_none (by rw [List.length_range]; omega), List.getElem?_eq_none (by rw [tsz_len]; omega)]; rfl
/-- all ties of a ring -/
def tiesR (r : List Int) : List (Int × Int) := (List.range r.length).map fun i => (xr r i, 0 - xr r (i + 1))
/-- the ring behind a move -/
theorem move_len (h0 : x ≠ 0) (h1 : x ∉ lot) (h2 : 0 - x ∉ lot) {r : List Int} (h : cyc r) : ((rgl (red (r.flatMap (ph x lot)))).length : Int) = r.length + ((tiesR r).map (wt x (inA x lot))).sum := by
  have hs := ring_end h
  rw [ring_len h0 h1 h2 h, show tiesR r = tsz (r.headD 0) r from ring_ties r, wd_len h0 _ _ hs]
  cases r with
  | nil => show (0 : Int) + 0 + cn (0 - x) 0 - cn (0 - x) 0 = _; simp [tsz]
  | cons a t =>
    show _ + _ + cn (0 - x) a - cn (0 - x) a = _
    omega
theorem tiesR_mem {r : List Int} {t : Int × Int} (h : t ∈ tiesR r) : t.1 ∈ r ∧ 0 - t.2 ∈ r := by
  obtain ⟨i, hi, rfl⟩ := List.mem_map.mp h
  have hi := List.mem_range.mp hi
  have go : ∀ j, xr r j ∈ r := fun j => by
    have hj : j % r.length < r.length := Nat.mod_lt _ (by omega)
    unfold xr
    rw [List.getD_eq_getElem?_getD, List.getElem?_eq_getElem hj]
    exact List.getElem_mem hj
  exact ⟨go i, by show 0 - (0 - xr r (i + 1)) ∈ r; rw [show 0 - (0 - xr r (i + 1)) = xr r (i + 1) by omega]; exact go _⟩
/-- the move of the undone letter and the rest -/
theorem move_comp {A A' : Int → Bool} (h0 : x ≠ 0) {r : List Int} (h : cyc r) (hA : ∀ t ∈ tiesR r, (A' t.1 = A' t.2 ↔ A t.1 = A t.2)) : ((tiesR r).map (wt x A)).sum = ((tiesR r).map (wt (0 - x) A')).sum := by
  have hs := ring_end h
  have e : tiesR r = tsz (r.headD 0) r := ring_ties r
  rw [e] at hA ⊢
  have := ties_comp h0 _ _ hs hA
  cases r with
  | nil => rfl
  | cons a t =>
    have this : _ = cn (0 - x) a - cn (0 - x) a + cn x a - cn x a := this
    omega
theorem move_zero {A : Int → Bool} (hA : ∀ u, A u = decide (u = x)) {r : List Int} (h : cyc r) : ((tiesR r).map (wt x A)).sum = 0 := by
  rw [show tiesR r = tsz (r.headD 0) r from ring_ties r]
  exact ties_zero hA _ _ (ring_end h)
end
end Pd

set_option Elab.async false
set_option linter.all false
set_option maxRecDepth 100000
set_option maxHeartbeats 4000000
/-! Pw3: what holds of the programs with dicts. -/
namespace Pd
open PySem PySem.Spec PyProof.Rows L2
/-- a slot as a dict of one's own -/
def dwI (o : Option Sl) (q : List D → List D → Prop) : Prop := match o with
  | some (.ow (.d ks es)) => q ks es
  | _ => False
def dckI (d : D) (q : List D → Prop) : Prop := match d with
  | .dcf ks _ => q ks
  | _ => False
section
variable {α β : Type} {ρ : Rho} {ls : LS} {Q : α → Rho → LS → Prop} {QD : D → Rho → LS → Prop} {QL : List D → Rho → LS → Prop} {E : EX} {R : PQ}
theorem dwI_d {ks es : List D} {q : List D → List D → Prop} : dwI (some (.ow (.d ks es))) q = q ks es := rfl
theorem dckI_d {ks es : List D} {q : List D → Prop} : dckI (.dcf ks es) q = q ks := rfl
theorem dOwn_out {k : List D → List D → Out α} {o : Option Sl} : wU (dOwn k .no o) Q E = dwI o fun ks es => wU (k ks es) Q E := by
  cases o with
  | none => rfl
  | some s => cases s with
    | ow o => cases o <;> rfl
    | _ => rfl
theorem dOwn_po {k : List D → List D → PO} {o : Option Sl} : wO (dOwn k .no o) R = dwI o fun ks es => wO (k ks es) R := by
  cases o with
  | none => rfl
  | some s => cases s with
    | ow o => cases o <;> rfl
    | _ => rfl
theorem ownAt_po {k : List D → PO} {o : Option Sl} : wO (ownAt k .no o) R = owI o fun ds => wO (k ds) R := by
  cases o with
  | none => rfl
  | some s => cases s with
    | ow o => cases o <;> rfl
    | _ => rfl
theorem wP_newD {i : Nat} : wP (newD i) ρ ls R = if i < ρ.length then R.nx (ρ.set i (.ow (.d [] []))) ls else False := by
  unfold wP newD
  split <;> rfl
theorem wM_getOM {i : Nat} {f g : M D} : wM (getOM i f g) ρ ls QD E = dwI ρ[i]? fun _ _ => wM f ρ ls (fun k ρ ls => wM g ρ ls (fun z ρ ls => dwI ρ[i]? fun ks es => wI (getZ ks es k z) fun v => QD v ρ ls) E) E := by
  show wU (dOwn _ .no ρ[i]?) QD E = _
  rw [dOwn_out]
  congr 1
  funext _ _
  show wM (bnd f _) ρ ls QD E = _
  rw [wM_bnd]
  congr 1
  funext k ρ ls
  rw [wM_bnd]
  congr 1
  funext z ρ ls
  show wU (dOwn _ .no ρ[i]?) QD E = _
  rw [dOwn_out]
  congr 1
  funext ks es
  exact wM_opt
theorem wM_getIM {i : Nat} {f : M D} : wM (getIM i f) ρ ls QD E = dwI ρ[i]? fun _ _ => wM f ρ ls (fun k ρ ls => dwI ρ[i]? fun ks es => wI ((keyT k).bind fun kk => getK ks es kk) fun v => QD v ρ ls) E := by
  show wU (dOwn _ .no ρ[i]?) QD E = _
  rw [dOwn_out]
  congr 1
  funext _ _
  show wM (bnd f _) ρ ls QD E = _
  rw [wM_bnd]
  congr 1
  funext k ρ ls
  show wU (dOwn _ .no ρ[i]?) QD E = _
  rw [dOwn_out]
  congr 1
  funext ks es
  exact wM_opt
theorem wP_putP {i : Nat} {f fv : M D} : wP (putP i f fv) ρ ls R = wM fv ρ ls (fun v ρ ls => dwI ρ[i]? fun _ _ => wM f ρ ls (fun k ρ ls => dwI ρ[i]? fun ks es => wI (keyT k) fun kk => ks.length < top ∧ R.nx (ρ.set i (.ow (.d (putKs ks kk) (putEs ks es kk v)))) ls) R.rs) R.rs := by
  unfold putP
  rw [wP_lift]
  congr 1
  funext v ρ ls
  show wO (dOwn _ .no ρ[i]?) R = _
  rw [dOwn_po]
  congr 1
  funext _ _
  show wP (lift f _) ρ ls R = _
  rw [wP_lift]
  congr 1
  funext k ρ ls
  show wO (dOwn _ .no ρ[i]?) R = _
  rw [dOwn_po]
  congr 1
  funext ks es
  unfold putS
  cases keyT k with
  | none => rfl
  | some kk =>
    show wO (if ks.length < top then _ else _) R = (_ ∧ _)
    by_cases h : ks.length < top
    · rw [if_pos h]; simp [h, wO]
    · rw [if_neg h]; simp [h, wO]
theorem wM_ktpM {g : M (List D)} : wM (ktpM g) ρ ls QD E = wM g ρ ls (fun ds ρ ls => wI (few ds) fun ds => QD (.ktp ds) ρ ls) E := by
  unfold ktpM
  rw [wM_bnd]
  congr 1
  funext ds ρ ls
  rw [wM_opt]
  cases few ds <;> rfl
theorem wM_keysM {f : M D} : wM (keysM f) ρ ls QL E = wM f ρ ls (fun d ρ ls => dckI d fun l => QL l ρ ls) E := by
  unfold keysM
  rw [wM_bnd]
  congr 1
  funext d ρ ls
  rw [wM_opt]
  cases d <;> rfl
theorem wM_ksortM {i : Nat} : wM (ksortM i) ρ ls QL E = dwI ρ[i]? fun ks _ => wI (sortKs ks) fun l => QL l ρ ls := by
  show wU (dOwn _ .no ρ[i]?) QL E = _
  rw [dOwn_out]
  congr 1
  funext ks es
  exact wM_opt
theorem wP_set1 {i : Nat} {d : D} {g : M D} : wP (set1 i d g) ρ ls R = owI ρ[i]? fun _ => wM g ρ ls (fun k ρ ls => itI k fun n => owI ρ[i]? fun ds => wI (setAtD ds n d) fun es => R.nx (ρ.set i (.own es)) ls) R.rs := by
  show wO (ownAt _ .no ρ[i]?) R = _
  rw [ownAt_po]
  congr 1
  funext _
  show wP (lift g _) ρ ls R = _
  rw [wP_lift]
  congr 1
  funext k ρ ls
  cases k <;> try rfl
  rename_i n
  show wO (ownAt _ .no ρ[i]?) R = _
  rw [ownAt_po]
  show owI ρ[i]? _ = owI ρ[i]? _
  congr 1
  funext ds
  cases setAtD ds n d <;> rfl
theorem wP_setAtP {i : Nat} {f g : M D} : wP (setAtP i f g) ρ ls R = wM f ρ ls (fun d ρ ls => wP (set1 i d g) ρ ls R) R.rs := wP_lift
theorem wP_setBP {i j : Nat} {f fi fj : M D} : wP (setBP i j f fi fj) ρ ls R = wM f ρ ls (fun d ρ ls => wP (setBK i j fi fj d) ρ ls R) R.rs := wP_lift
theorem setBK_2 {i j : Nat} {fi fj : M D} {a b : D} : setBK i j fi fj (.tup [a, b]) = seqP (set1 i a fi) (set1 j b fj) := rfl
/-- the entries that a comprehension puts in -/
def dcF (kk : D → List Key) (ef : D → D) : List D → List D → List D → List D × List D
  | [], ks, es => (ks, es)
  | d :: ds, ks, es => dcF kk ef ds (putKs ks (kk d)) (putEs ks es (kk d) (ef d))
theorem wM_dcp {src : M (List D)} {t : D → Rho → Option Rho} {e1 e2 : M D} {vs : List Nat} (h : wM src ρ ls (fun ds ρ ls => noOwn ρ vs = true ∧ unwipe ρ (wipeR ρ vs) vs = ρ ∧ ds.length ≤ top ∧ ∃ (kd : D → D) (kk : D → List Key) (ef : D → D),
    (∀ d ∈ ds, wI (t d (wipeR ρ vs)) fun ρ1 => wipeR ρ1 vs = wipeR ρ vs ∧ e1 ρ1 ls = .ok (kd d) ρ1 ls ∧ keyT (kd d) = some (kk d) ∧ e2 ρ1 ls = .ok (ef d) ρ1 ls) ∧ QD (.dcf (dcF kk ef ds [] []).1 (dcF kk ef ds [] []).2) ρ ls) E) : wM (dcM src t e1 e2 vs) ρ ls QD E := by
  unfold dcM
  rw [wM_bnd]
  refine wM_imp h (fun ds ρ ls hh => ?_) fun _ _ z => z
  obtain ⟨h1, h2, h3, kd, kk, ef, hs, q⟩ := hh
  have putl : ∀ ks k, (putKs ks k).length ≤ ks.length + 1 := fun ks k => by
    unfold putKs
    split
    · omega
    · simp
  have go : ∀ (l : List D) (ks es : List D), (∀ d ∈ l, d ∈ ds) → ks.length + l.length ≤ top → dcL t e1 e2 vs l ks es (wipeR ρ vs) ls = .ok (dcF kk ef l ks es) (wipeR ρ vs) ls := by
    intro l
    induction l with
    | nil => intro ks es _ _; rfl
    | cons d l ih =>
      intro ks es hm hl
      rw [List.length_cons] at hl
      have hd := hs d (hm d List.mem_cons_self)
      have el : dcL t e1 e2 vs (d :: l) ks es (wipeR ρ vs) ls = dcT (fun ks es ρ ls => dcL t e1 e2 vs l ks es (wipeR ρ vs) ls) e1 e2 ks es ls (t d (wipeR ρ vs)) := rfl
      rw [el]
      cases et : t d (wipeR ρ vs) with
      | none => rw [et] at hd; exact hd.elim
      | some ρ1 =>
        rw [et] at hd
        obtain ⟨w1, k1, k2, k3⟩ := hd
        show dcE (fun ks es ρ ls => dcL t e1 e2 vs l ks es (wipeR ρ vs) ls) e1 e2 ks es ρ1 ls = _
        unfold dcE
        rw [k1]
        show dcV (fun ks es ρ ls => dcL t e1 e2 vs l ks es (wipeR ρ vs) ls) e2 ks es (kd d) ρ1 ls = _
        unfold dcV
        rw [k3]
        show dcP (fun ks es ρ ls => dcL t e1 e2 vs l ks es (wipeR ρ vs) ls) ks es ρ1 ls (ef d) (keyT (kd d)) = _
        rw [k2]
        show (if ks.length < top then dcL t e1 e2 vs l (putKs ks (kk d)) (putEs ks es (kk d) (ef d)) (wipeR ρ1 vs) ls else .no) = _
        have := putl ks (kk d)
        rw [if_pos (by omega), w1, ih _ _ (fun x hx => hm x (List.mem_cons_of_mem _ hx)) (by omega)]
        rfl
  show wU (if noOwn ρ vs = true then _ else _) QD E
  rw [if_pos h1, go ds [] [] (fun _ h => h) (by simpa using h3)]
  show QD _ (unwipe ρ (wipeR ρ vs) vs) ls
  rw [h2]
  exact q
theorem tgTup_k {u : List D → Rho → Option Rho} {ds : List D} {ρ : Rho} : tgTup u (.ktp ds) ρ = u ds ρ := rfl
theorem itemsD_ktp {l : List D} : itemsD (.ktp l) = some l := rfl
theorem inD_zs {i : Int} {l : List Int} : inD (.int i) (row l) = some (.bl (decide (i ∈ l))) := by
  show (intsOf (zs l)).map _ = _
  rw [intsOf_zs]; rfl
theorem inD_ktp {i : Int} {l : List Int} : inD (.int i) (ktpI l) = some (.bl (decide (i ∈ l))) := by
  show (intsOf (zs l)).map _ = _
  rw [intsOf_zs]; rfl
theorem ninD_zs {i : Int} {l : List Int} : ninD (.int i) (row l) = some (.bl (!decide (i ∈ l))) := by
  show (intsOf (zs l)).map _ = _
  rw [intsOf_zs]; rfl
theorem sumD_zs {l : List Int} : sumD (.lst (zs l)) = some (.int l.sum) := by
  show (intsOf (zs l)).map _ = _
  rw [intsOf_zs]; rfl
end
/-! ### dicts of counts -/
def dks (e : List (List Int × Int)) : List D := e.map fun p => ktpI p.1
def des (e : List (List Int × Int)) : List D := e.map fun p => D.int p.2
def kyI (k : List Int) : List Key := k.map Sum.inl
theorem kyI_inj {a b : List Int} (h : kyI a = kyI b) : a = b := List.map_inj_right (fun x y e => by injection e) |>.mp h
theorem keyD_kyI (k : List Int) : (kyI k).map keyD = zs k := by
  unfold kyI zs
  rw [List.map_map]; rfl
theorem keyT_ktpI (k : List Int) : keyT (ktpI k) = some (kyI k) := by
  have := keyT_key (kyI k)
  rw [keyD_kyI] at this
  exact this
def cntO : List (List Int × Int) → List Int → Option Int
  | [], _ => none
  | p :: e, k => if p.1 = k then some p.2 else cntO e k
def cnE (e : List (List Int × Int)) (k : List Int) : Int := (cntO e k).getD 0
theorem getK_e (k : List Int) : ∀ e : List (List Int × Int), getK (dks e) (des e) (kyI k) = (cntO e k).map D.int
  | [] => rfl
  | p :: e => by
    show (if keyT (ktpI p.1) = some (kyI k) then some (D.int p.2) else getK (dks e) (des e) (kyI k)) = (if p.1 = k then some p.2 else cntO e k).map D.int
    rw [keyT_ktpI, getK_e k e]
    by_cases h : p.1 = k
    · rw [if_pos h, if_pos (by rw [h])]; rfl
    · rw [if_neg h, if_neg (fun z => h (kyI_inj (Option.some.inj z)))]
theorem getZ_e (e : List (List Int × Int)) (k : List Int) : getZ (dks e) (des e) (ktpI k) (.int 0) = some (.int (cnE e k)) := by
  unfold getZ cnE
  rw [keyT_ktpI]
  show some ((getK (dks e) (des e) (kyI k)).getD (.int 0)) = _
  rw [getK_e]
  cases cntO e k <;> rfl
def putE (e : List (List Int × Int)) (k : List Int) (v : Int) : List (List Int × Int) := if k ∈ e.map Prod.fst then e.map (fun p => if p.1 = k then (k, v) else p) else e ++ [(k, v)]
theorem hasK_e (k : List Int) : ∀ e : List (List Int × Int), hasK (dks e) (kyI k) = decide (k ∈ e.map Prod.fst)
  | [] => by simp [hasK, dks]
  | p :: e => by
    have ih := hasK_e k e
    show (decide (keyT (ktpI p.1) = some (kyI k)) || hasK (dks e) (kyI k)) = _
    rw [ih, keyT_ktpI]
    by_cases h : p.1 = k
    · rw [decide_eq_true (show some (kyI p.1) = some (kyI k) by rw [h])]
      simp [h]
    · rw [decide_eq_false (fun z => h (kyI_inj (Option.some.inj z)))]
      have : ¬ k = p.1 := fun z => h z.symm
      simp [this]
theorem repK_e (k : List Int) (v : Int) : ∀ e : List (List Int × Int), repK (dks e) (des e) (kyI k) (.int v) = des (e.map fun p => if p.1 = k then (k, v) else p)
  | [] => rfl
  | p :: e => by
    show (if keyT (ktpI p.1) = some (kyI k) then D.int v else D.int p.2) :: repK (dks e) (des e) (kyI k) (.int v) = D.int (if p.1 = k then (k, v) else p).2 :: des (e.map _)
    rw [repK_e k v e, keyT_ktpI]
    by_cases h : p.1 = k
    · rw [if_pos h, if_pos (by rw [h])]
    · rw [if_neg h, if_neg (fun z => h (kyI_inj (Option.some.inj z)))]
theorem put_e (e : List (List Int × Int)) (k : List Int) (v : Int) : putKs (dks e) (kyI k) = dks (putE e k v) ∧ putEs (dks e) (des e) (kyI k) (.int v) = des (putE e k v) := by
  unfold putKs putEs putE
  rw [hasK_e]
  by_cases h : k ∈ e.map Prod.fst
  · rw [decide_eq_true h, if_pos rfl, if_pos rfl, if_pos h, repK_e]
    refine ⟨?_, rfl⟩
    unfold dks
    rw [List.map_map]
    refine List.map_congr_left fun p _ => ?_
    show ktpI p.1 = ktpI (if p.1 = k then (k, v) else p).1
    by_cases h : p.1 = k
    · rw [if_pos h, h]
    · rw [if_neg h]
  · rw [decide_eq_false h, if_neg Bool.false_ne_true, if_neg Bool.false_ne_true, if_neg h]
    unfold dks des
    rw [List.map_append, List.map_append, keyD_kyI]
    exact ⟨rfl, rfl⟩
theorem putE_keys {e : List (List Int × Int)} {k : List Int} {v : Int} : (putE e k v).map Prod.fst = if k ∈ e.map Prod.fst then e.map Prod.fst else e.map Prod.fst ++ [k] := by
  unfold putE
  by_cases h : k ∈ e.map Prod.fst
  · rw [if_pos h, if_pos h, List.map_map]
    refine List.map_congr_left fun p _ => ?_
    show (if p.1 = k then (k, v) else p).1 = p.1
    by_cases h : p.1 = k
    · rw [if_pos h, h]
    · rw [if_neg h]
  · rw [if_neg h, if_neg h, List.map_append]; rfl
theorem putE_nd {e : List (List Int × Int)} {k : List Int} {v : Int} (h : (e.map Prod.fst).Nodup) : ((putE e k v).map Prod.fst).Nodup := by
  rw [putE_keys]
  by_cases c : k ∈ e.map Prod.fst
  · rw [if_pos c]; exact h
  · rw [if_neg c]
    refine List.nodup_append.mpr ⟨h, List.nodup_cons.mpr ⟨by simp, .nil⟩, fun a ha b hb => ?_⟩
    rw [List.mem_singleton] at hb
    subst hb
    exact fun z => c (z ▸ ha)
theorem putE_mem {e : List (List Int × Int)} {k : List Int} {v : Int} {p : List Int × Int} (h : p ∈ putE e k v) : p.1 = k ∨ p ∈ e := by
  unfold putE at h
  by_cases c : k ∈ e.map Prod.fst
  · rw [if_pos c] at h
    obtain ⟨q, hq, rfl⟩ := List.mem_map.mp h
    by_cases h : q.1 = k
    · rw [if_pos h]; exact .inl rfl
    · rw [if_neg h]; exact .inr hq
  · rw [if_neg c] at h
    rcases List.mem_append.mp h with h | h
    · exact .inr h
    · rw [List.mem_singleton] at h; subst h; exact .inl rfl
theorem putE_len {e : List (List Int × Int)} {k : List Int} {v : Int} : (putE e k v).length ≤ e.length + 1 := by
  unfold putE
  split
  · simp
  · simp
/-- the sum over the entries -/
def tot (w : List Int → Int) (e : List (List Int × Int)) : Int := (e.map fun p => p.2 * w p.1).sum
theorem cntO_none {k : List Int} : ∀ {e : List (List Int × Int)}, k ∉ e.map Prod.fst → cntO e k = none
  | [], _ => rfl
  | p :: e, h => by
    rw [List.map_cons, List.mem_cons] at h
    show (if p.1 = k then some p.2 else cntO e k) = none
    rw [if_neg (fun z => h (.inl z.symm)), cntO_none (fun z => h (.inr z))]
theorem map_keep {e : List (List Int × Int)} {k : List Int} {v : Int} (h : k ∉ e.map Prod.fst) : e.map (fun p => if p.1 = k then (k, v) else p) = e := by
  have : e.map (fun p => if p.1 = k then (k, v) else p) = e.map id := List.map_congr_left fun p hp => by
    rw [if_neg (fun z => h (List.mem_map.mpr ⟨p, hp, z⟩))]; rfl
  rw [this, List.map_id]
theorem tot_put (w : List Int → Int) (k : List Int) : ∀ e : List (List Int × Int), (e.map Prod.fst).Nodup → tot w (putE e k (cnE e k + 1)) = tot w e + w k
  | [], _ => by
    show (0 + 1) * w k + 0 = 0 + w k
    omega
  | p :: e, h => by
    rw [List.map_cons, List.nodup_cons] at h
    have ih := tot_put w k e h.2
    by_cases c : p.1 = k
    · have hk : k ∉ e.map Prod.fst := c ▸ h.1
      have e1 : putE (p :: e) k (cnE (p :: e) k + 1) = (k, p.2 + 1) :: e := by
        unfold putE
        rw [if_pos (by simp [c]), List.map_cons, if_pos c, map_keep hk]
        have : cnE (p :: e) k = p.2 := by
          show (if p.1 = k then some p.2 else cntO e k).getD 0 = _
          rw [if_pos c]; rfl
        rw [this]
      rw [e1]
      show (p.2 + 1) * w k + tot w e = p.2 * w p.1 + tot w e + w k
      rw [c, Int.add_mul]
      omega
    · have e2 : cnE (p :: e) k = cnE e k := by
        show (if p.1 = k then some p.2 else cntO e k).getD 0 = _
        rw [if_neg c]; rfl
      have e1 : putE (p :: e) k (cnE e k + 1) = p :: putE e k (cnE e k + 1) := by
        unfold putE
        by_cases hk : k ∈ e.map Prod.fst
        · rw [if_pos hk, if_pos (by rw [List.map_cons]; exact List.mem_cons_of_mem _ hk), List.map_cons, if_neg c]
        · rw [if_neg hk, if_neg (by rw [List.map_cons, List.mem_cons]; exact fun z => z.elim (fun z => c z.symm) hk)]; rfl
      rw [e2, e1]
      show p.2 * w p.1 + tot w (putE e k (cnE e k + 1)) = p.2 * w p.1 + tot w e + w k
      rw [ih]
      omega
theorem cnt_at {p : List Int × Int} : ∀ {e : List (List Int × Int)}, (e.map Prod.fst).Nodup → p ∈ e → cntO e p.1 = some p.2
  | q :: e, h, hp => by
    rw [List.map_cons, List.nodup_cons] at h
    show (if q.1 = p.1 then some q.2 else cntO e p.1) = some p.2
    rcases List.mem_cons.mp hp with rfl | hp
    · rw [if_pos rfl]
    · rw [if_neg (show ¬ q.1 = p.1 from fun z => h.1 (by rw [z]; exact List.mem_map.mpr ⟨p, hp, rfl⟩)), cnt_at h.2 hp]
theorem perm_sum {l m : List Int} (h : l.Perm m) : l.sum = m.sum := by
  induction h with
  | nil => rfl
  | cons x _ ih => rw [List.sum_cons, List.sum_cons, ih]
  | swap x y l => simp only [List.sum_cons]; omega
  | trans _ _ a b => exact a.trans b
/-- the entries in another order -/
theorem tot_perm (w : List Int → Int) {e : List (List Int × Int)} {ks : List (List Int)} (h : (e.map Prod.fst).Nodup) (hp : ks.Perm (e.map Prod.fst)) : tot w (ks.map fun k => (k, cnE e k)) = tot w e := by
  unfold tot
  rw [List.map_map]
  have e1 : (e.map fun p => p.2 * w p.1) = (e.map Prod.fst).map ((fun p : List Int × Int => p.2 * w p.1) ∘ fun k => (k, cnE e k)) := by
    rw [List.map_map]
    refine List.map_congr_left fun p hpe => ?_
    show p.2 * w p.1 = cnE e p.1 * w p.1
    unfold cnE
    rw [cnt_at h hpe]; rfl
  rw [e1]
  exact perm_sum (hp.map _)
theorem dcF_e (kk : D → List Key) (ef : D → D) (f : List Int → Int) : ∀ (ks : List (List Int)) (e : List (List Int × Int)), (∀ k ∈ ks, kk (ktpI k) = kyI k ∧ ef (ktpI k) = .int (f k)) → (e.map Prod.fst ++ ks).Nodup →
    dcF kk ef (ks.map ktpI) (dks e) (des e) = (dks (e ++ ks.map fun k => (k, f k)), des (e ++ ks.map fun k => (k, f k)))
  | [], e, _, _ => by rw [List.map_nil, List.map_nil, List.append_nil]; rfl
  | k :: ks, e, h, hn => by
    obtain ⟨h1, h2⟩ := h k List.mem_cons_self
    obtain ⟨p1, p2⟩ := put_e e k (f k)
    have hk : k ∉ e.map Prod.fst := fun z => by
      have := List.nodup_append.mp hn
      exact this.2.2 k z k List.mem_cons_self rfl
    have e3 : putE e k (f k) = e ++ [(k, f k)] := by
      unfold putE
      rw [if_neg hk]
    show dcF kk ef (ks.map ktpI) (putKs (dks e) (kk (ktpI k))) (putEs (dks e) (des e) (kk (ktpI k)) (ef (ktpI k))) = _
    rw [h1, h2, p1, p2, e3, dcF_e kk ef f ks _ (fun k hk => h k (List.mem_cons_of_mem _ hk)) (by rw [List.map_append, List.append_assoc]; exact hn)]
    rw [List.append_assoc]; rfl
theorem sortKs_e {e : List (List Int × Int)} (h : ∀ p ∈ e, p.1 ≠ []) : sortKs (dks e) = some ((srtR (e.map Prod.fst)).map ktpI) := by
  have e1 : dks e = (e.map Prod.fst).map ktpI := by unfold dks; rw [List.map_map]; rfl
  rw [e1]
  show (keysI _).bind _ = _
  rw [keysI_map]
  show (if _ then some _ else none) = _
  rw [if_pos, sortR_eq]
  refine List.all_eq_true.mpr fun k hk => ?_
  obtain ⟨p, hp, rfl⟩ := List.mem_map.mp hk
  have := h p hp
  cases hq : p.1 with
  | nil => exact absurd hq this
  | cons _ _ => rfl
end Pd

set_option Elab.async false
set_option linter.all false
set_option maxRecDepth 100000
set_option maxHeartbeats 4000000
/-! Q2: rings. -/
namespace Pd
open PySem PySem.Spec PyProof.Rows L2
theorem okq_rowsL {l : List (List Int)} : (D.lst (l.map row)).okq = true := okq_dq (show (l.map row).all (dq 7) = true from dq_rows)
theorem neD_rowsL {l m : List (List Int)} : neD (.lst (l.map row)) (.lst (m.map row)) = some (.bl (!decide (l = m))) := by
  rw [neD_of okq_rowsL okq_rowsL]
  show some (D.bl (!PyData.eqvAll (D.pyL (l.map row)) (D.pyL (m.map row)))) = _
  rw [eqL_rows]
theorem row_nil : D.tup [] = row [] := rfl
local macro_rules | `(tactic| walk_at "ev") => `(tactic| try simp only [wM_bnd, wM_ret, wM_opt, wI_some, wM_nam, nmI_dat, nmI_own, gvI_dat, gvI_own, owI_own, inI_int, itI_int, wM_lookd, wM_looks, wM_gived, wM_gives, wM_isB, wM_andM, wM_orM, wM_notM, wM_ifM, wM_andV, wM_orV, wM_notV, wM_bin, wM_uno, wM_dt, wM_ls1, wM_consM, wM_tupM, wM_lstM, wM_itemsM, wM_ritemsM, wM_callM, wM_keyM, wM_methM, wM_meth0M, wM_mthM, wM_chainM, wM_partM, wM_cutM, wP_seqP, wP_lift, wP_skip, wP_brk, wP_cnt, wP_rsP, wP_sto, wP_stoN, wP_setV, wP_setN, wP_retP, wP_drop, wP_ifP, wP_asgP, wP_par2, wP_par3, wP_par2I, wM_consD, wM_consL, stoI_d, stoI_n, wM_callN, wM_keyN, wM_takeM, wP_retN, wFN_k, wFN_x, eqD_zz, neD_zz, lenD_row, lenD_zs, isi_row, items_row, listD_row, tupleD_zs, cut_row, cut_zs, zs_len,  wP_augP, wP_forP, wM_caughtM, catI_mk, hide_nil, hide_cons, hideS_dat, hideS_own, hideS_un, ord2, ord3, lenD_lsk, isntD_bl, tgTup_eq, tgLst_eq, tgCons_eq, tgNil_eq, Option.bind_some, slD,
  addD_int, subD_int, ltD_int, leD_int, gtD_int, geD_int, negD_int, eqD_int, neD_int, neD_zs, eqD_zs, eqD_row, neD_row, isi_tt, lenD_tup, lenD_lst, tupleD_tup, tupleD_lst, listD_tup, listD_lst, itemsD_tup, itemsD_lst, ritemsD_tup, revD_tup, few_nil, few_1, few_2, few_3, few_4, tgName,
  ini, List.map_cons, List.map_nil, List.length_cons, List.length_nil, List.replicate, List.cons_append, List.nil_append, List.getElem?_cons_zero, List.getElem?_cons_succ, List.set_cons_zero, List.set_cons_succ, Nat.reduceAdd, Nat.reduceSub, Nat.reduceLT, Nat.zero_add, Nat.sub_self, if_true, if_false, reduceIte, true_and, and_true, and_self, wF_k, wF_x, Bool.not_true, Bool.not_false, Bool.false_eq_true, Nat.lt_irrefl])
section
variable {en : En} {ls : LS} {a : Addr} {T : List (Addr × Str)} {c : Nat} {G : D → LS → Prop} {E : EX} {n : Int} {l m : List Int} {k : Nat}
theorem sp_middle_of (hl : l.length ≤ 1000) : F_middle_of en [row l] ls = .ok (row (mid l (tl l))) ls := by
  have h := tl_len l
  refine wF_is ?_
  unfold F_middle_of
  rw [wF_end]
  unfold p_middle_of
  walk_at "ev"
  rw [sp_tail_of (tl_at l) hl]
  walk_at "ev"
  rw [show (l.length : Int) - (tl l : Int) = ((l.length - tl l : Nat) : Int) by omega, cutG_mid (by omega) (by omega), show l.length - tl l - tl l = l.length - 2 * tl l by omega]
  all_goals first | exact ⟨rfl, rfl⟩ | rfl
theorem sp_ring_in (hl : l.length ≤ 300) : F_ring_in en [row l] ls = .ok (row (rgl l)) ls := by
  have h := mid_le l (tl l)
  have hs := st_len l
  refine wF_is ?_
  unfold F_ring_in
  rw [wF_end]
  unfold p_ring_in
  walk_at "ev"
  rw [sp_middle_of (by omega)]
  walk_at "ev"
  rw [sp_least_start (st_at l) (by omega)]
  walk_at "ev"
  rw [cutG_from hs, cutG_to hs, addD_row (by rw [List.length_drop, List.length_take]; omega)]
  all_goals first | exact ⟨rfl, rfl⟩ | rfl
theorem isT_last {p : List Int} {i : Nat} (hi : 2 * i + 1 < p.length) : atD (.lst (zs (mid p i))) (.int (0 - 1)) = some (.int (p.getD (p.length - 1 - i) 0)) := by
  have hl := mid_len (l := p) (c := i) (by omega)
  have := mid_getD (l := p) (c := i) (i := p.length - 2 * i - 1) (by omega)
  rw [show i + (p.length - 2 * i - 1) = p.length - 1 - i by omega] at this
  rw [← this]
  refine atI_mapN ?_
  rw [List.getLast?_eq_getElem?, hl, List.getD_eq_getElem?_getD, List.getElem?_eq_getElem (by omega)]; rfl
theorem sp_mk_ring (hl : l.length ≤ 1000) (hr : (red l).length ≤ 300) : F_law_mk_ring en [row l] ls = .ok (row (rgl (red l))) ls := by
  obtain ⟨p, hp⟩ : ∃ p, p = red l := ⟨_, rfl⟩
  have tp := tl_at p
  have lp := tl_len p
  refine wF_is ?_
  unfold F_law_mk_ring
  rw [wF_end]
  unfold p_law_mk_ring
  obtain ⟨rn, hrn⟩ : ∃ rn, rn = rng1D := ⟨_, rfl⟩
  rw [← hrn]
  refine wP_seq (fun ρ l' => ls = l' ∧ ρ = [.dat (row l), .dat (.lst (zs p)), .un, .un]) ?_ ?_
  · walk_at "ev"
    rw [sp_mk_plain rfl (by omega), ← hp]
    walk_at "ev"
  rintro _ _ ⟨rfl, rfl⟩
  rw [← hp] at hr
  refine wP_seq (fun ρ l' => ls = l' ∧ ρ = [.dat (row l), .dat (.lst (zs (mid p (tl p)))), .un, .un]) ?_ ?_
  · refine wP_while (fun k ρ ls' => ls = ls' ∧ ∃ i : Nat, i + k = tl p ∧ ρ = [.dat (row l), .dat (.lst (zs (mid p i))), .un, .un]) (tl p) (by omega) ⟨rfl, 0, by omega, by rw [mid_zero]⟩ ?_
    rintro k ρ ls' ⟨rfl, i, hi, rfl⟩
    have ml := mid_len (l := p) (c := i) (by omega)
    walk_at "ev"
    by_cases h1 : 2 * i + 1 < p.length
    · rw [decide_eq_true (show (1 : Int) < ((mid p i).length : Int) by omega)]
      simp only [if_true]
      walk_at "ev"
      have a0 := atD_zsN (l := mid p i) (i := 0) (by omega)
      rw [mid_getD (by omega)] at a0
      rw [show atD (.lst (zs (mid p i))) (.int 0) = _ from a0]
      walk_at "ev"
      rw [isT_last h1]
      walk_at "ev"
      have e : decide (p.getD (i + 0) 0 = 0 - p.getD (p.length - 1 - i) 0) = isT p i := by
        unfold isT
        rw [decide_eq_true h1, Bool.true_and]; rfl
      rw [e]
      by_cases hk : 0 < k
      · rw [tp.1 i (by omega)]
        simp only [if_true]
        refine ⟨hk, ?_⟩
        walk_at "ev"
        rw [cutG_in (by omega), mid_succ h1]
        exact ⟨i + 1, by omega, rfl⟩
      · have ei : i = tl p := by omega
        subst ei
        rw [tp.2]
        simp only [Bool.false_eq_true, if_false]
    · rw [decide_eq_false (show ¬ (1 : Int) < ((mid p i).length : Int) by omega)]
      simp only [Bool.false_eq_true, if_false]
      by_cases hk : 0 < k
      · have := tp.1 i (by omega)
        unfold isT at this
        rw [decide_eq_false h1] at this
        cases this
      · have ei : i = tl p := by omega
        subst ei
        rfl
  rintro _ _ ⟨rfl, rfl⟩
  have ml := mid_len (l := p) (c := tl p) (by omega)
  obtain ⟨m, hm⟩ : ∃ m, m = mid p (tl p) := ⟨_, rfl⟩
  rw [← hm] at ml ⊢
  walk_at "ev"
  refine wM_lcp ?_
  walk_at "ev"
  rw [hrn, rng1D_int (by omega) (by omega), rangeL_zs]
  walk_at "ev"
  refine ⟨rfl, rfl, by rw [List.length_map, List.length_range]; exact top_of (by omega), fun _ => true, fun d => match d with | .int i => row (rot m i.toNat) | _ => .non, fun d hd => ?_, ?_⟩
  · obtain ⟨x, hx, rfl⟩ := zs_mem hd
    obtain ⟨j, hj, rfl⟩ := List.mem_map.mp hx
    have hj := List.mem_range.mp hj
    walk_at "ev"
    refine ⟨rfl, rfl, fun _ => wM_is ?_⟩
    show wM _ [.dat (row l), .dat (.lst (zs m)), .un, .dat (.int ((0 : Int) + (j : Int)))] ls _ _
    rw [Int.zero_add]
    walk_at "ev"
    rw [cutG_from (by omega), cutG_to (by omega), addD_lst (by rw [zs_len, zs_len, List.length_drop, List.length_take]; exact top_of (by omega)), zs_app]
    walk_at "ev"
    refine ⟨?_, rfl⟩
    rw [Int.toNat_natCast]; rfl
  · rw [filt_true]
    have e1 : (zs ((List.range (m.length : Int).toNat).map fun (i : Nat) => (0 : Int) + (i : Int))).map (fun d => match d with | .int i => row (rot m i.toNat) | _ => D.non) = ((List.range m.length).map (rot m)).map row := by
      unfold zs
      rw [List.map_map, List.map_map, List.map_map, Int.toNat_natCast]
      refine List.map_congr_left fun i _ => ?_
      show row (rot m ((0 : Int) + (i : Int)).toNat) = row (rot m i)
      rw [Int.zero_add, Int.toNat_natCast]
    rw [e1]
    walk_at "ev"
    rw [show D.lst [] = .lst (([] : List (List Int)).map row) from rfl, neD_rowsL]
    walk_at "ev"
    have hs := st_at p
    rw [← hm] at hs
    by_cases em : m = []
    · have e2 : (List.range m.length).map (rot m) = [] := by rw [em]; rfl
      rw [e2]
      walk_at "ev"
      have : rgl p = [] := by
        unfold rgl
        rw [← hm, em]
        show ([] : List Int).drop _ ++ ([] : List Int).take _ = []
        simp
      rw [← hp, this]
      simp [row_nil]
    · have e2 : ¬ (List.range m.length).map (rot m) = [] := by
        intro z
        have := congrArg List.length z
        rw [List.length_map, List.length_range, List.length_nil] at this
        exact em (List.length_eq_zero_iff.mp this)
      rw [decide_eq_false e2]
      walk_at "ev"
      have e3 : minLD (.lst (((List.range m.length).map (rot m)).map row)) = some (row (rot m (st p))) := by
        show (rowsOf _).bind _ = _
        rw [rowsOf_map]
        show (if _ then none else some _) = _
        rw [if_neg e2, minR_rot hs em]
      rw [e3]
      walk_at "ev"
      rw [← hp]
      unfold rgl
      rw [← hm]
end
end Pd

set_option Elab.async false
set_option linter.all false
set_option maxRecDepth 100000
set_option maxHeartbeats 4000000
/-! Q3: ties, moves, lengths. -/
namespace Pd
open PySem PySem.Spec PyProof.Rows L2
theorem row_inj {a b : List Int} (h : row a = row b) : a = b := zs_inj (by injection h)
theorem map_split {α β : Type} {f : α → β} : ∀ {l : List α} {done rest : List β} {d : β}, l.map f = done ++ d :: rest → ∃ a x b, l = a ++ x :: b ∧ done = a.map f ∧ d = f x ∧ rest = b.map f
  | [], [], _, _, h => by cases h
  | [], _ :: _, _, _, h => by cases h
  | x :: l, [], rest, d, h => by
    have h1 := (List.cons.inj h)
    exact ⟨[], x, l, rfl, rfl, h1.1.symm, h1.2.symm⟩
  | x :: l, y :: done, rest, d, h => by
    have h1 := (List.cons.inj h)
    obtain ⟨a, z, b, e1, e2, e3, e4⟩ := map_split h1.2
    exact ⟨x :: a, z, b, by rw [e1]; rfl, by rw [List.map_cons, ← e2, h1.1], e3, e4⟩
theorem range_split {n : Nat} {done rest : List D} {d : D} (h : zs ((List.range n).map fun (i : Nat) => (0 : Int) + (i : Int)) = done ++ d :: rest) : d = .int (done.length : Nat) ∧ done.length < n := by
  have e := congrArg (fun l => l[done.length]?) h
  have hl : done.length < n := by
    have := congrArg List.length h
    rw [zs_len, List.length_map, List.length_range, List.length_append, List.length_cons] at this
    omega
  simp only [List.getElem?_append_right (Nat.le_refl _), Nat.sub_self, List.getElem?_cons_zero] at e
  unfold zs at e
  rw [List.getElem?_map, List.getElem?_map, List.getElem?_range hl] at e
  have e := Option.some.inj e
  refine ⟨?_, hl⟩
  rw [← e]
  show D.int ((0 : Int) + (done.length : Int)) = _
  rw [Int.zero_add]
def pr (t : Int × Int) : List Int := [if t.2 < t.1 then t.2 else t.1, if t.1 < t.2 then t.2 else t.1]
structure Tie (ts : List (Int × Int)) (e : List (List Int × Int)) : Prop where
  nd : (e.map Prod.fst).Nodup
  two : ∀ p ∈ e, ∃ t ∈ ts, p.1 = pr t
  len : e.length ≤ ts.length
  tot : ∀ w, tot w e = (ts.map fun t => w (pr t)).sum
theorem Tie.nil : Tie [] [] := ⟨.nil, fun _ h => (by cases h), Nat.le_refl _, fun _ => rfl⟩
theorem Tie.put {ts : List (Int × Int)} {e : List (List Int × Int)} (h : Tie ts e) (t : Int × Int) : Tie (ts ++ [t]) (putE e (pr t) (cnE e (pr t) + 1)) := by
  refine ⟨putE_nd h.nd, fun p hp => ?_, ?_, fun w => ?_⟩
  · rcases putE_mem hp with h1 | h1
    · exact ⟨t, by simp, h1⟩
    · obtain ⟨u, h2, h3⟩ := h.two p h1
      exact ⟨u, List.mem_append_left _ h2, h3⟩
  · have := putE_len (e := e) (k := pr t) (v := cnE e (pr t) + 1)
    have := h.len
    rw [List.length_append, List.length_singleton]
    omega
  · rw [tot_put w _ _ h.nd, h.tot w, List.map_append, List.sum_append]
    simp
theorem Tie.ne {ts : List (Int × Int)} {e : List (List Int × Int)} (h : Tie ts e) : ∀ p ∈ e, p.1 ≠ [] := fun p hp => by
  obtain ⟨t, _, h2⟩ := h.two p hp
  rw [h2]
  exact fun z => nomatch z
/-- what the comprehension makes -/
def srtE (e : List (List Int × Int)) : List (List Int × Int) := (srtR (e.map Prod.fst)).map fun k => (k, cnE e k)
theorem srtE_keys (e : List (List Int × Int)) : (srtE e).map Prod.fst = srtR (e.map Prod.fst) := by
  unfold srtE
  rw [List.map_map]
  exact List.map_id _
theorem Tie.srt {ts : List (Int × Int)} {e : List (List Int × Int)} (h : Tie ts e) : Tie ts (srtE e) := by
  have hp := srtR_perm (e.map Prod.fst)
  refine ⟨?_, fun p hp2 => ?_, ?_, fun w => ?_⟩
  · rw [srtE_keys]
    exact hp.nodup_iff.mpr h.nd
  · have h1 : p.1 ∈ (srtE e).map Prod.fst := List.mem_map.mpr ⟨p, hp2, rfl⟩
    rw [srtE_keys] at h1
    obtain ⟨q, hq, e1⟩ := List.mem_map.mp (hp.mem_iff.mp h1)
    obtain ⟨t, h2, h3⟩ := h.two q hq
    exact ⟨t, h2, by rw [← e1, h3]⟩
  · unfold srtE
    rw [List.length_map, hp.length_eq, List.length_map]
    exact h.len
  · rw [← h.tot w]
    exact tot_perm w h.nd hp
theorem at_next {m : List Int} {i : Nat} (hi : i < m.length) : atD (row m) (.int (((i : Int) + 1) % (m.length : Int))) = some (.int (xr m (i + 1))) := by
  have h : ((i : Int) + 1) % (m.length : Int) = (((i + 1) % m.length : Nat) : Int) := by
    rw [Int.natCast_emod, Int.natCast_add]; rfl
  rw [h]
  exact atD_rowN (Nat.mod_lt _ (by omega))
theorem maxD_int {a b : Int} : maxD (.int a) (.int b) = some (.int (if a < b then b else a)) := rfl
def rowsOk (n : Int) (rs : List (List Int)) : Prop := ∀ x ∈ rs, fitL n x ∧ x.length ≤ 200
local macro_rules | `(tactic| walk_at "ev") => `(tactic| try simp only [wM_bnd, wM_ret, wM_opt, wI_some, wM_nam, nmI_dat, nmI_own, gvI_dat, gvI_own, owI_own, inI_int, itI_int, wM_lookd, wM_looks, wM_gived, wM_gives, wM_isB, wM_andM, wM_orM, wM_notM, wM_ifM, wM_andV, wM_orV, wM_notV, wM_bin, wM_uno, wM_dt, wM_ls1, wM_consM, wM_tupM, wM_lstM, wM_itemsM, wM_ritemsM, wM_callM, wM_keyM, wM_methM, wM_meth0M, wM_mthM, wM_chainM, wM_partM, wM_cutM, wP_seqP, wP_lift, wP_skip, wP_brk, wP_cnt, wP_rsP, wP_sto, wP_stoN, wP_setV, wP_setN, wP_retP, wP_drop, wP_ifP, wP_asgP, wP_par2, wP_par3, wP_par2I, wM_consD, wM_consL, stoI_d, stoI_n, wM_callN, wM_keyN, wM_takeM, wP_retN, wFN_k, wFN_x, eqD_zz, neD_zz, lenD_row, lenD_zs, isi_row, items_row, listD_row, tupleD_zs, cut_row, cut_zs, zs_len, wP_newD, wM_getOM, wM_getIM, wP_putP, wM_ktpM, wM_keysM, wM_ksortM, dwI_d, dckI_d, minD_int, maxD_int, tgTup_k, itemsD_ktp, inD_zs, inD_ktp, ninD_zs, sumD_zs,  wP_augP, wP_forP, wM_caughtM, catI_mk, hide_nil, hide_cons, hideS_dat, hideS_own, hideS_un, ord2, ord3, lenD_lsk, isntD_bl, tgTup_eq, tgLst_eq, tgCons_eq, tgNil_eq, Option.bind_some, slD,
  addD_int, subD_int, ltD_int, leD_int, gtD_int, geD_int, negD_int, eqD_int, neD_int, neD_zs, eqD_zs, eqD_row, neD_row, isi_tt, lenD_tup, lenD_lst, tupleD_tup, tupleD_lst, listD_tup, listD_lst, itemsD_tup, itemsD_lst, ritemsD_tup, revD_tup, few_nil, few_1, few_2, few_3, few_4, tgName,
  ini, List.map_cons, List.map_nil, List.length_cons, List.length_nil, List.replicate, List.cons_append, List.nil_append, List.getElem?_cons_zero, List.getElem?_cons_succ, List.set_cons_zero, List.set_cons_succ, Nat.reduceAdd, Nat.reduceSub, Nat.reduceLT, Nat.zero_add, Nat.sub_self, if_true, if_false, reduceIte, true_and, and_true, and_self, wF_k, wF_x, Bool.not_true, Bool.not_false, Bool.false_eq_true, Nat.lt_irrefl])
section
variable {en : En} {ls : LS} {a : Addr} {T : List (Addr × Str)} {c : Nat} {G : D → LS → Prop} {E : EX} {n : Int} {l m : List Int} {k : Nat} {rs : List (List Int)} {e : List (List Int × Int)} {ts : List (Int × Int)}
theorem callM_ok {k : Nat} {F : FS} {ga : M (List D)} {ρ ρ' : Rho} {ls ls2 ls' : LS} {ds : List D} {d : D} (h : ga ρ ls = .ok ds ρ' ls2) (hn : ds.length = k) (hF : F ds ls2 = .ok d ls') : callM k F ga ρ ls = .ok d ρ' ls' := by
  unfold callM bnd
  rw [h]
  show (if ds.length = k then callF (F ds ls2) ρ' ls2 else .no) = _
  rw [if_pos hn, hF]; rfl
theorem sp_need_rows {x : D} {rs : List (List Int)} (hx : x = .lst (rs.map row) ∨ x = .tup (rs.map row)) (hr : rowsOk n rs) (hl : rs.length ≤ 6) : F_need_rows en [.int n, x] ls = .ok (.lst ((rs.map red).map row)) ls := by
  have i1 : itemsD x = some (rs.map row) := by rcases hx with rfl | rfl <;> rfl
  have i2 : lenD x = some (.int rs.length) := by rcases hx with rfl | rfl <;> exact congrArg some (congrArg D.int (by rw [List.length_map]))
  have i3 : isi2D .list .tuple x = some (.bl true) := by rcases hx with rfl | rfl <;> rfl
  refine wF_is ?_
  unfold F_need_rows
  rw [wF_end]
  unfold p_need_rows
  walk_at "ev"
  rw [i3]
  walk_at "ev"
  rw [i2]
  walk_at "ev"
  rw [decide_eq_false (show ¬ (6 : Int) < rs.length by omega)]
  simp only [if_false, Bool.false_eq_true]
  refine wM_lcp ?_
  walk_at "ev"
  rw [i1]
  walk_at "ev"
  refine ⟨rfl, rfl, by rw [List.length_map]; exact top_of (by omega), fun _ => true, fun _ => .bl true, fun d hd => ?_, ?_⟩
  · obtain ⟨q, hq, rfl⟩ := List.mem_map.mp hd
    walk_at "ev"
    refine ⟨rfl, rfl, fun _ => ?_⟩
    refine callM_ok (ds := [.int n, row q]) rfl rfl ?_
    rw [sp_fits_row plainR_row, isRow_row (hr q hq).1 (hr q hq).2]
  · rw [filt_true, show (rs.map row).map (fun _ => D.bl true) = (rs.map row).map (fun d => D.bl ((fun _ => true) d)) from rfl, allD_map]
    walk_at "ev"
    rw [show (rs.map row).all (fun _ => true) = true from List.all_eq_true.mpr fun _ _ => rfl]
    walk_at "ev"
    refine wM_lcp ?_
    walk_at "ev"
    rw [i1]
    walk_at "ev"
    refine ⟨rfl, rfl, by rw [List.length_map]; exact top_of (by omega), fun _ => true, fun d => (itemsD d).elim .non (fun l => (intsOf l).elim .non fun k => row (red k)), fun d hd => ?_, ?_⟩
    · obtain ⟨q, hq, rfl⟩ := List.mem_map.mp hd
      walk_at "ev"
      refine ⟨rfl, rfl, fun _ => ?_⟩
      refine callM_ok (ds := [row q]) rfl rfl ?_
      rw [sp_plain_of rfl (by have := (hr q hq).2; omega)]
      show _ = FO.ok ((intsOf (zs q)).elim _ _) _
      rw [intsOf_zs]; rfl
    · rw [filt_true, List.map_map]
      have : (rs.map ((fun d => (itemsD d).elim D.non (fun l => (intsOf l).elim .non fun k => row (red k))) ∘ row)) = (rs.map red).map row := by
        rw [List.map_map]
        refine List.map_congr_left fun q _ => ?_
        show (intsOf (zs q)).elim _ _ = _
        rw [intsOf_zs]; rfl
      rw [this]
noncomputable def rgs (rs : List (List Int)) : List (List Int) := rs.map fun l => rgl (red l)
theorem sp_need_row_rings (hn : dOk n) {x : D} (hx : x = .lst (rs.map row) ∨ x = .tup (rs.map row)) (hr : rowsOk n rs) (hl : rs.length ≤ 6) : F_need_row_rings en [.int n, x] ls = .ok (.lst ((rgs rs).map row)) ls := by
  refine wF_is ?_
  unfold F_need_row_rings
  rw [wF_end]
  unfold p_need_row_rings
  walk_at "ev"
  rw [sp_nd hn]
  walk_at "ev"
  refine wM_lcp ?_
  walk_at "ev"
  rw [sp_need_rows hx hr hl]
  walk_at "ev"
  refine ⟨rfl, rfl, by rw [List.length_map, List.length_map]; exact top_of (by omega), fun _ => true, fun d => (itemsD d).elim .non (fun l => (intsOf l).elim .non fun k => row (rgl k)), fun d hd => ?_, ?_⟩
  · obtain ⟨q0, hq0, rfl⟩ := List.mem_map.mp hd
    obtain ⟨q, hq, rfl⟩ := List.mem_map.mp hq0
    walk_at "ev"
    refine ⟨rfl, rfl, fun _ => ?_⟩
    refine callM_ok (ds := [row (red q)]) rfl rfl ?_
    rw [sp_ring_in (by have := (hr q hq).2; have := red_len q; omega)]
    show _ = FO.ok ((intsOf (zs (red q))).elim _ _) _
    rw [intsOf_zs]; rfl
  · rw [filt_true, List.map_map, List.map_map]
    have : (rs.map ((((fun d => (itemsD d).elim D.non (fun l => (intsOf l).elim .non fun k => row (rgl k))) ∘ row)) ∘ red)) = (rgs rs).map row := by
      unfold rgs
      rw [List.map_map]
      refine List.map_congr_left fun q _ => ?_
      show (intsOf (zs (red q))).elim _ _ = _
      rw [intsOf_zs]; rfl
    rw [this]
theorem tiesR_len (r : List Int) : (tiesR r).length = r.length := by unfold tiesR; rw [List.length_map, List.length_range]
theorem sp_ties_in (hr : ∀ r ∈ rs, r.length ≤ 300) (hl : (rs.flatMap tiesR).length ≤ 5000) (hlr : rs.length ≤ 100) : ∃ e, Tie (rs.flatMap tiesR) e ∧ F_ties_in en [.lst (rs.map row)] ls = .ok (.dcf (dks e) (des e)) ls := by
  suffices h : ∃ e, Tie (rs.flatMap tiesR) e ∧ wF (F_ties_in en [.lst (rs.map row)] ls) (fun d l' => d = .dcf (dks e) (des e) ∧ l' = ls) fun _ _ => False by
    obtain ⟨e, h1, h2⟩ := h
    exact ⟨e, h1, wF_is h2⟩
  suffices h : wF (F_ties_in en [.lst (rs.map row)] ls) (fun d l' => ∃ e, Tie (rs.flatMap tiesR) e ∧ d = .dcf (dks e) (des e) ∧ l' = ls) fun _ _ => False by
    cases hF : F_ties_in en [.lst (rs.map row)] ls with
    | ok d l =>
      rw [hF] at h
      obtain ⟨e, h1, h2, h3⟩ := h
      exact ⟨e, h1, h2, h3⟩
    | okN d l => rw [hF] at h; exact h.elim
    | rs x l => rw [hF] at h; exact h.elim
    | no => rw [hF] at h; exact h.elim
  unfold F_ties_in
  rw [wF_end]
  unfold p_ties_in
  obtain ⟨rn, hrn⟩ : ∃ rn, rn = rng1D := ⟨_, rfl⟩
  rw [← hrn]
  walk_at "ev"
  refine wP_for (fun done ρ ls' => ls' = ls ∧ ∃ rd e s2 s3 s4 s5 s6, isOwn (some s4) = false ∧ done = rd.map row ∧ Tie (rd.flatMap tiesR) e ∧ ρ = [.dat (.lst (rs.map row)), .ow (.d (dks e) (des e)), s2, s3, s4, s5, s6]) ⟨rfl, [], [], .un, .un, .un, .un, .un, rfl, rfl, Tie.nil, rfl⟩ ?_ ?_
  · rintro done d rest ρ ls' ed ⟨rfl, rd, e, s2, s3, s4, s5, s6, h4, rfl, ht, rfl⟩
    obtain ⟨ra, r, rb, er, ea, rfl, _⟩ := map_split ed
    have hra : rd = ra := (List.map_inj_right (fun x y z => row_inj z)).mp ea
    subst hra
    have hrl : r.length ≤ 300 := hr r (by rw [er]; simp)
    have hsum : (rd.flatMap tiesR).length + r.length ≤ 5000 := by
      rw [er, List.flatMap_append, List.flatMap_cons, List.length_append, List.length_append, tiesR_len] at hl
      omega
    walk_at "ev"
    rw [hrn, rng1D_int (by omega) (by omega), rangeL_zs, Int.toNat_natCast]
    walk_at "ev"
    refine wP_for (fun done ρ l2 => l2 = ls' ∧ ∃ e s3 s4 s5 s6, isOwn (some s4) = false ∧ Tie (rd.flatMap tiesR ++ (List.range done.length).map fun i => (xr r i, 0 - xr r (i + 1))) e ∧ ρ = [.dat (.lst (rs.map row)), .ow (.d (dks e) (des e)), .dat (row r), s3, s4, s5, s6]) ⟨rfl, e, s3, s4, s5, s6, h4, by simpa using ht, rfl⟩ ?_ ?_
    · rintro done d rest ρ ls' ed ⟨rfl, e, s3, s4, s5, s6, h4, ht, rfl⟩
      obtain ⟨rfl, hi⟩ := range_split ed
      have htl := ht.len
      rw [List.length_append, List.length_map, List.length_range] at htl
      walk_at "ev"
      rw [atD_rowN hi, ← xr_lt hi]
      walk_at "ev"
      rw [modD_int (by omega)]
      walk_at "ev"
      rw [at_next hi]
      walk_at "ev"
      obtain ⟨t, htt⟩ : ∃ t : Int × Int, t = (xr r done.length, 0 - xr r (done.length + 1)) := ⟨_, rfl⟩
      have ek : D.ktp [.int (if 0 - xr r (done.length + 1) < xr r done.length then 0 - xr r (done.length + 1) else xr r done.length), .int (if xr r done.length < 0 - xr r (done.length + 1) then 0 - xr r (done.length + 1) else xr r done.length)] = ktpI (pr t) := by rw [htt]; rfl
      rw [ek, getZ_e]
      walk_at "ev"
      rw [keyT_ktpI]
      walk_at "ev"
      obtain ⟨p1, p2⟩ := put_e e (pr t) (cnE e (pr t) + 1)
      rw [p1, p2]
      refine ⟨by unfold dks; rw [List.length_map]; exact Nat.lt_of_lt_of_le (show e.length < 50000 by omega) (by decide), _, _, _, _, _, rfl, ?_, rfl⟩
      have := ht.put t
      rw [List.append_assoc, htt] at this
      rw [List.length_append, List.length_singleton, List.range_succ, List.map_append]
      rw [htt]
      exact this
    · rintro ρ ls' ⟨rfl, e, s3, s4, s5, s6, h4, ht, rfl⟩
      refine ⟨rfl, rd ++ [r], e, _, s3, s4, s5, s6, h4, by simp, ?_, rfl⟩
      rw [zs_len, List.length_map, List.length_range] at ht
      rw [List.flatMap_append, List.flatMap_cons, List.flatMap_nil, List.append_nil]
      exact ht
  · rintro ρ ls' ⟨rfl, rd, e, s2, s3, s4, s5, s6, h4, ed, ht, rfl⟩
    have hra : rs = rd := (List.map_inj_right (fun x y z => row_inj z)).mp ed
    subst hra
    have htl := ht.len
    walk_at "ev"
    refine wM_dcp ?_
    walk_at "ev"
    rw [sortKs_e ht.ne]
    walk_at "ev"
    refine ⟨by show (!isOwn (some s4) && true) = true; rw [h4]; rfl, rfl, ?_, id, fun d => (keyT d).getD [], fun d => (getZ (dks e) (des e) d (.int 0)).getD .non, fun d hd => ?_, srtE e, ht.srt, ?_⟩
    · rw [List.length_map, (srtR_perm _).length_eq, List.length_map]; exact top_of (by omega)
    · obtain ⟨q, hq, rfl⟩ := List.mem_map.mp hd
      obtain ⟨p, hp, rfl⟩ := List.mem_map.mp ((srtR_perm _).mem_iff.mp hq)
      walk_at "ev"
      refine ⟨rfl, rfl, by show keyT (ktpI p.1) = some ((keyT (ktpI p.1)).getD []); rw [keyT_ktpI]; rfl, wM_is ?_⟩
      show wM _ [.dat (.lst (rs.map row)), .ow (.d (dks e) (des e)), s2, s3, .dat (ktpI p.1), s5, s6] ls' _ _
      walk_at "ev"
      rw [keyT_ktpI]
      walk_at "ev"
      rw [getK_e, cnt_at ht.nd hp, getZ_e]
      show D.int p.2 = D.int (cnE e p.1) ∧ _
      unfold cnE
      rw [cnt_at ht.nd hp]
      exact ⟨rfl, rfl⟩
    · have hd := dcF_e (fun d => (keyT d).getD []) (fun d => (getZ (dks e) (des e) d (.int 0)).getD .non) (cnE e) (srtR (e.map Prod.fst)) [] (fun k _ => ⟨by rw [keyT_ktpI]; rfl, by rw [getZ_e]; rfl⟩) ((srtR_perm _).nodup_iff.mpr ht.nd)
      have hd : dcF (fun d => (keyT d).getD []) (fun d => (getZ (dks e) (des e) d (.int 0)).getD .non) ((srtR (e.map Prod.fst)).map ktpI) [] [] = (dks (srtE e), des (srtE e)) := hd
      rw [hd]
end
end Pd

set_option Elab.async false
set_option linter.all false
set_option maxRecDepth 100000
set_option maxHeartbeats 4000000
/-! Q4: growth, moves, lengths behind them. -/
namespace Pd
open PySem PySem.Spec PyProof.Rows L2
def wL (x : Int) (lot : List Int) (k : List Int) : Int := (if (k.filter (inA x lot)).length = 1 then 1 else 0) - (if x ∈ k then 1 else 0)
theorem wL_pr (x : Int) (lot : List Int) (t : Int × Int) : wL x lot (pr t) = wt x (inA x lot) t := by
  obtain ⟨u, v⟩ := t
  have h1 : (((pr (u, v)).filter (inA x lot)).length = 1) ↔ ¬ inA x lot u = inA x lot v := by
    unfold pr
    show (([if v < u then v else u, if u < v then v else u].filter (inA x lot)).length = 1) ↔ _
    by_cases h : v < u
    · rw [if_pos h, if_neg (by omega)]
      cases hu : inA x lot u <;> cases hv : inA x lot v <;> simp [List.filter, hu, hv]
    · rw [if_neg h]
      by_cases h2 : u < v
      · rw [if_pos h2]
        cases hu : inA x lot u <;> cases hv : inA x lot v <;> simp [List.filter, hu, hv]
      · rw [if_neg h2]
        have : u = v := by omega
        subst this
        cases hu : inA x lot u <;> simp [List.filter, hu]
  have h2 : x ∈ pr (u, v) ↔ (u = x ∨ v = x) := by
    unfold pr
    show x ∈ [if v < u then v else u, if u < v then v else u] ↔ _
    simp only [List.mem_cons, List.not_mem_nil, or_false]
    constructor
    · intro h
      split at h <;> split at h <;> omega
    · intro h
      split <;> split <;> omega
  unfold wL wt
  by_cases c1 : inA x lot u = inA x lot v
  · rw [if_neg (fun z => h1.mp z c1)]
    show _ = (if inA x lot u = inA x lot v then (0 : Int) else 1) - if u = x ∨ v = x then (1 : Int) else 0
    rw [if_pos c1]
    by_cases c2 : u = x ∨ v = x
    · rw [if_pos (h2.mpr c2), if_pos c2]
    · rw [if_neg (fun z => c2 (h2.mp z)), if_neg c2]
  · rw [if_pos (h1.mpr c1)]
    show _ = (if inA x lot u = inA x lot v then (0 : Int) else 1) - if u = x ∨ v = x then (1 : Int) else 0
    rw [if_neg c1]
    by_cases c2 : u = x ∨ v = x
    · rw [if_pos (h2.mpr c2), if_pos c2]
    · rw [if_neg (fun z => c2 (h2.mp z)), if_neg c2]
theorem getF_e {e : List (List Int × Int)} {p : List Int × Int} (h : (e.map Prod.fst).Nodup) (hp : p ∈ e) : getF (.dcf (dks e) (des e)) (ktpI p.1) = some (.int p.2) := by
  show (keyT (ktpI p.1)).bind _ = _
  rw [keyT_ktpI]
  show getK (dks e) (des e) (kyI p.1) = _
  rw [getK_e, cnt_at h hp]; rfl
theorem tot_app (w : List Int → Int) (a b : List (List Int × Int)) : tot w (a ++ b) = tot w a + tot w b := by
  unfold tot
  rw [List.map_append, List.sum_append]
theorem tot_one (w : List Int → Int) (p : List Int × Int) : tot w [p] = p.2 * w p.1 := by
  show p.2 * w p.1 + 0 = _
  omega
theorem itemsD_ktpI {k : List Int} : itemsD (ktpI k) = some (zs k) := rfl
local macro_rules | `(tactic| walk_at "ev") => `(tactic| try simp only [wM_bnd, wM_ret, wM_opt, wI_some, wM_nam, nmI_dat, nmI_own, gvI_dat, gvI_own, owI_own, inI_int, itI_int, wM_lookd, wM_looks, wM_gived, wM_gives, wM_isB, wM_andM, wM_orM, wM_notM, wM_ifM, wM_andV, wM_orV, wM_notV, wM_bin, wM_uno, wM_dt, wM_ls1, wM_consM, wM_tupM, wM_lstM, wM_itemsM, wM_ritemsM, wM_callM, wM_keyM, wM_methM, wM_meth0M, wM_mthM, wM_chainM, wM_partM, wM_cutM, wP_seqP, wP_lift, wP_skip, wP_brk, wP_cnt, wP_rsP, wP_sto, wP_stoN, wP_setV, wP_setN, wP_retP, wP_drop, wP_ifP, wP_asgP, wP_par2, wP_par3, wP_par2I, wM_consD, wM_consL, stoI_d, stoI_n, wM_callN, wM_keyN, wM_takeM, wP_retN, wFN_k, wFN_x, eqD_zz, neD_zz, lenD_row, lenD_zs, isi_row, items_row, listD_row, tupleD_zs, cut_row, cut_zs, zs_len, wP_newD, wM_getOM, wM_getIM, wP_putP, wM_ktpM, wM_keysM, wM_ksortM, dwI_d, dckI_d, minD_int, maxD_int, tgTup_k, itemsD_ktp, itemsD_ktpI, inD_zs, inD_ktp, ninD_zs, sumD_zs, absD_int,  wP_augP, wP_forP, wM_caughtM, catI_mk, hide_nil, hide_cons, hideS_dat, hideS_own, hideS_un, ord2, ord3, lenD_lsk, isntD_bl, tgTup_eq, tgLst_eq, tgCons_eq, tgNil_eq, Option.bind_some, slD,
  addD_int, subD_int, ltD_int, leD_int, gtD_int, geD_int, negD_int, eqD_int, neD_int, neD_zs, eqD_zs, eqD_row, neD_row, isi_tt, lenD_tup, lenD_lst, tupleD_tup, tupleD_lst, listD_tup, listD_lst, itemsD_tup, itemsD_lst, ritemsD_tup, revD_tup, few_nil, few_1, few_2, few_3, few_4, tgName,
  ini, List.map_cons, List.map_nil, List.length_cons, List.length_nil, List.replicate, List.cons_append, List.nil_append, List.getElem?_cons_zero, List.getElem?_cons_succ, List.set_cons_zero, List.set_cons_succ, Nat.reduceAdd, Nat.reduceSub, Nat.reduceLT, Nat.zero_add, Nat.sub_self, if_true, if_false, reduceIte, true_and, and_true, and_self, wF_k, wF_x, Bool.not_true, Bool.not_false, Bool.false_eq_true, Nat.lt_irrefl])
section
variable {en : En} {ls : LS} {a : Addr} {T : List (Addr × Str)} {c : Nat} {G : D → LS → Prop} {E : EX} {n x : Int} {l m lot : List Int} {k : Nat} {rs : List (List Int)} {e : List (List Int × Int)} {ts : List (Int × Int)}
theorem sp_growth_by (h : (e.map Prod.fst).Nodup) (h2 : ∀ p ∈ e, p.1.length ≤ 10) : F_growth_by en [.dcf (dks e) (des e), .tup [.int x, row lot]] ls = .ok (.int (tot (wL x lot) e)) ls := by
  refine wF_is ?_
  unfold F_growth_by
  rw [wF_end]
  unfold p_growth_by
  walk_at "ev"
  refine wP_for (fun done ρ ls' => ls' = ls ∧ ∃ s3 s6, isOwn (some s6) = false ∧ ρ = [.dat (.dcf (dks e) (des e)), .dat (.tup [.int x, row lot]), .dat (.int (tot (wL x lot) (e.take done.length))), s3, .dat (.int x), .dat (row lot), s6, .un]) ⟨rfl, .un, .un, rfl, rfl⟩ ?_ ?_
  · rintro done d rest ρ ls' ed ⟨rfl, s3, s6, h6, rfl⟩
    obtain ⟨ra, p, rb, er, rfl, rfl, _⟩ := map_split ed
    have hp : p ∈ e := by rw [er]; simp
    have hk := h2 p hp
    have t1 : e.take (ra.map fun p : List Int × Int => ktpI p.1).length = ra := by
      rw [List.length_map, er, List.take_left']
      rfl
    have t2 : e.take (ra.map (fun p : List Int × Int => ktpI p.1) ++ [ktpI p.1]).length = ra ++ [p] := by
      rw [List.length_append, List.length_map, er, show ra ++ p :: rb = (ra ++ [p]) ++ rb by simp, List.take_left']
      simp
    rw [t1, t2]
    walk_at "ev"
    refine wM_lcp ?_
    walk_at "ev"
    refine ⟨rfl, rfl, top_of (by omega), fun d => match d with | .int y => inA x lot y | _ => false, id, fun d hd => ?_, ?_⟩
    · obtain ⟨y, hy, rfl⟩ := zs_mem hd
      walk_at "ev"
      refine ⟨rfl, wM_is ?_, fun _ => wM_is ?_⟩
      · show wM _ [.dat (.dcf (dks e) (des e)), .dat (.tup [.int x, row lot]), .dat (.int (tot (wL x lot) ra)), .dat (ktpI p.1), .dat (.int x), .dat (row lot), s6, .dat (.int y)] ls' _ _
        walk_at "ev"
        by_cases hyx : y = x
        · rw [decide_eq_true hyx]
          walk_at "ev"
          refine ⟨?_, rfl⟩
          show true = (decide (y = x) || decide (y ∈ lot))
          rw [decide_eq_true hyx]; rfl
        · rw [decide_eq_false hyx]
          walk_at "ev"
          refine ⟨?_, rfl⟩
          show decide (y ∈ lot) = (decide (y = x) || decide (y ∈ lot))
          rw [decide_eq_false hyx]; rfl
      · show wM _ [.dat (.dcf (dks e) (des e)), .dat (.tup [.int x, row lot]), .dat (.int (tot (wL x lot) ra)), .dat (ktpI p.1), .dat (.int x), .dat (row lot), s6, .dat (.int y)] ls' _ _
        walk_at "ev"
        exact ⟨rfl, rfl⟩
    · rw [List.map_id, zs_filter]
      have hf : (p.1.filter fun i => (match D.int i with | .int y => inA x lot y | _ => false)) = p.1.filter (inA x lot) := rfl
      rw [hf]
      walk_at "ev"
      rw [tot_app, tot_one]
      have hw : p.2 * wL x lot p.1 = (if ((p.1.filter (inA x lot)).length : Int) = 1 then p.2 else 0) - (if x ∈ p.1 then p.2 else 0) := by
        unfold wL
        rw [Int.mul_sub]
        congr 1
        · by_cases c : (p.1.filter (inA x lot)).length = 1
          · rw [if_pos c, if_pos (by omega), Int.mul_one]
          · rw [if_neg c, if_neg (by omega), Int.mul_zero]
        · by_cases c : x ∈ p.1
          · rw [if_pos c, if_pos c, Int.mul_one]
          · rw [if_neg c, if_neg c, Int.mul_zero]
      rw [hw]
      by_cases c1 : ((p.1.filter (inA x lot)).length : Int) = 1
      · rw [decide_eq_true c1, if_pos c1]
        walk_at "ev"
        rw [getF_e h hp]
        walk_at "ev"
        by_cases c2 : x ∈ p.1
        · rw [decide_eq_true c2, if_pos c2]
          walk_at "ev"
          exact ⟨_, _, rfl, by rw [Int.add_sub_assoc]⟩
        · rw [decide_eq_false c2, if_neg c2]
          walk_at "ev"
          exact ⟨_, _, rfl, by rw [Int.add_sub_assoc]⟩
      · rw [decide_eq_false c1, if_neg c1]
        walk_at "ev"
        by_cases c2 : x ∈ p.1
        · rw [decide_eq_true c2, if_pos c2]
          walk_at "ev"
          rw [getF_e h hp]
          walk_at "ev"
          exact ⟨_, _, rfl, by rw [Int.add_sub_assoc]⟩
        · rw [decide_eq_false c2, if_neg c2]
          walk_at "ev"
          exact ⟨_, _, rfl, by rw [Int.add_sub_assoc]⟩
  · rintro ρ ls' ⟨rfl, s3, s6, _, rfl⟩
    walk_at "ev"
    rw [show (dks e).length = e.length from List.length_map .., List.take_length]
    all_goals first | exact ⟨rfl, rfl⟩ | rfl
theorem sp_told_ahead {many : Int} (h : (e.map Prod.fst).Nodup) (h2 : ∀ p ∈ e, ∃ t, p.1 = pr t) : F_law_told_ahead en [.dcf (dks e) (des e), .int many, .int x, row lot] ls = .ok (.int (many + tot (wL x lot) e)) ls := by
  refine wF_is ?_
  unfold F_law_told_ahead
  rw [wF_end]
  unfold p_law_told_ahead
  walk_at "ev"
  refine wP_for (fun done ρ ls' => ls' = ls ∧ ∃ s5 s6 s7, ρ = [.dat (.dcf (dks e) (des e)), .dat (.int many), .dat (.int x), .dat (row lot), .dat (.int (many + tot (wL x lot) (e.take done.length))), s5, s6, s7]) ⟨rfl, .un, .un, .un, by simp [tot]⟩ ?_ ?_
  · rintro done d rest ρ ls' ed ⟨rfl, s5, s6, s7, rfl⟩
    obtain ⟨ra, p, rb, er, rfl, rfl, _⟩ := map_split ed
    have hp : p ∈ e := by rw [er]; simp
    have t1 : e.take (ra.map fun p : List Int × Int => ktpI p.1).length = ra := by
      rw [List.length_map, er, List.take_left']
      rfl
    have t2 : e.take (ra.map (fun p : List Int × Int => ktpI p.1) ++ [ktpI p.1]).length = ra ++ [p] := by
      rw [List.length_append, List.length_map, er, show ra ++ p :: rb = (ra ++ [p]) ++ rb by simp, List.take_left']
      simp
    rw [t1, t2]
    obtain ⟨t, hk⟩ := h2 p hp
    obtain ⟨u, v, huv⟩ : ∃ u v, pr t = [u, v] := ⟨_, _, rfl⟩
    rw [huv] at hk
    have g0 := getF_e h hp
    have ek : ktpI p.1 = .ktp [.int u, .int v] := by rw [hk]; rfl
    rw [ek] at g0 ⊢
    show wP _ [.dat (.dcf (dks e) (des e)), .dat (.int many), .dat (.int x), .dat (row lot), .dat (.int (many + tot (wL x lot) ra)), .dat (.int u), .dat (.int v), s7] ls' _
    refine wP_seq (fun ρ l => ls' = l ∧ ρ = [.dat (.dcf (dks e) (des e)), .dat (.int many), .dat (.int x), .dat (row lot), .dat (.int (many + tot (wL x lot) ra)), .dat (.int u), .dat (.int v), .dat (.int ((if inA x lot u = true then 1 else 0) + if inA x lot v = true then 1 else 0))]) ?_ ?_
    · walk_at "ev"
      unfold inA
      by_cases c1 : u = x <;> by_cases c2 : u ∈ lot <;> by_cases c3 : v = x <;> by_cases c4 : v ∈ lot <;> simp only [c1, c2, c3, c4, decide_true, decide_false, Bool.or_true, Bool.or_false, Bool.true_or, Bool.false_or, if_true, if_false, Bool.false_eq_true, Bool.or_self] <;> (walk_at "ev") <;> simp [c1, c2, c3, c4]
    rintro _ _ ⟨rfl, rfl⟩
    have hw : p.2 * wL x lot p.1 = (if ((if inA x lot u = true then (1 : Int) else 0) + if inA x lot v = true then (1 : Int) else 0) = 1 then p.2 else 0) - (if x ∈ [u, v] then p.2 else 0) := by
      unfold wL
      rw [hk, Int.mul_sub]
      congr 1
      · cases hu : inA x lot u <;> cases hv : inA x lot v <;> simp [List.filter, hu, hv]
      · by_cases c : x ∈ [u, v]
        · rw [if_pos c, if_pos c, Int.mul_one]
        · rw [if_neg c, if_neg c, Int.mul_zero]
    rw [tot_app, tot_one, hw]
    generalize ((if inA x lot u = true then (1 : Int) else 0) + if inA x lot v = true then (1 : Int) else 0) = ends
    have ein : inD (.int x) (.tup [.int u, .int v]) = some (.bl (decide (x ∈ [u, v]))) := inD_zs (l := [u, v])
    walk_at "ev"
    by_cases c1 : ends = 1
    · rw [decide_eq_true c1, if_pos c1]
      walk_at "ev"
      rw [g0]
      walk_at "ev"
      rw [ein]
      walk_at "ev"
      by_cases c2 : x ∈ [u, v]
      · rw [decide_eq_true c2, if_pos c2]
        walk_at "ev"
        rw [g0]
        walk_at "ev"
        exact ⟨_, _, _, by rw [show many + (tot (wL x lot) ra + (p.2 - p.2)) = many + tot (wL x lot) ra + p.2 - p.2 by omega]⟩
      · rw [decide_eq_false c2, if_neg c2]
        walk_at "ev"
        exact ⟨_, _, _, by rw [show many + (tot (wL x lot) ra + (p.2 - 0)) = many + tot (wL x lot) ra + p.2 - 0 by omega]⟩
    · rw [decide_eq_false c1, if_neg c1]
      walk_at "ev"
      rw [ein]
      walk_at "ev"
      by_cases c2 : x ∈ [u, v]
      · rw [decide_eq_true c2, if_pos c2]
        walk_at "ev"
        rw [g0]
        walk_at "ev"
        exact ⟨_, _, _, by rw [show many + (tot (wL x lot) ra + (0 - p.2)) = many + tot (wL x lot) ra + 0 - p.2 by omega]⟩
      · rw [decide_eq_false c2, if_neg c2]
        walk_at "ev"
        exact ⟨_, _, _, by rw [show many + (tot (wL x lot) ra + (0 - 0)) = many + tot (wL x lot) ra + 0 - 0 by omega]⟩
  · rintro ρ ls' ⟨rfl, s5, s6, s7, rfl⟩
    walk_at "ev"
    rw [show (dks e).length = e.length from List.length_map .., List.take_length]
    all_goals first | exact ⟨rfl, rfl⟩ | rfl
/-! ### moves -/
structure Mv (n x : Int) (lot : List Int) : Prop where
  hx : (0 - n ≤ x ∧ x ≤ n) ∧ x ≠ 0
  ne : lot ≠ []
  fit : fitL n lot
  off : ∀ y ∈ lot, y ≠ x ∧ y ≠ 0 - x
  up : lot.Pairwise (· < ·)
  len : lot.length ≤ 8
theorem sp_is_letter_in {i : Int} (h : (0 - n ≤ i ∧ i ≤ n) ∧ i ≠ 0) : F_is_letter_in en [.int n, .int i] ls = .ok (.bl true) ls := by
  refine wF_is ?_
  unfold F_is_letter_in
  rw [wF_end]
  unfold p_is_letter_in
  walk_at "ev"
  rw [sp_is_whole rfl]
  walk_at "ev"
  rw [show isW (.int i) = true from rfl, decide_eq_false h.2, decide_eq_true h.1.1, decide_eq_true h.1.2]
  rfl
theorem pair_up {l : List Int} (h : l.Pairwise (· < ·)) {i : Nat} (hi : i + 1 < l.length) : l.getD i 0 < l.getD (i + 1) 0 := by
  rw [List.getD_eq_getElem?_getD, List.getD_eq_getElem?_getD, List.getElem?_eq_getElem hi, List.getElem?_eq_getElem (by omega)]
  exact List.pairwise_iff_getElem.mp h i (i + 1) (by omega) hi (by omega)
theorem allD_true {α : Type} (l : List α) : allD (.lst (l.map fun _ => D.bl true)) = some (.bl true) := by
  rw [show l.map (fun _ => D.bl true) = l.map (fun d => D.bl ((fun _ => true) d)) from rfl, allD_map]
  rw [show l.all (fun _ => true) = true from List.all_eq_true.mpr fun _ _ => rfl]
theorem absD_if {i : Int} : absD (.int i) = some (.int i.natAbs) := absD_int
theorem sp_is_move_in (h : Mv n x lot) : F_is_move_in en [.int n, .tup [.int x, row lot]] ls = .ok (.bl true) ls := by
  have hlen := h.len
  refine wF_is ?_
  unfold F_is_move_in
  rw [wF_end]
  unfold p_is_move_in
  obtain ⟨rn, hrn⟩ : ∃ rn, rn = rng1D := ⟨_, rfl⟩
  rw [← hrn]
  have a0 : atD (.tup [.int x, row lot]) (.int 0) = some (.int x) := rfl
  have i0 : isiD .tuple (.tup [.int x, row lot]) = some (.bl true) := rfl
  have e0 : eqD (row lot) (.tup []) = some (.bl false) := by
    rw [show D.tup [] = row [] from rfl, eqD_row, decide_eq_false h.ne]
  walk_at "ev"
  rw [show decide (((2 : Nat) : Int) = 2) = true from rfl]
  walk_at "ev"
  rw [a0]
  walk_at "ev"
  rw [sp_is_letter_in h.hx]
  walk_at "ev"
  rw [e0]
  walk_at "ev"
  refine wM_lcp ?_
  walk_at "ev"
  refine ⟨rfl, rfl, top_of (by omega), fun _ => true, fun _ => .bl true, fun d hd => ?_, ?_⟩
  · obtain ⟨y, hy, rfl⟩ := zs_mem hd
    walk_at "ev"
    refine ⟨rfl, rfl, fun _ => ?_⟩
    exact callM_ok (ds := [.int n, .int y]) rfl rfl (sp_is_letter_in (h.fit y hy))
  rw [filt_true, allD_true]
  walk_at "ev"
  refine wM_lcp ?_
  walk_at "ev"
  refine ⟨rfl, rfl, top_of (by omega), fun _ => true, fun _ => .bl true, fun d hd => ?_, ?_⟩
  · obtain ⟨y, hy, rfl⟩ := zs_mem hd
    have ho := h.off y hy
    walk_at "ev"
    refine ⟨rfl, rfl, fun _ => wM_is ?_⟩
    show wM _ [.dat (.int n), .dat (.tup [.int x, row lot]), .dat (.int x), .dat (row lot), .dat (.int y), .un] ls _ _
    walk_at "ev"
    rw [decide_eq_false (show ¬ ((y.natAbs : Nat) : Int) = (x.natAbs : Nat) by omega)]
    exact ⟨rfl, rfl⟩
  rw [filt_true, allD_true]
  walk_at "ev"
  have hp := List.length_pos_iff.mpr h.ne
  refine wM_lcp ?_
  walk_at "ev"
  rw [hrn, rng1D_int (by omega) (by omega), rangeL_zs]
  walk_at "ev"
  refine ⟨rfl, rfl, by rw [List.length_map, List.length_range]; exact top_of (by omega), fun _ => true, fun _ => .bl true, fun d hd => ?_, ?_⟩
  · obtain ⟨y, hy, rfl⟩ := zs_mem hd
    obtain ⟨j, hj, rfl⟩ := List.mem_map.mp hy
    have hj := List.mem_range.mp hj
    have hj2 : j + 1 < lot.length := by omega
    walk_at "ev"
    refine ⟨rfl, rfl, fun _ => wM_is ?_⟩
    show wM _ [.dat (.int n), .dat (.tup [.int x, row lot]), .dat (.int x), .dat (row lot), .un, .dat (.int ((0 : Int) + (j : Int)))] ls _ _
    rw [Int.zero_add]
    walk_at "ev"
    rw [atD_rowN (show j < lot.length by omega)]
    walk_at "ev"
    rw [show (j : Int) + 1 = ((j + 1 : Nat) : Int) by omega, atD_rowN hj2]
    walk_at "ev"
    rw [decide_eq_true (pair_up h.up hj2)]
    exact ⟨rfl, rfl⟩
  rw [filt_true, allD_true]
  walk_at "ev"
  all_goals first | exact ⟨rfl, rfl⟩ | rfl
theorem sp_need_move (h : Mv n x lot) : F_need_move en [.int n, .tup [.int x, row lot]] ls = .ok .non ls := by
  refine wF_is ?_
  unfold F_need_move
  rw [wF_end]
  unfold p_need_move
  walk_at "ev"
  rw [sp_is_move_in h]
  walk_at "ev"
  all_goals first | exact ⟨rfl, rfl⟩ | rfl
/-- no move of n deeds -/
def badMv (n : Int) (d : D) : Prop := ∀ (en : En) (ls : LS), F_is_move_in en [.int n, d] ls = .ok (.bl false) ls
theorem sp_need_moveX {d : D} (h : badMv n d) : F_need_move en [.int n, d] ls = .rs ⟨en.BadMove, none⟩ ls := by
  refine wF_rs ?_
  unfold F_need_move
  rw [wF_end]
  unfold p_need_move
  walk_at "ev"
  rw [h en ls]
  all_goals first | exact ⟨rfl, rfl⟩ | rfl
/-- how long the rings are, behind the move -/
def lens (gs : List (List Int)) : Int := (gs.map fun r => (r.length : Int)).sum
def behd (x : Int) (lot : List Int) (gs : List (List Int)) : Int := lens gs + ((gs.flatMap tiesR).map (wt x (inA x lot))).sum
theorem ties_wt {gs : List (List Int)} (ht : Tie (gs.flatMap tiesR) e) : tot (wL x lot) e = ((gs.flatMap tiesR).map (wt x (inA x lot))).sum := by
  rw [ht.tot]
  congr 1
  exact List.map_congr_left fun t _ => wL_pr x lot t
theorem lens_le {gs : List (List Int)} (h : ∀ r ∈ gs, r.length ≤ 200) : (gs.flatMap tiesR).length ≤ 200 * gs.length := by
  induction gs with
  | nil => exact Nat.le_refl _
  | cons r gs ih =>
    have h1 := h r List.mem_cons_self
    have h2 := ih fun q hq => h q (List.mem_cons_of_mem _ hq)
    rw [List.flatMap_cons, List.length_append, tiesR_len, List.length_cons]
    omega
theorem rgs_len (hr : rowsOk n rs) : ∀ r ∈ rgs rs, r.length ≤ 200 := fun r h => by
  obtain ⟨q, hq, rfl⟩ := List.mem_map.mp h
  have := (hr q hq).2
  have := red_len q
  have := rgl_len (red q)
  omega
theorem sp_length_behind (hn : dOk n) (hr : rowsOk n rs) (hl : rs.length ≤ 6) (hm : Mv n x lot) : F_length_behind en [.int n, .lst (rs.map row), .tup [.int x, row lot]] ls = .ok (.int (behd x lot (rgs rs))) ls := by
  have hg := rgs_len hr
  have hgl : (rgs rs).length ≤ 6 := by unfold rgs; rw [List.length_map]; exact hl
  have hs := lens_le hg
  obtain ⟨e, ht, he⟩ := sp_ties_in (en := en) (ls := ls) (rs := rgs rs) (fun r h => by have := hg r h; omega) (by omega) (by omega)
  refine wF_is ?_
  unfold F_length_behind
  rw [wF_end]
  unfold p_length_behind
  walk_at "ev"
  rw [sp_need_row_rings hn (.inl rfl) hr hl]
  walk_at "ev"
  rw [sp_need_move hm]
  walk_at "ev"
  refine wM_lcp ?_
  walk_at "ev"
  refine ⟨rfl, rfl, by rw [List.length_map]; exact top_of (by omega), fun _ => true, fun d => (lenD d).getD .non, fun d hd => ?_, ?_⟩
  · obtain ⟨q, hq, rfl⟩ := List.mem_map.mp hd
    walk_at "ev"
    refine ⟨rfl, rfl, fun _ => wM_is ?_⟩
    walk_at "ev"
    show wM _ [.dat (.int n), .dat (.lst (rs.map row)), .dat (.tup [.int x, row lot]), .dat (.lst ((rgs rs).map row)), .dat (row q)] ls _ _
    walk_at "ev"
    exact ⟨rfl, rfl⟩
  · rw [filt_true, List.map_map]
    have e1 : ((rgs rs).map ((fun d => (lenD d).getD D.non) ∘ row)) = zs ((rgs rs).map fun r => (r.length : Int)) := by
      unfold zs
      rw [List.map_map]
      refine List.map_congr_left fun q _ => ?_
      show (lenD (row q)).getD D.non = _
      rw [lenD_row]; rfl
    rw [e1]
    walk_at "ev"
    rw [he]
    walk_at "ev"
    rw [sp_growth_by ht.nd (fun p hp => by
      obtain ⟨t, _, h2⟩ := ht.two p hp
      rw [h2]
      exact (by decide : (2 : Nat) ≤ 10))]
    walk_at "ev"
    rw [ties_wt ht]
    all_goals first | exact ⟨rfl, rfl⟩ | rfl
theorem sp_length_behindX1 {d r m : D} (hp : plainV d = true) (h : btw d 1 4 = false) : F_length_behind en [d, r, m] ls = .rs ⟨en.BadDeeds, none⟩ ls := by
  refine wF_rs ?_
  unfold F_length_behind
  rw [wF_end]
  unfold p_length_behind
  walk_at "ev"
  have e1 : F_need_row_rings en [d, r] ls = .rs ⟨en.BadDeeds, none⟩ ls := by
    refine wF_rs ?_
    unfold F_need_row_rings
    rw [wF_end]
    unfold p_need_row_rings
    walk_at "ev"
    rw [sp_ndX hp h]
    all_goals first | exact ⟨rfl, rfl⟩ | rfl
  rw [e1]
  all_goals first | exact ⟨rfl, rfl⟩ | rfl
/-- values that are no lists of rows of n deeds -/
def badRs (n : Int) (d : D) : Prop := ∀ (en : En) (ls : LS), F_need_rows en [.int n, d] ls = .rs ⟨en.BadRows, none⟩ ls
theorem sp_length_behindX2 {d m : D} (hn : dOk n) (h : badRs n d) : F_length_behind en [.int n, d, m] ls = .rs ⟨en.BadRows, none⟩ ls := by
  refine wF_rs ?_
  unfold F_length_behind
  rw [wF_end]
  unfold p_length_behind
  walk_at "ev"
  have e1 : F_need_row_rings en [.int n, d] ls = .rs ⟨en.BadRows, none⟩ ls := by
    refine wF_rs ?_
    unfold F_need_row_rings
    rw [wF_end]
    unfold p_need_row_rings
    walk_at "ev"
    rw [sp_nd hn]
    walk_at "ev"
    rw [wM_lcM]
    walk_at "ev"
    rw [h en ls]
    all_goals first | exact ⟨rfl, rfl⟩ | rfl
  rw [e1]
  all_goals first | exact ⟨rfl, rfl⟩ | rfl
theorem sp_length_behindX3 {d : D} (hn : dOk n) (hr : rowsOk n rs) (hl : rs.length ≤ 6) (h : badMv n d) : F_length_behind en [.int n, .lst (rs.map row), d] ls = .rs ⟨en.BadMove, none⟩ ls := by
  refine wF_rs ?_
  unfold F_length_behind
  rw [wF_end]
  unfold p_length_behind
  walk_at "ev"
  rw [sp_need_row_rings hn (.inl rfl) hr hl]
  walk_at "ev"
  rw [sp_need_moveX h]
  all_goals first | exact ⟨rfl, rfl⟩ | rfl
theorem sp_neighbours (hn : dOk n) (hr : rowsOk n rs) (hl : rs.length ≤ 6) : ∃ e, Tie ((rgs rs).flatMap tiesR) e ∧ F_neighbours en [.int n, .lst (rs.map row)] ls = .ok (.dcf (dks e) (des e)) ls := by
  have hg := rgs_len hr
  have hgl : (rgs rs).length ≤ 6 := by unfold rgs; rw [List.length_map]; exact hl
  have hs := lens_le hg
  obtain ⟨e, ht, he⟩ := sp_ties_in (en := en) (ls := ls) (rs := rgs rs) (fun r h => by have := hg r h; omega) (by omega) (by omega)
  refine ⟨e, ht, wF_is ?_⟩
  unfold F_neighbours
  rw [wF_end]
  unfold p_neighbours
  walk_at "ev"
  rw [sp_need_row_rings hn (.inl rfl) hr hl]
  walk_at "ev"
  rw [he]
  all_goals first | exact ⟨rfl, rfl⟩ | rfl
end
end Pd

set_option Elab.async false
set_option linter.all false
set_option maxRecDepth 100000
set_option maxHeartbeats 4000000
/-! Q5: the law's own renaming. -/
namespace Pd
open PySem PySem.Spec PyProof.Rows L2
def im (gs : List (List Int)) (y : Int) : List Int := if 0 < y then gs.getD (y - 1).toNat [] else und (gs.getD (0 - y - 1).toNat [])
def imgs (n x : Int) (lot : List Int) : List (List Int) := (List.range n.toNat).map fun (i : Nat) => ph x lot (1 + (i : Int))
theorem und_ph (x : Int) (lot : List Int) (d : Int) : und (ph x lot d) = ph x lot (0 - d) := by
  unfold ph
  rw [und_app, und_app, show 0 - (0 - d) = d by omega]
  have u1 : und [x] = [0 - x] := rfl
  have u2 : und [0 - x] = [x] := by show [0 - (0 - x)] = [x]; rw [show 0 - (0 - x) = x by omega]
  have u3 : und [d] = [0 - d] := rfl
  have u4 : und [] = [] := rfl
  by_cases h1 : 0 - d ∈ lot
  · by_cases h2 : d ∈ lot
    · rw [if_pos h1, if_pos h2, if_pos h1, if_pos h2, u1, u2, u3]; rfl
    · rw [if_pos h1, if_neg h2, if_pos h1, if_neg h2, u2, u3, u4]; rfl
  · by_cases h2 : d ∈ lot
    · rw [if_neg h1, if_pos h2, if_neg h1, if_pos h2, u1, u3, u4]; rfl
    · rw [if_neg h1, if_neg h2, if_neg h1, if_neg h2, u3, u4]; rfl
theorem im_imgs {n x y : Int} {lot : List Int} (hy : (0 - n ≤ y ∧ y ≤ n) ∧ y ≠ 0) : im (imgs n x lot) y = ph x lot y := by
  have go : ∀ d : Int, 1 ≤ d → d ≤ n → (imgs n x lot).getD (d - 1).toNat [] = ph x lot d := fun d h1 h2 => by
    unfold imgs
    rw [List.getD_eq_getElem?_getD, List.getElem?_map, List.getElem?_range (by omega)]
    show ph x lot (1 + ((d - 1).toNat : Int)) = _
    congr 1
    omega
  unfold im
  by_cases h : 0 < y
  · rw [if_pos h, go y (by omega) hy.1.2]
  · rw [if_neg h, go (0 - y) (by omega) (by omega), und_ph]
    congr 1
    omega
theorem flat_congr {α β : Type} {f g : α → List β} : ∀ {l : List α}, (∀ x ∈ l, f x = g x) → l.flatMap f = l.flatMap g
  | [], _ => rfl
  | x :: l, h => by
    rw [List.flatMap_cons, List.flatMap_cons, h x List.mem_cons_self, flat_congr fun y hy => h y (List.mem_cons_of_mem _ hy)]
theorem ph_len (x : Int) (lot : List Int) (y : Int) : (ph x lot y).length ≤ 3 := by
  unfold ph
  split <;> split <;> simp
theorem imgs_len {n x : Int} {lot : List Int} : (imgs n x lot).length = n.toNat := by
  unfold imgs
  rw [List.length_map, List.length_range]
theorem flatM_len {α β : Type} {f : α → List β} {B : Nat} : ∀ {l : List α}, (∀ x ∈ l, (f x).length ≤ B) → (l.flatMap f).length ≤ l.length * B
  | [], _ => Nat.zero_le _
  | x :: l, h => by
    have h1 := h x List.mem_cons_self
    have h2 := flatM_len fun y hy => h y (List.mem_cons_of_mem _ hy)
    rw [List.flatMap_cons, List.length_append, List.length_cons, Nat.add_mul]
    omega
theorem range_splitL {lo : Int} {n : Nat} {done rest : List D} {d : D} (h : zs ((List.range n).map fun (i : Nat) => lo + (i : Int)) = done ++ d :: rest) : d = .int (lo + (done.length : Nat)) ∧ done.length < n := by
  have e := congrArg (fun l => l[done.length]?) h
  have hl : done.length < n := by
    have := congrArg List.length h
    rw [zs_len, List.length_map, List.length_range, List.length_append, List.length_cons] at this
    omega
  simp only [List.getElem?_append_right (Nat.le_refl _), Nat.sub_self, List.getElem?_cons_zero] at e
  unfold zs at e
  rw [List.getElem?_map, List.getElem?_map, List.getElem?_range hl] at e
  exact ⟨(Option.some.inj e).symm, hl⟩
/-- images of n letters -/
structure Im (n : Int) (B : Nat) (gs : List (List Int)) : Prop where
  len : (gs.length : Int) = n
  all : ∀ g ∈ gs, fitL n g ∧ g.length ≤ B
theorem getD_mem2 {gs : List (List Int)} {i : Nat} (h : i < gs.length) : gs.getD i [] ∈ gs := by
  rw [List.getD_eq_getElem?_getD, List.getElem?_eq_getElem h]
  exact List.getElem_mem h
theorem Im.im {n : Int} {B : Nat} {gs : List (List Int)} (h : Im n B gs) {y : Int} (hy : (0 - n ≤ y ∧ y ≤ n) ∧ y ≠ 0) : fitL n (im gs y) ∧ (Pd.im gs y).length ≤ B := by
  have hl := h.len
  unfold Pd.im
  by_cases c : 0 < y
  · rw [if_pos c]
    exact h.all _ (getD_mem2 (by omega))
  · rw [if_neg c]
    have := h.all _ (getD_mem2 (gs := gs) (i := (0 - y - 1).toNat) (by omega))
    exact ⟨fitL_und this.1, by rw [und_len]; exact this.2⟩
theorem fitL_flat {n : Int} {f : Int → List Int} {l : List Int} (h : ∀ y ∈ l, fitL n (f y)) : fitL n (l.flatMap f) := fun z hz => by
  obtain ⟨y, hy, h2⟩ := List.mem_flatMap.mp hz
  exact h y hy z h2
local macro_rules | `(tactic| walk_at "ev") => `(tactic| try simp only [wM_bnd, wM_ret, wM_opt, wI_some, wM_nam, nmI_dat, nmI_own, gvI_dat, gvI_own, owI_own, inI_int, itI_int, wM_lookd, wM_looks, wM_gived, wM_gives, wM_isB, wM_andM, wM_orM, wM_notM, wM_ifM, wM_andV, wM_orV, wM_notV, wM_bin, wM_uno, wM_dt, wM_ls1, wM_consM, wM_tupM, wM_lstM, wM_itemsM, wM_ritemsM, wM_callM, wM_keyM, wM_methM, wM_meth0M, wM_mthM, wM_chainM, wM_partM, wM_cutM, wP_seqP, wP_lift, wP_skip, wP_brk, wP_cnt, wP_rsP, wP_sto, wP_stoN, wP_setV, wP_setN, wP_retP, wP_drop, wP_ifP, wP_asgP, wP_par2, wP_par3, wP_par2I, wM_consD, wM_consL, stoI_d, stoI_n, wM_callN, wM_keyN, wM_takeM, wP_retN, wFN_k, wFN_x, eqD_zz, neD_zz, lenD_row, lenD_zs, isi_row, items_row, listD_row, tupleD_zs, cut_row, cut_zs, zs_len, minD_int, maxD_int, inD_zs, inD_ktp, ninD_zs, sumD_zs, absD_int,  wP_augP, wP_forP, wM_caughtM, catI_mk, hide_nil, hide_cons, hideS_dat, hideS_own, hideS_un, ord2, ord3, lenD_lsk, isntD_bl, tgTup_eq, tgLst_eq, tgCons_eq, tgNil_eq, Option.bind_some, slD,
  addD_int, subD_int, ltD_int, leD_int, gtD_int, geD_int, negD_int, eqD_int, neD_int, neD_zs, eqD_zs, eqD_row, neD_row, isi_tt, lenD_tup, lenD_lst, tupleD_tup, tupleD_lst, listD_tup, listD_lst, itemsD_tup, itemsD_lst, ritemsD_tup, revD_tup, few_nil, few_1, few_2, few_3, few_4, tgName,
  ini, List.map_cons, List.map_nil, List.length_cons, List.length_nil, List.replicate, List.cons_append, List.nil_append, List.getElem?_cons_zero, List.getElem?_cons_succ, List.set_cons_zero, List.set_cons_succ, Nat.reduceAdd, Nat.reduceSub, Nat.reduceLT, Nat.zero_add, Nat.sub_self, if_true, if_false, reduceIte, true_and, and_true, and_self, wF_k, wF_x, Bool.not_true, Bool.not_false, Bool.false_eq_true, Nat.lt_irrefl])
section
variable {en : En} {ls : LS} {a : Addr} {T : List (Addr × Str)} {c : Nat} {G : D → LS → Prop} {E : EX} {n x : Int} {l m lot : List Int} {k B : Nat} {rs gs : List (List Int)}
theorem sp_cu_spans (hl : l.length ≤ 1000) (hr : (red l).length ≤ 1000) : F_law_cu_spans en [row l] ls = .ok (.int ((rgl (red l)).length : Nat)) ls := by
  obtain ⟨p, hp⟩ : ∃ p, p = red l := ⟨_, rfl⟩
  have tp := tl_at p
  have lp := tl_len p
  refine wF_is ?_
  unfold F_law_cu_spans
  rw [wF_end]
  unfold p_law_cu_spans
  refine wP_seq (fun ρ l' => ls = l' ∧ ρ = [.dat (row l), .dat (.lst (zs p))]) ?_ ?_
  · walk_at "ev"
    rw [sp_mk_plain rfl (by omega), ← hp]
    walk_at "ev"
  rintro _ _ ⟨rfl, rfl⟩
  rw [← hp] at hr
  refine wP_seq (fun ρ l' => ls = l' ∧ ρ = [.dat (row l), .dat (.lst (zs (mid p (tl p))))]) ?_ ?_
  · refine wP_while (fun k ρ ls' => ls = ls' ∧ ∃ i : Nat, i + k = tl p ∧ ρ = [.dat (row l), .dat (.lst (zs (mid p i)))]) (tl p) (by omega) ⟨rfl, 0, by omega, by rw [mid_zero]⟩ ?_
    rintro k ρ ls' ⟨rfl, i, hi, rfl⟩
    have ml := mid_len (l := p) (c := i) (by omega)
    walk_at "ev"
    by_cases h1 : 2 * i + 1 < p.length
    · rw [decide_eq_true (show (1 : Int) < ((mid p i).length : Int) by omega)]
      simp only [if_true]
      walk_at "ev"
      have a0 := atD_zsN (l := mid p i) (i := 0) (by omega)
      rw [mid_getD (by omega)] at a0
      rw [show atD (.lst (zs (mid p i))) (.int 0) = _ from a0]
      walk_at "ev"
      rw [isT_last h1]
      walk_at "ev"
      have e : decide (p.getD (i + 0) 0 = 0 - p.getD (p.length - 1 - i) 0) = isT p i := by
        unfold isT
        rw [decide_eq_true h1, Bool.true_and]; rfl
      rw [e]
      by_cases hk : 0 < k
      · rw [tp.1 i (by omega)]
        simp only [if_true]
        refine ⟨hk, ?_⟩
        walk_at "ev"
        rw [cutG_in (by omega), mid_succ h1]
        exact ⟨i + 1, by omega, rfl⟩
      · have ei : i = tl p := by omega
        subst ei
        rw [tp.2]
        simp only [Bool.false_eq_true, if_false]
    · rw [decide_eq_false (show ¬ (1 : Int) < ((mid p i).length : Int) by omega)]
      simp only [Bool.false_eq_true, if_false]
      by_cases hk : 0 < k
      · have := tp.1 i (by omega)
        unfold isT at this
        rw [decide_eq_false h1] at this
        cases this
      · have ei : i = tl p := by omega
        subst ei
        rfl
  rintro _ _ ⟨rfl, rfl⟩
  walk_at "ev"
  rw [rgl_mid, ← hp]
  all_goals first | exact ⟨rfl, rfl⟩ | rfl
theorem atD_rows {i : Int} (h0 : 0 ≤ i) (h1 : i < gs.length) : atD (.lst (gs.map row)) (.int i) = some (row (gs.getD i.toNat [])) := by
  refine atI_map h0 ?_
  rw [List.getD_eq_getElem?_getD, List.getElem?_eq_getElem (by omega)]; rfl
theorem sp_mk_renamed (hg : Im n B gs) (hf : fitL n l) (hl : l.length * B ≤ 5000) (hB : B ≤ 1000) : F_law_mk_renamed en [.lst (gs.map row), row l] ls = .ok (row (red (l.flatMap (im gs)))) ls := by
  have hgl := hg.len
  refine wF_is ?_
  unfold F_law_mk_renamed
  rw [wF_end]
  unfold p_law_mk_renamed
  walk_at "ev"
  refine wP_for (fun done ρ ls' => ls' = ls ∧ ∃ s3 l1, done = zs l1 ∧ ρ = [.dat (.lst (gs.map row)), .dat (row l), .dat (.lst (zs (l1.flatMap (im gs)))), s3]) ⟨rfl, .un, [], rfl, rfl⟩ ?_ ?_
  · rintro done d rest ρ ls' ed ⟨rfl, s3, l1, e1, rfl⟩
    obtain ⟨la, y, lb, el, ea, rfl, eb⟩ := zs_split ed
    have e2 : l1 = la := zs_inj (e1.symm.trans ea)
    subst e2
    have hn : zs (l1 ++ [y]) = done ++ [.int y] := by rw [← zs_app, e1]; rfl
    have hy := hf y (by rw [el]; simp)
    obtain ⟨hi1, hi2⟩ := hg.im hy
    have hfl : (l1.flatMap (im gs)).length ≤ l1.length * B := flatM_len fun z hz => (hg.im (hf z (by rw [el]; simp [hz]))).2
    have hll : l1.length * B ≤ 5000 := Nat.le_trans (Nat.mul_le_mul_right B (by rw [el]; simp)) hl
    have fin : addD (.lst (zs (l1.flatMap (im gs)))) (.lst (zs (im gs y))) = some (.lst (zs ((l1 ++ [y]).flatMap (im gs)))) := by
      rw [addD_lst (by rw [zs_len, zs_len]; exact top_of (by omega)), zs_app, List.flatMap_append]
      simp
    walk_at "ev"
    by_cases hp : 0 < y
    · rw [decide_eq_true hp]
      have hi : im gs y = gs.getD (y - 1).toNat [] := if_pos hp
      walk_at "ev"
      rw [atD_rows (by omega) (by omega), ← hi]
      walk_at "ev"
      rw [fin]
      exact ⟨_, l1 ++ [y], hn.symm, rfl⟩
    · rw [decide_eq_false hp]
      have hi : im gs y = und (gs.getD (0 - y - 1).toNat []) := if_neg hp
      rw [hi, und_len] at hi2
      walk_at "ev"
      rw [atD_rows (by omega) (by omega)]
      walk_at "ev"
      rw [sp_mk_undone (by omega), ← hi]
      walk_at "ev"
      rw [fin]
      exact ⟨_, l1 ++ [y], hn.symm, rfl⟩
  · rintro ρ ls' ⟨rfl, s3, l1, e1, rfl⟩
    have e2 : l = l1 := zs_inj e1
    subst e2
    have hfl : (l.flatMap (im gs)).length ≤ l.length * B := flatM_len fun z hz => (hg.im (hf z hz)).2
    walk_at "ev"
    rw [sp_mk_plain rfl (by omega)]
    all_goals first | exact ⟨rfl, rfl⟩ | rfl
theorem Im.of_imgs (hn : dOk n) (hx : (0 - n ≤ x ∧ x ≤ n) ∧ x ≠ 0) : Im n 3 (imgs n x lot) := by
  refine ⟨by rw [imgs_len]; have := hn.1; omega, fun g hg => ?_⟩
  obtain ⟨i, hi, rfl⟩ := List.mem_map.mp hg
  have hi := List.mem_range.mp hi
  refine ⟨fun z hz => ?_, ph_len _ _ _⟩
  unfold ph at hz
  rcases List.mem_append.mp hz with hz | hz
  · split at hz
    · rw [List.mem_singleton] at hz; subst hz; omega
    · cases hz
  · rcases List.mem_append.mp hz with hz | hz
    · rw [List.mem_singleton] at hz; subst hz; omega
    · split at hz
      · rw [List.mem_singleton] at hz; subst hz; exact hx
      · cases hz
theorem sp_sh_images (hn : dOk n) : F_law_sh_images en [.int n, .tup [.int x, row lot]] ls = .ok (.lst ((imgs n x lot).map row)) ls := by
  obtain ⟨n1, n4⟩ := hn
  refine wF_is ?_
  unfold F_law_sh_images
  rw [wF_end]
  unfold p_law_sh_images
  obtain ⟨rn, hrn⟩ : ∃ rn, rn = rng2D := ⟨_, rfl⟩
  rw [← hrn]
  walk_at "ev"
  rw [hrn, rng2D_int (by omega) (by omega) (by omega) (by omega), rangeL_zs, show (n + 1 - 1).toNat = n.toNat by omega]
  walk_at "ev"
  refine wP_for (fun done ρ ls' => ls' = ls ∧ ∃ s3 s6, ρ = [.dat (.int n), .dat (.tup [.int x, row lot]), .own ((imgs (done.length : Nat) x lot).map row), s3, .dat (.int x), .dat (row lot), s6]) ⟨rfl, .un, .un, rfl⟩ ?_ ?_
  · rintro done d rest ρ ls' ed ⟨rfl, s3, s6, rfl⟩
    obtain ⟨rfl, hk⟩ := range_splitL ed
    obtain ⟨d, hd⟩ : ∃ d : Int, d = 1 + ((done.length : Nat) : Int) := ⟨_, rfl⟩
    rw [← hd]
    have e0 : ((imgs ((done.length : Nat) : Int) x lot).map row).length < top := by
      rw [List.length_map, imgs_len]
      exact Nat.lt_of_lt_of_le (show _ < 10 by omega) (by decide)
    have e1 : (imgs ((done.length : Nat) : Int) x lot).map row ++ [row (ph x lot d)] = (imgs ((done ++ [D.int d]).length : Nat) x lot).map row := by
      rw [List.length_append, List.length_singleton]
      unfold imgs
      rw [Int.toNat_natCast, Int.toNat_natCast, List.range_succ, List.map_append, List.map_append, hd]; rfl
    have fin : ∀ p q : List Int, (p ++ ([d] ++ q)).length ≤ 10 → addD (row p) (row ([d] ++ q)) = some (row (p ++ ([d] ++ q))) := fun p q h => addD_row (by rw [List.length_append] at h; omega)
    have f1 : ∀ q : List Int, q.length ≤ 1 → addD (.tup [.int d]) (row q) = some (row ([d] ++ q)) := fun q h => addD_row (l := [d]) (by simp; omega)
    walk_at "ev"
    by_cases h2 : d ∈ lot
    · rw [decide_eq_true h2]
      walk_at "ev"
      rw [show D.tup [.int x] = row [x] from rfl, f1 [x] (by simp)]
      walk_at "ev"
      by_cases h1 : 0 - d ∈ lot
      · rw [decide_eq_true h1]
        walk_at "ev"
        rw [show D.tup [.int (0 - x)] = row [0 - x] from rfl, show addD (row [0 - x]) (row [d, x]) = some (row (ph x lot d)) from (fin [0 - x] [x] (by simp)).trans (by unfold ph; rw [if_pos h1, if_pos h2])]
        walk_at "ev"
        rw [appD_some e0]
        walk_at "ev"
        exact ⟨_, _, by rw [e1]⟩
      · rw [decide_eq_false h1]
        walk_at "ev"
        rw [show D.tup [] = row [] from rfl, show addD (row []) (row [d, x]) = some (row (ph x lot d)) from (fin [] [x] (by simp)).trans (by unfold ph; rw [if_neg h1, if_pos h2])]
        walk_at "ev"
        rw [appD_some e0]
        walk_at "ev"
        exact ⟨_, _, by rw [e1]⟩
    · rw [decide_eq_false h2]
      walk_at "ev"
      rw [show D.tup [] = row [] from rfl, f1 [] (by simp)]
      walk_at "ev"
      by_cases h1 : 0 - d ∈ lot
      · rw [decide_eq_true h1]
        walk_at "ev"
        rw [show D.tup [.int (0 - x)] = row [0 - x] from rfl, show addD (row [0 - x]) (row [d]) = some (row (ph x lot d)) from (fin [0 - x] [] (by simp)).trans (by unfold ph; rw [if_pos h1, if_neg h2])]
        walk_at "ev"
        rw [appD_some e0]
        walk_at "ev"
        exact ⟨_, _, by rw [e1]⟩
      · rw [decide_eq_false h1]
        walk_at "ev"
        rw [show addD (row []) (row [d]) = some (row (ph x lot d)) from (fin [] [] (by simp)).trans (by unfold ph; rw [if_neg h1, if_neg h2])]
        walk_at "ev"
        rw [appD_some e0]
        walk_at "ev"
        exact ⟨_, _, by rw [e1]⟩
  · rintro ρ ls' ⟨rfl, s3, s6, rfl⟩
    walk_at "ev"
    rw [List.length_map, List.length_range]
    have : imgs ((n.toNat : Nat) : Int) x lot = imgs n x lot := by unfold imgs; rw [Int.toNat_natCast]
    rw [this]
    all_goals first | exact ⟨rfl, rfl⟩ | rfl
theorem sp_rn_turned {b : List Int} (hl : l.length ≤ 1000) (hb : b.length ≤ 1000) : F_law_rn_turned en [row l, row b] ls = .ok (row (red (b ++ l ++ und b))) ls := by
  refine wF_is ?_
  unfold F_law_rn_turned
  rw [wF_end]
  unfold p_law_rn_turned
  walk_at "ev"
  rw [show tupleD (row l) = some (row l) from rfl, show tupleD (row b) = some (row b) from rfl]
  walk_at "ev"
  rw [addD_row (by omega)]
  walk_at "ev"
  rw [sp_mk_undone (by omega)]
  walk_at "ev"
  rw [addD_row (by rw [List.length_append, und_len]; omega)]
  walk_at "ev"
  rw [sp_mk_plain rfl (by rw [List.length_append, List.length_append, und_len]; omega)]
  all_goals first | exact ⟨rfl, rfl⟩ | rfl
/-- the letters that the law counts behind a move -/
theorem sp_due (hn : dOk n) (hm : Mv n x lot) {r : List Int} (hr : fitL n r) (hc : cyc r) (hl : r.length ≤ 300) :
    ∃ k : Nat, (k : Int) = r.length + ((tiesR r).map (wt x (inA x lot))).sum ∧ ∃ q, F_law_mk_renamed en [.lst ((imgs n x lot).map row), row r] ls = .ok (row q) ls ∧ F_law_cu_spans en [row q] ls = .ok (.int (k : Nat)) ls := by
  have h1 : x ∉ lot := fun h => (hm.off x h).1 rfl
  have h2 : 0 - x ∉ lot := fun h => (hm.off _ h).2 rfl
  have e1 : r.flatMap (im (imgs n x lot)) = r.flatMap (ph x lot) := flat_congr fun y hy => im_imgs (hr y hy)
  have hf : (r.flatMap (ph x lot)).length ≤ r.length * 3 := flatM_len fun z _ => ph_len _ _ _
  have hr2 := red_len (r.flatMap (ph x lot))
  refine ⟨(rgl (red (r.flatMap (ph x lot)))).length, move_len hm.hx.2 h1 h2 hc, red (r.flatMap (ph x lot)), ?_, ?_⟩
  · rw [sp_mk_renamed (Im.of_imgs hn hm.hx) hr (by omega) (by omega), e1]
  · rw [sp_cu_spans (by omega) (by rw [red_red]; omega), red_red]
end
end Pd

set_option Elab.async false
set_option linter.all false
set_option maxRecDepth 100000
set_option maxHeartbeats 4000000
/-! Q6: what the law draws: rows of some deeds, renamings. -/
namespace Pd
open PySem PySem.Spec PyProof.Rows L2
def lts (n : Int) : List Int := if n = 1 then [1, -1] else if n = 2 then [1, 2, -1, -2] else if n = 3 then [1, 2, 3, -1, -2, -3] else [1, 2, 3, 4, -1, -2, -3, -4]
theorem lts_ok {n : Int} (hn : dOk n) : fitL n (lts n) ∧ (lts n).length ≤ 8 ∧ (lts n).Nodup ∧ ∀ y : Int, (0 - n ≤ y ∧ y ≤ n) ∧ y ≠ 0 → y ∈ lts n := by
  obtain ⟨h1, h2⟩ := hn
  have : n = 1 ∨ n = 2 ∨ n = 3 ∨ n = 4 := by omega
  rcases this with rfl | rfl | rfl | rfl
  · refine ⟨by unfold fitL; decide, by decide, by decide, fun y hy => ?_⟩
    have : y = 1 ∨ y = -1 := by omega
    rcases this with rfl | rfl <;> decide
  · refine ⟨by unfold fitL; decide, by decide, by decide, fun y hy => ?_⟩
    have : y = 1 ∨ y = -1 ∨ y = 2 ∨ y = -2 := by omega
    rcases this with rfl | rfl | rfl | rfl <;> decide
  · refine ⟨by unfold fitL; decide, by decide, by decide, fun y hy => ?_⟩
    have : y = 1 ∨ y = -1 ∨ y = 2 ∨ y = -2 ∨ y = 3 ∨ y = -3 := by omega
    rcases this with rfl | rfl | rfl | rfl | rfl | rfl <;> decide
  · refine ⟨by unfold fitL; decide, by decide, by decide, fun y hy => ?_⟩
    have : y = 1 ∨ y = -1 ∨ y = 2 ∨ y = -2 ∨ y = 3 ∨ y = -3 ∨ y = 4 ∨ y = -4 := by omega
    rcases this with rfl | rfl | rfl | rfl | rfl | rfl | rfl | rfl <;> decide
theorem Im.mono {n : Int} {B B' : Nat} {gs : List (List Int)} (h : Im n B gs) (hb : B ≤ B') : Im n B' gs := ⟨h.len, fun g hg => ⟨(h.all g hg).1, Nat.le_trans (h.all g hg).2 hb⟩⟩
theorem Im.put {n : Int} {B : Nat} {gs : List (List Int)} (h : Im n B gs) {i : Nat} {g : List Int} (hf : fitL n g) (hl : g.length ≤ B) : Im n B (gs.set i g) := by
  refine ⟨by rw [List.length_set]; exact h.len, fun q hq => ?_⟩
  rcases List.mem_or_eq_of_mem_set hq with hq | rfl
  · exact h.all q hq
  · exact ⟨hf, hl⟩
theorem setAt_rows {gs : List (List Int)} {i : Int} {g : List Int} (h0 : 0 ≤ i) (h1 : i < gs.length) : setAtD (gs.map row) i (row g) = some ((gs.set i.toNat g).map row) := by
  unfold setAtD ixN
  rw [if_pos h0, List.length_map, if_pos h1]
  show some ((gs.map row).set i.toNat (row g)) = _
  rw [List.map_set]
def ones (n : Int) : List (List Int) := (List.range n.toNat).map fun (i : Nat) => [1 + (i : Int)]
theorem Im.ones {n : Int} (hn : dOk n) : Im n 1 (ones n) := by
  have := hn.1
  refine ⟨by unfold Pd.ones; rw [List.length_map, List.length_range]; omega, fun g hg => ?_⟩
  obtain ⟨i, hi, rfl⟩ := List.mem_map.mp hg
  have := List.mem_range.mp hi
  exact ⟨fun z hz => by rw [List.mem_singleton] at hz; subst hz; omega, by simp⟩
local macro_rules | `(tactic| walk_at "ev") => `(tactic| try simp only [wM_bnd, wM_ret, wM_opt, wI_some, wM_nam, nmI_dat, nmI_own, gvI_dat, gvI_own, owI_own, inI_int, itI_int, wM_lookd, wM_looks, wM_gived, wM_gives, wM_isB, wM_andM, wM_orM, wM_notM, wM_ifM, wM_andV, wM_orV, wM_notV, wM_bin, wM_uno, wM_dt, wM_ls1, wM_consM, wM_tupM, wM_lstM, wM_itemsM, wM_ritemsM, wM_callM, wM_keyM, wM_methM, wM_meth0M, wM_mthM, wM_chainM, wM_partM, wM_cutM, wP_seqP, wP_lift, wP_skip, wP_brk, wP_cnt, wP_rsP, wP_sto, wP_stoN, wP_setV, wP_setN, wP_retP, wP_drop, wP_ifP, wP_asgP, wP_par2, wP_par3, wP_par2I, wM_consD, wM_consL, stoI_d, stoI_n, wM_callN, wM_keyN, wM_takeM, wP_retN, wFN_k, wFN_x, eqD_zz, neD_zz, lenD_row, lenD_zs, isi_row, items_row, listD_row, tupleD_zs, cut_row, cut_zs, zs_len, minD_int, maxD_int, inD_zs, inD_ktp, ninD_zs, sumD_zs, absD_int, wP_setAtP, wP_setBP, setBK_2, wP_set1, listD_lst,  wP_augP, wP_forP, wM_caughtM, catI_mk, hide_nil, hide_cons, hideS_dat, hideS_own, hideS_un, ord2, ord3, lenD_lsk, isntD_bl, tgTup_eq, tgLst_eq, tgCons_eq, tgNil_eq, Option.bind_some, slD,
  addD_int, subD_int, ltD_int, leD_int, gtD_int, geD_int, negD_int, eqD_int, neD_int, neD_zs, eqD_zs, eqD_row, neD_row, isi_tt, lenD_tup, lenD_lst, tupleD_tup, tupleD_lst, listD_tup, listD_lst, itemsD_tup, itemsD_lst, ritemsD_tup, revD_tup, few_nil, few_1, few_2, few_3, few_4, tgName,
  ini, List.map_cons, List.map_nil, List.length_cons, List.length_nil, List.replicate, List.cons_append, List.nil_append, List.getElem?_cons_zero, List.getElem?_cons_succ, List.set_cons_zero, List.set_cons_succ, Nat.reduceAdd, Nat.reduceSub, Nat.reduceLT, Nat.zero_add, Nat.sub_self, if_true, if_false, reduceIte, true_and, and_true, and_self, wF_k, wF_x, Bool.not_true, Bool.not_false, Bool.false_eq_true, Nat.lt_irrefl])
section
variable {en : En} {ls : LS} {a : Addr} {T : List (Addr × Str)} {c : Nat} {G : D → LS → Prop} {E : EX} {n x : Int} {l m lot : List Int} {k B : Nat} {rs gs : List (List Int)}
theorem sp_letters (hn : dOk n) : F_law_mk_letters en [.int n] ls = .ok (.lst (zs (lts n))) ls := by
  obtain ⟨h1, h2⟩ := hn
  have : n = 1 ∨ n = 2 ∨ n = 3 ∨ n = 4 := by omega
  rcases this with rfl | rfl | rfl | rfl <;> rfl
theorem sp_mk_of_deeds {s : List Int} (hs1 : ∀ d ∈ s, 1 ≤ d ∧ d ≤ n) (hne : s ≠ []) (hsl : s.length ≤ 4) (h : Sz a T (c + 20) ls) (q : ∀ l ls', fitL n l → l.length ≤ 4 → Sz a T c ls' → G (row l) ls') : wF (F_law_mk_of_deeds en [.ref a, .lst (zs s), .int 1, .int 4] ls) G E := by
  unfold F_law_mk_of_deeds
  rw [wF_end]
  unfold p_law_mk_of_deeds
  walk_at "ev"
  refine sp_draw (c := c + 19) h (by omega) (by omega) fun r ls' hr0 hr1 hs => ?_
  walk_at "ev"
  rw [rng1D_int (by omega) (by omega), rangeL_zs]
  walk_at "ev"
  have hlen : (zs ((List.range (1 + r).toNat).map fun (i : Nat) => (0 : Int) + (i : Int))).length = (1 + r).toNat := by rw [zs_len]; simp
  refine wP_for (fun done ρ ls' => ∃ l s5 s6, ρ = [.dat (.ref a), .dat (.lst (zs s)), .dat (.int 1), .dat (.int 4), .own (zs l), s5, s6, .un, .un] ∧ fitL n l ∧ l.length = done.length ∧ Sz a T (c + 19 - done.length) ls') ⟨[], .un, .un, rfl, (fun x hx => nomatch hx), rfl, hs⟩ ?_ ?_
  · rintro done d rest ρ ls' ed ⟨l, s5, s6, rfl, hf, el, hs⟩
    have hd : done.length + (rest.length + 1) = (1 + r).toNat := by rw [← hlen, ed]; simp
    rw [tgName_at (by show 5 < 9; decide)]
    show wP _ [.dat (.ref a), .dat (.lst (zs s)), .dat (.int 1), .dat (.int 4), .own (zs l), .dat d, s6, .un, .un] ls' _
    refine wP_seq (fun ρ l2 => ls' = l2 ∧ ρ = [.dat (.ref a), .dat (.lst (zs s)), .dat (.int 1), .dat (.int 4), .own (zs l), .dat d, .dat (.lst (zs (s ++ s.map fun y => 0 - y))), .un, .un]) ?_ ?_
    · walk_at "ev"
      refine wM_lcp ?_
      walk_at "ev"
      refine ⟨rfl, rfl, top_of (by omega), fun _ => true, id, fun y hy => ?_, ?_⟩
      · obtain ⟨y, hy, rfl⟩ := zs_mem hy
        walk_at "ev"
        exact ⟨rfl, rfl, fun _ => rfl⟩
      rw [filt_true, List.map_id]
      walk_at "ev"
      refine wM_lcp ?_
      walk_at "ev"
      refine ⟨rfl, rfl, top_of (by omega), fun _ => true, fun y => match y with | .int y => .int (0 - y) | _ => .non, fun y hy => ?_, ?_⟩
      · obtain ⟨y, hy, rfl⟩ := zs_mem hy
        walk_at "ev"
        exact ⟨rfl, rfl, fun _ => rfl⟩
      rw [filt_true]
      have e1 : (zs s).map (fun y => match y with | .int y => D.int (0 - y) | _ => .non) = zs (s.map fun y => 0 - y) := by
        unfold zs
        rw [List.map_map, List.map_map]; rfl
      rw [e1]
      walk_at "ev"
      rw [addD_lst (by rw [zs_len, zs_len, List.length_map]; exact top_of (by omega)), zs_app]
      walk_at "ev"
    rintro _ _ ⟨rfl, rfl⟩
    obtain ⟨lt, hlt⟩ : ∃ lt, lt = s ++ s.map fun y => 0 - y := ⟨_, rfl⟩
    rw [← hlt]
    have ll : lt.length ≤ 8 := by rw [hlt, List.length_append, List.length_map]; omega
    have ft : fitL n lt := fun y hy => by
      rw [hlt] at hy
      rcases List.mem_append.mp hy with hy | hy
      · have := hs1 y hy; omega
      · obtain ⟨z, hz, rfl⟩ := List.mem_map.mp hy
        have := hs1 z hz; omega
    walk_at "ev"
    refine wM_lcp ?_
    walk_at "ev"
    refine ⟨rfl, rfl, top_of (by omega), fun y => match y with | .int y => decide (l = []) || !decide (some y = l.getLast?.map fun x => 0 - x) | _ => false, id, fun y hy => ?_, ?_⟩
    · obtain ⟨y, hy, rfl⟩ := zs_mem hy
      walk_at "ev"
      refine ⟨rfl, ?_, fun _ => rfl⟩
      refine wM_is ?_
      show wM _ [.dat (.ref a), .dat (.lst (zs s)), .dat (.int 1), .dat (.int 4), .own (zs l), .dat d, .dat (.lst (zs lt)), .un, .dat (.int y)] ls' _ _
      walk_at "ev"
      rcases last_cases l with rfl | ⟨m, x, rfl⟩
      · simp
        rfl
      · rw [decide_eq_false (show ¬ (m ++ [x] = []) by simp)]
        walk_at "ev"
        rw [atD_last]
        walk_at "ev"
        simp
        rfl
    · have hne : ∃ y ∈ lt, (decide (l = []) || !decide (some y = l.getLast?.map fun x => 0 - x)) = true := by
        obtain ⟨d0, hd0⟩ := List.exists_mem_of_ne_nil s hne
        have hd1 := hs1 d0 hd0
        rcases last_cases l with rfl | ⟨m, x, rfl⟩
        · exact ⟨d0, by rw [hlt]; exact List.mem_append_left _ hd0, rfl⟩
        · by_cases hx : d0 = 0 - x
          · refine ⟨0 - d0, by rw [hlt]; exact List.mem_append_right _ (List.mem_map.mpr ⟨d0, hd0, rfl⟩), ?_⟩
            have : ¬ (0 - d0 = 0 - x) := by omega
            simp [this]
            omega
          · exact ⟨d0, by rw [hlt]; exact List.mem_append_left _ hd0, by simp [hx]; omega⟩
      rw [List.map_id, zs_filter]
      obtain ⟨y0, hy0, hc0⟩ := hne
      refine sp_pick (c := c + 19 - done.length - 1) (hs.mono (by omega)) ?_ (by rw [zs_len]; exact Nat.le_trans (List.length_filter_le _ _) (by omega)) fun d1 l1 hd1 hs1 => ?_
      · intro e0
        have : y0 ∈ lt.filter fun i => (decide (l = []) || !decide (some i = l.getLast?.map fun x => 0 - x)) := List.mem_filter.mpr ⟨hy0, hc0⟩
        have e1 : (lt.filter fun i => (decide (l = []) || !decide (some i = l.getLast?.map fun x => 0 - x))) = [] := by
          cases e2 : (lt.filter fun i => (decide (l = []) || !decide (some i = l.getLast?.map fun x => 0 - x))) with
          | nil => rfl
          | cons u v =>
            have e0 : zs (lt.filter fun i => (decide (l = []) || !decide (some i = l.getLast?.map fun x => 0 - x))) = [] := e0
            rw [e2] at e0; cases e0
        rw [e1] at this
        cases this
      · obtain ⟨y, hy, rfl⟩ := zs_mem hd1
        rw [appD_some (by rw [zs_len, el]; exact Nat.lt_of_lt_of_le (show done.length < 1000 by omega) (by decide))]
        refine ⟨l ++ [y], _, _, by rw [← zs_app]; rfl, fitL_app hf fun z hz => ?_, by rw [List.length_append, List.length_append, el]; rfl, hs1.mono ?_⟩
        · rw [List.mem_singleton.mp hz]
          exact ft y (List.mem_filter.mp hy).1
        · rw [List.length_append]; simp; omega
  · rintro ρ ls' ⟨l, s5, s6, rfl, hf, el, hs⟩
    walk_at "ev"
    rw [hlen] at el hs
    refine q l ls' hf (by omega) (hs.mono (by omega))
end
end Pd

set_option Elab.async false
set_option linter.all false
set_option maxRecDepth 100000
set_option maxHeartbeats 4000000
/-! Q7: drawn renamings. -/
namespace Pd
open PySem PySem.Spec PyProof.Rows L2
local macro_rules | `(tactic| walk_at "ev") => `(tactic| try simp only [wM_bnd, wM_ret, wM_opt, wI_some, wM_nam, nmI_dat, nmI_own, gvI_dat, gvI_own, owI_own, inI_int, itI_int, wM_lookd, wM_looks, wM_gived, wM_gives, wM_isB, wM_andM, wM_orM, wM_notM, wM_ifM, wM_andV, wM_orV, wM_notV, wM_bin, wM_uno, wM_dt, wM_ls1, wM_consM, wM_tupM, wM_lstM, wM_itemsM, wM_ritemsM, wM_callM, wM_keyM, wM_methM, wM_meth0M, wM_mthM, wM_chainM, wM_partM, wM_cutM, wP_seqP, wP_lift, wP_skip, wP_brk, wP_cnt, wP_rsP, wP_sto, wP_stoN, wP_setV, wP_setN, wP_retP, wP_drop, wP_ifP, wP_asgP, wP_par2, wP_par3, wP_par2I, wM_consD, wM_consL, stoI_d, stoI_n, wM_callN, wM_keyN, wM_takeM, wP_retN, wFN_k, wFN_x, eqD_zz, neD_zz, lenD_row, lenD_zs, isi_row, items_row, listD_row, tupleD_zs, cut_row, cut_zs, zs_len, minD_int, maxD_int, inD_zs, inD_ktp, ninD_zs, sumD_zs, absD_int, wP_setAtP, wP_setBP, setBK_2, wP_set1, listD_lst, decide_true,  wP_augP, wP_forP, wM_caughtM, catI_mk, hide_nil, hide_cons, hideS_dat, hideS_own, hideS_un, ord2, ord3, lenD_lsk, isntD_bl, tgTup_eq, tgLst_eq, tgCons_eq, tgNil_eq, Option.bind_some, slD,
  addD_int, subD_int, ltD_int, leD_int, gtD_int, geD_int, negD_int, eqD_int, neD_int, neD_zs, eqD_zs, eqD_row, neD_row, isi_tt, lenD_tup, lenD_lst, tupleD_tup, tupleD_lst, listD_tup, listD_lst, itemsD_tup, itemsD_lst, ritemsD_tup, revD_tup, few_nil, few_1, few_2, few_3, few_4, tgName,
  ini, List.map_cons, List.map_nil, List.length_cons, List.length_nil, List.replicate, List.cons_append, List.nil_append, List.getElem?_cons_zero, List.getElem?_cons_succ, List.set_cons_zero, List.set_cons_succ, Nat.reduceAdd, Nat.reduceSub, Nat.reduceLT, Nat.zero_add, Nat.sub_self, if_true, if_false, reduceIte, true_and, and_true, and_self, wF_k, wF_x, Bool.not_true, Bool.not_false, Bool.false_eq_true, Nat.lt_irrefl])
section
variable {en : En} {ls : LS} {a : Addr} {T : List (Addr × Str)} {c : Nat} {G : D → LS → Prop} {E : EX} {n x : Int} {l m lot : List Int} {k B : Nat} {rs gs : List (List Int)}
theorem row1 (i : Int) : D.tup [.int i] = row [i] := rfl
theorem row2 (i j : Int) : D.tup [.int i, .int j] = row [i, j] := rfl
/-- the rows of single letters, made by a comprehension over range(1, n + 1) -/
theorem ones_map (n : Int) : (zs ((List.range n.toNat).map fun (i : Nat) => (1 : Int) + (i : Int))).map (fun d => D.tup [d]) = (ones n).map row := by
  unfold zs ones
  rw [List.map_map, List.map_map, List.map_map]
  rfl
theorem sp_mk_renaming {st : Int} (hn : dOk n) (h2 : 2 ≤ n) (h : Sz a T (c + 20) ls) (s0 : 0 ≤ st) (s3 : st ≤ 3) (q : ∀ (gs bk : List (List Int)) ls', Im n 8 gs → Sz a T c ls' → G (.tup [.lst (gs.map row), .lst (bk.map row)]) ls') : wF (F_law_mk_renaming en [.ref a, .int n, .int st] ls) G E := by
  have hn1 := hn.1
  have hn4 := hn.2
  unfold F_law_mk_renaming
  rw [wF_end]
  unfold p_law_mk_renaming
  obtain ⟨rn, hrn⟩ : ∃ rn, rn = rng2D := ⟨_, rfl⟩
  obtain ⟨rm, hrm⟩ : ∃ rm, rm = rng1D := ⟨_, rfl⟩
  rw [← hrn, ← hrm]
  have r2 : rn [.int 1, .int (n + 1)] = some (zs ((List.range n.toNat).map fun (i : Nat) => (1 : Int) + (i : Int))) := by
    rw [hrn, rng2D_int (by omega) (by omega) (by omega) (by omega), rangeL_zs, show (n + 1 - 1).toNat = n.toNat by omega]
  refine wP_seq (fun ρ l => ls = l ∧ ρ = [.dat (.ref a), .dat (.int n), .dat (.int st), .dat (.lst ((ones n).map row)), .un, .un, .un, .un, .un, .un, .un, .un, .un, .un]) ?_ ?_
  · walk_at "ev"
    refine wM_lcp ?_
    walk_at "ev"
    rw [r2]
    walk_at "ev"
    refine ⟨rfl, rfl, by rw [List.length_map, List.length_range]; exact top_of (by omega), fun _ => true, fun d => .tup [d], fun d hd => ?_, ?_⟩
    · obtain ⟨y, hy, rfl⟩ := zs_mem hd
      walk_at "ev"
      exact ⟨rfl, rfl, fun _ => rfl⟩
    · rw [filt_true, ones_map]
  rintro _ _ ⟨rfl, rfl⟩
  refine wP_seq (fun ρ l => ls = l ∧ ρ = [.dat (.ref a), .dat (.int n), .dat (.int st), .dat (.lst ((ones n).map row)), .own ((ones n).map row), .un, .un, .un, .un, .un, .un, .un, .un, .un]) ?_ ?_
  · walk_at "ev"
  rintro _ _ ⟨rfl, rfl⟩
  rw [wP_seqP, wP_forP]
  walk_at "ev"
  rw [hrm, rng1D_int (by omega) (by omega), rangeL_zs]
  walk_at "ev"
  have hlen : (zs ((List.range st.toNat).map fun (i : Nat) => (0 : Int) + (i : Int))).length = st.toNat := by rw [zs_len]; simp
  refine wP_for (fun done ρ l => ∃ gs bk s5 s6 s7 s9 s10 s11 s12, Im n (2 ^ done.length) gs ∧ Im n (2 ^ done.length) bk ∧ Sz a T (c + 20 - 5 * done.length) l ∧ ρ = [.dat (.ref a), .dat (.int n), .dat (.int st), .dat (.lst (gs.map row)), .own (bk.map row), s5, s6, s7, .un, s9, s10, s11, s12, .un]) ⟨ones n, ones n, .un, .un, .un, .un, .un, .un, .un, Im.ones hn, Im.ones hn, h, rfl⟩ ?_ ?_
  · rintro done d rest ρ l0 ed ⟨gs, bk, s5, s6, s7, s9, s10, s11, s12, hg, hb, hs, rfl⟩
    have hd : done.length + (rest.length + 1) = st.toNat := by rw [← hlen, ed]; simp
    have hp4 : 2 ^ done.length ≤ 4 := Nat.pow_le_pow_right (show 0 < 2 by omega) (show done.length ≤ 2 by omega)
    have hp1 : 1 ≤ 2 ^ done.length := Nat.one_le_two_pow
    have hpe : 2 ^ (done ++ [d]).length = 2 * 2 ^ done.length := by rw [List.length_append, List.length_singleton, Nat.pow_succ, Nat.mul_comm]
    rw [hpe]
    generalize 2 ^ done.length = p at hg hb hp4 hp1 ⊢
    rw [tgName_at (by show 5 < 14; decide)]
    show wP _ [.dat (.ref a), .dat (.int n), .dat (.int st), .dat (.lst (gs.map row)), .own (bk.map row), .dat d, s6, s7, .un, s9, s10, s11, s12, .un] l0 _
    generalize (Sl.dat d) = s5
    have hgl := hg.len
    have hbl := hb.len
    -- way, one
    refine wP_seq (fun ρ l => ∃ wy on, (0 ≤ on ∧ on < n) ∧ Sz a T (c + 18 - 5 * done.length) l ∧ ρ = [.dat (.ref a), .dat (.int n), .dat (.int st), .dat (.lst (gs.map row)), .own (bk.map row), s5, s6, s7, .un, .dat (.int wy), .dat (.int on), s11, s12, .un]) ?_ ?_
    · walk_at "ev"
      refine sp_draw (c := c + 19 - 5 * done.length) (hs.mono (by omega)) (by omega) (by omega) fun r l1 hr0 hr1 hs1 => ?_
      walk_at "ev"
      refine sp_draw (c := c + 18 - 5 * done.length) (hs1.mono (by omega)) (by omega) (by omega) fun r2 l2 hr20 hr21 hs2 => ?_
      walk_at "ev"
      exact ⟨r, r2, ⟨hr20, hr21⟩, hs2, rfl⟩
    rintro _ l1 ⟨wy, on, ⟨o0, o1⟩, hs1, rfl⟩
    -- other
    refine wP_seq (fun ρ l => ∃ ot, (0 ≤ ot ∧ ot < n) ∧ Sz a T (c + 17 - 5 * done.length) l ∧ ρ = [.dat (.ref a), .dat (.int n), .dat (.int st), .dat (.lst (gs.map row)), .own (bk.map row), s5, .dat (.int ot), s7, .un, .dat (.int wy), .dat (.int on), s11, s12, .un]) ?_ ?_
    · walk_at "ev"
      rw [decide_eq_true (show (1 : Int) < n by omega)]
      walk_at "ev"
      refine sp_draw (c := c + 17 - 5 * done.length) (hs1.mono (by omega)) (by omega) (by omega) fun r l2 hr0 hr1 hs2 => ?_
      walk_at "ev"
      rw [modD_int (by omega)]
      walk_at "ev"
      exact ⟨_, ⟨Int.emod_nonneg _ (by omega), Int.emod_lt_of_pos _ (by omega)⟩, hs2, rfl⟩
    rintro _ l2 ⟨ot, ⟨t0, t1⟩, hs2, rfl⟩
    -- step
    refine wP_seq (fun ρ l => l2 = l ∧ ρ = [.dat (.ref a), .dat (.int n), .dat (.int st), .dat (.lst (gs.map row)), .own (bk.map row), s5, .dat (.int ot), .own ((ones n).map row), .un, .dat (.int wy), .dat (.int on), s11, s12, .un]) ?_ ?_
    · walk_at "ev"
      refine wM_lcp ?_
      walk_at "ev"
      rw [r2]
      walk_at "ev"
      refine ⟨rfl, rfl, by rw [List.length_map, List.length_range]; exact top_of (by omega), fun _ => true, fun d => .tup [d], fun d hd => ?_, ?_⟩
      · obtain ⟨y, hy, rfl⟩ := zs_mem hd
        walk_at "ev"
        exact ⟨rfl, rfl, fun _ => rfl⟩
      · rw [filt_true, ones_map]
    rintro _ _ ⟨rfl, rfl⟩
    have ho := (Im.ones hn).mono (show 1 ≤ 2 by omega)
    have hol := ho.len
    -- what is done
    refine wP_seq (fun ρ l => l2 = l ∧ ∃ sp bk s11 s12, Im n 2 sp ∧ Im n (2 * p) bk ∧ ρ = [.dat (.ref a), .dat (.int n), .dat (.int st), .dat (.lst (gs.map row)), .own (bk.map row), s5, .dat (.int ot), .own (sp.map row), .un, .dat (.int wy), .dat (.int on), s11, s12, .un]) ?_ ?_
    · have hb2 := hb.mono (show p ≤ 2 * p by omega)
      have one1 : ∀ i : Int, (0 - n ≤ i ∧ i ≤ n) ∧ i ≠ 0 → fitL n [i] := fun i hi z hz => by rw [List.mem_singleton] at hz; subst hz; exact hi
      have two1 : ∀ i j : Int, (0 - n ≤ i ∧ i ≤ n) ∧ i ≠ 0 → (0 - n ≤ j ∧ j ≤ n) ∧ j ≠ 0 → fitL n [i, j] := fun i j hi hj z hz => by
        rcases List.mem_cons.mp hz with rfl | hz
        · exact hi
        · rw [List.mem_singleton] at hz; subst hz; exact hj
      have bon := hb.all _ (getD_mem2 (gs := bk) (i := on.toNat) (by omega))
      have bot := hb.all _ (getD_mem2 (gs := bk) (i := ot.toNat) (by omega))
      have ab : ∀ i : Int, 0 ≤ i → i < n → atD (.lst (bk.map row)) (.int i) = some (row (bk.getD i.toNat [])) := fun i h0 h1 => atD_rows h0 (by omega)
      walk_at "ev"
      by_cases w0 : wy = 0
      · rw [decide_eq_true w0]
        walk_at "ev"
        rw [row1, setAt_rows o0 (by omega)]
        walk_at "ev"
        rw [ab on o0 o1]
        walk_at "ev"
        rw [sp_mk_undone (by omega)]
        walk_at "ev"
        rw [setAt_rows o0 (by omega)]
        walk_at "ev"
        exact ⟨_, _, _, _, ho.put (one1 _ (by omega)) (by simp), hb2.put (fitL_und bon.1) (by rw [und_len]; omega), rfl⟩
      rw [decide_eq_false w0]
      walk_at "ev"
      by_cases w1 : ot = on
      · rw [decide_eq_true w1]
        walk_at "ev"
        rw [row1, setAt_rows o0 (by omega)]
        walk_at "ev"
        rw [ab on o0 o1]
        walk_at "ev"
        rw [sp_mk_undone (by omega)]
        walk_at "ev"
        rw [setAt_rows o0 (by omega)]
        walk_at "ev"
        exact ⟨_, _, _, _, ho.put (one1 _ (by omega)) (by simp), hb2.put (fitL_und bon.1) (by rw [und_len]; omega), rfl⟩
      rw [decide_eq_false w1]
      walk_at "ev"
      by_cases w2 : wy = 1
      · rw [decide_eq_true w2]
        walk_at "ev"
        rw [row1, setAt_rows o0 (by omega)]
        walk_at "ev"
        rw [row1, setAt_rows t0 (by rw [List.length_set]; omega)]
        walk_at "ev"
        rw [ab ot t0 t1, ab on o0 o1]
        walk_at "ev"
        rw [setAt_rows o0 (by omega)]
        walk_at "ev"
        rw [setAt_rows t0 (by rw [List.length_set]; omega)]
        walk_at "ev"
        exact ⟨_, _, _, _, (ho.put (one1 _ (by omega)) (by simp)).put (one1 _ (by omega)) (by simp), (hb2.put bot.1 (by omega)).put bon.1 (by omega), rfl⟩
      rw [decide_eq_false w2]
      walk_at "ev"
      by_cases w3 : wy = 2
      · rw [decide_eq_true w3]
        walk_at "ev"
        rw [show mulD (.int 1) (.int (ot + 1)) = some (.int (1 * (ot + 1))) from rfl]
        walk_at "ev"
        rw [row2, setAt_rows o0 (by omega)]
        walk_at "ev"
        rw [ab ot t0 t1]
        walk_at "ev"
        rw [sp_mk_undone (by omega)]
        walk_at "ev"
        rw [ab on o0 o1]
        walk_at "ev"
        rw [addD_row (by rw [und_len]; omega)]
        walk_at "ev"
        rw [sp_mk_plain rfl (by rw [List.length_append, und_len]; omega)]
        walk_at "ev"
        rw [setAt_rows o0 (by omega)]
        walk_at "ev"
        have hrl := red_len (bk.getD on.toNat [] ++ und (bk.getD ot.toNat []))
        rw [List.length_append, und_len] at hrl
        exact ⟨_, _, _, _, ho.put (two1 _ _ (by omega) (by omega)) (by simp), hb2.put (fitL_red (fitL_app bon.1 (fitL_und bot.1))) (by omega), rfl⟩
      · rw [decide_eq_false w3]
        walk_at "ev"
        rw [show mulD (.int (0 - 1)) (.int (ot + 1)) = some (.int ((0 - 1) * (ot + 1))) from rfl]
        walk_at "ev"
        rw [row2, setAt_rows o0 (by omega)]
        walk_at "ev"
        rw [show decide ((0 : Int) - 1 = 1) = false from rfl]
        walk_at "ev"
        rw [ab ot t0 t1]
        walk_at "ev"
        rw [ab on o0 o1]
        walk_at "ev"
        rw [addD_row (by omega)]
        walk_at "ev"
        rw [sp_mk_plain rfl (by rw [List.length_append]; omega)]
        walk_at "ev"
        rw [setAt_rows o0 (by omega)]
        walk_at "ev"
        have hrl := red_len (bk.getD on.toNat [] ++ bk.getD ot.toNat [])
        rw [List.length_append] at hrl
        exact ⟨_, _, _, _, ho.put (two1 _ _ (by omega) (by omega)) (by simp), hb2.put (fitL_red (fitL_app bon.1 bot.1)) (by omega), rfl⟩
    rintro _ _ ⟨rfl, sp, bk2, t11, t12, hsp, hbk, rfl⟩
    have hspl := hsp.len
    have fim : ∀ g, g ∈ gs → fitL n (red (g.flatMap (im sp))) ∧ (red (g.flatMap (im sp))).length ≤ 2 * p ∧ F_law_mk_renamed en [.lst (sp.map row), row g] l2 = .ok (row (red (g.flatMap (im sp)))) l2 := fun g hgm => by
      have hgg := hg.all g hgm
      have h1 : (g.flatMap (im sp)).length ≤ g.length * 2 := flatM_len fun z hz => (hsp.im (hgg.1 z hz)).2
      have h2 := red_len (g.flatMap (im sp))
      exact ⟨fitL_red (fitL_flat fun y hy => (hsp.im (hgg.1 y hy)).1), by omega, sp_mk_renamed hsp hgg.1 (by omega) (by omega)⟩
    walk_at "ev"
    refine wM_lc ?_
    walk_at "ev"
    refine ⟨rfl, fun done acc ρ ls => ls = l2 ∧ ∃ gd s7, done = gd.map row ∧ acc = (gd.map fun g => red (g.flatMap (im sp))).map row ∧ (s7 = .own (sp.map row) ∨ s7 = .dat (.lst (sp.map row))) ∧ ρ = [.dat (.ref a), .dat (.int n), .dat (.int st), .dat (.lst (gs.map row)), .own (bk2.map row), s5, .dat (.int ot), s7, .un, .dat (.int wy), .dat (.int on), t11, t12, .un], ⟨rfl, [], _, rfl, rfl, .inl rfl, rfl⟩, ?_, ?_⟩
    · rintro done d rest acc ρ l0 ed ⟨rfl, gd, s7, rfl, rfl, h7, rfl⟩
      obtain ⟨ra, g, rb, er, ea, rfl, _⟩ := map_split ed
      have hra : gd = ra := (List.map_inj_right (fun x y z => row_inj z)).mp ea
      subst hra
      obtain ⟨k1, k2, k3⟩ := fim g (by rw [er]; simp)
      have hal : gd.length ≤ 4 := by
        have := congrArg List.length er
        rw [List.length_append, List.length_cons] at this
        omega
      walk_at "ev"
      rcases h7 with rfl | rfl
      · walk_at "ev"
        rw [k3]
        walk_at "ev"
        exact ⟨by rw [List.length_map, List.length_map]; exact Nat.lt_of_lt_of_le (show _ < 10 by omega) (by decide), gd ++ [g], _, by simp, by simp, .inr rfl, rfl⟩
      · walk_at "ev"
        rw [k3]
        walk_at "ev"
        exact ⟨by rw [List.length_map, List.length_map]; exact Nat.lt_of_lt_of_le (show _ < 10 by omega) (by decide), gd ++ [g], _, by simp, by simp, .inr rfl, rfl⟩
    · rintro acc ρ l0 ⟨rfl, gd, s7, ed, rfl, _, rfl⟩
      have hra : gs = gd := (List.map_inj_right (fun x y z => row_inj z)).mp ed
      subst hra
      walk_at "ev"
      refine ⟨_, _, _, _, _, _, _, _, _, ⟨by rw [List.length_map]; exact hgl, fun q hq => ?_⟩, hbk, hs2.mono (by rw [List.length_append, List.length_singleton]; omega), rfl⟩
      obtain ⟨g, hgm, rfl⟩ := List.mem_map.mp hq
      obtain ⟨k1, k2, _⟩ := fim g hgm
      exact ⟨k1, k2⟩
  · rintro ρ l ⟨gs, bk, s5, s6, s7, s9, s10, s11, s12, hg, hb, hs, rfl⟩
    walk_at "ev"
    refine q gs bk l (hg.mono ?_) (hs.mono (by omega))
    rw [hlen]
    exact Nat.pow_le_pow_right (show 0 < 2 by omega) (show st.toNat ≤ 3 by omega)
end
end Pd

set_option Elab.async false
set_option linter.all false
set_option maxRecDepth 100000
set_option maxHeartbeats 4000000
/-! Q8: drawn rows, moves. -/
namespace Pd
open PySem PySem.Spec PyProof.Rows L2
def okB (n : Int) (B : Nat) (rs : List (List Int)) : Prop := ∀ x ∈ rs, fitL n x ∧ x.length ≤ B
theorem intD_int {i : Int} : intD (.int i) = some (.int i) := rfl
theorem sortedD_zs {l : List Int} : sortedD (.lst (zs l)) = some (zs (srtI l)) := by
  show (intsOf (zs l)).map _ = _
  rw [intsOf_zs]; rfl
theorem fit_one {n i : Int} (h : (0 - n ≤ i ∧ i ≤ n) ∧ i ≠ 0) : fitL n [i] := fun z hz => by rw [List.mem_singleton] at hz; subst hz; exact h
theorem fit_cons {n i : Int} {l : List Int} (h : (0 - n ≤ i ∧ i ≤ n) ∧ i ≠ 0) (h2 : fitL n l) : fitL n (i :: l) := fun z hz => by
  rcases List.mem_cons.mp hz with rfl | hz
  · exact h
  · exact h2 z hz
local macro_rules | `(tactic| walk_at "ev") => `(tactic| try simp only [wM_bnd, wM_ret, wM_opt, wI_some, wM_nam, nmI_dat, nmI_own, gvI_dat, gvI_own, owI_own, inI_int, itI_int, wM_lookd, wM_looks, wM_gived, wM_gives, wM_isB, wM_andM, wM_orM, wM_notM, wM_ifM, wM_andV, wM_orV, wM_notV, wM_bin, wM_uno, wM_dt, wM_ls1, wM_consM, wM_tupM, wM_lstM, wM_itemsM, wM_ritemsM, wM_callM, wM_keyM, wM_methM, wM_meth0M, wM_mthM, wM_chainM, wM_partM, wM_cutM, wP_seqP, wP_lift, wP_skip, wP_brk, wP_cnt, wP_rsP, wP_sto, wP_stoN, wP_setV, wP_setN, wP_retP, wP_drop, wP_ifP, wP_asgP, wP_par2, wP_par3, wP_par2I, wM_consD, wM_consL, stoI_d, stoI_n, wM_callN, wM_keyN, wM_takeM, wP_retN, wFN_k, wFN_x, eqD_zz, neD_zz, lenD_row, lenD_zs, isi_row, items_row, listD_row, tupleD_zs, cut_row, cut_zs, zs_len, minD_int, maxD_int, inD_zs, inD_ktp, ninD_zs, sumD_zs, absD_int, listD_lst, decide_true, intD_int, sortedD_zs,  wP_augP, wP_forP, wM_caughtM, catI_mk, hide_nil, hide_cons, hideS_dat, hideS_own, hideS_un, ord2, ord3, lenD_lsk, isntD_bl, tgTup_eq, tgLst_eq, tgCons_eq, tgNil_eq, Option.bind_some, slD,
  addD_int, subD_int, ltD_int, leD_int, gtD_int, geD_int, negD_int, eqD_int, neD_int, neD_zs, eqD_zs, eqD_row, neD_row, isi_tt, lenD_tup, lenD_lst, tupleD_tup, tupleD_lst, listD_tup, listD_lst, itemsD_tup, itemsD_lst, ritemsD_tup, revD_tup, few_nil, few_1, few_2, few_3, few_4, tgName,
  ini, List.map_cons, List.map_nil, List.length_cons, List.length_nil, List.replicate, List.cons_append, List.nil_append, List.getElem?_cons_zero, List.getElem?_cons_succ, List.set_cons_zero, List.set_cons_succ, Nat.reduceAdd, Nat.reduceSub, Nat.reduceLT, Nat.zero_add, Nat.sub_self, if_true, if_false, reduceIte, true_and, and_true, and_self, wF_k, wF_x, Bool.not_true, Bool.not_false, Bool.false_eq_true, Nat.lt_irrefl])
section
variable {en : En} {ls : LS} {a : Addr} {T : List (Addr × Str)} {c : Nat} {G : D → LS → Prop} {E : EX} {n x : Int} {l m lot : List Int} {k B : Nat} {rs gs : List (List Int)}
theorem sp_sh_base (hn : dOk n) (h2 : 2 ≤ n) (h : Sz a T (c + 30) ls) (q : ∀ l ls', fitL n l → l.length ≤ 5 → Sz a T c ls' → G (row l) ls') : wF (F_law_sh_base en [.ref a, .int n] ls) G E := by
  have hn1 := hn.1
  have hn4 := hn.2
  unfold F_law_sh_base
  rw [wF_end]
  unfold p_law_sh_base
  walk_at "ev"
  refine sp_draw (c := c + 29) h (by omega) (by omega) fun wy l1 w0 w1 hs1 => ?_
  walk_at "ev"
  refine sp_draw (c := c + 28) hs1 (by omega) (by omega) fun on l2 o0 o1 hs2 => ?_
  walk_at "ev"
  refine sp_draw (c := c + 27) hs2 (by split <;> omega) (by split <;> omega) fun ot l3 t0 t1 hs3 => ?_
  walk_at "ev"
  rw [modD_int (by omega)]
  walk_at "ev"
  obtain ⟨o, ho⟩ : ∃ o, o = 1 + on := ⟨_, rfl⟩
  obtain ⟨t, ht⟩ : ∃ t, t = 1 + (o + ot) % n := ⟨_, rfl⟩
  have m0 := Int.emod_nonneg (o + ot) (show n ≠ 0 by omega)
  have m1 := Int.emod_lt_of_pos (o + ot) (show 0 < n by omega)
  rw [← ho, ← ht]
  refine sp_draw (c := c + 26) hs3 (by omega) (by omega) fun r l4 r0 r1 hs4 => ?_
  walk_at "ev"
  rw [mulD_tup (by omega) (by omega) (by simp), rep1]
  walk_at "ev"
  have fo : (0 - n ≤ o ∧ o ≤ n) ∧ o ≠ 0 := by omega
  have ft : (0 - n ≤ t ∧ t ≤ n) ∧ t ≠ 0 := by omega
  have fo' : (0 - n ≤ 0 - o ∧ 0 - o ≤ n) ∧ 0 - o ≠ 0 := by omega
  have ft' : (0 - n ≤ 0 - t ∧ 0 - t ≤ n) ∧ 0 - t ≠ 0 := by omega
  have nil : fitL n [] := fun z hz => nomatch hz
  by_cases h4 : wy < 4
  · rw [decide_eq_true h4]
    walk_at "ev"
    obtain ⟨fam, hfam⟩ : ∃ fam : List (List Int), fam = [[o], List.replicate (2 + r).toNat o, [o, t, 0 - o, 0 - t], [o, o, t, t]] := ⟨_, rfl⟩
    have e1 : D.lst [.tup [.int o], .tup (List.replicate (2 + r).toNat (D.int o)), .tup [.int o, .int t, .int (0 - o), .int (0 - t)], .tup [.int o, .int o, .int t, .int t]] = .lst (fam.map row) := by
      rw [hfam]
      show _ = D.lst [row [o], row (List.replicate (2 + r).toNat o), row [o, t, 0 - o, 0 - t], row [o, o, t, t]]
      have : row (List.replicate (2 + r).toNat o) = .tup (List.replicate (2 + r).toNat (D.int o)) := by unfold row zs; rw [List.map_replicate]
      rw [this]; rfl
    have hall : ∀ g ∈ fam, fitL n g ∧ g.length ≤ 4 := fun g hg => by
      rw [hfam] at hg
      simp only [List.mem_cons, List.not_mem_nil, or_false] at hg
      rcases hg with rfl | rfl | rfl | rfl
      · exact ⟨fit_one fo, by simp⟩
      · exact ⟨fun z hz => by rw [(List.mem_replicate.mp hz).2]; exact fo, by rw [List.length_replicate]; omega⟩
      · exact ⟨fit_cons fo (fit_cons ft (fit_cons fo' (fit_one ft'))), by simp⟩
      · exact ⟨fit_cons fo (fit_cons fo (fit_cons ft (fit_one ft))), by simp⟩
    have hfl : fam.length = 4 := by rw [hfam]; rfl
    rw [e1, atD_rows w0 (by omega)]
    walk_at "ev"
    obtain ⟨k1, k2⟩ := hall _ (getD_mem2 (gs := fam) (i := wy.toNat) (by omega))
    rw [sp_mk_plain rfl (by omega)]
    walk_at "ev"
    have := red_len (fam.getD wy.toNat [])
    exact q _ _ (fitL_red k1) (by omega) (hs4.mono (by omega))
  · rw [decide_eq_false h4]
    walk_at "ev"
    by_cases h5 : wy = 4
    · rw [decide_eq_true h5]
      walk_at "ev"
      refine sp_mk_row (c := c) hn (hs4.mono (by omega)) (by omega) (by omega) (by omega) fun l l5 hf hl _ hs5 => ?_
      walk_at "ev"
      exact q _ _ hf (by omega) hs5
    · rw [decide_eq_false h5]
      walk_at "ev"
      refine sp_mk_row (c := c) hn (hs4.mono (by omega)) (by omega) (by omega) (by omega) fun l l5 hf hl _ hs5 => ?_
      walk_at "ev"
      exact q _ _ hf (by omega) hs5
theorem srt_lt {l : List Int} (h : l.Nodup) : (srtI l).Pairwise (· < ·) := by
  have h1 := srtI_pw l
  have h2 : (srtI l).Nodup := (srtI_perm l).nodup_iff.mpr h
  have h3 := h1.and h2
  exact h3.imp fun ⟨a, b⟩ => by omega
theorem sp_rn_move (hn : dOk n) (h2 : 2 ≤ n) (h : Sz a T (c + 12) ls) (q : ∀ x lot ls', Mv n x lot → Sz a T c ls' → G (.tup [.int x, row lot]) ls') : wF (F_law_rn_move en [.ref a, .int n] ls) G E := by
  have hn1 := hn.1
  have hn4 := hn.2
  obtain ⟨f1, f2, f3, f4⟩ := lts_ok hn
  unfold F_law_rn_move
  rw [wF_end]
  unfold p_law_rn_move
  walk_at "ev"
  rw [sp_letters hn]
  walk_at "ev"
  have hne : zs (lts n) ≠ [] := fun z => by
    have := f4 1 (by omega)
    have e : lts n = [] := zs_inj (b := []) z
    rw [e] at this
    cases this
  refine sp_pick (c := c + 11) h hne (by rw [zs_len]; omega) fun d l1 hd hs1 => ?_
  obtain ⟨x, hx, rfl⟩ := zs_mem hd
  have fx := f1 x hx
  walk_at "ev"
  -- others
  refine wM_lcp ?_
  walk_at "ev"
  rw [sp_letters hn]
  walk_at "ev"
  obtain ⟨os, hos⟩ : ∃ os, os = (lts n).filter fun y => !decide (((y.natAbs : Nat) : Int) = (x.natAbs : Nat)) := ⟨_, rfl⟩
  have ol : os.length ≤ 8 := by rw [hos]; exact Nat.le_trans (List.length_filter_le _ _) f2
  have ond : os.Nodup := by rw [hos]; exact f3.filter _
  have om : ∀ y ∈ os, ((0 - n ≤ y ∧ y ≤ n) ∧ y ≠ 0) ∧ y ≠ x ∧ y ≠ 0 - x := fun y hy => by
    rw [hos] at hy
    obtain ⟨h1, h2⟩ := List.mem_filter.mp hy
    have h2 : ¬ ((y.natAbs : Nat) : Int) = (x.natAbs : Nat) := by simpa using h2
    exact ⟨f1 y h1, by omega, by omega⟩
  have one : os ≠ [] := fun z => by
    have go : ∀ y : Int, (0 - n ≤ y ∧ y ≤ n) ∧ y ≠ 0 → ¬ ((y.natAbs : Nat) : Int) = (x.natAbs : Nat) → False := fun y hy h => by
      have : y ∈ os := by rw [hos]; exact List.mem_filter.mpr ⟨f4 y hy, by simpa using h⟩
      rw [z] at this; cases this
    by_cases e : x.natAbs = 1
    · exact go 2 (by omega) (by omega)
    · exact go 1 (by omega) (by omega)
  refine ⟨rfl, rfl, top_of (by omega), fun d => match d with | .int y => !decide (((y.natAbs : Nat) : Int) = (x.natAbs : Nat)) | _ => false, id, fun d hd => ?_, ?_⟩
  · obtain ⟨y, hy, rfl⟩ := zs_mem hd
    walk_at "ev"
    refine ⟨rfl, wM_is ?_, fun _ => rfl⟩
    show wM _ [.dat (.ref a), .dat (.int n), .dat (.int x), .un, .un, .dat (.int y)] l1 _ _
    walk_at "ev"
    all_goals first | exact ⟨rfl, rfl⟩ | rfl
  rw [List.map_id, zs_filter]
  have e1 : ((lts n).filter fun i => (match D.int i with | .int y => !decide (((y.natAbs : Nat) : Int) = (x.natAbs : Nat)) | _ => false)) = os := by rw [hos]
  rw [e1]
  walk_at "ev"
  -- the lot
  refine wM_lc ?_
  walk_at "ev"
  refine ⟨rfl, fun done acc ρ l => ∃ od lo, done = zs od ∧ acc = zs lo ∧ lo.Sublist od ∧ Sz a T (c + 11 - od.length) l ∧ ρ = [.dat (.ref a), .dat (.int n), .dat (.int x), .dat (.lst (zs os)), .un, .un], ⟨[], [], rfl, rfl, List.Sublist.refl _, hs1, rfl⟩, ?_, ?_⟩
  · rintro done d rest acc ρ l0 ed ⟨od, lo, rfl, rfl, hsub, hs, rfl⟩
    obtain ⟨la, y, lb, el, ea, rfl, eb⟩ := zs_split ed
    have e2 : od = la := zs_inj ea
    subst e2
    have hdl : od.length + 1 ≤ 8 := by
      have := congrArg List.length el
      rw [List.length_append, List.length_cons] at this
      omega
    have hsl := hsub.length_le
    walk_at "ev"
    refine sp_draw (c := c + 10 - od.length) (hs.mono (by omega)) (by omega) (by omega) fun r l2 r0 r1 hs2 => ?_
    walk_at "ev"
    by_cases h1 : r = 1
    · rw [decide_eq_true h1]
      walk_at "ev"
      exact ⟨Nat.lt_of_lt_of_le (show _ < 10 by omega) (by decide), od ++ [y], lo ++ [y], by rw [← zs_app]; rfl, by rw [← zs_app]; rfl, hsub.append (List.Sublist.refl _), hs2.mono (by rw [List.length_append, List.length_singleton]; omega), rfl⟩
    · rw [decide_eq_false h1]
      walk_at "ev"
      exact ⟨od ++ [y], lo, by rw [← zs_app]; rfl, rfl, hsub.trans (List.sublist_append_left _ _), hs2.mono (by rw [List.length_append, List.length_singleton]; omega), rfl⟩
  · rintro acc ρ l0 ⟨od, lo, ed, rfl, hsub, hs, rfl⟩
    have e2 : os = od := zs_inj ed
    subst e2
    have mk : ∀ lo : List Int, lo ≠ [] → lo.Sublist os → Mv n x (srtI lo) := fun lo hl hsub => by
      have hm : ∀ y ∈ srtI lo, y ∈ os := fun y hy => hsub.subset ((srtI_perm lo).mem_iff.mp hy)
      refine ⟨fx, fun z => hl ?_, fun y hy => (om y (hm y hy)).1, fun y hy => (om y (hm y hy)).2, srt_lt (ond.sublist hsub), ?_⟩
      · have := (srtI_perm lo).length_eq
        rw [z] at this
        exact List.length_eq_zero_iff.mp this.symm
      · rw [(srtI_perm lo).length_eq]
        exact Nat.le_trans hsub.length_le ol
    walk_at "ev"
    rw [show unwipe [.dat (.ref a), .dat (.int n), .dat (.int x), .dat (.lst (zs os)), .un, .un] [.dat (.ref a), .dat (.int n), .dat (.int x), .dat (.lst (zs os)), .un, .un] [5] = [.dat (.ref a), .dat (.int n), .dat (.int x), .dat (.lst (zs os)), .un, .un] from rfl]
    walk_at "ev"
    by_cases hl : lo = []
    · rw [decide_eq_true hl]
      walk_at "ev"
      refine sp_pick (c := c + 11 - os.length - 1) (hs.mono (by omega)) (fun z => one (zs_inj (b := []) z)) (by rw [zs_len]; omega) fun d l2 hd hs2 => ?_
      obtain ⟨y, hy, rfl⟩ := zs_mem hd
      walk_at "ev"
      rw [show D.lst [.int y] = .lst (zs [y]) from rfl]
      walk_at "ev"
      exact q x _ _ (mk [y] (by simp) (List.singleton_sublist.mpr hy)) (hs2.mono (by omega))
    · rw [decide_eq_false hl]
      walk_at "ev"
      exact q x _ _ (mk lo hl hsub) (hs.mono (by omega))
theorem lr2D_zs {n : Int} (h1 : 1 ≤ n) (h2 : n ≤ 4) : lr2D (.int 1) (.int (n + 1)) = some (zs ((List.range n.toNat).map fun (i : Nat) => (1 : Int) + (i : Int))) := by
  rw [lr2D_int (by omega) (by omega) (by omega) (by omega), rangeL_zs, show (n + 1 - 1).toNat = n.toNat by omega]
theorem sp_cu_rows (hn : dOk n) (h2 : 2 ≤ n) (h : Sz a T (c + 400) ls) (q : ∀ rs ls', okB n 200 rs → rs.length ≤ 4 → Sz a T c ls' → G (.lst (rs.map row)) ls') : wF (F_law_cu_rows en [.ref a, .int n] ls) G E := by
  have hn1 := hn.1
  have hn4 := hn.2
  unfold F_law_cu_rows
  rw [wF_end]
  unfold p_law_cu_rows
  obtain ⟨rn, hrn⟩ : ∃ rn, rn = rng1D := ⟨_, rfl⟩
  rw [← hrn]
  refine wP_seq (fun ρ l => ∃ wy, Sz a T (c + 399) l ∧ ρ = [.dat (.ref a), .dat (.int n), .un, .dat (.int wy), .dat (.lst (([] : List (List Int)).map row)), .un, .un, .un, .un, .un]) ?_ ?_
  · walk_at "ev"
    refine sp_draw (c := c + 399) h (by omega) (by omega) fun wy l1 w0 w1 hs1 => ?_
    walk_at "ev"
    exact ⟨wy, hs1, rfl⟩
  rintro _ l1 ⟨wy, hs1, rfl⟩
  refine wP_seq (fun ρ l => ∃ rs s5 s6 s7, okB n 5 rs ∧ rs.length ≤ 4 ∧ Sz a T (c + 200) l ∧ ρ = [.dat (.ref a), .dat (.int n), .un, .dat (.int wy), .dat (.lst (rs.map row)), s5, s6, s7, .un, .un]) ?_ ?_
  · walk_at "ev"
    by_cases c0 : wy = 0
    · rw [decide_eq_true c0]
      walk_at "ev"
      refine sp_draw (c := c + 398) hs1 (by omega) (by omega) fun r l2 r0 r1 hs2 => ?_
      walk_at "ev"
      exact ⟨[[1 + r]], _, _, _, fun x hx => by rw [List.mem_singleton] at hx; subst hx; exact ⟨fit_one (by omega), by simp⟩, by simp, hs2.mono (by omega), rfl⟩
    rw [decide_eq_false c0]
    walk_at "ev"
    by_cases c1 : wy = 1
    · rw [decide_eq_true c1]
      walk_at "ev"
      rw [lr2D_zs hn1 hn4]
      walk_at "ev"
      have rl : ((List.range n.toNat).map fun (i : Nat) => (1 : Int) + (i : Int)).length = n.toNat := by rw [List.length_map, List.length_range]
      refine sp_shuffled (c := c + 390) (by rw [rl]; omega) (hs1.mono (by rw [rl]; omega)) fun s l2 hp hs2 => ?_
      have sl := hp.length_eq
      rw [rl] at sl
      have sm : ∀ d ∈ s, 1 ≤ d ∧ d ≤ n := fun d hd => by
        obtain ⟨i, hi, rfl⟩ := List.mem_map.mp (hp.mem_iff.mp hd)
        have := List.mem_range.mp hi
        omega
      walk_at "ev"
      refine sp_draw (c := c + 389) hs2 (by split <;> omega) (by split <;> omega) fun r l3 r0 r1 hs3 => ?_
      walk_at "ev"
      have r1 : r < 4 := by
        split at r1 <;> omega
      obtain ⟨cu, hcu⟩ : ∃ cu : Nat, (cu : Int) = 1 + r := ⟨(1 + r).toNat, by omega⟩
      rw [← hcu, cutG_to2, show cutG s (some (cu : Int)) none = s.drop (min cu s.length) by
        unfold cutG
        rw [HT.sIx_nat, List.take_of_length_le (by rw [List.length_drop]; exact Nat.le_refl _)]]
      have two : ∀ d ∈ [D.lst (zs (s.take cu)), D.lst (zs (s.drop (min cu s.length)))], ∃ t, d = .lst (zs t) ∧ (∀ y ∈ t, 1 ≤ y ∧ y ≤ n) ∧ t.length ≤ 4 := fun d hd => by
        simp only [List.mem_cons, List.not_mem_nil, or_false] at hd
        rcases hd with rfl | rfl
        · exact ⟨_, rfl, fun y hy => sm y (List.mem_of_mem_take hy), by rw [List.length_take]; omega⟩
        · exact ⟨_, rfl, fun y hy => sm y (List.mem_of_mem_drop hy), by rw [List.length_drop]; omega⟩
      have l2 : [D.lst (zs (s.take cu)), D.lst (zs (s.drop (min cu s.length)))].length = 2 := rfl
      generalize [D.lst (zs (s.take cu)), D.lst (zs (s.drop (min cu s.length)))] = tw at two l2
      refine wP_for (fun done ρ l => ∃ rs s7, okB n 5 rs ∧ rs.length ≤ 2 * done.length ∧ Sz a T (c + 389 - 90 * done.length) l ∧ ρ = [.dat (.ref a), .dat (.int n), .un, .dat (.int wy), .dat (.lst (rs.map row)), .dat (.lst (zs s)), .dat (.int cu), s7, .un, .un]) ⟨[], .un, (fun x hx => nomatch hx), Nat.zero_le _, hs3.mono (by simp), rfl⟩ ?_ ?_
      · rintro done d rest ρ l0 ed ⟨rs, s7, hb, hl, hs, rfl⟩
        obtain ⟨t, rfl, ht, htl⟩ := two d (by rw [ed]; simp)
        have hd : done.length + (rest.length + 1) = 2 := by rw [← l2, ed]; simp
        walk_at "ev"
        refine wM_lc ?_
        walk_at "ev"
        refine sp_draw (c := c + 388 - 90 * done.length) (hs.mono (by omega)) (by omega) (by omega) fun r2 l4 r20 r21 hs4 => ?_
        walk_at "ev"
        rw [hrn, rng1D_int (by omega) (by omega), rangeL_zs]
        walk_at "ev"
        refine ⟨rfl, fun dn acc ρ l => ∃ rs2, acc = rs2.map row ∧ okB n 5 rs2 ∧ rs2.length ≤ dn.length ∧ Sz a T (c + 388 - 90 * done.length - 21 * dn.length) l ∧ ρ = [.dat (.ref a), .dat (.int n), .un, .dat (.int wy), .dat (.lst (rs.map row)), .dat (.lst (zs s)), .dat (.int cu), .dat (.lst (zs t)), .un, .un], ⟨[], rfl, (fun x hx => nomatch hx), Nat.le_refl _, hs4.mono (by simp), rfl⟩, ?_, ?_⟩
        · rintro dn d rest acc ρ l0 ed2 ⟨rs2, rfl, hb2, hl2, hs5, rfl⟩
          have hdn : dn.length + (rest.length + 1) ≤ 2 := by
            have := congrArg List.length ed2
            rw [zs_len, List.length_map, List.length_range, List.length_append, List.length_cons] at this
            omega
          walk_at "ev"
          by_cases he : t = []
          · rw [decide_eq_true he]
            walk_at "ev"
            exact ⟨rs2, rfl, hb2, by rw [List.length_append]; omega, hs5.mono (by rw [List.length_append, List.length_singleton]; omega), rfl⟩
          · rw [decide_eq_false he]
            walk_at "ev"
            refine sp_mk_of_deeds (n := n) (c := c + 367 - 90 * done.length - 21 * dn.length) ht he htl (hs5.mono (by omega)) fun x l5 hf hxl hs6 => ?_
            walk_at "ev"
            refine ⟨by rw [List.length_map]; exact Nat.lt_of_lt_of_le (show _ < 10 by omega) (by decide), rs2 ++ [x], by simp, fun y hy => ?_, by rw [List.length_append, List.length_append, List.length_singleton, List.length_singleton]; omega, hs6.mono (by rw [List.length_append, List.length_singleton]; omega), rfl⟩
            rcases List.mem_append.mp hy with hy | hy
            · exact hb2 y hy
            · rw [List.mem_singleton] at hy; subst hy; exact ⟨hf, by omega⟩
        · rintro acc ρ l0 ⟨rs2, rfl, hb2, hl2, hs5, rfl⟩
          rw [zs_len, List.length_map, List.length_range] at hl2 hs5
          walk_at "ev"
          rw [show unwipe [.dat (.ref a), .dat (.int n), .un, .dat (.int wy), .dat (.lst (rs.map row)), .dat (.lst (zs s)), .dat (.int cu), .dat (.lst (zs t)), .un, .un] [.dat (.ref a), .dat (.int n), .un, .dat (.int wy), .dat (.lst (rs.map row)), .dat (.lst (zs s)), .dat (.int cu), .dat (.lst (zs t)), .un, .un] [9] = [.dat (.ref a), .dat (.int n), .un, .dat (.int wy), .dat (.lst (rs.map row)), .dat (.lst (zs s)), .dat (.int cu), .dat (.lst (zs t)), .un, .un] from rfl, addD_lst (by rw [List.length_map, List.length_map]; exact top_of (by omega)), ← List.map_append]
          walk_at "ev"
          refine ⟨rs ++ rs2, _, fun y hy => ?_, by rw [List.length_append, List.length_append, List.length_singleton]; omega, hs5.mono (by rw [List.length_append, List.length_singleton]; omega), rfl⟩
          rcases List.mem_append.mp hy with hy | hy
          · exact hb y hy
          · exact hb2 y hy
      · rintro ρ l0 ⟨rs, s7, hb, hl, hs, rfl⟩
        rw [l2] at hl hs
        exact ⟨rs, _, _, _, hb, by omega, hs.mono (by omega), rfl⟩
    · rw [decide_eq_false c1]
      walk_at "ev"
      refine wM_lc ?_
      walk_at "ev"
      refine sp_draw (c := c + 398) hs1 (by omega) (by omega) fun r l2 r0 r1 hs2 => ?_
      walk_at "ev"
      rw [hrn, rng1D_int (by omega) (by omega), rangeL_zs]
      walk_at "ev"
      refine ⟨rfl, fun done acc ρ l => ∃ rs, acc = rs.map row ∧ okB n 5 rs ∧ rs.length = done.length ∧ Sz a T (c + 390 - 30 * done.length) l ∧ ρ = [.dat (.ref a), .dat (.int n), .un, .dat (.int wy), .dat (.lst []), .un, .un, .un, .un, .un], ⟨[], rfl, (fun x hx => nomatch hx), rfl, hs2.mono (by simp), rfl⟩, ?_, ?_⟩
      · rintro done d rest acc ρ l0 ed ⟨rs, rfl, hb, hl, hs, rfl⟩
        have hd : done.length + (rest.length + 1) ≤ 3 := by
          have := congrArg List.length ed
          rw [zs_len, List.length_map, List.length_range, List.length_append, List.length_cons] at this
          omega
        walk_at "ev"
        refine sp_sh_base (c := c + 360 - 30 * done.length) hn h2 (hs.mono (by omega)) fun x l3 hf hxl hs3 => ?_
        walk_at "ev"
        refine ⟨by rw [List.length_map]; exact Nat.lt_of_lt_of_le (show _ < 10 by omega) (by decide), rs ++ [x], by simp, fun y hy => ?_, by rw [List.length_append, List.length_append, hl]; rfl, hs3.mono (by rw [List.length_append, List.length_singleton]; omega), rfl⟩
        rcases List.mem_append.mp hy with hy | hy
        · exact hb y hy
        · rw [List.mem_singleton] at hy; subst hy; exact ⟨hf, hxl⟩
      · rintro acc ρ l0 ⟨rs, rfl, hb, hl, hs, rfl⟩
        rw [zs_len, List.length_map, List.length_range] at hl hs
        walk_at "ev"
        exact ⟨rs, _, _, _, hb, by omega, hs.mono (by omega), rfl⟩
  rintro _ l2 ⟨rs, s5, s6, s7, hb, hl, hs2, rfl⟩
  refine wP_seq (fun ρ l => ∃ gs, Im n 8 gs ∧ Sz a T (c + 170) l ∧ ρ = [.dat (.ref a), .dat (.int n), .dat (.lst (gs.map row)), .dat (.int wy), .dat (.lst (rs.map row)), s5, s6, s7, .un, .un]) ?_ ?_
  · walk_at "ev"
    refine sp_draw (c := c + 199) hs2 (by omega) (by omega) fun r l3 r0 r1 hs3 => ?_
    walk_at "ev"
    refine sp_mk_renaming (c := c + 170) hn h2 (hs3.mono (by omega)) r0 (by omega) fun gs bk l4 hg hs4 => ?_
    walk_at "ev"
    rw [show atD (.tup [.lst (gs.map row), .lst (bk.map row)]) (.int 0) = some (.lst (gs.map row)) from rfl]
    walk_at "ev"
    exact ⟨gs, hg, hs4, rfl⟩
  rintro _ l3 ⟨gs, hg, hs3, rfl⟩
  walk_at "ev"
  refine wM_lc ?_
  walk_at "ev"
  refine ⟨rfl, fun done acc ρ l => ∃ rd ro, done = rd.map row ∧ acc = ro.map row ∧ okB n 200 ro ∧ ro.length = rd.length ∧ Sz a T (c + 170 - 21 * rd.length) l ∧ ρ = [.dat (.ref a), .dat (.int n), .dat (.lst (gs.map row)), .dat (.int wy), .dat (.lst (rs.map row)), s5, s6, s7, .un, .un], ⟨[], [], rfl, rfl, (fun x hx => nomatch hx), rfl, hs3.mono (by simp), rfl⟩, ?_, ?_⟩
  · rintro done d rest acc ρ l0 ed ⟨rd, ro, rfl, rfl, hb2, hl2, hs4, rfl⟩
    obtain ⟨ra, x, rb, er, ea, rfl, _⟩ := map_split ed
    have hra : rd = ra := (List.map_inj_right (fun x y z => row_inj z)).mp ea
    subst hra
    obtain ⟨hf, hxl⟩ := hb x (by rw [er]; simp)
    have hdl : rd.length + 1 ≤ 4 := by
      have := congrArg List.length er
      rw [List.length_append, List.length_cons] at this
      omega
    have h1 : (x.flatMap (im gs)).length ≤ x.length * 8 := flatM_len fun z hz => (hg.im (hf z hz)).2
    have h3 := red_len (x.flatMap (im gs))
    walk_at "ev"
    rw [sp_mk_renamed hg hf (by omega) (by omega)]
    walk_at "ev"
    refine sp_mk_row (c := c + 150 - 21 * rd.length) hn (hs4.mono (by omega)) (by omega) (by omega) (by omega) fun b l5 hfb hbl _ hs5 => ?_
    walk_at "ev"
    rw [sp_rn_turned (by omega) (by omega)]
    walk_at "ev"
    have h4 := red_len (b ++ red (x.flatMap (im gs)) ++ und b)
    rw [List.length_append, List.length_append, und_len] at h4
    refine ⟨by rw [List.length_map]; exact Nat.lt_of_lt_of_le (show _ < 10 by omega) (by decide), rd ++ [x], ro ++ [red (b ++ red (x.flatMap (im gs)) ++ und b)], by simp, by simp, fun y hy => ?_, by rw [List.length_append, List.length_append, hl2]; rfl, hs5.mono (by rw [List.length_append, List.length_singleton]; omega), rfl⟩
    rcases List.mem_append.mp hy with hy | hy
    · exact hb2 y hy
    · rw [List.mem_singleton] at hy
      subst hy
      exact ⟨fitL_red (fitL_app (fitL_app hfb (fitL_red (fitL_flat fun y hy => (hg.im (hf y hy)).1))) (fitL_und hfb)), by omega⟩
  · rintro acc ρ l0 ⟨rd, ro, ed, rfl, hb2, hl2, hs4, rfl⟩
    have hra : rs = rd := (List.map_inj_right (fun x y z => row_inj z)).mp ed
    subst hra
    walk_at "ev"
    exact q ro l0 hb2 (by omega) (hs4.mono (by omega))
end
end Pd

set_option Elab.async false
set_option linter.all false
set_option maxRecDepth 100000
set_option maxHeartbeats 4000000
/-! Q9: what is no list of rows, no move; all moves of two deeds. -/
namespace Pd
open PySem PySem.Spec PyProof.Rows L2
local macro_rules | `(tactic| walk_at "ev") => `(tactic| try simp only [wM_bnd, wM_ret, wM_opt, wI_some, wM_nam, nmI_dat, nmI_own, gvI_dat, gvI_own, owI_own, inI_int, itI_int, wM_lookd, wM_looks, wM_gived, wM_gives, wM_isB, wM_andM, wM_orM, wM_notM, wM_ifM, wM_andV, wM_orV, wM_notV, wM_bin, wM_uno, wM_dt, wM_ls1, wM_consM, wM_tupM, wM_lstM, wM_itemsM, wM_ritemsM, wM_callM, wM_keyM, wM_methM, wM_meth0M, wM_mthM, wM_chainM, wM_partM, wM_cutM, wP_seqP, wP_lift, wP_skip, wP_brk, wP_cnt, wP_rsP, wP_sto, wP_stoN, wP_setV, wP_setN, wP_retP, wP_drop, wP_ifP, wP_asgP, wP_par2, wP_par3, wP_par2I, wM_consD, wM_consL, stoI_d, stoI_n, wM_callN, wM_keyN, wM_takeM, wP_retN, wFN_k, wFN_x, eqD_zz, neD_zz, lenD_row, lenD_zs, isi_row, items_row, cs_BadDeeds, cs_BadRows, cs_BadMove, isiE_BadDeeds,  wP_augP, wP_forP, wM_caughtM, catI_mk, hide_nil, hide_cons, hideS_dat, hideS_own, hideS_un, ord2, ord3, lenD_lsk, isntD_bl, tgTup_eq, tgLst_eq, tgCons_eq, tgNil_eq, Option.bind_some, slD,
  addD_int, subD_int, ltD_int, leD_int, gtD_int, geD_int, negD_int, eqD_int, neD_int, neD_zs, eqD_zs, eqD_row, neD_row, isi_tt, lenD_tup, lenD_lst, tupleD_tup, tupleD_lst, listD_tup, listD_lst, itemsD_tup, itemsD_lst, ritemsD_tup, revD_tup, few_nil, few_1, few_2, few_3, few_4, tgName,
  ini, List.map_cons, List.map_nil, List.length_cons, List.length_nil, List.replicate, List.cons_append, List.nil_append, List.getElem?_cons_zero, List.getElem?_cons_succ, List.set_cons_zero, List.set_cons_succ, Nat.reduceAdd, Nat.reduceSub, Nat.reduceLT, Nat.zero_add, Nat.sub_self, if_true, if_false, reduceIte, true_and, and_true, and_self, wF_k, wF_x, Bool.not_true, Bool.not_false, Bool.false_eq_true, Nat.lt_irrefl])
section
variable {en : En} {ls : LS} {a : Addr} {T : List (Addr × Str)} {c : Nat} {G : D → LS → Prop} {E : EX} {n : Int}
theorem wP_is {p : PM} {ρ ρ' : Rho} {ls ls' : LS} {R : PQ} (e : p ρ ls = .nx ρ' ls') (h : R.nx ρ' ls') : wP p ρ ls R := by
  unfold wP
  rw [e]
  exact h
theorem four (hn : dOk n) : n = 1 ∨ n = 2 ∨ n = 3 ∨ n = 4 := by
  obtain ⟨a, b⟩ := hn
  omega
/-- values that are no lists of rows of n deeds -/
def badRL (n : Int) : List D := [.non, .int 5, .str "", .dct [] [], .lst [.int 1], .lst (List.replicate 7 (.tup [.int 1])), .lst [.tup [.int 1], .lst [.int 1]], .lst [.tup [.int 0]], .tup [.tup [.int 1], .tup [.int (n + 1)]], .lst (List.replicate 6 (.tup []) ++ [.non])]
theorem badRL_ok1 : ∀ d ∈ badRL 1, badRs 1 d := by
  intro d hd
  simp only [badRL, List.mem_cons, List.not_mem_nil, or_false] at hd
  rcases hd with rfl | rfl | rfl | rfl | rfl | rfl | rfl | rfl | rfl | rfl
  all_goals intro en ls; kernel_rfl
theorem badRL_ok2 : ∀ d ∈ badRL 2, badRs 2 d := by
  intro d hd
  simp only [badRL, List.mem_cons, List.not_mem_nil, or_false] at hd
  rcases hd with rfl | rfl | rfl | rfl | rfl | rfl | rfl | rfl | rfl | rfl
  all_goals intro en ls; kernel_rfl
theorem badRL_ok3 : ∀ d ∈ badRL 3, badRs 3 d := by
  intro d hd
  simp only [badRL, List.mem_cons, List.not_mem_nil, or_false] at hd
  rcases hd with rfl | rfl | rfl | rfl | rfl | rfl | rfl | rfl | rfl | rfl
  all_goals intro en ls; kernel_rfl
theorem badRL_ok4 : ∀ d ∈ badRL 4, badRs 4 d := by
  intro d hd
  simp only [badRL, List.mem_cons, List.not_mem_nil, or_false] at hd
  rcases hd with rfl | rfl | rfl | rfl | rfl | rfl | rfl | rfl | rfl | rfl
  all_goals intro en ls; kernel_rfl
theorem sp_bad_rows (hn : dOk n) (h : Sz a T (c + 1) ls) (q : ∀ d ls', badRs n d → Sz a T c ls' → G d ls') : wF (F_law_mk_bad_rows en [.ref a, .int n] ls) G E := by
  have hb : ∀ d ∈ badRL n, badRs n d := by
    rcases four hn with rfl | rfl | rfl | rfl
    · exact badRL_ok1
    · exact badRL_ok2
    · exact badRL_ok3
    · exact badRL_ok4
  have hl : (badRL n).length = 10 := rfl
  unfold F_law_mk_bad_rows
  rw [wF_end]
  unfold p_law_mk_bad_rows
  show wP _ [.dat (.ref a), .dat (.int n), .un] ls _
  refine wP_seq (fun ρ l => ls = l ∧ ρ = [.dat (.ref a), .dat (.int n), .dat (.lst (badRL n))]) ?_ ?_
  · refine wP_is ?_ ⟨rfl, rfl⟩
    kernel_rfl
  rintro _ _ ⟨rfl, rfl⟩
  walk_at "ev"
  exact sp_pick h (by intro e; rw [e] at hl; exact absurd hl (by decide)) (by omega) fun d ls' hd hs => q d ls' (hb d hd) hs
/-- values that are no moves of n deeds -/
def badML (n : Int) : List D := [.non, .int 5, .tup [], .tup [.int 1], .lst [.int 1, .tup [.int 2]], .tup [.int 1, .tup []], .tup [.int 1, .tup [.int 1]], .tup [.int 1, .tup [.int (-1)]], .tup [.int 0, .tup [.int 1]], .tup [.int (n + 1), .tup [.int 1]], .tup [.bl true, .tup [.int 2]],
  .tup [.int 1, .lst [.int 2]], .tup [.int 1, .tup [.int 2, .int 2]], .tup [.int 1, .tup [.int 2, .int (-2)]], .tup [.int 1, .tup [.int 2], .int 0], .tup [.int 1, .int 2], .tup [.int 1, .tup [.int (n + 1)]], .tup [.int 1, .tup [.bl true]], .tup [.str "1", .tup [.int 2]]]
theorem badML_ok2 : ∀ d ∈ badML 2, badMv 2 d := by
  intro d hd
  simp only [badML, List.mem_cons, List.not_mem_nil, or_false] at hd
  rcases hd with rfl | rfl | rfl | rfl | rfl | rfl | rfl | rfl | rfl | rfl | rfl | rfl | rfl | rfl | rfl | rfl | rfl | rfl | rfl
  all_goals intro en ls; kernel_rfl
theorem badML_ok3 : ∀ d ∈ badML 3, badMv 3 d := by
  intro d hd
  simp only [badML, List.mem_cons, List.not_mem_nil, or_false] at hd
  rcases hd with rfl | rfl | rfl | rfl | rfl | rfl | rfl | rfl | rfl | rfl | rfl | rfl | rfl | rfl | rfl | rfl | rfl | rfl | rfl
  all_goals intro en ls; kernel_rfl
theorem badML_ok4 : ∀ d ∈ badML 4, badMv 4 d := by
  intro d hd
  simp only [badML, List.mem_cons, List.not_mem_nil, or_false] at hd
  rcases hd with rfl | rfl | rfl | rfl | rfl | rfl | rfl | rfl | rfl | rfl | rfl | rfl | rfl | rfl | rfl | rfl | rfl | rfl | rfl
  all_goals intro en ls; kernel_rfl
theorem sp_sh_bad_move (hn : dOk n) (h2 : 2 ≤ n) (h : Sz a T (c + 1) ls) (q : ∀ d ls', badMv n d → Sz a T c ls' → G d ls') : wF (F_law_sh_bad_move en [.ref a, .int n] ls) G E := by
  have hb : ∀ d ∈ badML n, badMv n d := by
    rcases four hn with rfl | rfl | rfl | rfl
    · omega
    · exact badML_ok2
    · exact badML_ok3
    · exact badML_ok4
  unfold F_law_sh_bad_move
  rw [wF_end]
  unfold p_law_sh_bad_move
  show wP _ [.dat (.ref a), .dat (.int n), .un] ls _
  refine wP_seq (fun ρ l => ls = l ∧ ρ = [.dat (.ref a), .dat (.int n), .dat (.lst ((badML n).take 11))]) ?_ ?_
  · refine wP_is ?_ ⟨rfl, rfl⟩
    kernel_rfl
  rintro _ _ ⟨rfl, rfl⟩
  refine wP_seq (fun ρ l => ls = l ∧ ρ = [.dat (.ref a), .dat (.int n), .dat (.lst ((badML n).take 18))]) ?_ ?_
  · refine wP_is ?_ ⟨rfl, rfl⟩
    kernel_rfl
  rintro _ _ ⟨rfl, rfl⟩
  walk_at "ev"
  rw [show addD (.lst ((badML n).take 18)) (.lst [.tup [.str "1", .tup [.int 2]]]) = some (.lst (badML n)) by kernel_rfl]
  walk_at "ev"
  have hl : (badML n).length = 19 := rfl
  refine sp_pick h (by intro z; rw [z] at hl; cases hl) (by omega) fun d l1 hd hs1 => ?_
  exact q d l1 (hb d hd) hs1
/-- all moves of two deeds -/
def mv2 : List (Int × List Int) := [(-2, [-1]), (-2, [-1, 1]), (-2, [1]), (-1, [-2]), (-1, [-2, 2]), (-1, [2]), (1, [-2]), (1, [-2, 2]), (1, [2]), (2, [-1]), (2, [-1, 1]), (2, [1])]
def mvD (m : Int × List Int) : D := .tup [.int m.1, row m.2]
theorem mv2_ok : ∀ m ∈ mv2, Mv 2 m.1 m.2 := by
  intro m hm
  have h1 : ∀ m ∈ mv2, ((0 - 2 ≤ m.1 ∧ m.1 ≤ 2) ∧ m.1 ≠ 0) := by decide
  have h2 : ∀ m ∈ mv2, m.2 ≠ [] := by decide
  have h3 : ∀ m ∈ mv2, ∀ y ∈ m.2, (0 - 2 ≤ y ∧ y ≤ 2) ∧ y ≠ 0 := by decide
  have h4 : ∀ m ∈ mv2, ∀ y ∈ m.2, y ≠ m.1 ∧ y ≠ 0 - m.1 := by decide
  have h5 : ∀ m ∈ mv2, m.2.Pairwise (· < ·) := by decide
  have h6 : ∀ m ∈ mv2, m.2.length ≤ 8 := by decide
  exact ⟨h1 m hm, h2 m hm, h3 m hm, h4 m hm, h5 m hm, h6 m hm⟩
theorem sp_sh_moves2 : F_law_sh_moves en [.int 2] ls = .ok (.lst (mv2.map mvD)) ls := by
  kernel_rfl
end
end Pd

set_option Elab.async false
set_option linter.all false
set_option maxRecDepth 100000
set_option maxHeartbeats 4000000
/-! Q10: the law of lengths behind moves. -/
namespace Pd
open PySem PySem.Spec PyProof.Rows L2
theorem flat_sum {α β : Type} (f : α → List β) (g : β → Int) : ∀ l : List α, ((l.flatMap f).map g).sum = (l.map fun x => ((f x).map g).sum).sum
  | [] => rfl
  | x :: l => by
    rw [List.flatMap_cons, List.map_append, List.sum_append, List.map_cons, List.sum_cons, flat_sum f g l]
def dueZ (x : Int) (lot g : List Int) : Int := g.length + ((tiesR g).map (wt x (inA x lot))).sum
theorem due_sum (x : Int) (lot : List Int) : ∀ gs : List (List Int), (gs.map (dueZ x lot)).sum = behd x lot gs
  | [] => rfl
  | g :: gs => by
    have ih := due_sum x lot gs
    unfold behd lens at ih ⊢
    rw [List.map_cons, List.sum_cons, ih, List.map_cons, List.sum_cons, List.flatMap_cons, List.map_append, List.sum_append]
    unfold dueZ
    omega
def restF (x : Int) (lot : List Int) (y : Int) : Bool := !decide (((y.natAbs : Nat) : Int) = (x.natAbs : Nat)) && !decide (y ∈ lot)
def restL (n x : Int) (lot : List Int) : List Int := srtI ((lts n).filter (restF x lot))
theorem restL_mem {n x y : Int} {lot : List Int} (hn : dOk n) : y ∈ restL n x lot ↔ ((0 - n ≤ y ∧ y ≤ n) ∧ y ≠ 0) ∧ (y ≠ x ∧ y ≠ 0 - x) ∧ y ∉ lot := by
  obtain ⟨f1, f2, f3, f4⟩ := lts_ok hn
  unfold restL
  rw [(srtI_perm _).mem_iff, List.mem_filter]
  unfold restF
  simp only [Bool.and_eq_true, Bool.not_eq_true', decide_eq_false_iff_not]
  constructor
  · rintro ⟨h1, h2, h3⟩
    exact ⟨f1 y h1, by omega, h3⟩
  · rintro ⟨h1, h2, h3⟩
    exact ⟨f4 y h1, by omega, h3⟩
theorem restL_mv {n x : Int} {lot : List Int} (hn : dOk n) (hm : Mv n x lot) (h : restL n x lot ≠ []) : Mv n (0 - x) (restL n x lot) := by
  obtain ⟨f1, f2, f3, f4⟩ := lts_ok hn
  have hx := hm.hx
  refine ⟨by omega, h, fun y hy => ((restL_mem hn).mp hy).1, fun y hy => ?_, ?_, ?_⟩
  · have := ((restL_mem hn).mp hy).2.1
    omega
  · exact srt_lt (f3.filter _)
  · unfold restL
    rw [(srtI_perm _).length_eq]
    exact Nat.le_trans (List.length_filter_le _ _) f2
theorem inA_rest {n x u : Int} {lot : List Int} (hn : dOk n) (hm : Mv n x lot) (hu : (0 - n ≤ u ∧ u ≤ n) ∧ u ≠ 0) : inA (0 - x) (restL n x lot) u = !inA x lot u := by
  have hx := hm.hx
  unfold inA
  by_cases e1 : u = x
  · have : u ∉ restL n x lot := fun h => ((restL_mem hn).mp h).2.1.1 e1
    rw [decide_eq_true e1, decide_eq_false this, decide_eq_false (by omega)]; rfl
  · by_cases e2 : u = 0 - x
    · have : u ∉ lot := fun h => (hm.off u h).2 e2
      rw [decide_eq_true e2, decide_eq_false this, decide_eq_false e1]; rfl
    · rw [decide_eq_false e1, decide_eq_false e2]
      by_cases e3 : u ∈ lot
      · have : u ∉ restL n x lot := fun h => ((restL_mem hn).mp h).2.2 e3
        rw [decide_eq_true e3, decide_eq_false this]; rfl
      · have : u ∈ restL n x lot := (restL_mem hn).mpr ⟨hu, ⟨e1, e2⟩, e3⟩
        rw [decide_eq_false e3, decide_eq_true this]; rfl
theorem map_sum_congr {α : Type} {f g : α → Int} : ∀ {l : List α}, (∀ x ∈ l, f x = g x) → (l.map f).sum = (l.map g).sum
  | [], _ => rfl
  | x :: l, h => by
    rw [List.map_cons, List.map_cons, List.sum_cons, List.sum_cons, h x List.mem_cons_self, map_sum_congr fun y hy => h y (List.mem_cons_of_mem _ hy)]
theorem behd_comp {n x : Int} {lot : List Int} {gs : List (List Int)} (hn : dOk n) (hm : Mv n x lot) (hg : ∀ g ∈ gs, cyc g ∧ fitL n g) : behd (0 - x) (restL n x lot) gs = behd x lot gs := by
  unfold behd
  rw [flat_sum, flat_sum]
  congr 1
  refine map_sum_congr fun g hgm => ?_
  obtain ⟨h1, h2⟩ := hg g hgm
  refine (move_comp hm.hx.2 h1 fun t ht => ?_).symm
  obtain ⟨t1, t2⟩ := tiesR_mem ht
  have f1 := h2 _ t1
  have f2 := h2 _ t2
  rw [inA_rest hn hm f1, inA_rest hn hm (by omega)]
  cases inA x lot t.1 <;> cases inA x lot t.2 <;> simp
theorem behd_zero {n x : Int} {lot : List Int} {gs : List (List Int)} (hn : dOk n) (hm : Mv n x lot) (hg : ∀ g ∈ gs, cyc g ∧ fitL n g) (h : restL n x lot = []) : behd x lot gs = lens gs := by
  rw [← behd_comp hn hm hg, h]
  unfold behd
  rw [flat_sum]
  have : (gs.map fun g => ((tiesR g).map (wt (0 - x) (inA (0 - x) []))).sum) = gs.map fun _ => (0 : Int) := List.map_congr_left fun g hgm => move_zero (fun u => by unfold inA; simp) (hg g hgm).1
  rw [this]
  have z : ∀ l : List (List Int), (l.map fun _ => (0 : Int)).sum = 0 := fun l => by
    induction l with
    | nil => rfl
    | cons _ l ih => rw [List.map_cons, List.sum_cons, ih]; rfl
  rw [z]
  omega
theorem rgs_ok {n : Int} {rs : List (List Int)} (hr : rowsOk n rs) : ∀ g ∈ rgs rs, cyc g ∧ fitL n g := fun g hg => by
  obtain ⟨q, hq, rfl⟩ := List.mem_map.mp hg
  have hf := (hr q hq).1
  exact ⟨cyc_ring fun y hy => (hf y hy).2, fun y hy => hf y (red_mem (rgl_mem hy))⟩
theorem ord201 {x y z : D} : ordL [2, 0, 1] [x, y, z] = [z, x, y] := rfl
local macro_rules | `(tactic| walk_at "ev") => `(tactic| try simp only [wM_bnd, wM_ret, wM_opt, wI_some, wM_nam, nmI_dat, nmI_own, gvI_dat, gvI_own, owI_own, inI_int, itI_int, wM_lookd, wM_looks, wM_gived, wM_gives, wM_isB, wM_andM, wM_orM, wM_notM, wM_ifM, wM_andV, wM_orV, wM_notV, wM_bin, wM_uno, wM_dt, wM_ls1, wM_consM, wM_tupM, wM_lstM, wM_itemsM, wM_ritemsM, wM_callM, wM_keyM, wM_methM, wM_meth0M, wM_mthM, wM_chainM, wM_partM, wM_cutM, wP_seqP, wP_lift, wP_skip, wP_brk, wP_cnt, wP_rsP, wP_sto, wP_stoN, wP_setV, wP_setN, wP_retP, wP_drop, wP_ifP, wP_asgP, wP_par2, wP_par3, wP_par2I, wM_consD, wM_consL, stoI_d, stoI_n, wM_callN, wM_keyN, wM_takeM, wP_retN, wFN_k, wFN_x, eqD_zz, neD_zz, lenD_row, lenD_zs, isi_row, items_row, listD_row, tupleD_zs, cut_row, cut_zs, zs_len, minD_int, maxD_int, inD_zs, inD_ktp, ninD_zs, sumD_zs, absD_int, listD_lst, decide_true, sortedD_zs, cs_BadDeeds, cs_BadRows, cs_BadMove, isiE_BadDeeds, ord201,  wP_augP, wP_forP, wM_caughtM, catI_mk, hide_nil, hide_cons, hideS_dat, hideS_own, hideS_un, ord2, ord3, lenD_lsk, isntD_bl, tgTup_eq, tgLst_eq, tgCons_eq, tgNil_eq, Option.bind_some, slD,
  addD_int, subD_int, ltD_int, leD_int, gtD_int, geD_int, negD_int, eqD_int, neD_int, neD_zs, eqD_zs, eqD_row, neD_row, isi_tt, lenD_tup, lenD_lst, tupleD_tup, tupleD_lst, listD_tup, listD_lst, itemsD_tup, itemsD_lst, ritemsD_tup, revD_tup, few_nil, few_1, few_2, few_3, few_4, tgName,
  ini, List.map_cons, List.map_nil, List.length_cons, List.length_nil, List.replicate, List.cons_append, List.nil_append, List.getElem?_cons_zero, List.getElem?_cons_succ, List.set_cons_zero, List.set_cons_succ, Nat.reduceAdd, Nat.reduceSub, Nat.reduceLT, Nat.zero_add, Nat.sub_self, if_true, if_false, reduceIte, true_and, and_true, and_self, wF_k, wF_x, Bool.not_true, Bool.not_false, Bool.false_eq_true, Nat.lt_irrefl])
section
variable {en : En} {ls : LS} {a : Addr} {T : List (Addr × Str)} {c : Nat} {n x : Int} {lot : List Int} {rs : List (List Int)}
/-- what is asked of one move -/
theorem law_move {ns : List Int} {s2 s6 s11 s12 s13 s14 s15 s16 : Sl} {e : List (List Int × Int)} {R : PQ} (hn : dOk n) (hr : rowsOk n rs) (hl : rs.length ≤ 4) (ht : Tie ((rgs rs).flatMap tiesR) e) (hm : Mv n x lot)
    (q : ∀ s11 s12 s13, R.nx [.dat (.lsk (zs ns)), .dat (.ref a), s2, .dat (.int n), .dat (.lst (rs.map row)), .dat (.lst ((rgs rs).map row)), s6, .dat (.dcf (dks e) (des e)), .dat (.int (lens (rgs rs))), .dat (.int x), .dat (row lot), s11, s12, s13, s14, s15, s16, .un, .un, .un, .un] ls) :
    wP (seqP (setV 11 (callM 2 (F_law_sh_images en) (consM (bnd (nam 3) give) (consM (tupM (consM (bnd (nam 9) give) (consM (bnd (nam 10) give) (ret [])))) (ret [])))))
    (seqP (setV 12 (uno sumD (dt (ls1 (lcM (itemsM (bnd (nam 5) give)) (tgName 19) (ret true) (callM 1 (F_law_cu_spans en) (consM (callM 2 (F_law_mk_renamed en) (consM (bnd (nam 11) give) (consM (bnd (nam 19) give) (ret [])))) (ret []))) [19])))))
    (seqP (ifP (bnd (bin neD (dt (keyM 3 (F_length_behind en) 0 3 [2, 0, 1] (ret []) (consM (ls1 (uno listD (nam 4))) (consM (tupM (consM (bnd (nam 9) give) (consM (bnd (nam 10) give) (ret [])))) (consM (bnd (nam 3) give) (ret [])))))) (nam 12)) isB) (retP (ret (.bl false))) skip)
    (seqP (ifP (bnd (bin neD (dt (callM 4 (F_law_told_ahead en) (consM (bnd (nam 7) give) (consM (bnd (nam 8) give) (consM (bnd (nam 9) give) (consM (bnd (nam 10) give) (ret []))))))) (nam 12)) isB) (retP (ret (.bl false))) skip)
    (seqP (setV 13 (uno tupleD (dt (ls1 (uno sortedD (dt (ls1 (lcM (itemsM (callM 1 (F_law_mk_letters en) (consM (bnd (nam 3) give) (ret [])))) (tgName 20) (andM (bnd (bin neD (dt (uno absD (nam 20))) (dt (uno absD (nam 9)))) isB) (bnd (bin ninD (nam 20) (nam 10)) isB)) (bnd (nam 20) give) [20]))))))))
    (seqP (ifP (andM (bnd (bin eqD (nam 13) (dt (tupM (ret [])))) isB) (bnd (bin neD (nam 12) (nam 8)) isB)) (retP (ret (.bl false))) skip)
    (ifP (andM (bnd (bin neD (nam 13) (dt (tupM (ret [])))) isB) (bnd (bin neD (dt (callM 3 (F_length_behind en) (consM (bnd (nam 3) give) (consM (bnd (nam 4) give) (consM (tupM (consM (bin subD (dt (ret (.int 0))) (nam 9)) (consM (bnd (nam 13) give) (ret [])))) (ret [])))))) (nam 12)) isB)) (retP (ret (.bl false))) skip)))))))
     [.dat (.lsk (zs ns)), .dat (.ref a), s2, .dat (.int n), .dat (.lst (rs.map row)), .dat (.lst ((rgs rs).map row)), s6, .dat (.dcf (dks e) (des e)), .dat (.int (lens (rgs rs))), .dat (.int x), .dat (row lot), s11, s12, s13, s14, s15, s16, .un, .un, .un, .un] ls R := by
  have hg := rgs_ok hr
  have hgl := rgs_len hr
  have hrl : (rgs rs).length ≤ 4 := by unfold rgs; rw [List.length_map]; exact hl
  have el : F_length_behind en [.int n, .lst (rs.map row), .tup [.int x, row lot]] ls = .ok (.int (behd x lot (rgs rs))) ls := sp_length_behind hn hr (by omega) hm
  have et : F_law_told_ahead en [.dcf (dks e) (des e), .int (lens (rgs rs)), .int x, row lot] ls = .ok (.int (behd x lot (rgs rs))) ls := by
    rw [sp_told_ahead ht.nd (fun p hp => by
      obtain ⟨t, _, h⟩ := ht.two p hp
      exact ⟨t, h⟩), ties_wt ht]
    rfl
  refine wP_seq (fun ρ l => ls = l ∧ ρ = [.dat (.lsk (zs ns)), .dat (.ref a), s2, .dat (.int n), .dat (.lst (rs.map row)), .dat (.lst ((rgs rs).map row)), s6, .dat (.dcf (dks e) (des e)), .dat (.int (lens (rgs rs))), .dat (.int x), .dat (row lot), .dat (.lst ((imgs n x lot).map row)), s12, s13, s14, s15, s16, .un, .un, .un, .un]) ?_ ?_
  · walk_at "ev"
    rw [sp_sh_images hn]
    walk_at "ev"
  rintro _ _ ⟨rfl, rfl⟩
  refine wP_seq (fun ρ l => ls = l ∧ ρ = [.dat (.lsk (zs ns)), .dat (.ref a), s2, .dat (.int n), .dat (.lst (rs.map row)), .dat (.lst ((rgs rs).map row)), s6, .dat (.dcf (dks e) (des e)), .dat (.int (lens (rgs rs))), .dat (.int x), .dat (row lot), .dat (.lst ((imgs n x lot).map row)), .dat (.int (behd x lot (rgs rs))), s13, s14, s15, s16, .un, .un, .un, .un]) ?_ ?_
  · walk_at "ev"
    refine wM_lcp ?_
    walk_at "ev"
    refine ⟨rfl, rfl, by rw [List.length_map]; exact top_of (by omega), fun _ => true, fun d => (itemsD d).elim .non fun l => (intsOf l).elim .non fun g => .int (dueZ x lot g), fun d hd => ?_, ?_⟩
    · obtain ⟨g, hgm, rfl⟩ := List.mem_map.mp hd
      obtain ⟨h1, h2⟩ := hg g hgm
      have h3 := hgl g hgm
      obtain ⟨k, hk, q0, g1, g2⟩ := sp_due (en := en) (ls := ls) hn hm h2 h1 (by omega)
      walk_at "ev"
      refine ⟨rfl, rfl, fun _ => wM_is ?_⟩
      show wM _ [.dat (.lsk (zs ns)), .dat (.ref a), s2, .dat (.int n), .dat (.lst (rs.map row)), .dat (.lst ((rgs rs).map row)), s6, .dat (.dcf (dks e) (des e)), .dat (.int (lens (rgs rs))), .dat (.int x), .dat (row lot), .dat (.lst ((imgs n x lot).map row)), s12, s13, s14, s15, s16, .un, .un, .dat (row g), .un] ls _ _
      walk_at "ev"
      rw [g1]
      walk_at "ev"
      rw [g2]
      walk_at "ev"
      refine ⟨?_, rfl⟩
      show _ = (intsOf (zs g)).elim D.non _
      rw [intsOf_zs, hk]; rfl
    · rw [filt_true]
      have e1 : ((rgs rs).map row).map (fun d => (itemsD d).elim D.non fun l => (intsOf l).elim .non fun g => .int (dueZ x lot g)) = zs ((rgs rs).map (dueZ x lot)) := by
        unfold zs
        rw [List.map_map, List.map_map]
        refine List.map_congr_left fun g _ => ?_
        show (intsOf (zs g)).elim D.non _ = _
        rw [intsOf_zs]; rfl
      rw [e1]
      walk_at "ev"
      rw [due_sum]
  rintro _ _ ⟨rfl, rfl⟩
  generalize s11 = s11'
  refine wP_seq (fun ρ l => ls = l ∧ ρ = [.dat (.lsk (zs ns)), .dat (.ref a), s2, .dat (.int n), .dat (.lst (rs.map row)), .dat (.lst ((rgs rs).map row)), s6, .dat (.dcf (dks e) (des e)), .dat (.int (lens (rgs rs))), .dat (.int x), .dat (row lot), .dat (.lst ((imgs n x lot).map row)), .dat (.int (behd x lot (rgs rs))), s13, s14, s15, s16, .un, .un, .un, .un]) ?_ ?_
  · walk_at "ev"
    rw [el]
    walk_at "ev"
  rintro _ _ ⟨rfl, rfl⟩
  refine wP_seq (fun ρ l => ls = l ∧ ρ = [.dat (.lsk (zs ns)), .dat (.ref a), s2, .dat (.int n), .dat (.lst (rs.map row)), .dat (.lst ((rgs rs).map row)), s6, .dat (.dcf (dks e) (des e)), .dat (.int (lens (rgs rs))), .dat (.int x), .dat (row lot), .dat (.lst ((imgs n x lot).map row)), .dat (.int (behd x lot (rgs rs))), s13, s14, s15, s16, .un, .un, .un, .un]) ?_ ?_
  · walk_at "ev"
    rw [et]
    walk_at "ev"
  rintro _ _ ⟨rfl, rfl⟩
  refine wP_seq (fun ρ l => ls = l ∧ ρ = [.dat (.lsk (zs ns)), .dat (.ref a), s2, .dat (.int n), .dat (.lst (rs.map row)), .dat (.lst ((rgs rs).map row)), s6, .dat (.dcf (dks e) (des e)), .dat (.int (lens (rgs rs))), .dat (.int x), .dat (row lot), .dat (.lst ((imgs n x lot).map row)), .dat (.int (behd x lot (rgs rs))), .dat (row (restL n x lot)), s14, s15, s16, .un, .un, .un, .un]) ?_ ?_
  · walk_at "ev"
    refine wM_lcp ?_
    walk_at "ev"
    rw [sp_letters hn]
    walk_at "ev"
    refine ⟨rfl, rfl, top_of (by have := (lts_ok hn).2.1; omega), fun d => match d with | .int y => restF x lot y | _ => false, id, fun d hd => ?_, ?_⟩
    · obtain ⟨y, hy, rfl⟩ := zs_mem hd
      walk_at "ev"
      refine ⟨rfl, wM_is ?_, fun _ => rfl⟩
      show wM _ [.dat (.lsk (zs ns)), .dat (.ref a), s2, .dat (.int n), .dat (.lst (rs.map row)), .dat (.lst ((rgs rs).map row)), s6, .dat (.dcf (dks e) (des e)), .dat (.int (lens (rgs rs))), .dat (.int x), .dat (row lot), .dat (.lst ((imgs n x lot).map row)), .dat (.int (behd x lot (rgs rs))), s13, s14, s15, s16, .un, .un, .un, .dat (.int y)] ls _ _
      walk_at "ev"
      unfold restF
      by_cases c1 : ((y.natAbs : Nat) : Int) = (x.natAbs : Nat)
      · rw [decide_eq_true c1]
        walk_at "ev"
        simp
        rfl
      · rw [decide_eq_false c1]
        walk_at "ev"
        simp
        rfl
    · rw [List.map_id, zs_filter]
      have hf : ((lts n).filter fun i => (match D.int i with | .int y => restF x lot y | _ => false)) = (lts n).filter (restF x lot) := rfl
      rw [hf]
      walk_at "ev"
      rfl
  rintro _ _ ⟨rfl, rfl⟩
  have hz : D.tup [] = row [] := rfl
  by_cases hrest : restL n x lot = []
  · have e0 := behd_zero hn hm hg hrest
    walk_at "ev"
    rw [hz, eqD_row, decide_eq_true hrest]
    walk_at "ev"
    rw [e0]
    walk_at "ev"
    rw [decide_eq_true hrest]
    walk_at "ev"
    exact q _ _ _
  · have hm2 := restL_mv hn hm hrest
    have e2 : F_length_behind en [.int n, .lst (rs.map row), .tup [.int (0 - x), row (restL n x lot)]] ls = .ok (.int (behd x lot (rgs rs))) ls := by
      rw [sp_length_behind hn hr (by omega) hm2, behd_comp hn hm hg]
    walk_at "ev"
    rw [hz, eqD_row, decide_eq_false hrest]
    walk_at "ev"
    rw [decide_eq_false hrest]
    walk_at "ev"
    rw [e2]
    walk_at "ev"
    exact q _ _ _
theorem sp_law {ns : List Int} (dh : Dst en) (hns : ns.length ≤ 63) (h : Sz a en.T 20000 ls) : wP (p_law en) [.dat (.lsk (zs ns)), .dat (.ref a), .un, .un, .un, .un, .un, .un, .un, .un, .un, .un, .un, .un, .un, .un, .un, .un, .un, .un, .un] ls { nx := fun _ _ => False, bk := fun _ _ => False, ct := fun _ _ => False, rt := fun d _ => d = .bl true, rs := fun _ _ => False } := by
  unfold p_law
  refine wP_seq (fun ρ ls => True) ?_ ?_
  · rw [wP_forP]
    walk_at "ev"
    rw [rng1D_int (by split <;> omega) (by split <;> omega), rangeL_zs]
    walk_at "ev"
    have hlen : (zs ((List.range (1 + if (2 : Int) < (ns.length : Int) then 2 else (ns.length : Int)).toNat).map fun (i : Nat) => (0 : Int) + (i : Int))).length ≤ 3 := by
      rw [zs_len, List.length_map, List.length_range]
      split <;> omega
    refine wP_for (fun done ρ ls => Sz a en.T (20000 - 1000 * done.length) ls ∧ ∃ s2 s3 s4 s5 s6 s7 s8 s9 s10 s11 s12 s13 s14 s15 s16, ρ = [.dat (.lsk (zs ns)), .dat (.ref a), s2, s3, s4, s5, s6, s7, s8, s9, s10, s11, s12, s13, s14, s15, s16, .un, .un, .un, .un]) ⟨h, _, _, _, _, _, _, _, _, _, _, _, _, _, _, _, rfl⟩ ?_ ?_
    · rintro done d rest _ ls0 ed ⟨hs0, s2, s3, s4, s5, s6, s7, s8, s9, s10, s11, s12, s13, s14, s15, s16, rfl⟩
      have hd : done.length ≤ 2 := by rw [ed] at hlen; simp at hlen; omega
      obtain ⟨c, hc⟩ : ∃ c, 20000 - 1000 * done.length = c + 1000 := ⟨19000 - 1000 * done.length, by omega⟩
      rw [hc] at hs0
      have hback : ∀ l, Sz a en.T c l → Sz a en.T (20000 - 1000 * (done ++ [d]).length) l := fun l hl => hl.mono (by rw [List.length_append]; simp; omega)
      rw [tgName_at (by show 2 < 21; decide)]
      show wP _ [.dat (.lsk (zs ns)), .dat (.ref a), .dat d, s3, s4, s5, s6, s7, s8, s9, s10, s11, s12, s13, s14, s15, s16, .un, .un, .un, .un] _ _
      generalize (Sl.dat d) = s2
      -- deeds
      refine wP_seq (fun ρ l => ∃ n : Int, (2 ≤ n ∧ n ≤ 4) ∧ Sz a en.T (c + 990) l ∧ ρ = [.dat (.lsk (zs ns)), .dat (.ref a), s2, .dat (.int n), s4, s5, s6, s7, s8, s9, s10, s11, s12, s13, s14, s15, s16, .un, .un, .un, .un]) ?_ ?_
      · walk_at "ev"
        refine sp_pick (c := c + 999) hs0 (by simp) (by simp) fun d l1 hd hs => ?_
        simp only [List.mem_cons, List.not_mem_nil, or_false] at hd
        rcases hd with rfl | rfl | rfl | rfl
        · walk_at "ev"; exact ⟨2, by omega, hs.mono (by omega), rfl⟩
        · walk_at "ev"; exact ⟨3, by omega, hs.mono (by omega), rfl⟩
        · walk_at "ev"; exact ⟨2, by omega, hs.mono (by omega), rfl⟩
        · walk_at "ev"; exact ⟨4, by omega, hs.mono (by omega), rfl⟩
      rintro _ l1 ⟨n, ⟨hn2, hn4⟩, hs1, rfl⟩
      have hn : dOk n := ⟨by omega, hn4⟩
      -- rows
      refine wP_seq (fun ρ l => ∃ rs, (rowsOk n rs ∧ rs.length ≤ 4) ∧ Sz a en.T (c + 500) l ∧ ρ = [.dat (.lsk (zs ns)), .dat (.ref a), s2, .dat (.int n), .dat (.lst (rs.map row)), s5, s6, s7, s8, s9, s10, s11, s12, s13, s14, s15, s16, .un, .un, .un, .un]) ?_ ?_
      · walk_at "ev"
        refine sp_cu_rows (c := c + 500) hn hn2 (hs1.mono (by omega)) fun rs l2 hb hl hs2 => ?_
        walk_at "ev"
        exact ⟨rs, ⟨hb, hl⟩, hs2, rfl⟩
      rintro _ l2 ⟨rs, ⟨hr, hl⟩, hs2, rfl⟩
      have hgl := rgs_len hr
      have hrl : (rgs rs).length ≤ 4 := by unfold rgs; rw [List.length_map]; exact hl
      -- rings
      refine wP_seq (fun ρ l => l2 = l ∧ ρ = [.dat (.lsk (zs ns)), .dat (.ref a), s2, .dat (.int n), .dat (.lst (rs.map row)), .dat (.lst ((rgs rs).map row)), s6, s7, s8, s9, s10, s11, s12, s13, s14, s15, s16, .un, .un, .un, .un]) ?_ ?_
      · walk_at "ev"
        refine wM_lcp ?_
        walk_at "ev"
        refine ⟨rfl, rfl, by rw [List.length_map]; exact top_of (by omega), fun _ => true, fun d => (itemsD d).elim .non fun l => (intsOf l).elim .non fun k => row (rgl (red k)), fun d hd => ?_, ?_⟩
        · obtain ⟨q, hq, rfl⟩ := List.mem_map.mp hd
          have hq2 := (hr q hq).2
          have hq3 := red_len q
          walk_at "ev"
          refine ⟨rfl, rfl, fun _ => ?_⟩
          refine callM_ok (ds := [row q]) rfl rfl ?_
          rw [sp_mk_ring (by omega) (by omega)]
          show _ = FO.ok ((intsOf (zs q)).elim _ _) _
          rw [intsOf_zs]; rfl
        · rw [filt_true]
          have e1 : (rs.map row).map (fun d => (itemsD d).elim D.non fun l => (intsOf l).elim .non fun k => row (rgl (red k))) = (rgs rs).map row := by
            unfold rgs
            rw [List.map_map, List.map_map]
            refine List.map_congr_left fun q _ => ?_
            show (intsOf (zs q)).elim _ _ = _
            rw [intsOf_zs]; rfl
          rw [e1]
      rintro _ _ ⟨rfl, rfl⟩
      -- told, many
      obtain ⟨e, ht, he⟩ := sp_neighbours (en := en) (ls := l2) hn hr (show rs.length ≤ 6 by omega)
      refine wP_seq (fun ρ l => l2 = l ∧ ρ = [.dat (.lsk (zs ns)), .dat (.ref a), s2, .dat (.int n), .dat (.lst (rs.map row)), .dat (.lst ((rgs rs).map row)), s6, .dat (.dcf (dks e) (des e)), .dat (.int (lens (rgs rs))), s9, s10, s11, s12, s13, s14, s15, s16, .un, .un, .un, .un]) ?_ ?_
      · walk_at "ev"
        rw [he]
        walk_at "ev"
        refine wM_lcp ?_
        walk_at "ev"
        refine ⟨rfl, rfl, by rw [List.length_map]; exact top_of (by omega), fun _ => true, fun d => (lenD d).getD .non, fun d hd => ?_, ?_⟩
        · obtain ⟨q, hq, rfl⟩ := List.mem_map.mp hd
          walk_at "ev"
          refine ⟨rfl, rfl, fun _ => wM_is ?_⟩
          show wM _ [.dat (.lsk (zs ns)), .dat (.ref a), s2, .dat (.int n), .dat (.lst (rs.map row)), .dat (.lst ((rgs rs).map row)), s6, s7, s8, s9, s10, s11, s12, s13, s14, s15, s16, .un, .un, .dat (row q), .un] l2 _ _
          walk_at "ev"
          exact ⟨rfl, rfl⟩
        · rw [filt_true, List.map_map]
          have e1 : ((rgs rs).map ((fun d => (lenD d).getD D.non) ∘ row)) = zs ((rgs rs).map fun r => (r.length : Int)) := by
            unfold zs
            rw [List.map_map]
            refine List.map_congr_left fun q _ => ?_
            show (lenD (row q)).getD D.non = _
            rw [lenD_row]; rfl
          rw [e1]
          walk_at "ev"
          rfl
      rintro _ _ ⟨rfl, rfl⟩
      -- moves
      refine wP_seq (fun ρ l => ∃ ms : List (Int × List Int), (∀ m ∈ ms, Mv n m.1 m.2) ∧ Sz a en.T (c + 100) l ∧ ρ = [.dat (.lsk (zs ns)), .dat (.ref a), s2, .dat (.int n), .dat (.lst (rs.map row)), .dat (.lst ((rgs rs).map row)), .dat (.lst (ms.map mvD)), .dat (.dcf (dks e) (des e)), .dat (.int (lens (rgs rs))), s9, s10, s11, s12, s13, s14, s15, s16, .un, .un, .un, .un]) ?_ ?_
      · walk_at "ev"
        by_cases c2 : n = 2
        · rw [decide_eq_true c2]
          subst c2
          walk_at "ev"
          rw [sp_sh_moves2]
          walk_at "ev"
          exact ⟨mv2, mv2_ok, hs2.mono (by omega), rfl⟩
        · rw [decide_eq_false c2]
          walk_at "ev"
          refine wM_lc ?_
          walk_at "ev"
          rw [rng1D_int (by omega) (by omega), rangeL_zs]
          walk_at "ev"
          refine ⟨rfl, fun done acc ρ l => ∃ ms : List (Int × List Int), acc = ms.map mvD ∧ ms.length = done.length ∧ (∀ m ∈ ms, Mv n m.1 m.2) ∧ Sz a en.T (c + 500 - 12 * done.length) l ∧ ρ = [.dat (.lsk (zs ns)), .dat (.ref a), s2, .dat (.int n), .dat (.lst (rs.map row)), .dat (.lst ((rgs rs).map row)), s6, .dat (.dcf (dks e) (des e)), .dat (.int (lens (rgs rs))), s9, s10, s11, s12, s13, s14, s15, s16, .un, .un, .un, .un], ⟨[], rfl, rfl, (fun m hm => nomatch hm), hs2.mono (by simp), rfl⟩, ?_, ?_⟩
          · rintro done d rest acc ρ l0 ed2 ⟨ms, rfl, hml, hmv, hs3, rfl⟩
            have hdn : done.length + (rest.length + 1) ≤ 24 := by
              have := congrArg List.length ed2
              rw [zs_len, List.length_map, List.length_range, List.length_append, List.length_cons] at this
              omega
            walk_at "ev"
            refine sp_rn_move (c := c + 488 - 12 * done.length) hn hn2 (hs3.mono (by omega)) fun x lot l3 hm hs4 => ?_
            walk_at "ev"
            refine ⟨by rw [List.length_map]; exact Nat.lt_of_lt_of_le (show _ < 100 by omega) (by decide), ms ++ [(x, lot)], by simp [mvD], by rw [List.length_append, List.length_append, hml]; rfl, fun m hm2 => ?_, hs4.mono (by rw [List.length_append, List.length_singleton]; omega), rfl⟩
            rcases List.mem_append.mp hm2 with hm2 | hm2
            · exact hmv m hm2
            · rw [List.mem_singleton] at hm2; subst hm2; exact hm
          · rintro acc ρ l0 ⟨ms, rfl, hml, hmv, hs3, rfl⟩
            rw [zs_len, List.length_map, List.length_range] at hs3
            walk_at "ev"
            exact ⟨ms, hmv, hs3.mono (by have : (24 : Int).toNat = 24 := rfl; omega), rfl⟩
      rintro _ l3 ⟨ms, hmv, hs3, rfl⟩
      -- what is asked of each
      refine wP_seq (fun ρ l => l3 = l ∧ ∃ s9 s10 s11 s12 s13, ρ = [.dat (.lsk (zs ns)), .dat (.ref a), s2, .dat (.int n), .dat (.lst (rs.map row)), .dat (.lst ((rgs rs).map row)), .dat (.lst (ms.map mvD)), .dat (.dcf (dks e) (des e)), .dat (.int (lens (rgs rs))), s9, s10, s11, s12, s13, s14, s15, s16, .un, .un, .un, .un]) ?_ ?_
      · rw [wP_forP]
        rw [wM_itemsM]
        walk_at "ev"
        refine wP_for (fun done ρ l => l3 = l ∧ ∃ s9 s10 s11 s12 s13, ρ = [.dat (.lsk (zs ns)), .dat (.ref a), s2, .dat (.int n), .dat (.lst (rs.map row)), .dat (.lst ((rgs rs).map row)), .dat (.lst (ms.map mvD)), .dat (.dcf (dks e) (des e)), .dat (.int (lens (rgs rs))), s9, s10, s11, s12, s13, s14, s15, s16, .un, .un, .un, .un]) ⟨rfl, s9, s10, s11, s12, s13, rfl⟩ ?_ ?_
        · rintro done d rest _ _ ed2 ⟨rfl, t9, t10, t11, t12, t13, rfl⟩
          obtain ⟨m, hm, rfl⟩ := List.mem_map.mp (show d ∈ ms.map mvD by rw [ed2]; simp)
          exact law_move hn hr hl ht (hmv m hm) fun s11 s12 s13 => ⟨rfl, _, _, _, _, _, rfl⟩
        · rintro ρ l hI
          exact hI
      rintro _ _ ⟨rfl, t9, t10, t11, t12, t13, rfl⟩
      -- faults
      refine wP_seq (fun ρ l => ∃ bd wr wo, badMv n bd ∧ (plainV wr = true ∧ btw wr 1 4 = false) ∧ badRs n wo ∧ Sz a en.T (c + 50) l ∧ ρ = [.dat (.lsk (zs ns)), .dat (.ref a), s2, .dat (.int n), .dat (.lst (rs.map row)), .dat (.lst ((rgs rs).map row)), .dat (.lst (ms.map mvD)), .dat (.dcf (dks e) (des e)), .dat (.int (lens (rgs rs))), t9, t10, t11, t12, t13, .dat bd, .dat wr, .dat wo, .un, .un, .un, .un]) ?_ ?_
      · walk_at "ev"
        refine sp_sh_bad_move (c := c + 99) hn hn2 hs3 fun bd l4 hbd hs4 => ?_
        walk_at "ev"
        refine sp_bad_deeds (c := c + 98) hs4 fun wr l5 pw bw hs5 => ?_
        walk_at "ev"
        refine sp_bad_rows (c := c + 97) hn hs5 fun wo l6 hwo hs6 => ?_
        walk_at "ev"
        exact ⟨bd, wr, wo, hbd, ⟨pw, bw⟩, hwo, hs6.mono (by omega), rfl⟩
      rintro _ l6 ⟨bd, wr, wo, hbd, ⟨pw, bw⟩, hwo, hs6, rfl⟩
      have tb := hs6.tb
      walk_at "ev"
      refine ⟨tb, ?_⟩
      rw [sp_length_behindX3 hn hr (by omega) hbd]
      walk_at "ev"
      rw [isiE_BadMove dh]
      walk_at "ev"
      refine ⟨tb, ?_⟩
      rw [sp_length_behindX2 hn hwo]
      walk_at "ev"
      rw [isiE_BadRows dh]
      walk_at "ev"
      refine ⟨tb, ?_⟩
      rw [sp_length_behindX1 pw bw]
      walk_at "ev"
      exact ⟨hback _ (hs6.mono (by omega)), _, _, _, _, _, _, _, _, _, _, _, _, _, _, _, rfl⟩
    · intro _ _ _
      trivial
  · intro ρ ls _
    walk_at "ev"
end
end Pd

set_option Elab.async false
set_option linter.all false
set_option maxRecDepth 100000
set_option maxHeartbeats 4000000
/-! Wend: the law as a def. -/
namespace Pd
open PySem PySem.Spec PyProof.Rows L2
theorem cx_none {P : Program} : ∀ (w : World) (H : Hp) (s : Shared) (e : Value) (s' : Shared), L2.CX P w [] H s (fun _ _ _ => False) e s' → False := by
  rintro w H s e s' ⟨_, _, _, _, _, _, _, _, _, _, _, _, h⟩
  exact h
def oneH (H : Hp) (a : Addr) : Hp := fun b => if b = a then H a else none
theorem oneH_at {H : Hp} {a : Addr} : oneH H a a = H a := if_pos rfl
theorem oneH_ne {H : Hp} {a b : Addr} (h : ¬ b = a) : oneH H a b = none := if_neg h
def spLaw (K : PySem.W.Frag) (T : List (Addr × Str)) : Sp := fun vs H Q _ => ∃ (a : Addr) (ns : List Int), vs = [.ref a] ∧ SqL K H a (ns.map V.int) ∧ ns.length ≤ 63 ∧ LamX.Tabs T H ∧ ∀ H', Q (.bl true) H'
section
variable {P : Program} {w : World} {K : PySem.W.Frag} {mg : Str → Option Value} {base : Heap} {en : En}
theorem law_us {W : WX} {De : Ends} {a : Addr} {ns : List Int} {wd : Wd} {ls : LS} {H H' : Hp} (dh : Dst en) (hS : SqL K H a (ns.map V.int)) (hl : ns.length ≤ 63) (etb : ls.tb = en.T) (st : SOk wd ls H') (same : Same H H') (na : H wd.a = none) (ng : H wd.g = none) (nc : H wd.c = none) (ok : LSok 0 ls) (hD : ∀ H', De.rt (.bl true) H') :
    US K W (p_law en) De [some (.ref a), some (.ref wd.a), none, none, none, none, none, none, none, none, none, none, none, none, none, none, none, none, none, none, none] H' := by
  obtain ⟨Hd, d1, d2, d3, d4⟩ : ∃ Hd : Hp, Sub Hd H' ∧ (∀ b, wd.Z b → Hd b = none) ∧ (∀ b o, Hd b = some o → NT o) ∧ SqL K Hd a (ns.map V.int) := by
    rcases hS with (h | ⟨o, h⟩) | h
    · refine ⟨oneH H a, fun b u e => ?_, fun b z => ?_, fun b u e => ?_, .inl (.inl ?_)⟩
      · by_cases hb : b = a
        · subst hb; rw [oneH_at] at e; exact same _ _ e
        · rw [oneH_ne hb] at e; cases e
      · by_cases hb : b = a
        · subst hb
          rcases z with rfl | rfl | rfl
          · rw [na] at h; cases h
          · rw [ng] at h; cases h
          · rw [nc] at h; cases h
        · exact oneH_ne hb
      · by_cases hb : b = a
        · subst hb; rw [oneH_at, h] at e; cases e; exact NT.lst
        · rw [oneH_ne hb] at e; cases e
      · rw [oneH_at]; exact h
    · refine ⟨oneH H a, fun b u e => ?_, fun b z => ?_, fun b u e => ?_, .inl (.inr ⟨o, ?_⟩)⟩
      · by_cases hb : b = a
        · subst hb; rw [oneH_at] at e; exact same _ _ e
        · rw [oneH_ne hb] at e; cases e
      · by_cases hb : b = a
        · subst hb
          rcases z with rfl | rfl | rfl
          · rw [na] at h; cases h
          · rw [ng] at h; cases h
          · rw [nc] at h; cases h
        · exact oneH_ne hb
      · by_cases hb : b = a
        · subst hb; rw [oneH_at, h] at e; cases e; exact fun _ z => nomatch z
        · rw [oneH_ne hb] at e; cases e
      · rw [oneH_at]; exact h
    · exact ⟨fun _ => none, (fun b u e => nomatch e), fun _ _ => rfl, (fun b u e => nomatch e), .inr h⟩
  have E : EOk K wd (fun _ => none) (fun _ => none) Hd H' [some (.ref a), some (.ref wd.a), none, none, none, none, none, none, none, none, none, none, none, none, none, none, none, none, none, none, none] [.dat (.lsk (zs ns)), .dat (.ref wd.a), .un, .un, .un, .un, .un, .un, .un, .un, .un, .un, .un, .un, .un, .un, .un, .un, .un, .un, .un] ls := by
    refine ⟨(fun b o e => nomatch e), fun b _ => .of rfl, d1, (fun b o e => nomatch e), d2, d3, fun b o _ => .inr (.inl (.of rfl)), st, rfl, fun i d e => ?_, fun i ds e => ?_, fun i j p ds es _ e _ => ?_⟩
    · match i, e with
      | 0, e => cases e; exact ⟨_, rfl, .lsk d4 (RpL.ints ns)⟩
      | 1, e => cases e; exact ⟨_, rfl, .ref _⟩
      | i + 2, e =>
        exfalso
        have e : ([.un, .un, .un, .un, .un, .un, .un, .un, .un, .un, .un, .un, .un, .un, .un, .un, .un, .un, .un] : Rho)[i]? = some (.dat d) := e
        have := List.mem_of_getElem? e
        simp at this
    · exfalso
      have := List.mem_of_getElem? e
      simp at this
    · exfalso
      have := List.mem_of_getElem? e
      simp at this
  refine ⟨wd, _, _, Hd, _, ls, E, ?_⟩
  have r := sp_law (en := en) (a := wd.a) (ls := ls) dh hl ⟨st.hs.symm, etb, ok.great, ok.cells, ok.rest, ok.t0, by have := ok.t1; omega⟩
  unfold wP at r
  cases e : p_law en [.dat (.lsk (zs ns)), .dat (.ref wd.a), .un, .un, .un, .un, .un, .un, .un, .un, .un, .un, .un, .un, .un, .un, .un, .un, .un, .un, .un] ls with
  | rt d l2 =>
    rw [e] at r
    have r : d = .bl true := r
    subst r
    exact fun v σ' Hd' H2 ρ' E' s' rv => by cases rv; exact hD H2
  | nx _ _ => rw [e] at r; exact r.elim
  | rtN _ _ => rw [e] at r; cases r
  | bk _ _ => rw [e] at r; exact r.elim
  | ct _ _ => rw [e] at r; exact r.elim
  | rs _ _ => rw [e] at r; exact r.elim
  | no => rw [e] at r; exact r.elim
theorem ok_lawfn (S : SF K mg en) {f fb c Pt g : Addr} {fdb fdc : FuncData} {oc kV doc pm ct : Value} {od an : Option Addr} {osl : Array (Option Value)} (lk : K.lookup f = some ⟨oc, od, .func (PySem.W.fnOf "law" "law" (defArgs s_law) (defBody s_law) (defScope s_law) .none kV doc pm an (.ref c) ct), osl⟩) (hcd : PySem.W.codeIn K (.ref c) "law" = true) (C : CaF K mg g fdc) (TB : LamX.TabB base mg c Pt) (hmT : (Pt, ("law.<locals>." : Str) ++ "<lambda>") ∈ en.T) (hu : ∀ p ∈ en.T, p.1 = Pt → p.2 = ("law.<locals>." : Str) ++ "<lambda>") (Gb : FnOk P w K mg base (L2.CX P w) 1 fb fdb ["_law_script"] (spBegun K en.T)) (gb : mg "_law_begun" = some (.ref fb)) (kb : PySem.W.keepIn K (.ref fb) = true) (bb : L2.Binds K fdb ["_law_script"] []) (dh : Dst en)  (G_law_cu_rows : Has P w K mg base "_law_cu_rows" ["_law_state", "_law_deeds"] 6 2 (F_law_cu_rows en)) (G_law_cu_spans : Has P w K mg base "_law_cu_spans" ["_law_row"] 2 1 (F_law_cu_spans en)) (G_law_mk_bad_deeds : Has P w K mg base "_law_mk_bad_deeds" ["_law_state"] 4 1 (F_law_mk_bad_deeds en)) (G_law_mk_bad_rows : Has P w K mg base "_law_mk_bad_rows" ["_law_state", "_law_deeds"] 4 2 (F_law_mk_bad_rows en)) (G_law_mk_letters : Has P w K mg base "_law_mk_letters" ["_law_deeds"] 1 1 (F_law_mk_letters en)) (G_law_mk_renamed : Has P w K mg base "_law_mk_renamed" ["_law_images", "_law_row"] 2 2 (F_law_mk_renamed en)) (G_law_mk_ring : Has P w K mg base "_law_mk_ring" ["_law_row"] 2 1 (F_law_mk_ring en)) (G_law_pick : Has P w K mg base "_law_pick" ["_law_state", "_law_some"] 3 2 (F_law_pick en)) (G_law_rn_move : Has P w K mg base "_law_rn_move" ["_law_state", "_law_deeds"] 4 2 (F_law_rn_move en)) (G_law_sh_bad_move : Has P w K mg base "_law_sh_bad_move" ["_law_state", "_law_deeds"] 4 2 (F_law_sh_bad_move en)) (G_law_sh_images : Has P w K mg base "_law_sh_images" ["_law_deeds", "_law_move_here"] 1 2 (F_law_sh_images en)) (G_law_sh_moves : Has P w K mg base "_law_sh_moves" ["_law_deeds"] 2 1 (F_law_sh_moves en)) (G_law_told_ahead : Has P w K mg base "_law_told_ahead" ["_law_told", "_law_many", "_law_letter", "_law_lot"] 1 4 (F_law_told_ahead en)) (G_length_behind : Has P w K mg base "length_behind" ["deeds", "rows", "move"] 7 3 (F_length_behind en)) (G_neighbours : Has P w K mg base "neighbours" ["deeds", "rows"] 7 2 (F_neighbours en)) (K_length_behind_0_rows_move_deeds : HasK P w K mg base "length_behind" ["deeds", "rows", "move"] 7 3 (F_length_behind en) 0 ["rows", "move", "deeds"] [2, 0, 1]) : FnOk P w K mg base (L2.CX P w) 10 f (PySem.W.fnOf "law" "law" (defArgs s_law) (defBody s_law) (defScope s_law) .none kV doc pm an (.ref c) ct) ["_law_script"] (spLaw K en.T) := by
  refine fn_of lk hcd sc_law (fun vs H Q E h => ?_) (fun A outer s H vs Q E hr h => ?_)
  · obtain ⟨a, ns, rfl, _⟩ := h
    rfl
  · obtain ⟨a, ns, rfl, hS, hl, hT, hq⟩ := h
    refine ⟨_, ok_lawbody S Gb gb kb bb C TB hmT hu hr G_law_cu_rows G_law_cu_spans G_law_mk_bad_deeds G_law_mk_bad_rows G_law_mk_letters G_law_mk_renamed G_law_mk_ring G_law_pick G_law_rn_move G_law_sh_bad_move G_law_sh_images G_law_sh_moves G_law_told_ahead G_length_behind G_neighbours K_length_behind_0_rows_move_deeds, ?_⟩
    refine ⟨.ref a, rfl, a, ns, rfl, hS, hl, hT, fun wd ls H' etb st same na ng nc ok => ?_⟩
    exact law_us dh hS hl etb st same na ng nc ok hq
end
/-- a law one of whose defs makes lambdas -/
theorem walk_at {l : PySem.W.OpenLaw} {n k : Nat} {q : Program} {loose : List Str} {XP : (Str → Option Value) → Heap → Prop} {YP : World → Heap → Prop} {d : DefRec} {K : Params → PySem.W.Frag} {CX : World → CXT} {x : Str} (x1 : Str)
    (hn : l.most = some n) (hn2 : n ≤ sizeLine) (hdf : d.params.defaults = []) (hr : Room k callerA) (hrec : ((recsOf q).any fun e => e.name == x1) = true) (hY : ∀ (w : World) (h : Heap), YP w h → (K w.params).In h)
    (F : ∀ (w : World) (mg : Str → Option Value) (fa : Addr) (h : Heap), (K w.params).In h → h.Ns mainGlobals mg → mg d.name = some (.ref fa) → (∀ f1, mg x1 = some (.ref f1) → LamX.OwnTab (K w.params) f1 h) → LamX.LawAtS l w (K w.params) (CX w) k n x mg fa h)
    (hCX : ∀ (w : World) (H : Hp) (s : Shared) (e : Value) (s' : Shared), CX w [] H s (fun _ _ _ => False) e s' → False) : PySem.W.WalkO q loose XP YP l.row.toRowW d [] (fun f vs => PySem.call f vs) := by
  refine Att.attach_callB hn hdf fun w t0 t1 mg mb fa ob pm cd doc a vs ns G Y ho hd hcd hm hobj hi hlen hbits hg => ?_
  have KX := hY w _ Y
  have own : ∀ f1, mg x1 = some (.ref f1) → LamX.OwnTab (K w.params) f1 t1.heap := fun f1 hf c Pt u fd e dd us sl k1 k2 k3 k4 k5 => by
    obtain ⟨dL, m1, m2⟩ := List.any_eq_true.mp hrec
    obtain ⟨a', u', fd', c', P', y1, y2, y3, y4, y5, ⟨⟨oc, vc, z1, _, z3, z4⟩, hP⟩⟩ := G.T.tab dL m1
    rw [show dL.name = x1 from beq_iff_eq.mp m2, hf] at y1
    cases y1
    cases (KX _ _ k1).symm.trans y2
    cases k2.symm.trans y3
    cases k3.symm.trans y4
    cases (KX _ _ k4).symm.trans z1
    cases z3
    cases k5.symm.trans z4
    exact hP
  obtain ⟨fd, cs, sp, hT, nT, C, hb, hsp, hF⟩ := F w mg fa _ KX G.T.g hm own
  exact LamX.law_callTs KX G.T.g G.T.b G.T.builtins G.T.nolimit hg hT nT C G.T.bmain hobj hi (Nat.le_trans hlen hn2) hr hF hb (fun H hH hS => hsp H a ns hlen hbits hH hS) fun H e s' => hCX w H t1 e s'
end Pd

set_option Elab.async false
set_option linter.all false
set_option maxRecDepth 100000
set_option maxHeartbeats 4000000
/-! the end -/
namespace Pd
open PySem PySem.Spec PyProof.Rows L2
theorem all_mk {l : PySem.W.OpenLaw} {w : World} {K : PySem.W.Frag} {h : Heap} {mg : Str → Option Value} {fa : Addr} (X : K.In h) (G : h.Ns mainGlobals mg) (hfa : mg "law" = some (.ref fa))
    {f_law_begun : Addr} {od_law_begun an_law_begun : Option Addr} {sl_law_begun : Array (Option Value)} {oc_law_begun kV_law_begun dc_law_begun pm_law_begun cd_law_begun ct_law_begun : Value}
    {f_law_blended : Addr} {od_law_blended an_law_blended : Option Addr} {sl_law_blended : Array (Option Value)} {oc_law_blended kV_law_blended dc_law_blended pm_law_blended cd_law_blended ct_law_blended : Value}
    {f_law_draw : Addr} {od_law_draw an_law_draw : Option Addr} {sl_law_draw : Array (Option Value)} {oc_law_draw kV_law_draw dc_law_draw pm_law_draw cd_law_draw ct_law_draw : Value}
    {f_law_caught : Addr} {od_law_caught an_law_caught : Option Addr} {sl_law_caught : Array (Option Value)} {oc_law_caught kV_law_caught dc_law_caught pm_law_caught cd_law_caught ct_law_caught : Value}
    {f_is_whole : Addr} {od_is_whole an_is_whole : Option Addr} {sl_is_whole : Array (Option Value)} {oc_is_whole kV_is_whole dc_is_whole pm_is_whole cd_is_whole ct_is_whole : Value}
    {f_plain_of : Addr} {od_plain_of an_plain_of : Option Addr} {sl_plain_of : Array (Option Value)} {oc_plain_of kV_plain_of dc_plain_of pm_plain_of cd_plain_of ct_plain_of : Value}
    {f_tail_of : Addr} {od_tail_of an_tail_of : Option Addr} {sl_tail_of : Array (Option Value)} {oc_tail_of kV_tail_of dc_tail_of pm_tail_of cd_tail_of ct_tail_of : Value}
    {f_least_start : Addr} {od_least_start an_least_start : Option Addr} {sl_least_start : Array (Option Value)} {oc_least_start kV_least_start dc_least_start pm_least_start cd_least_start ct_least_start : Value}
    {f_ties_in : Addr} {od_ties_in an_ties_in : Option Addr} {sl_ties_in : Array (Option Value)} {oc_ties_in kV_ties_in dc_ties_in pm_ties_in cd_ties_in ct_ties_in : Value}
    {f_growth_by : Addr} {od_growth_by an_growth_by : Option Addr} {sl_growth_by : Array (Option Value)} {oc_growth_by kV_growth_by dc_growth_by pm_growth_by cd_growth_by ct_growth_by : Value}
    {f_law_mk_plain : Addr} {od_law_mk_plain an_law_mk_plain : Option Addr} {sl_law_mk_plain : Array (Option Value)} {oc_law_mk_plain kV_law_mk_plain dc_law_mk_plain pm_law_mk_plain cd_law_mk_plain ct_law_mk_plain : Value}
    {f_law_mk_undone : Addr} {od_law_mk_undone an_law_mk_undone : Option Addr} {sl_law_mk_undone : Array (Option Value)} {oc_law_mk_undone kV_law_mk_undone dc_law_mk_undone pm_law_mk_undone cd_law_mk_undone ct_law_mk_undone : Value}
    {f_law_mk_letters : Addr} {od_law_mk_letters an_law_mk_letters : Option Addr} {sl_law_mk_letters : Array (Option Value)} {oc_law_mk_letters kV_law_mk_letters dc_law_mk_letters pm_law_mk_letters cd_law_mk_letters ct_law_mk_letters : Value}
    {f_law_sh_lots : Addr} {od_law_sh_lots an_law_sh_lots : Option Addr} {sl_law_sh_lots : Array (Option Value)} {oc_law_sh_lots kV_law_sh_lots dc_law_sh_lots pm_law_sh_lots cd_law_sh_lots ct_law_sh_lots : Value}
    {f_law_sh_images : Addr} {od_law_sh_images an_law_sh_images : Option Addr} {sl_law_sh_images : Array (Option Value)} {oc_law_sh_images kV_law_sh_images dc_law_sh_images pm_law_sh_images cd_law_sh_images ct_law_sh_images : Value}
    {f_law_told_ahead : Addr} {od_law_told_ahead an_law_told_ahead : Option Addr} {sl_law_told_ahead : Array (Option Value)} {oc_law_told_ahead kV_law_told_ahead dc_law_told_ahead pm_law_told_ahead cd_law_told_ahead ct_law_told_ahead : Value}
    {f_is_between : Addr} {od_is_between an_is_between : Option Addr} {sl_is_between : Array (Option Value)} {oc_is_between kV_is_between dc_is_between pm_is_between cd_is_between ct_is_between : Value}
    {f_is_letter_in : Addr} {od_is_letter_in an_is_letter_in : Option Addr} {sl_is_letter_in : Array (Option Value)} {oc_is_letter_in kV_is_letter_in dc_is_letter_in pm_is_letter_in cd_is_letter_in ct_is_letter_in : Value}
    {f_middle_of : Addr} {od_middle_of an_middle_of : Option Addr} {sl_middle_of : Array (Option Value)} {oc_middle_of kV_middle_of dc_middle_of pm_middle_of cd_middle_of ct_middle_of : Value}
    {f_law_mk_ring : Addr} {od_law_mk_ring an_law_mk_ring : Option Addr} {sl_law_mk_ring : Array (Option Value)} {oc_law_mk_ring kV_law_mk_ring dc_law_mk_ring pm_law_mk_ring cd_law_mk_ring ct_law_mk_ring : Value}
    {f_law_mk_renamed : Addr} {od_law_mk_renamed an_law_mk_renamed : Option Addr} {sl_law_mk_renamed : Array (Option Value)} {oc_law_mk_renamed kV_law_mk_renamed dc_law_mk_renamed pm_law_mk_renamed cd_law_mk_renamed ct_law_mk_renamed : Value}
    {f_law_sh_moves : Addr} {od_law_sh_moves an_law_sh_moves : Option Addr} {sl_law_sh_moves : Array (Option Value)} {oc_law_sh_moves kV_law_sh_moves dc_law_sh_moves pm_law_sh_moves cd_law_sh_moves ct_law_sh_moves : Value}
    {f_law_rn_turned : Addr} {od_law_rn_turned an_law_rn_turned : Option Addr} {sl_law_rn_turned : Array (Option Value)} {oc_law_rn_turned kV_law_rn_turned dc_law_rn_turned pm_law_rn_turned cd_law_rn_turned ct_law_rn_turned : Value}
    {f_law_cu_spans : Addr} {od_law_cu_spans an_law_cu_spans : Option Addr} {sl_law_cu_spans : Array (Option Value)} {oc_law_cu_spans kV_law_cu_spans dc_law_cu_spans pm_law_cu_spans cd_law_cu_spans ct_law_cu_spans : Value}
    {f_need_deeds : Addr} {od_need_deeds an_need_deeds : Option Addr} {sl_need_deeds : Array (Option Value)} {oc_need_deeds kV_need_deeds dc_need_deeds pm_need_deeds cd_need_deeds ct_need_deeds : Value}
    {f_fits_letter : Addr} {od_fits_letter an_fits_letter : Option Addr} {sl_fits_letter : Array (Option Value)} {oc_fits_letter kV_fits_letter dc_fits_letter pm_fits_letter cd_fits_letter ct_fits_letter : Value}
    {f_is_move_in : Addr} {od_is_move_in an_is_move_in : Option Addr} {sl_is_move_in : Array (Option Value)} {oc_is_move_in kV_is_move_in dc_is_move_in pm_is_move_in cd_is_move_in ct_is_move_in : Value}
    {f_ring_in : Addr} {od_ring_in an_ring_in : Option Addr} {sl_ring_in : Array (Option Value)} {oc_ring_in kV_ring_in dc_ring_in pm_ring_in cd_ring_in ct_ring_in : Value}
    {f_law_pick : Addr} {od_law_pick an_law_pick : Option Addr} {sl_law_pick : Array (Option Value)} {oc_law_pick kV_law_pick dc_law_pick pm_law_pick cd_law_pick ct_law_pick : Value}
    {f_law_shuffled : Addr} {od_law_shuffled an_law_shuffled : Option Addr} {sl_law_shuffled : Array (Option Value)} {oc_law_shuffled kV_law_shuffled dc_law_shuffled pm_law_shuffled cd_law_shuffled ct_law_shuffled : Value}
    {f_law_mk_renaming : Addr} {od_law_mk_renaming an_law_mk_renaming : Option Addr} {sl_law_mk_renaming : Array (Option Value)} {oc_law_mk_renaming kV_law_mk_renaming dc_law_mk_renaming pm_law_mk_renaming cd_law_mk_renaming ct_law_mk_renaming : Value}
    {f_fits_row : Addr} {od_fits_row an_fits_row : Option Addr} {sl_fits_row : Array (Option Value)} {oc_fits_row kV_fits_row dc_fits_row pm_fits_row cd_fits_row ct_fits_row : Value}
    {f_need_move : Addr} {od_need_move an_need_move : Option Addr} {sl_need_move : Array (Option Value)} {oc_need_move kV_need_move dc_need_move pm_need_move cd_need_move ct_need_move : Value}
    {f_law_mk_row : Addr} {od_law_mk_row an_law_mk_row : Option Addr} {sl_law_mk_row : Array (Option Value)} {oc_law_mk_row kV_law_mk_row dc_law_mk_row pm_law_mk_row cd_law_mk_row ct_law_mk_row : Value}
    {f_law_mk_of_deeds : Addr} {od_law_mk_of_deeds an_law_mk_of_deeds : Option Addr} {sl_law_mk_of_deeds : Array (Option Value)} {oc_law_mk_of_deeds kV_law_mk_of_deeds dc_law_mk_of_deeds pm_law_mk_of_deeds cd_law_mk_of_deeds ct_law_mk_of_deeds : Value}
    {f_law_mk_bad_deeds : Addr} {od_law_mk_bad_deeds an_law_mk_bad_deeds : Option Addr} {sl_law_mk_bad_deeds : Array (Option Value)} {oc_law_mk_bad_deeds kV_law_mk_bad_deeds dc_law_mk_bad_deeds pm_law_mk_bad_deeds cd_law_mk_bad_deeds ct_law_mk_bad_deeds : Value}
    {f_law_mk_bad_rows : Addr} {od_law_mk_bad_rows an_law_mk_bad_rows : Option Addr} {sl_law_mk_bad_rows : Array (Option Value)} {oc_law_mk_bad_rows kV_law_mk_bad_rows dc_law_mk_bad_rows pm_law_mk_bad_rows cd_law_mk_bad_rows ct_law_mk_bad_rows : Value}
    {f_law_sh_bad_move : Addr} {od_law_sh_bad_move an_law_sh_bad_move : Option Addr} {sl_law_sh_bad_move : Array (Option Value)} {oc_law_sh_bad_move kV_law_sh_bad_move dc_law_sh_bad_move pm_law_sh_bad_move cd_law_sh_bad_move ct_law_sh_bad_move : Value}
    {f_law_rn_move : Addr} {od_law_rn_move an_law_rn_move : Option Addr} {sl_law_rn_move : Array (Option Value)} {oc_law_rn_move kV_law_rn_move dc_law_rn_move pm_law_rn_move cd_law_rn_move ct_law_rn_move : Value}
    {f_need_rows : Addr} {od_need_rows an_need_rows : Option Addr} {sl_need_rows : Array (Option Value)} {oc_need_rows kV_need_rows dc_need_rows pm_need_rows cd_need_rows ct_need_rows : Value}
    {f_law_sh_base : Addr} {od_law_sh_base an_law_sh_base : Option Addr} {sl_law_sh_base : Array (Option Value)} {oc_law_sh_base kV_law_sh_base dc_law_sh_base pm_law_sh_base cd_law_sh_base ct_law_sh_base : Value}
    {f_need_row_rings : Addr} {od_need_row_rings an_need_row_rings : Option Addr} {sl_need_row_rings : Array (Option Value)} {oc_need_row_rings kV_need_row_rings dc_need_row_rings pm_need_row_rings cd_need_row_rings ct_need_row_rings : Value}
    {f_law_cu_rows : Addr} {od_law_cu_rows an_law_cu_rows : Option Addr} {sl_law_cu_rows : Array (Option Value)} {oc_law_cu_rows kV_law_cu_rows dc_law_cu_rows pm_law_cu_rows cd_law_cu_rows ct_law_cu_rows : Value}
    {f_neighbours : Addr} {od_neighbours an_neighbours : Option Addr} {sl_neighbours : Array (Option Value)} {oc_neighbours kV_neighbours dc_neighbours pm_neighbours cd_neighbours ct_neighbours : Value}
    {f_length_behind : Addr} {od_length_behind an_length_behind : Option Addr} {sl_length_behind : Array (Option Value)} {oc_length_behind kV_length_behind dc_length_behind pm_length_behind cd_length_behind ct_length_behind : Value}
    {f_law : Addr} {od_law an_law : Option Addr} {sl_law : Array (Option Value)} {oc_law kV_law dc_law pm_law  ct_law : Value}
    {c_law Pt_law : Addr} {e_law : Value} {dd_law : Option Addr} {vs_law : Array Value} {cl_law : Array (Option Value)}
    {C_KeepError : Addr}
    {C_BadDeeds : Addr}
    {C_BadRows : Addr}
    {C_BadMove : Addr}
    {t_MOST_DEEDS : Tok}
    {t_MOST_IN_ROW : Tok}
    {t_MOST_ROWS : Tok}
    (a_law_begun : PySem.W.nsIn K mainGlobals "_law_begun" = some (some (.ref f_law_begun)))
    (l_law_begun : K.lookup f_law_begun = some ⟨oc_law_begun, od_law_begun, .func (PySem.W.fnOf "_law_begun" "_law_begun" (defArgs s_law_begun) (defBody s_law_begun) (defScope s_law_begun) .none kV_law_begun dc_law_begun pm_law_begun an_law_begun cd_law_begun ct_law_begun), sl_law_begun⟩)
    (c_law_begun : PySem.W.codeIn K cd_law_begun "_law_begun" = true)
    (k_law_begun : PySem.W.keepIn K (.ref f_law_begun) = true)
    (a_law_blended : PySem.W.nsIn K mainGlobals "_law_blended" = some (some (.ref f_law_blended)))
    (l_law_blended : K.lookup f_law_blended = some ⟨oc_law_blended, od_law_blended, .func (PySem.W.fnOf "_law_blended" "_law_blended" (defArgs s_law_blended) (defBody s_law_blended) (defScope s_law_blended) .none kV_law_blended dc_law_blended pm_law_blended an_law_blended cd_law_blended ct_law_blended), sl_law_blended⟩)
    (c_law_blended : PySem.W.codeIn K cd_law_blended "_law_blended" = true)
    (k_law_blended : PySem.W.keepIn K (.ref f_law_blended) = true)
    (a_law_draw : PySem.W.nsIn K mainGlobals "_law_draw" = some (some (.ref f_law_draw)))
    (l_law_draw : K.lookup f_law_draw = some ⟨oc_law_draw, od_law_draw, .func (PySem.W.fnOf "_law_draw" "_law_draw" (defArgs s_law_draw) (defBody s_law_draw) (defScope s_law_draw) .none kV_law_draw dc_law_draw pm_law_draw an_law_draw cd_law_draw ct_law_draw), sl_law_draw⟩)
    (c_law_draw : PySem.W.codeIn K cd_law_draw "_law_draw" = true)
    (k_law_draw : PySem.W.keepIn K (.ref f_law_draw) = true)
    (a_law_caught : PySem.W.nsIn K mainGlobals "_law_caught" = some (some (.ref f_law_caught)))
    (l_law_caught : K.lookup f_law_caught = some ⟨oc_law_caught, od_law_caught, .func (PySem.W.fnOf "_law_caught" "_law_caught" (defArgs s_law_caught) (defBody s_law_caught) (defScope s_law_caught) .none kV_law_caught dc_law_caught pm_law_caught an_law_caught cd_law_caught ct_law_caught), sl_law_caught⟩)
    (c_law_caught : PySem.W.codeIn K cd_law_caught "_law_caught" = true)
    (k_law_caught : PySem.W.keepIn K (.ref f_law_caught) = true)
    (a_is_whole : PySem.W.nsIn K mainGlobals "is_whole" = some (some (.ref f_is_whole)))
    (l_is_whole : K.lookup f_is_whole = some ⟨oc_is_whole, od_is_whole, .func (PySem.W.fnOf "is_whole" "is_whole" (defArgs s_is_whole) (defBody s_is_whole) (defScope s_is_whole) .none kV_is_whole dc_is_whole pm_is_whole an_is_whole cd_is_whole ct_is_whole), sl_is_whole⟩)
    (c_is_whole : PySem.W.codeIn K cd_is_whole "is_whole" = true)
    (k_is_whole : PySem.W.keepIn K (.ref f_is_whole) = true)
    (a_plain_of : PySem.W.nsIn K mainGlobals "plain_of" = some (some (.ref f_plain_of)))
    (l_plain_of : K.lookup f_plain_of = some ⟨oc_plain_of, od_plain_of, .func (PySem.W.fnOf "plain_of" "plain_of" (defArgs s_plain_of) (defBody s_plain_of) (defScope s_plain_of) .none kV_plain_of dc_plain_of pm_plain_of an_plain_of cd_plain_of ct_plain_of), sl_plain_of⟩)
    (c_plain_of : PySem.W.codeIn K cd_plain_of "plain_of" = true)
    (k_plain_of : PySem.W.keepIn K (.ref f_plain_of) = true)
    (a_tail_of : PySem.W.nsIn K mainGlobals "tail_of" = some (some (.ref f_tail_of)))
    (l_tail_of : K.lookup f_tail_of = some ⟨oc_tail_of, od_tail_of, .func (PySem.W.fnOf "tail_of" "tail_of" (defArgs s_tail_of) (defBody s_tail_of) (defScope s_tail_of) .none kV_tail_of dc_tail_of pm_tail_of an_tail_of cd_tail_of ct_tail_of), sl_tail_of⟩)
    (c_tail_of : PySem.W.codeIn K cd_tail_of "tail_of" = true)
    (k_tail_of : PySem.W.keepIn K (.ref f_tail_of) = true)
    (a_least_start : PySem.W.nsIn K mainGlobals "least_start" = some (some (.ref f_least_start)))
    (l_least_start : K.lookup f_least_start = some ⟨oc_least_start, od_least_start, .func (PySem.W.fnOf "least_start" "least_start" (defArgs s_least_start) (defBody s_least_start) (defScope s_least_start) .none kV_least_start dc_least_start pm_least_start an_least_start cd_least_start ct_least_start), sl_least_start⟩)
    (c_least_start : PySem.W.codeIn K cd_least_start "least_start" = true)
    (k_least_start : PySem.W.keepIn K (.ref f_least_start) = true)
    (a_ties_in : PySem.W.nsIn K mainGlobals "ties_in" = some (some (.ref f_ties_in)))
    (l_ties_in : K.lookup f_ties_in = some ⟨oc_ties_in, od_ties_in, .func (PySem.W.fnOf "ties_in" "ties_in" (defArgs s_ties_in) (defBody s_ties_in) (defScope s_ties_in) .none kV_ties_in dc_ties_in pm_ties_in an_ties_in cd_ties_in ct_ties_in), sl_ties_in⟩)
    (c_ties_in : PySem.W.codeIn K cd_ties_in "ties_in" = true)
    (k_ties_in : PySem.W.keepIn K (.ref f_ties_in) = true)
    (a_growth_by : PySem.W.nsIn K mainGlobals "growth_by" = some (some (.ref f_growth_by)))
    (l_growth_by : K.lookup f_growth_by = some ⟨oc_growth_by, od_growth_by, .func (PySem.W.fnOf "growth_by" "growth_by" (defArgs s_growth_by) (defBody s_growth_by) (defScope s_growth_by) .none kV_growth_by dc_growth_by pm_growth_by an_growth_by cd_growth_by ct_growth_by), sl_growth_by⟩)
    (c_growth_by : PySem.W.codeIn K cd_growth_by "growth_by" = true)
    (k_growth_by : PySem.W.keepIn K (.ref f_growth_by) = true)
    (a_law_mk_plain : PySem.W.nsIn K mainGlobals "_law_mk_plain" = some (some (.ref f_law_mk_plain)))
    (l_law_mk_plain : K.lookup f_law_mk_plain = some ⟨oc_law_mk_plain, od_law_mk_plain, .func (PySem.W.fnOf "_law_mk_plain" "_law_mk_plain" (defArgs s_law_mk_plain) (defBody s_law_mk_plain) (defScope s_law_mk_plain) .none kV_law_mk_plain dc_law_mk_plain pm_law_mk_plain an_law_mk_plain cd_law_mk_plain ct_law_mk_plain), sl_law_mk_plain⟩)
    (c_law_mk_plain : PySem.W.codeIn K cd_law_mk_plain "_law_mk_plain" = true)
    (k_law_mk_plain : PySem.W.keepIn K (.ref f_law_mk_plain) = true)
    (a_law_mk_undone : PySem.W.nsIn K mainGlobals "_law_mk_undone" = some (some (.ref f_law_mk_undone)))
    (l_law_mk_undone : K.lookup f_law_mk_undone = some ⟨oc_law_mk_undone, od_law_mk_undone, .func (PySem.W.fnOf "_law_mk_undone" "_law_mk_undone" (defArgs s_law_mk_undone) (defBody s_law_mk_undone) (defScope s_law_mk_undone) .none kV_law_mk_undone dc_law_mk_undone pm_law_mk_undone an_law_mk_undone cd_law_mk_undone ct_law_mk_undone), sl_law_mk_undone⟩)
    (c_law_mk_undone : PySem.W.codeIn K cd_law_mk_undone "_law_mk_undone" = true)
    (k_law_mk_undone : PySem.W.keepIn K (.ref f_law_mk_undone) = true)
    (a_law_mk_letters : PySem.W.nsIn K mainGlobals "_law_mk_letters" = some (some (.ref f_law_mk_letters)))
    (l_law_mk_letters : K.lookup f_law_mk_letters = some ⟨oc_law_mk_letters, od_law_mk_letters, .func (PySem.W.fnOf "_law_mk_letters" "_law_mk_letters" (defArgs s_law_mk_letters) (defBody s_law_mk_letters) (defScope s_law_mk_letters) .none kV_law_mk_letters dc_law_mk_letters pm_law_mk_letters an_law_mk_letters cd_law_mk_letters ct_law_mk_letters), sl_law_mk_letters⟩)
    (c_law_mk_letters : PySem.W.codeIn K cd_law_mk_letters "_law_mk_letters" = true)
    (k_law_mk_letters : PySem.W.keepIn K (.ref f_law_mk_letters) = true)
    (a_law_sh_lots : PySem.W.nsIn K mainGlobals "_law_sh_lots" = some (some (.ref f_law_sh_lots)))
    (l_law_sh_lots : K.lookup f_law_sh_lots = some ⟨oc_law_sh_lots, od_law_sh_lots, .func (PySem.W.fnOf "_law_sh_lots" "_law_sh_lots" (defArgs s_law_sh_lots) (defBody s_law_sh_lots) (defScope s_law_sh_lots) .none kV_law_sh_lots dc_law_sh_lots pm_law_sh_lots an_law_sh_lots cd_law_sh_lots ct_law_sh_lots), sl_law_sh_lots⟩)
    (c_law_sh_lots : PySem.W.codeIn K cd_law_sh_lots "_law_sh_lots" = true)
    (k_law_sh_lots : PySem.W.keepIn K (.ref f_law_sh_lots) = true)
    (a_law_sh_images : PySem.W.nsIn K mainGlobals "_law_sh_images" = some (some (.ref f_law_sh_images)))
    (l_law_sh_images : K.lookup f_law_sh_images = some ⟨oc_law_sh_images, od_law_sh_images, .func (PySem.W.fnOf "_law_sh_images" "_law_sh_images" (defArgs s_law_sh_images) (defBody s_law_sh_images) (defScope s_law_sh_images) .none kV_law_sh_images dc_law_sh_images pm_law_sh_images an_law_sh_images cd_law_sh_images ct_law_sh_images), sl_law_sh_images⟩)
    (c_law_sh_images : PySem.W.codeIn K cd_law_sh_images "_law_sh_images" = true)
    (k_law_sh_images : PySem.W.keepIn K (.ref f_law_sh_images) = true)
    (a_law_told_ahead : PySem.W.nsIn K mainGlobals "_law_told_ahead" = some (some (.ref f_law_told_ahead)))
    (l_law_told_ahead : K.lookup f_law_told_ahead = some ⟨oc_law_told_ahead, od_law_told_ahead, .func (PySem.W.fnOf "_law_told_ahead" "_law_told_ahead" (defArgs s_law_told_ahead) (defBody s_law_told_ahead) (defScope s_law_told_ahead) .none kV_law_told_ahead dc_law_told_ahead pm_law_told_ahead an_law_told_ahead cd_law_told_ahead ct_law_told_ahead), sl_law_told_ahead⟩)
    (c_law_told_ahead : PySem.W.codeIn K cd_law_told_ahead "_law_told_ahead" = true)
    (k_law_told_ahead : PySem.W.keepIn K (.ref f_law_told_ahead) = true)
    (a_is_between : PySem.W.nsIn K mainGlobals "is_between" = some (some (.ref f_is_between)))
    (l_is_between : K.lookup f_is_between = some ⟨oc_is_between, od_is_between, .func (PySem.W.fnOf "is_between" "is_between" (defArgs s_is_between) (defBody s_is_between) (defScope s_is_between) .none kV_is_between dc_is_between pm_is_between an_is_between cd_is_between ct_is_between), sl_is_between⟩)
    (c_is_between : PySem.W.codeIn K cd_is_between "is_between" = true)
    (k_is_between : PySem.W.keepIn K (.ref f_is_between) = true)
    (a_is_letter_in : PySem.W.nsIn K mainGlobals "is_letter_in" = some (some (.ref f_is_letter_in)))
    (l_is_letter_in : K.lookup f_is_letter_in = some ⟨oc_is_letter_in, od_is_letter_in, .func (PySem.W.fnOf "is_letter_in" "is_letter_in" (defArgs s_is_letter_in) (defBody s_is_letter_in) (defScope s_is_letter_in) .none kV_is_letter_in dc_is_letter_in pm_is_letter_in an_is_letter_in cd_is_letter_in ct_is_letter_in), sl_is_letter_in⟩)
    (c_is_letter_in : PySem.W.codeIn K cd_is_letter_in "is_letter_in" = true)
    (k_is_letter_in : PySem.W.keepIn K (.ref f_is_letter_in) = true)
    (a_middle_of : PySem.W.nsIn K mainGlobals "middle_of" = some (some (.ref f_middle_of)))
    (l_middle_of : K.lookup f_middle_of = some ⟨oc_middle_of, od_middle_of, .func (PySem.W.fnOf "middle_of" "middle_of" (defArgs s_middle_of) (defBody s_middle_of) (defScope s_middle_of) .none kV_middle_of dc_middle_of pm_middle_of an_middle_of cd_middle_of ct_middle_of), sl_middle_of⟩)
    (c_middle_of : PySem.W.codeIn K cd_middle_of "middle_of" = true)
    (k_middle_of : PySem.W.keepIn K (.ref f_middle_of) = true)
    (a_law_mk_ring : PySem.W.nsIn K mainGlobals "_law_mk_ring" = some (some (.ref f_law_mk_ring)))
    (l_law_mk_ring : K.lookup f_law_mk_ring = some ⟨oc_law_mk_ring, od_law_mk_ring, .func (PySem.W.fnOf "_law_mk_ring" "_law_mk_ring" (defArgs s_law_mk_ring) (defBody s_law_mk_ring) (defScope s_law_mk_ring) .none kV_law_mk_ring dc_law_mk_ring pm_law_mk_ring an_law_mk_ring cd_law_mk_ring ct_law_mk_ring), sl_law_mk_ring⟩)
    (c_law_mk_ring : PySem.W.codeIn K cd_law_mk_ring "_law_mk_ring" = true)
    (k_law_mk_ring : PySem.W.keepIn K (.ref f_law_mk_ring) = true)
    (a_law_mk_renamed : PySem.W.nsIn K mainGlobals "_law_mk_renamed" = some (some (.ref f_law_mk_renamed)))
    (l_law_mk_renamed : K.lookup f_law_mk_renamed = some ⟨oc_law_mk_renamed, od_law_mk_renamed, .func (PySem.W.fnOf "_law_mk_renamed" "_law_mk_renamed" (defArgs s_law_mk_renamed) (defBody s_law_mk_renamed) (defScope s_law_mk_renamed) .none kV_law_mk_renamed dc_law_mk_renamed pm_law_mk_renamed an_law_mk_renamed cd_law_mk_renamed ct_law_mk_renamed), sl_law_mk_renamed⟩)
    (c_law_mk_renamed : PySem.W.codeIn K cd_law_mk_renamed "_law_mk_renamed" = true)
    (k_law_mk_renamed : PySem.W.keepIn K (.ref f_law_mk_renamed) = true)
    (a_law_sh_moves : PySem.W.nsIn K mainGlobals "_law_sh_moves" = some (some (.ref f_law_sh_moves)))
    (l_law_sh_moves : K.lookup f_law_sh_moves = some ⟨oc_law_sh_moves, od_law_sh_moves, .func (PySem.W.fnOf "_law_sh_moves" "_law_sh_moves" (defArgs s_law_sh_moves) (defBody s_law_sh_moves) (defScope s_law_sh_moves) .none kV_law_sh_moves dc_law_sh_moves pm_law_sh_moves an_law_sh_moves cd_law_sh_moves ct_law_sh_moves), sl_law_sh_moves⟩)
    (c_law_sh_moves : PySem.W.codeIn K cd_law_sh_moves "_law_sh_moves" = true)
    (k_law_sh_moves : PySem.W.keepIn K (.ref f_law_sh_moves) = true)
    (a_law_rn_turned : PySem.W.nsIn K mainGlobals "_law_rn_turned" = some (some (.ref f_law_rn_turned)))
    (l_law_rn_turned : K.lookup f_law_rn_turned = some ⟨oc_law_rn_turned, od_law_rn_turned, .func (PySem.W.fnOf "_law_rn_turned" "_law_rn_turned" (defArgs s_law_rn_turned) (defBody s_law_rn_turned) (defScope s_law_rn_turned) .none kV_law_rn_turned dc_law_rn_turned pm_law_rn_turned an_law_rn_turned cd_law_rn_turned ct_law_rn_turned), sl_law_rn_turned⟩)
    (c_law_rn_turned : PySem.W.codeIn K cd_law_rn_turned "_law_rn_turned" = true)
    (k_law_rn_turned : PySem.W.keepIn K (.ref f_law_rn_turned) = true)
    (a_law_cu_spans : PySem.W.nsIn K mainGlobals "_law_cu_spans" = some (some (.ref f_law_cu_spans)))
    (l_law_cu_spans : K.lookup f_law_cu_spans = some ⟨oc_law_cu_spans, od_law_cu_spans, .func (PySem.W.fnOf "_law_cu_spans" "_law_cu_spans" (defArgs s_law_cu_spans) (defBody s_law_cu_spans) (defScope s_law_cu_spans) .none kV_law_cu_spans dc_law_cu_spans pm_law_cu_spans an_law_cu_spans cd_law_cu_spans ct_law_cu_spans), sl_law_cu_spans⟩)
    (c_law_cu_spans : PySem.W.codeIn K cd_law_cu_spans "_law_cu_spans" = true)
    (k_law_cu_spans : PySem.W.keepIn K (.ref f_law_cu_spans) = true)
    (a_need_deeds : PySem.W.nsIn K mainGlobals "need_deeds" = some (some (.ref f_need_deeds)))
    (l_need_deeds : K.lookup f_need_deeds = some ⟨oc_need_deeds, od_need_deeds, .func (PySem.W.fnOf "need_deeds" "need_deeds" (defArgs s_need_deeds) (defBody s_need_deeds) (defScope s_need_deeds) .none kV_need_deeds dc_need_deeds pm_need_deeds an_need_deeds cd_need_deeds ct_need_deeds), sl_need_deeds⟩)
    (c_need_deeds : PySem.W.codeIn K cd_need_deeds "need_deeds" = true)
    (k_need_deeds : PySem.W.keepIn K (.ref f_need_deeds) = true)
    (a_fits_letter : PySem.W.nsIn K mainGlobals "fits_letter" = some (some (.ref f_fits_letter)))
    (l_fits_letter : K.lookup f_fits_letter = some ⟨oc_fits_letter, od_fits_letter, .func (PySem.W.fnOf "fits_letter" "fits_letter" (defArgs s_fits_letter) (defBody s_fits_letter) (defScope s_fits_letter) .none kV_fits_letter dc_fits_letter pm_fits_letter an_fits_letter cd_fits_letter ct_fits_letter), sl_fits_letter⟩)
    (c_fits_letter : PySem.W.codeIn K cd_fits_letter "fits_letter" = true)
    (k_fits_letter : PySem.W.keepIn K (.ref f_fits_letter) = true)
    (a_is_move_in : PySem.W.nsIn K mainGlobals "is_move_in" = some (some (.ref f_is_move_in)))
    (l_is_move_in : K.lookup f_is_move_in = some ⟨oc_is_move_in, od_is_move_in, .func (PySem.W.fnOf "is_move_in" "is_move_in" (defArgs s_is_move_in) (defBody s_is_move_in) (defScope s_is_move_in) .none kV_is_move_in dc_is_move_in pm_is_move_in an_is_move_in cd_is_move_in ct_is_move_in), sl_is_move_in⟩)
    (c_is_move_in : PySem.W.codeIn K cd_is_move_in "is_move_in" = true)
    (k_is_move_in : PySem.W.keepIn K (.ref f_is_move_in) = true)
    (a_ring_in : PySem.W.nsIn K mainGlobals "ring_in" = some (some (.ref f_ring_in)))
    (l_ring_in : K.lookup f_ring_in = some ⟨oc_ring_in, od_ring_in, .func (PySem.W.fnOf "ring_in" "ring_in" (defArgs s_ring_in) (defBody s_ring_in) (defScope s_ring_in) .none kV_ring_in dc_ring_in pm_ring_in an_ring_in cd_ring_in ct_ring_in), sl_ring_in⟩)
    (c_ring_in : PySem.W.codeIn K cd_ring_in "ring_in" = true)
    (k_ring_in : PySem.W.keepIn K (.ref f_ring_in) = true)
    (a_law_pick : PySem.W.nsIn K mainGlobals "_law_pick" = some (some (.ref f_law_pick)))
    (l_law_pick : K.lookup f_law_pick = some ⟨oc_law_pick, od_law_pick, .func (PySem.W.fnOf "_law_pick" "_law_pick" (defArgs s_law_pick) (defBody s_law_pick) (defScope s_law_pick) .none kV_law_pick dc_law_pick pm_law_pick an_law_pick cd_law_pick ct_law_pick), sl_law_pick⟩)
    (c_law_pick : PySem.W.codeIn K cd_law_pick "_law_pick" = true)
    (k_law_pick : PySem.W.keepIn K (.ref f_law_pick) = true)
    (a_law_shuffled : PySem.W.nsIn K mainGlobals "_law_shuffled" = some (some (.ref f_law_shuffled)))
    (l_law_shuffled : K.lookup f_law_shuffled = some ⟨oc_law_shuffled, od_law_shuffled, .func (PySem.W.fnOf "_law_shuffled" "_law_shuffled" (defArgs s_law_shuffled) (defBody s_law_shuffled) (defScope s_law_shuffled) .none kV_law_shuffled dc_law_shuffled pm_law_shuffled an_law_shuffled cd_law_shuffled ct_law_shuffled), sl_law_shuffled⟩)
    (c_law_shuffled : PySem.W.codeIn K cd_law_shuffled "_law_shuffled" = true)
    (k_law_shuffled : PySem.W.keepIn K (.ref f_law_shuffled) = true)
    (a_law_mk_renaming : PySem.W.nsIn K mainGlobals "_law_mk_renaming" = some (some (.ref f_law_mk_renaming)))
    (l_law_mk_renaming : K.lookup f_law_mk_renaming = some ⟨oc_law_mk_renaming, od_law_mk_renaming, .func (PySem.W.fnOf "_law_mk_renaming" "_law_mk_renaming" (defArgs s_law_mk_renaming) (defBody s_law_mk_renaming) (defScope s_law_mk_renaming) .none kV_law_mk_renaming dc_law_mk_renaming pm_law_mk_renaming an_law_mk_renaming cd_law_mk_renaming ct_law_mk_renaming), sl_law_mk_renaming⟩)
    (c_law_mk_renaming : PySem.W.codeIn K cd_law_mk_renaming "_law_mk_renaming" = true)
    (k_law_mk_renaming : PySem.W.keepIn K (.ref f_law_mk_renaming) = true)
    (a_fits_row : PySem.W.nsIn K mainGlobals "fits_row" = some (some (.ref f_fits_row)))
    (l_fits_row : K.lookup f_fits_row = some ⟨oc_fits_row, od_fits_row, .func (PySem.W.fnOf "fits_row" "fits_row" (defArgs s_fits_row) (defBody s_fits_row) (defScope s_fits_row) .none kV_fits_row dc_fits_row pm_fits_row an_fits_row cd_fits_row ct_fits_row), sl_fits_row⟩)
    (c_fits_row : PySem.W.codeIn K cd_fits_row "fits_row" = true)
    (k_fits_row : PySem.W.keepIn K (.ref f_fits_row) = true)
    (a_need_move : PySem.W.nsIn K mainGlobals "need_move" = some (some (.ref f_need_move)))
    (l_need_move : K.lookup f_need_move = some ⟨oc_need_move, od_need_move, .func (PySem.W.fnOf "need_move" "need_move" (defArgs s_need_move) (defBody s_need_move) (defScope s_need_move) .none kV_need_move dc_need_move pm_need_move an_need_move cd_need_move ct_need_move), sl_need_move⟩)
    (c_need_move : PySem.W.codeIn K cd_need_move "need_move" = true)
    (k_need_move : PySem.W.keepIn K (.ref f_need_move) = true)
    (a_law_mk_row : PySem.W.nsIn K mainGlobals "_law_mk_row" = some (some (.ref f_law_mk_row)))
    (l_law_mk_row : K.lookup f_law_mk_row = some ⟨oc_law_mk_row, od_law_mk_row, .func (PySem.W.fnOf "_law_mk_row" "_law_mk_row" (defArgs s_law_mk_row) (defBody s_law_mk_row) (defScope s_law_mk_row) .none kV_law_mk_row dc_law_mk_row pm_law_mk_row an_law_mk_row cd_law_mk_row ct_law_mk_row), sl_law_mk_row⟩)
    (c_law_mk_row : PySem.W.codeIn K cd_law_mk_row "_law_mk_row" = true)
    (k_law_mk_row : PySem.W.keepIn K (.ref f_law_mk_row) = true)
    (a_law_mk_of_deeds : PySem.W.nsIn K mainGlobals "_law_mk_of_deeds" = some (some (.ref f_law_mk_of_deeds)))
    (l_law_mk_of_deeds : K.lookup f_law_mk_of_deeds = some ⟨oc_law_mk_of_deeds, od_law_mk_of_deeds, .func (PySem.W.fnOf "_law_mk_of_deeds" "_law_mk_of_deeds" (defArgs s_law_mk_of_deeds) (defBody s_law_mk_of_deeds) (defScope s_law_mk_of_deeds) .none kV_law_mk_of_deeds dc_law_mk_of_deeds pm_law_mk_of_deeds an_law_mk_of_deeds cd_law_mk_of_deeds ct_law_mk_of_deeds), sl_law_mk_of_deeds⟩)
    (c_law_mk_of_deeds : PySem.W.codeIn K cd_law_mk_of_deeds "_law_mk_of_deeds" = true)
    (k_law_mk_of_deeds : PySem.W.keepIn K (.ref f_law_mk_of_deeds) = true)
    (a_law_mk_bad_deeds : PySem.W.nsIn K mainGlobals "_law_mk_bad_deeds" = some (some (.ref f_law_mk_bad_deeds)))
    (l_law_mk_bad_deeds : K.lookup f_law_mk_bad_deeds = some ⟨oc_law_mk_bad_deeds, od_law_mk_bad_deeds, .func (PySem.W.fnOf "_law_mk_bad_deeds" "_law_mk_bad_deeds" (defArgs s_law_mk_bad_deeds) (defBody s_law_mk_bad_deeds) (defScope s_law_mk_bad_deeds) .none kV_law_mk_bad_deeds dc_law_mk_bad_deeds pm_law_mk_bad_deeds an_law_mk_bad_deeds cd_law_mk_bad_deeds ct_law_mk_bad_deeds), sl_law_mk_bad_deeds⟩)
    (c_law_mk_bad_deeds : PySem.W.codeIn K cd_law_mk_bad_deeds "_law_mk_bad_deeds" = true)
    (k_law_mk_bad_deeds : PySem.W.keepIn K (.ref f_law_mk_bad_deeds) = true)
    (a_law_mk_bad_rows : PySem.W.nsIn K mainGlobals "_law_mk_bad_rows" = some (some (.ref f_law_mk_bad_rows)))
    (l_law_mk_bad_rows : K.lookup f_law_mk_bad_rows = some ⟨oc_law_mk_bad_rows, od_law_mk_bad_rows, .func (PySem.W.fnOf "_law_mk_bad_rows" "_law_mk_bad_rows" (defArgs s_law_mk_bad_rows) (defBody s_law_mk_bad_rows) (defScope s_law_mk_bad_rows) .none kV_law_mk_bad_rows dc_law_mk_bad_rows pm_law_mk_bad_rows an_law_mk_bad_rows cd_law_mk_bad_rows ct_law_mk_bad_rows), sl_law_mk_bad_rows⟩)
    (c_law_mk_bad_rows : PySem.W.codeIn K cd_law_mk_bad_rows "_law_mk_bad_rows" = true)
    (k_law_mk_bad_rows : PySem.W.keepIn K (.ref f_law_mk_bad_rows) = true)
    (a_law_sh_bad_move : PySem.W.nsIn K mainGlobals "_law_sh_bad_move" = some (some (.ref f_law_sh_bad_move)))
    (l_law_sh_bad_move : K.lookup f_law_sh_bad_move = some ⟨oc_law_sh_bad_move, od_law_sh_bad_move, .func (PySem.W.fnOf "_law_sh_bad_move" "_law_sh_bad_move" (defArgs s_law_sh_bad_move) (defBody s_law_sh_bad_move) (defScope s_law_sh_bad_move) .none kV_law_sh_bad_move dc_law_sh_bad_move pm_law_sh_bad_move an_law_sh_bad_move cd_law_sh_bad_move ct_law_sh_bad_move), sl_law_sh_bad_move⟩)
    (c_law_sh_bad_move : PySem.W.codeIn K cd_law_sh_bad_move "_law_sh_bad_move" = true)
    (k_law_sh_bad_move : PySem.W.keepIn K (.ref f_law_sh_bad_move) = true)
    (a_law_rn_move : PySem.W.nsIn K mainGlobals "_law_rn_move" = some (some (.ref f_law_rn_move)))
    (l_law_rn_move : K.lookup f_law_rn_move = some ⟨oc_law_rn_move, od_law_rn_move, .func (PySem.W.fnOf "_law_rn_move" "_law_rn_move" (defArgs s_law_rn_move) (defBody s_law_rn_move) (defScope s_law_rn_move) .none kV_law_rn_move dc_law_rn_move pm_law_rn_move an_law_rn_move cd_law_rn_move ct_law_rn_move), sl_law_rn_move⟩)
    (c_law_rn_move : PySem.W.codeIn K cd_law_rn_move "_law_rn_move" = true)
    (k_law_rn_move : PySem.W.keepIn K (.ref f_law_rn_move) = true)
    (a_need_rows : PySem.W.nsIn K mainGlobals "need_rows" = some (some (.ref f_need_rows)))
    (l_need_rows : K.lookup f_need_rows = some ⟨oc_need_rows, od_need_rows, .func (PySem.W.fnOf "need_rows" "need_rows" (defArgs s_need_rows) (defBody s_need_rows) (defScope s_need_rows) .none kV_need_rows dc_need_rows pm_need_rows an_need_rows cd_need_rows ct_need_rows), sl_need_rows⟩)
    (c_need_rows : PySem.W.codeIn K cd_need_rows "need_rows" = true)
    (k_need_rows : PySem.W.keepIn K (.ref f_need_rows) = true)
    (a_law_sh_base : PySem.W.nsIn K mainGlobals "_law_sh_base" = some (some (.ref f_law_sh_base)))
    (l_law_sh_base : K.lookup f_law_sh_base = some ⟨oc_law_sh_base, od_law_sh_base, .func (PySem.W.fnOf "_law_sh_base" "_law_sh_base" (defArgs s_law_sh_base) (defBody s_law_sh_base) (defScope s_law_sh_base) .none kV_law_sh_base dc_law_sh_base pm_law_sh_base an_law_sh_base cd_law_sh_base ct_law_sh_base), sl_law_sh_base⟩)
    (c_law_sh_base : PySem.W.codeIn K cd_law_sh_base "_law_sh_base" = true)
    (k_law_sh_base : PySem.W.keepIn K (.ref f_law_sh_base) = true)
    (a_need_row_rings : PySem.W.nsIn K mainGlobals "need_row_rings" = some (some (.ref f_need_row_rings)))
    (l_need_row_rings : K.lookup f_need_row_rings = some ⟨oc_need_row_rings, od_need_row_rings, .func (PySem.W.fnOf "need_row_rings" "need_row_rings" (defArgs s_need_row_rings) (defBody s_need_row_rings) (defScope s_need_row_rings) .none kV_need_row_rings dc_need_row_rings pm_need_row_rings an_need_row_rings cd_need_row_rings ct_need_row_rings), sl_need_row_rings⟩)
    (c_need_row_rings : PySem.W.codeIn K cd_need_row_rings "need_row_rings" = true)
    (k_need_row_rings : PySem.W.keepIn K (.ref f_need_row_rings) = true)
    (a_law_cu_rows : PySem.W.nsIn K mainGlobals "_law_cu_rows" = some (some (.ref f_law_cu_rows)))
    (l_law_cu_rows : K.lookup f_law_cu_rows = some ⟨oc_law_cu_rows, od_law_cu_rows, .func (PySem.W.fnOf "_law_cu_rows" "_law_cu_rows" (defArgs s_law_cu_rows) (defBody s_law_cu_rows) (defScope s_law_cu_rows) .none kV_law_cu_rows dc_law_cu_rows pm_law_cu_rows an_law_cu_rows cd_law_cu_rows ct_law_cu_rows), sl_law_cu_rows⟩)
    (c_law_cu_rows : PySem.W.codeIn K cd_law_cu_rows "_law_cu_rows" = true)
    (k_law_cu_rows : PySem.W.keepIn K (.ref f_law_cu_rows) = true)
    (a_neighbours : PySem.W.nsIn K mainGlobals "neighbours" = some (some (.ref f_neighbours)))
    (l_neighbours : K.lookup f_neighbours = some ⟨oc_neighbours, od_neighbours, .func (PySem.W.fnOf "neighbours" "neighbours" (defArgs s_neighbours) (defBody s_neighbours) (defScope s_neighbours) .none kV_neighbours dc_neighbours pm_neighbours an_neighbours cd_neighbours ct_neighbours), sl_neighbours⟩)
    (c_neighbours : PySem.W.codeIn K cd_neighbours "neighbours" = true)
    (k_neighbours : PySem.W.keepIn K (.ref f_neighbours) = true)
    (a_length_behind : PySem.W.nsIn K mainGlobals "length_behind" = some (some (.ref f_length_behind)))
    (l_length_behind : K.lookup f_length_behind = some ⟨oc_length_behind, od_length_behind, .func (PySem.W.fnOf "length_behind" "length_behind" (defArgs s_length_behind) (defBody s_length_behind) (defScope s_length_behind) .none kV_length_behind dc_length_behind pm_length_behind an_length_behind cd_length_behind ct_length_behind), sl_length_behind⟩)
    (c_length_behind : PySem.W.codeIn K cd_length_behind "length_behind" = true)
    (k_length_behind : PySem.W.keepIn K (.ref f_length_behind) = true)
    (a_law : PySem.W.nsIn K mainGlobals "law" = some (some (.ref f_law)))
    (l_law : K.lookup f_law = some ⟨oc_law, od_law, .func (PySem.W.fnOf "law" "law" (defArgs s_law) (defBody s_law) (defScope s_law) .none kV_law dc_law pm_law an_law (.ref c_law) ct_law), sl_law⟩)
    (c_law_ : PySem.W.codeIn K (.ref c_law) "law" = true)
    (k_law : PySem.W.keepIn K (.ref f_law) = true)
    (lc_law : K.lookup c_law = some ⟨e_law, dd_law, .fields vs_law, cl_law⟩)
    (hP_law : vs_law[11]? = some (.ref Pt_law))
    (hh_law : PySem.W.codeHdIn K c_law Pt_law = true)
    (nP_law : K.lookup Pt_law = none)
    (aC_KeepError : PySem.W.nsIn K mainGlobals "KeepError" = some (some (.ref C_KeepError)))
    (aC_BadDeeds : PySem.W.nsIn K mainGlobals "BadDeeds" = some (some (.ref C_BadDeeds)))
    (aC_BadRows : PySem.W.nsIn K mainGlobals "BadRows" = some (some (.ref C_BadRows)))
    (aC_BadMove : PySem.W.nsIn K mainGlobals "BadMove" = some (some (.ref C_BadMove)))
    (kC_BadDeeds : PySem.W.keepIn K (.ref C_BadDeeds) = true)
    (xC_BadDeeds : PySem.W.excIn K C_BadDeeds [.type "ValueError", .type "Exception", .type "BaseException", .type "object"] "ValueError.__new__" = true)
    (bC_BadDeeds : PySem.W.subIn K (.ref C_BadDeeds) (.type "BaseException") = some true)
    (tC_BadDeeds : PySem.W.typeIn K (.ref C_BadDeeds) = some (.type "type"))
    (g1_BadDeeds : PySem.W.findIn K (.ref C_BadDeeds) "__getattribute__" = some (some (.builtin "BaseException.__getattribute__")))
    (g2_BadDeeds : PySem.W.findIn K (.ref C_BadDeeds) "__getattr__" = some none)
    (g3_BadDeeds : PySem.W.hasDictIn K C_BadDeeds = true)
    (g4_BadDeeds : PySem.W.findIn K (.ref C_BadDeeds) "__class__" = some (some (.builtin "object.__class__")))
    (g5_BadDeeds : PySem.W.mroIn K C_BadDeeds (.type "object") = some true)
    (ex_BadDeeds : PySem.W.exmOne K (.ref C_BadDeeds) (.ref C_KeepError) = some true)
    (ki_BadDeeds_BadDeeds : PySem.W.kitOne K (.ref C_BadDeeds) (.ref C_BadDeeds) = some true)
    (ki_BadDeeds_BadRows : PySem.W.kitOne K (.ref C_BadDeeds) (.ref C_BadRows) = some false)
    (ki_BadDeeds_BadMove : PySem.W.kitOne K (.ref C_BadDeeds) (.ref C_BadMove) = some false)
    (kC_BadRows : PySem.W.keepIn K (.ref C_BadRows) = true)
    (xC_BadRows : PySem.W.excIn K C_BadRows [.type "ValueError", .type "Exception", .type "BaseException", .type "object"] "ValueError.__new__" = true)
    (bC_BadRows : PySem.W.subIn K (.ref C_BadRows) (.type "BaseException") = some true)
    (tC_BadRows : PySem.W.typeIn K (.ref C_BadRows) = some (.type "type"))
    (g1_BadRows : PySem.W.findIn K (.ref C_BadRows) "__getattribute__" = some (some (.builtin "BaseException.__getattribute__")))
    (g2_BadRows : PySem.W.findIn K (.ref C_BadRows) "__getattr__" = some none)
    (g3_BadRows : PySem.W.hasDictIn K C_BadRows = true)
    (g4_BadRows : PySem.W.findIn K (.ref C_BadRows) "__class__" = some (some (.builtin "object.__class__")))
    (g5_BadRows : PySem.W.mroIn K C_BadRows (.type "object") = some true)
    (ex_BadRows : PySem.W.exmOne K (.ref C_BadRows) (.ref C_KeepError) = some true)
    (ki_BadRows_BadDeeds : PySem.W.kitOne K (.ref C_BadRows) (.ref C_BadDeeds) = some false)
    (ki_BadRows_BadRows : PySem.W.kitOne K (.ref C_BadRows) (.ref C_BadRows) = some true)
    (ki_BadRows_BadMove : PySem.W.kitOne K (.ref C_BadRows) (.ref C_BadMove) = some false)
    (kC_BadMove : PySem.W.keepIn K (.ref C_BadMove) = true)
    (xC_BadMove : PySem.W.excIn K C_BadMove [.type "ValueError", .type "Exception", .type "BaseException", .type "object"] "ValueError.__new__" = true)
    (bC_BadMove : PySem.W.subIn K (.ref C_BadMove) (.type "BaseException") = some true)
    (tC_BadMove : PySem.W.typeIn K (.ref C_BadMove) = some (.type "type"))
    (g1_BadMove : PySem.W.findIn K (.ref C_BadMove) "__getattribute__" = some (some (.builtin "BaseException.__getattribute__")))
    (g2_BadMove : PySem.W.findIn K (.ref C_BadMove) "__getattr__" = some none)
    (g3_BadMove : PySem.W.hasDictIn K C_BadMove = true)
    (g4_BadMove : PySem.W.findIn K (.ref C_BadMove) "__class__" = some (some (.builtin "object.__class__")))
    (g5_BadMove : PySem.W.mroIn K C_BadMove (.type "object") = some true)
    (ex_BadMove : PySem.W.exmOne K (.ref C_BadMove) (.ref C_KeepError) = some true)
    (ki_BadMove_BadDeeds : PySem.W.kitOne K (.ref C_BadMove) (.ref C_BadDeeds) = some false)
    (ki_BadMove_BadRows : PySem.W.kitOne K (.ref C_BadMove) (.ref C_BadRows) = some false)
    (ki_BadMove_BadMove : PySem.W.kitOne K (.ref C_BadMove) (.ref C_BadMove) = some true)
    (u1 : PySem.W.specialIn K (.builtin "object.__class__") "__get__" = some (some (.builtin "getset_descriptor.__get__")))
    (u2 : PySem.W.takesIn K (.builtin "object.__class__") = some true)
    (z_abs : PySem.W.nsIn K mainGlobals "abs" = some none)
    (z_all : PySem.W.nsIn K mainGlobals "all" = some none)
    (z_bool : PySem.W.nsIn K mainGlobals "bool" = some none)
    (gi_MOST_DEEDS : PySem.W.nsIn K mainGlobals "MOST_DEEDS" = some (some (.int 4 t_MOST_DEEDS)))
    (gi_MOST_IN_ROW : PySem.W.nsIn K mainGlobals "MOST_IN_ROW" = some (some (.int 200 t_MOST_IN_ROW)))
    (gi_MOST_ROWS : PySem.W.nsIn K mainGlobals "MOST_ROWS" = some (some (.int 6 t_MOST_ROWS)))
    (z_int : PySem.W.nsIn K mainGlobals "int" = some none)
    (z_isinstance : PySem.W.nsIn K mainGlobals "isinstance" = some none)
    (z_len : PySem.W.nsIn K mainGlobals "len" = some none)
    (z_list : PySem.W.nsIn K mainGlobals "list" = some none)
    (z_max : PySem.W.nsIn K mainGlobals "max" = some none)
    (z_min : PySem.W.nsIn K mainGlobals "min" = some none)
    (z_range : PySem.W.nsIn K mainGlobals "range" = some none)
    (z_sorted : PySem.W.nsIn K mainGlobals "sorted" = some none)
    (z_sum : PySem.W.nsIn K mainGlobals "sum" = some none)
    (z_tuple : PySem.W.nsIn K mainGlobals "tuple" = some none)
    (ow_law : LamX.OwnTab K f_law h) :
    LamX.LawAtS l w K (L2.CX l.prog w) 10 63 "_law_script" mg fa h := by
  have e := hfa.symm.trans (PySem.W.mg_of X G a_law)
  cases e
  obtain ⟨en, hen⟩ : ∃ en : En, en = ⟨[(Pt_law, ("law.<locals>." : Str) ++ "<lambda>")], C_KeepError, C_BadDeeds, C_BadRows, C_BadMove⟩ := ⟨_, rfl⟩
  have S : SF K mg en := by
    subst hen
    constructor
    · exact PySem.W.mg_none_of X G z_abs
    · exact PySem.W.mg_none_of X G z_all
    · exact PySem.W.mg_none_of X G z_bool
    · exact ⟨_, PySem.W.mg_of X G gi_MOST_DEEDS⟩
    · exact ⟨_, PySem.W.mg_of X G gi_MOST_IN_ROW⟩
    · exact ⟨_, PySem.W.mg_of X G gi_MOST_ROWS⟩
    · exact PySem.W.mg_none_of X G z_int
    · exact PySem.W.mg_none_of X G z_isinstance
    · exact PySem.W.mg_none_of X G z_len
    · exact PySem.W.mg_none_of X G z_list
    · exact PySem.W.mg_none_of X G z_max
    · exact PySem.W.mg_none_of X G z_min
    · exact PySem.W.mg_none_of X G z_range
    · exact PySem.W.mg_none_of X G z_sorted
    · exact PySem.W.mg_none_of X G z_sum
    · exact PySem.W.mg_none_of X G z_tuple
    · exact ⟨PySem.W.mg_of X G aC_BadDeeds, kC_BadDeeds, xC_BadDeeds, bC_BadDeeds, tC_BadDeeds⟩
    · exact ⟨PySem.W.mg_of X G aC_BadRows, kC_BadRows, xC_BadRows, bC_BadRows, tC_BadRows⟩
    · exact ⟨PySem.W.mg_of X G aC_BadMove, kC_BadMove, xC_BadMove, bC_BadMove, tC_BadMove⟩
    · exact PySem.W.mg_of X G aC_KeepError
    · intro C hC
      simp only [En.cs, List.mem_cons, List.not_mem_nil, or_false] at hC
      rcases hC with rfl | rfl | rfl
      · exact ex_BadDeeds
      · exact ex_BadRows
      · exact ex_BadMove
    · intro p hp
      simp only [En.t_BadDeeds, List.mem_cons, List.not_mem_nil, or_false] at hp
      rcases hp with rfl | rfl | rfl
      · exact ⟨⟨g1_BadDeeds, g2_BadDeeds, bC_BadDeeds, g3_BadDeeds, g4_BadDeeds, u1, u2, g5_BadDeeds⟩, ki_BadDeeds_BadDeeds⟩
      · exact ⟨⟨g1_BadRows, g2_BadRows, bC_BadRows, g3_BadRows, g4_BadRows, u1, u2, g5_BadRows⟩, ki_BadRows_BadDeeds⟩
      · exact ⟨⟨g1_BadMove, g2_BadMove, bC_BadMove, g3_BadMove, g4_BadMove, u1, u2, g5_BadMove⟩, ki_BadMove_BadDeeds⟩
    · intro p hp
      simp only [En.t_BadRows, List.mem_cons, List.not_mem_nil, or_false] at hp
      rcases hp with rfl | rfl | rfl
      · exact ⟨⟨g1_BadDeeds, g2_BadDeeds, bC_BadDeeds, g3_BadDeeds, g4_BadDeeds, u1, u2, g5_BadDeeds⟩, ki_BadDeeds_BadRows⟩
      · exact ⟨⟨g1_BadRows, g2_BadRows, bC_BadRows, g3_BadRows, g4_BadRows, u1, u2, g5_BadRows⟩, ki_BadRows_BadRows⟩
      · exact ⟨⟨g1_BadMove, g2_BadMove, bC_BadMove, g3_BadMove, g4_BadMove, u1, u2, g5_BadMove⟩, ki_BadMove_BadRows⟩
    · intro p hp
      simp only [En.t_BadMove, List.mem_cons, List.not_mem_nil, or_false] at hp
      rcases hp with rfl | rfl | rfl
      · exact ⟨⟨g1_BadDeeds, g2_BadDeeds, bC_BadDeeds, g3_BadDeeds, g4_BadDeeds, u1, u2, g5_BadDeeds⟩, ki_BadDeeds_BadMove⟩
      · exact ⟨⟨g1_BadRows, g2_BadRows, bC_BadRows, g3_BadRows, g4_BadRows, u1, u2, g5_BadRows⟩, ki_BadRows_BadMove⟩
      · exact ⟨⟨g1_BadMove, g2_BadMove, bC_BadMove, g3_BadMove, g4_BadMove, u1, u2, g5_BadMove⟩, ki_BadMove_BadMove⟩
  have dh : Dst en := by
    subst hen
    exact ⟨(fun z => by have z : C_BadDeeds = C_BadRows := z; rw [z] at ki_BadDeeds_BadRows; cases ki_BadDeeds_BadRows.symm.trans ki_BadRows_BadRows), (fun z => by have z : C_BadDeeds = C_BadMove := z; rw [z] at ki_BadDeeds_BadMove; cases ki_BadDeeds_BadMove.symm.trans ki_BadMove_BadMove), (fun z => by have z : C_BadRows = C_BadMove := z; rw [z] at ki_BadRows_BadMove; cases ki_BadRows_BadMove.symm.trans ki_BadMove_BadMove)⟩
  have U_law_begun := fun_mk (st := s_law_begun) l_law_begun c_law_begun k_law_begun
  have U_law_blended := fun_mk (st := s_law_blended) l_law_blended c_law_blended k_law_blended
  have U_law_draw := fun_mk (st := s_law_draw) l_law_draw c_law_draw k_law_draw
  have U_law_caught := fun_mk (st := s_law_caught) l_law_caught c_law_caught k_law_caught
  have U_is_whole := fun_mk (st := s_is_whole) l_is_whole c_is_whole k_is_whole
  have U_plain_of := fun_mk (st := s_plain_of) l_plain_of c_plain_of k_plain_of
  have U_tail_of := fun_mk (st := s_tail_of) l_tail_of c_tail_of k_tail_of
  have U_least_start := fun_mk (st := s_least_start) l_least_start c_least_start k_least_start
  have U_ties_in := fun_mk (st := s_ties_in) l_ties_in c_ties_in k_ties_in
  have U_growth_by := fun_mk (st := s_growth_by) l_growth_by c_growth_by k_growth_by
  have U_law_mk_plain := fun_mk (st := s_law_mk_plain) l_law_mk_plain c_law_mk_plain k_law_mk_plain
  have U_law_mk_undone := fun_mk (st := s_law_mk_undone) l_law_mk_undone c_law_mk_undone k_law_mk_undone
  have U_law_mk_letters := fun_mk (st := s_law_mk_letters) l_law_mk_letters c_law_mk_letters k_law_mk_letters
  have U_law_sh_lots := fun_mk (st := s_law_sh_lots) l_law_sh_lots c_law_sh_lots k_law_sh_lots
  have U_law_sh_images := fun_mk (st := s_law_sh_images) l_law_sh_images c_law_sh_images k_law_sh_images
  have U_law_told_ahead := fun_mk (st := s_law_told_ahead) l_law_told_ahead c_law_told_ahead k_law_told_ahead
  have U_is_between := fun_mk (st := s_is_between) l_is_between c_is_between k_is_between
  have U_is_letter_in := fun_mk (st := s_is_letter_in) l_is_letter_in c_is_letter_in k_is_letter_in
  have U_middle_of := fun_mk (st := s_middle_of) l_middle_of c_middle_of k_middle_of
  have U_law_mk_ring := fun_mk (st := s_law_mk_ring) l_law_mk_ring c_law_mk_ring k_law_mk_ring
  have U_law_mk_renamed := fun_mk (st := s_law_mk_renamed) l_law_mk_renamed c_law_mk_renamed k_law_mk_renamed
  have U_law_sh_moves := fun_mk (st := s_law_sh_moves) l_law_sh_moves c_law_sh_moves k_law_sh_moves
  have U_law_rn_turned := fun_mk (st := s_law_rn_turned) l_law_rn_turned c_law_rn_turned k_law_rn_turned
  have U_law_cu_spans := fun_mk (st := s_law_cu_spans) l_law_cu_spans c_law_cu_spans k_law_cu_spans
  have U_need_deeds := fun_mk (st := s_need_deeds) l_need_deeds c_need_deeds k_need_deeds
  have U_fits_letter := fun_mk (st := s_fits_letter) l_fits_letter c_fits_letter k_fits_letter
  have U_is_move_in := fun_mk (st := s_is_move_in) l_is_move_in c_is_move_in k_is_move_in
  have U_ring_in := fun_mk (st := s_ring_in) l_ring_in c_ring_in k_ring_in
  have U_law_pick := fun_mk (st := s_law_pick) l_law_pick c_law_pick k_law_pick
  have U_law_shuffled := fun_mk (st := s_law_shuffled) l_law_shuffled c_law_shuffled k_law_shuffled
  have U_law_mk_renaming := fun_mk (st := s_law_mk_renaming) l_law_mk_renaming c_law_mk_renaming k_law_mk_renaming
  have U_fits_row := fun_mk (st := s_fits_row) l_fits_row c_fits_row k_fits_row
  have U_need_move := fun_mk (st := s_need_move) l_need_move c_need_move k_need_move
  have U_law_mk_row := fun_mk (st := s_law_mk_row) l_law_mk_row c_law_mk_row k_law_mk_row
  have U_law_mk_of_deeds := fun_mk (st := s_law_mk_of_deeds) l_law_mk_of_deeds c_law_mk_of_deeds k_law_mk_of_deeds
  have U_law_mk_bad_deeds := fun_mk (st := s_law_mk_bad_deeds) l_law_mk_bad_deeds c_law_mk_bad_deeds k_law_mk_bad_deeds
  have U_law_mk_bad_rows := fun_mk (st := s_law_mk_bad_rows) l_law_mk_bad_rows c_law_mk_bad_rows k_law_mk_bad_rows
  have U_law_sh_bad_move := fun_mk (st := s_law_sh_bad_move) l_law_sh_bad_move c_law_sh_bad_move k_law_sh_bad_move
  have U_law_rn_move := fun_mk (st := s_law_rn_move) l_law_rn_move c_law_rn_move k_law_rn_move
  have U_need_rows := fun_mk (st := s_need_rows) l_need_rows c_need_rows k_need_rows
  have U_law_sh_base := fun_mk (st := s_law_sh_base) l_law_sh_base c_law_sh_base k_law_sh_base
  have U_need_row_rings := fun_mk (st := s_need_row_rings) l_need_row_rings c_need_row_rings k_need_row_rings
  have U_law_cu_rows := fun_mk (st := s_law_cu_rows) l_law_cu_rows c_law_cu_rows k_law_cu_rows
  have U_neighbours := fun_mk (st := s_neighbours) l_neighbours c_neighbours k_neighbours
  have U_length_behind := fun_mk (st := s_length_behind) l_length_behind c_length_behind k_length_behind
  refine ⟨PySem.W.fnOf "law" "law" (defArgs s_law) (defBody s_law) (defScope s_law) .none kV_law dc_law pm_law an_law (.ref c_law) ct_law, [(c_law, Pt_law)], spLaw K en.T, ?_, ?_, ?_, fun s v => .of_eq rfl, fun H a ns hl _ hT hS => ⟨a, ns, rfl, hS, hl, ?_, fun _ => rfl⟩, fun base bk bn tb => ?_⟩
  · intro p hp
    simp only [List.mem_cons, List.not_mem_nil, or_false] at hp
    rcases hp with rfl
    · exact ow_law _ _ _ _ _ _ _ _ l_law rfl rfl lc_law hP_law
  · intro p hp
    simp only [List.mem_cons, List.not_mem_nil, or_false] at hp
    rcases hp with rfl
    · exact nP_law
  · intro p hp
    simp only [List.mem_cons, List.not_mem_nil, or_false] at hp
    rcases hp with rfl
    · exact PySem.W.codeHd_of_K X hh_law
  · subst hen
    intro p hp
    simp only [List.mem_cons, List.not_mem_nil, or_false] at hp
    rcases hp with rfl
    · exact LamX.TabS.nil (hT (c_law, Pt_law) (by simp))
  · have G0 := G
    have G_law_blended : Has l.prog w K mg base "_law_blended" ["_law_state"] 1 1 FBlend := ⟨_, _, PySem.W.mg_of X G a_law_blended, k_law_blended, U_law_blended.binds (ps := ["_law_state"]) fun _ _ _ _ _ _ us hl => match us, hl with | [_], _ => rfl, ok_blended U_law_blended (PySem.W.mg_none_of X G z_int)⟩
    have G_law_draw : Has l.prog w K mg base "_law_draw" ["_law_state", "_law_room"] 2 2 FDraw := ⟨_, _, PySem.W.mg_of X G a_law_draw, k_law_draw, U_law_draw.binds (ps := ["_law_state", "_law_room"]) fun _ _ _ _ _ _ us hl => match us, hl with | [_, _], _ => rfl, ok_draw U_law_draw G_law_blended (PySem.W.mg_none_of X G z_int)⟩
    have G_is_whole : Has l.prog w K mg base "is_whole" ["value"] 1 1 (F_is_whole en) := ⟨_, _, PySem.W.mg_of X G a_is_whole, k_is_whole, U_is_whole.binds (ps := ["value"]) fun _ _ _ _ _ _ us hl => match us, hl with | [_], _ => rfl, ok_is_whole S U_is_whole  ⟩
    have G_plain_of : Has l.prog w K mg base "plain_of" ["letters"] 1 1 (F_plain_of en) := ⟨_, _, PySem.W.mg_of X G a_plain_of, k_plain_of, U_plain_of.binds (ps := ["letters"]) fun _ _ _ _ _ _ us hl => match us, hl with | [_], _ => rfl, ok_plain_of S U_plain_of  ⟩
    have G_tail_of : Has l.prog w K mg base "tail_of" ["row"] 1 1 (F_tail_of en) := ⟨_, _, PySem.W.mg_of X G a_tail_of, k_tail_of, U_tail_of.binds (ps := ["row"]) fun _ _ _ _ _ _ us hl => match us, hl with | [_], _ => rfl, ok_tail_of S U_tail_of  ⟩
    have G_least_start : Has l.prog w K mg base "least_start" ["row"] 1 1 (F_least_start en) := ⟨_, _, PySem.W.mg_of X G a_least_start, k_least_start, U_least_start.binds (ps := ["row"]) fun _ _ _ _ _ _ us hl => match us, hl with | [_], _ => rfl, ok_least_start S U_least_start  ⟩
    have G_ties_in : Has l.prog w K mg base "ties_in" ["rings"] 1 1 (F_ties_in en) := ⟨_, _, PySem.W.mg_of X G a_ties_in, k_ties_in, U_ties_in.binds (ps := ["rings"]) fun _ _ _ _ _ _ us hl => match us, hl with | [_], _ => rfl, ok_ties_in S U_ties_in  ⟩
    have G_growth_by : Has l.prog w K mg base "growth_by" ["ties", "move"] 1 2 (F_growth_by en) := ⟨_, _, PySem.W.mg_of X G a_growth_by, k_growth_by, U_growth_by.binds (ps := ["ties", "move"]) fun _ _ _ _ _ _ us hl => match us, hl with | [_, _], _ => rfl, ok_growth_by S U_growth_by  ⟩
    have G_law_mk_plain : Has l.prog w K mg base "_law_mk_plain" ["_law_letters"] 1 1 (F_law_mk_plain en) := ⟨_, _, PySem.W.mg_of X G a_law_mk_plain, k_law_mk_plain, U_law_mk_plain.binds (ps := ["_law_letters"]) fun _ _ _ _ _ _ us hl => match us, hl with | [_], _ => rfl, ok_law_mk_plain S U_law_mk_plain  ⟩
    have G_law_mk_undone : Has l.prog w K mg base "_law_mk_undone" ["_law_row"] 1 1 (F_law_mk_undone en) := ⟨_, _, PySem.W.mg_of X G a_law_mk_undone, k_law_mk_undone, U_law_mk_undone.binds (ps := ["_law_row"]) fun _ _ _ _ _ _ us hl => match us, hl with | [_], _ => rfl, ok_law_mk_undone S U_law_mk_undone  ⟩
    have G_law_mk_letters : Has l.prog w K mg base "_law_mk_letters" ["_law_deeds"] 1 1 (F_law_mk_letters en) := ⟨_, _, PySem.W.mg_of X G a_law_mk_letters, k_law_mk_letters, U_law_mk_letters.binds (ps := ["_law_deeds"]) fun _ _ _ _ _ _ us hl => match us, hl with | [_], _ => rfl, ok_law_mk_letters S U_law_mk_letters  ⟩
    have G_law_sh_lots : Has l.prog w K mg base "_law_sh_lots" ["_law_letters"] 1 1 (F_law_sh_lots en) := ⟨_, _, PySem.W.mg_of X G a_law_sh_lots, k_law_sh_lots, U_law_sh_lots.binds (ps := ["_law_letters"]) fun _ _ _ _ _ _ us hl => match us, hl with | [_], _ => rfl, ok_law_sh_lots S U_law_sh_lots  ⟩
    have G_law_sh_images : Has l.prog w K mg base "_law_sh_images" ["_law_deeds", "_law_move_here"] 1 2 (F_law_sh_images en) := ⟨_, _, PySem.W.mg_of X G a_law_sh_images, k_law_sh_images, U_law_sh_images.binds (ps := ["_law_deeds", "_law_move_here"]) fun _ _ _ _ _ _ us hl => match us, hl with | [_, _], _ => rfl, ok_law_sh_images S U_law_sh_images  ⟩
    have G_law_told_ahead : Has l.prog w K mg base "_law_told_ahead" ["_law_told", "_law_many", "_law_letter", "_law_lot"] 1 4 (F_law_told_ahead en) := ⟨_, _, PySem.W.mg_of X G a_law_told_ahead, k_law_told_ahead, U_law_told_ahead.binds (ps := ["_law_told", "_law_many", "_law_letter", "_law_lot"]) fun _ _ _ _ _ _ us hl => match us, hl with | [_, _, _, _], _ => rfl, ok_law_told_ahead S U_law_told_ahead  ⟩
    have G_is_between : Has l.prog w K mg base "is_between" ["value", "low", "high"] 2 3 (F_is_between en) := ⟨_, _, PySem.W.mg_of X G a_is_between, k_is_between, U_is_between.binds (ps := ["value", "low", "high"]) fun _ _ _ _ _ _ us hl => match us, hl with | [_, _, _], _ => rfl, ok_is_between S U_is_between G_is_whole ⟩
    have G_is_letter_in : Has l.prog w K mg base "is_letter_in" ["deeds", "value"] 2 2 (F_is_letter_in en) := ⟨_, _, PySem.W.mg_of X G a_is_letter_in, k_is_letter_in, U_is_letter_in.binds (ps := ["deeds", "value"]) fun _ _ _ _ _ _ us hl => match us, hl with | [_, _], _ => rfl, ok_is_letter_in S U_is_letter_in G_is_whole ⟩
    have G_middle_of : Has l.prog w K mg base "middle_of" ["row"] 2 1 (F_middle_of en) := ⟨_, _, PySem.W.mg_of X G a_middle_of, k_middle_of, U_middle_of.binds (ps := ["row"]) fun _ _ _ _ _ _ us hl => match us, hl with | [_], _ => rfl, ok_middle_of S U_middle_of G_tail_of ⟩
    have G_law_mk_ring : Has l.prog w K mg base "_law_mk_ring" ["_law_row"] 2 1 (F_law_mk_ring en) := ⟨_, _, PySem.W.mg_of X G a_law_mk_ring, k_law_mk_ring, U_law_mk_ring.binds (ps := ["_law_row"]) fun _ _ _ _ _ _ us hl => match us, hl with | [_], _ => rfl, ok_law_mk_ring S U_law_mk_ring G_law_mk_plain ⟩
    have G_law_mk_renamed : Has l.prog w K mg base "_law_mk_renamed" ["_law_images", "_law_row"] 2 2 (F_law_mk_renamed en) := ⟨_, _, PySem.W.mg_of X G a_law_mk_renamed, k_law_mk_renamed, U_law_mk_renamed.binds (ps := ["_law_images", "_law_row"]) fun _ _ _ _ _ _ us hl => match us, hl with | [_, _], _ => rfl, ok_law_mk_renamed S U_law_mk_renamed G_law_mk_plain G_law_mk_undone ⟩
    have G_law_sh_moves : Has l.prog w K mg base "_law_sh_moves" ["_law_deeds"] 2 1 (F_law_sh_moves en) := ⟨_, _, PySem.W.mg_of X G a_law_sh_moves, k_law_sh_moves, U_law_sh_moves.binds (ps := ["_law_deeds"]) fun _ _ _ _ _ _ us hl => match us, hl with | [_], _ => rfl, ok_law_sh_moves S U_law_sh_moves G_law_mk_letters G_law_sh_lots ⟩
    have G_law_rn_turned : Has l.prog w K mg base "_law_rn_turned" ["_law_row", "_law_by"] 2 2 (F_law_rn_turned en) := ⟨_, _, PySem.W.mg_of X G a_law_rn_turned, k_law_rn_turned, U_law_rn_turned.binds (ps := ["_law_row", "_law_by"]) fun _ _ _ _ _ _ us hl => match us, hl with | [_, _], _ => rfl, ok_law_rn_turned S U_law_rn_turned G_law_mk_plain G_law_mk_undone ⟩
    have G_law_cu_spans : Has l.prog w K mg base "_law_cu_spans" ["_law_row"] 2 1 (F_law_cu_spans en) := ⟨_, _, PySem.W.mg_of X G a_law_cu_spans, k_law_cu_spans, U_law_cu_spans.binds (ps := ["_law_row"]) fun _ _ _ _ _ _ us hl => match us, hl with | [_], _ => rfl, ok_law_cu_spans S U_law_cu_spans G_law_mk_plain ⟩
    have G_need_deeds : Has l.prog w K mg base "need_deeds" ["deeds"] 3 1 (F_need_deeds en) := ⟨_, _, PySem.W.mg_of X G a_need_deeds, k_need_deeds, U_need_deeds.binds (ps := ["deeds"]) fun _ _ _ _ _ _ us hl => match us, hl with | [_], _ => rfl, ok_need_deeds S U_need_deeds G_is_between ⟩
    have G_fits_letter : Has l.prog w K mg base "fits_letter" ["deeds", "value"] 3 2 (F_fits_letter en) := ⟨_, _, PySem.W.mg_of X G a_fits_letter, k_fits_letter, U_fits_letter.binds (ps := ["deeds", "value"]) fun _ _ _ _ _ _ us hl => match us, hl with | [_, _], _ => rfl, ok_fits_letter S U_fits_letter G_is_between ⟩
    have G_is_move_in : Has l.prog w K mg base "is_move_in" ["deeds", "value"] 3 2 (F_is_move_in en) := ⟨_, _, PySem.W.mg_of X G a_is_move_in, k_is_move_in, U_is_move_in.binds (ps := ["deeds", "value"]) fun _ _ _ _ _ _ us hl => match us, hl with | [_, _], _ => rfl, ok_is_move_in S U_is_move_in G_is_letter_in ⟩
    have G_ring_in : Has l.prog w K mg base "ring_in" ["row"] 3 1 (F_ring_in en) := ⟨_, _, PySem.W.mg_of X G a_ring_in, k_ring_in, U_ring_in.binds (ps := ["row"]) fun _ _ _ _ _ _ us hl => match us, hl with | [_], _ => rfl, ok_ring_in S U_ring_in G_least_start G_middle_of ⟩
    have G_law_pick : Has l.prog w K mg base "_law_pick" ["_law_state", "_law_some"] 3 2 (F_law_pick en) := ⟨_, _, PySem.W.mg_of X G a_law_pick, k_law_pick, U_law_pick.binds (ps := ["_law_state", "_law_some"]) fun _ _ _ _ _ _ us hl => match us, hl with | [_, _], _ => rfl, ok_law_pick S U_law_pick G_law_draw ⟩
    have G_law_shuffled : Has l.prog w K mg base "_law_shuffled" ["_law_state", "_law_some"] 3 2 (F_law_shuffled en) := ⟨_, _, PySem.W.mg_of X G a_law_shuffled, k_law_shuffled, U_law_shuffled.binds (ps := ["_law_state", "_law_some"]) fun _ _ _ _ _ _ us hl => match us, hl with | [_, _], _ => rfl, ok_law_shuffled S U_law_shuffled G_law_draw ⟩
    have G_law_mk_renaming : Has l.prog w K mg base "_law_mk_renaming" ["_law_state", "_law_deeds", "_law_steps"] 3 3 (F_law_mk_renaming en) := ⟨_, _, PySem.W.mg_of X G a_law_mk_renaming, k_law_mk_renaming, U_law_mk_renaming.binds (ps := ["_law_state", "_law_deeds", "_law_steps"]) fun _ _ _ _ _ _ us hl => match us, hl with | [_, _, _], _ => rfl, ok_law_mk_renaming S U_law_mk_renaming G_law_draw G_law_mk_plain G_law_mk_renamed G_law_mk_undone ⟩
    have G_fits_row : Has l.prog w K mg base "fits_row" ["deeds", "value"] 4 2 (F_fits_row en) := ⟨_, _, PySem.W.mg_of X G a_fits_row, k_fits_row, U_fits_row.binds (ps := ["deeds", "value"]) fun _ _ _ _ _ _ us hl => match us, hl with | [_, _], _ => rfl, ok_fits_row S U_fits_row G_fits_letter ⟩
    have G_need_move : Has l.prog w K mg base "need_move" ["deeds", "value"] 4 2 (F_need_move en) := ⟨_, _, PySem.W.mg_of X G a_need_move, k_need_move, U_need_move.binds (ps := ["deeds", "value"]) fun _ _ _ _ _ _ us hl => match us, hl with | [_, _], _ => rfl, ok_need_move S U_need_move G_is_move_in ⟩
    have G_law_mk_row : Has l.prog w K mg base "_law_mk_row" ["_law_state", "_law_deeds", "_law_least", "_law_most"] 4 4 (F_law_mk_row en) := ⟨_, _, PySem.W.mg_of X G a_law_mk_row, k_law_mk_row, U_law_mk_row.binds (ps := ["_law_state", "_law_deeds", "_law_least", "_law_most"]) fun _ _ _ _ _ _ us hl => match us, hl with | [_, _, _, _], _ => rfl, ok_law_mk_row S U_law_mk_row G_law_draw G_law_mk_letters G_law_pick ⟩
    have G_law_mk_of_deeds : Has l.prog w K mg base "_law_mk_of_deeds" ["_law_state", "_law_some", "_law_least", "_law_most"] 4 4 (F_law_mk_of_deeds en) := ⟨_, _, PySem.W.mg_of X G a_law_mk_of_deeds, k_law_mk_of_deeds, U_law_mk_of_deeds.binds (ps := ["_law_state", "_law_some", "_law_least", "_law_most"]) fun _ _ _ _ _ _ us hl => match us, hl with | [_, _, _, _], _ => rfl, ok_law_mk_of_deeds S U_law_mk_of_deeds G_law_draw G_law_pick ⟩
    have G_law_mk_bad_deeds : Has l.prog w K mg base "_law_mk_bad_deeds" ["_law_state"] 4 1 (F_law_mk_bad_deeds en) := ⟨_, _, PySem.W.mg_of X G a_law_mk_bad_deeds, k_law_mk_bad_deeds, U_law_mk_bad_deeds.binds (ps := ["_law_state"]) fun _ _ _ _ _ _ us hl => match us, hl with | [_], _ => rfl, ok_law_mk_bad_deeds S U_law_mk_bad_deeds G_law_pick ⟩
    have G_law_mk_bad_rows : Has l.prog w K mg base "_law_mk_bad_rows" ["_law_state", "_law_deeds"] 4 2 (F_law_mk_bad_rows en) := ⟨_, _, PySem.W.mg_of X G a_law_mk_bad_rows, k_law_mk_bad_rows, U_law_mk_bad_rows.binds (ps := ["_law_state", "_law_deeds"]) fun _ _ _ _ _ _ us hl => match us, hl with | [_, _], _ => rfl, ok_law_mk_bad_rows S U_law_mk_bad_rows G_law_pick ⟩
    have G_law_sh_bad_move : Has l.prog w K mg base "_law_sh_bad_move" ["_law_state", "_law_deeds"] 4 2 (F_law_sh_bad_move en) := ⟨_, _, PySem.W.mg_of X G a_law_sh_bad_move, k_law_sh_bad_move, U_law_sh_bad_move.binds (ps := ["_law_state", "_law_deeds"]) fun _ _ _ _ _ _ us hl => match us, hl with | [_, _], _ => rfl, ok_law_sh_bad_move S U_law_sh_bad_move G_law_pick ⟩
    have G_law_rn_move : Has l.prog w K mg base "_law_rn_move" ["_law_state", "_law_deeds"] 4 2 (F_law_rn_move en) := ⟨_, _, PySem.W.mg_of X G a_law_rn_move, k_law_rn_move, U_law_rn_move.binds (ps := ["_law_state", "_law_deeds"]) fun _ _ _ _ _ _ us hl => match us, hl with | [_, _], _ => rfl, ok_law_rn_move S U_law_rn_move G_law_draw G_law_mk_letters G_law_pick ⟩
    have G_need_rows : Has l.prog w K mg base "need_rows" ["deeds", "rows"] 5 2 (F_need_rows en) := ⟨_, _, PySem.W.mg_of X G a_need_rows, k_need_rows, U_need_rows.binds (ps := ["deeds", "rows"]) fun _ _ _ _ _ _ us hl => match us, hl with | [_, _], _ => rfl, ok_need_rows S U_need_rows G_fits_row G_plain_of ⟩
    have G_law_sh_base : Has l.prog w K mg base "_law_sh_base" ["_law_state", "_law_deeds"] 5 2 (F_law_sh_base en) := ⟨_, _, PySem.W.mg_of X G a_law_sh_base, k_law_sh_base, U_law_sh_base.binds (ps := ["_law_state", "_law_deeds"]) fun _ _ _ _ _ _ us hl => match us, hl with | [_, _], _ => rfl, ok_law_sh_base S U_law_sh_base G_law_draw G_law_mk_plain G_law_mk_row ⟩
    have G_need_row_rings : Has l.prog w K mg base "need_row_rings" ["deeds", "rows"] 6 2 (F_need_row_rings en) := ⟨_, _, PySem.W.mg_of X G a_need_row_rings, k_need_row_rings, U_need_row_rings.binds (ps := ["deeds", "rows"]) fun _ _ _ _ _ _ us hl => match us, hl with | [_, _], _ => rfl, ok_need_row_rings S U_need_row_rings G_need_deeds G_need_rows G_ring_in ⟩
    have G_law_cu_rows : Has l.prog w K mg base "_law_cu_rows" ["_law_state", "_law_deeds"] 6 2 (F_law_cu_rows en) := ⟨_, _, PySem.W.mg_of X G a_law_cu_rows, k_law_cu_rows, U_law_cu_rows.binds (ps := ["_law_state", "_law_deeds"]) fun _ _ _ _ _ _ us hl => match us, hl with | [_, _], _ => rfl, ok_law_cu_rows S U_law_cu_rows G_law_draw G_law_mk_of_deeds G_law_mk_renamed G_law_mk_renaming G_law_mk_row G_law_rn_turned G_law_sh_base G_law_shuffled ⟩
    have G_neighbours : Has l.prog w K mg base "neighbours" ["deeds", "rows"] 7 2 (F_neighbours en) := ⟨_, _, PySem.W.mg_of X G a_neighbours, k_neighbours, U_neighbours.binds (ps := ["deeds", "rows"]) fun _ _ _ _ _ _ us hl => match us, hl with | [_, _], _ => rfl, ok_neighbours S U_neighbours G_need_row_rings G_ties_in ⟩
    have G_length_behind : Has l.prog w K mg base "length_behind" ["deeds", "rows", "move"] 7 3 (F_length_behind en) := ⟨_, _, PySem.W.mg_of X G a_length_behind, k_length_behind, U_length_behind.binds (ps := ["deeds", "rows", "move"]) fun _ _ _ _ _ _ us hl => match us, hl with | [_, _, _], _ => rfl, ok_length_behind S U_length_behind G_growth_by G_need_move G_need_row_rings G_ties_in ⟩
    have K_length_behind_0_rows_move_deeds : HasK l.prog w K mg base "length_behind" ["deeds", "rows", "move"] 7 3 (F_length_behind en) 0 ["rows", "move", "deeds"] [2, 0, 1] := ⟨_, _, PySem.W.mg_of X G a_length_behind, k_length_behind, ⟨fun s us ws h1 h2 => match us, ws, h1, h2 with | [], [_, _, _], _, _ => .of_eq rfl⟩, ok_length_behind S U_length_behind G_growth_by G_need_move G_need_row_rings G_ties_in ⟩
    exact ok_lawfn S l_law c_law_ ⟨U_law_caught, PySem.W.mg_of X G a_law_caught, U_law_caught.binds (ps := ["_law_action"]) fun _ _ _ _ _ _ us hl => match us, hl with | [_], _ => rfl⟩ (tb (c_law, Pt_law) (by simp)) (by subst hen; simp) (by subst hen; intro p hp _; simp at hp; rw [hp]) (ok_begun U_law_begun (PySem.W.mg_none_of X G z_abs)) (PySem.W.mg_of X G a_law_begun) k_law_begun (U_law_begun.binds (ps := ["_law_script"]) fun _ _ _ _ _ _ us hl => match us, hl with | [_], _ => rfl) dh G_law_cu_rows G_law_cu_spans G_law_mk_bad_deeds G_law_mk_bad_rows G_law_mk_letters G_law_mk_renamed G_law_mk_ring G_law_pick G_law_rn_move G_law_sh_bad_move G_law_sh_images G_law_sh_moves G_law_told_ahead G_length_behind G_neighbours K_length_behind_0_rows_move_deeds
end Pd
open PySem PySem.W PyProof.Rows
set_option maxHeartbeats 0 in
theorem PySem.Challenge.cw_meankept_k17_whole_lengths_behind_all_mo_holds : PySem.Challenge.rw_meankept_k17_whole_lengths_behind_all_mo.Holds := by
  w_on; o_law; k_head; (case hw => w_witness2)
  k_fill
  refine Pd.walk_at (l := PySem.Challenge.rw_meankept_k17_whole_lengths_behind_all_mo) (n := 63) (k := 10) (x := "_law_script") (CX := fun w => L2.CX (PySem.Challenge.rw_meankept_k17_whole_lengths_behind_all_mo).prog w) "law" rfl (by decide) rfl ⟨rfl, by decide, by decide⟩ (by rfl) (fun w h Y => PySem.W.km_in_of Y) ?F Pd.cx_none
  case F =>
    intro w mg fa h KX G hmg ow
    refine' Pd.all_mk KX G hmg ?a_law_begun ?l_law_begun ?c_law_begun ?k_law_begun ?a_law_blended ?l_law_blended ?c_law_blended ?k_law_blended ?a_law_draw ?l_law_draw ?c_law_draw ?k_law_draw ?a_law_caught ?l_law_caught ?c_law_caught ?k_law_caught ?a_is_whole ?l_is_whole ?c_is_whole ?k_is_whole ?a_plain_of ?l_plain_of ?c_plain_of ?k_plain_of ?a_tail_of ?l_tail_of ?c_tail_of ?k_tail_of ?a_least_start ?l_least_start ?c_least_start ?k_least_start ?a_ties_in ?l_ties_in ?c_ties_in ?k_ties_in ?a_growth_by ?l_growth_by ?c_growth_by ?k_growth_by ?a_law_mk_plain ?l_law_mk_plain ?c_law_mk_plain ?k_law_mk_plain ?a_law_mk_undone ?l_law_mk_undone ?c_law_mk_undone ?k_law_mk_undone ?a_law_mk_letters ?l_law_mk_letters ?c_law_mk_letters ?k_law_mk_letters ?a_law_sh_lots ?l_law_sh_lots ?c_law_sh_lots ?k_law_sh_lots ?a_law_sh_images ?l_law_sh_images ?c_law_sh_images ?k_law_sh_images ?a_law_told_ahead ?l_law_told_ahead ?c_law_told_ahead ?k_law_told_ahead ?a_is_between ?l_is_between ?c_is_between ?k_is_between ?a_is_letter_in ?l_is_letter_in ?c_is_letter_in ?k_is_letter_in ?a_middle_of ?l_middle_of ?c_middle_of ?k_middle_of ?a_law_mk_ring ?l_law_mk_ring ?c_law_mk_ring ?k_law_mk_ring ?a_law_mk_renamed ?l_law_mk_renamed ?c_law_mk_renamed ?k_law_mk_renamed ?a_law_sh_moves ?l_law_sh_moves ?c_law_sh_moves ?k_law_sh_moves ?a_law_rn_turned ?l_law_rn_turned ?c_law_rn_turned ?k_law_rn_turned ?a_law_cu_spans ?l_law_cu_spans ?c_law_cu_spans ?k_law_cu_spans ?a_need_deeds ?l_need_deeds ?c_need_deeds ?k_need_deeds ?a_fits_letter ?l_fits_letter ?c_fits_letter ?k_fits_letter ?a_is_move_in ?l_is_move_in ?c_is_move_in ?k_is_move_in ?a_ring_in ?l_ring_in ?c_ring_in ?k_ring_in ?a_law_pick ?l_law_pick ?c_law_pick ?k_law_pick ?a_law_shuffled ?l_law_shuffled ?c_law_shuffled ?k_law_shuffled ?a_law_mk_renaming ?l_law_mk_renaming ?c_law_mk_renaming ?k_law_mk_renaming ?a_fits_row ?l_fits_row ?c_fits_row ?k_fits_row ?a_need_move ?l_need_move ?c_need_move ?k_need_move ?a_law_mk_row ?l_law_mk_row ?c_law_mk_row ?k_law_mk_row ?a_law_mk_of_deeds ?l_law_mk_of_deeds ?c_law_mk_of_deeds ?k_law_mk_of_deeds ?a_law_mk_bad_deeds ?l_law_mk_bad_deeds ?c_law_mk_bad_deeds ?k_law_mk_bad_deeds ?a_law_mk_bad_rows ?l_law_mk_bad_rows ?c_law_mk_bad_rows ?k_law_mk_bad_rows ?a_law_sh_bad_move ?l_law_sh_bad_move ?c_law_sh_bad_move ?k_law_sh_bad_move ?a_law_rn_move ?l_law_rn_move ?c_law_rn_move ?k_law_rn_move ?a_need_rows ?l_need_rows ?c_need_rows ?k_need_rows ?a_law_sh_base ?l_law_sh_base ?c_law_sh_base ?k_law_sh_base ?a_need_row_rings ?l_need_row_rings ?c_need_row_rings ?k_need_row_rings ?a_law_cu_rows ?l_law_cu_rows ?c_law_cu_rows ?k_law_cu_rows ?a_neighbours ?l_neighbours ?c_neighbours ?k_neighbours ?a_length_behind ?l_length_behind ?c_length_behind ?k_length_behind ?a_law ?l_law ?c_law_ ?k_law ?lc_law ?hP_law ?hh_law ?nP_law ?aC_KeepError ?aC_BadDeeds ?aC_BadRows ?aC_BadMove ?kC_BadDeeds ?xC_BadDeeds ?bC_BadDeeds ?tC_BadDeeds ?g1_BadDeeds ?g2_BadDeeds ?g3_BadDeeds ?g4_BadDeeds ?g5_BadDeeds ?ex_BadDeeds ?ki_BadDeeds_BadDeeds ?ki_BadDeeds_BadRows ?ki_BadDeeds_BadMove ?kC_BadRows ?xC_BadRows ?bC_BadRows ?tC_BadRows ?g1_BadRows ?g2_BadRows ?g3_BadRows ?g4_BadRows ?g5_BadRows ?ex_BadRows ?ki_BadRows_BadDeeds ?ki_BadRows_BadRows ?ki_BadRows_BadMove ?kC_BadMove ?xC_BadMove ?bC_BadMove ?tC_BadMove ?g1_BadMove ?g2_BadMove ?g3_BadMove ?g4_BadMove ?g5_BadMove ?ex_BadMove ?ki_BadMove_BadDeeds ?ki_BadMove_BadRows ?ki_BadMove_BadMove ?u1 ?u2 ?z_abs ?z_all ?z_bool ?gi_MOST_DEEDS ?gi_MOST_IN_ROW ?gi_MOST_ROWS ?z_int ?z_isinstance ?z_len ?z_list ?z_max ?z_min ?z_range ?z_sorted ?z_sum ?z_tuple ?ow
    (case a_law_begun => k_is)
    (case l_law_begun => k_is)
    (case c_law_begun => k_is)
    (case k_law_begun => k_is)
    (case a_law_blended => k_is)
    (case l_law_blended => k_is)
    (case c_law_blended => k_is)
    (case k_law_blended => k_is)
    (case a_law_draw => k_is)
    (case l_law_draw => k_is)
    (case c_law_draw => k_is)
    (case k_law_draw => k_is)
    (case a_law_caught => k_is)
    (case l_law_caught => k_is)
    (case c_law_caught => k_is)
    (case k_law_caught => k_is)
    (case a_is_whole => k_is)
    (case l_is_whole => k_is)
    (case c_is_whole => k_is)
    (case k_is_whole => k_is)
    (case a_plain_of => k_is)
    (case l_plain_of => k_is)
    (case c_plain_of => k_is)
    (case k_plain_of => k_is)
    (case a_tail_of => k_is)
    (case l_tail_of => k_is)
    (case c_tail_of => k_is)
    (case k_tail_of => k_is)
    (case a_least_start => k_is)
    (case l_least_start => k_is)
    (case c_least_start => k_is)
    (case k_least_start => k_is)
    (case a_ties_in => k_is)
    (case l_ties_in => k_is)
    (case c_ties_in => k_is)
    (case k_ties_in => k_is)
    (case a_growth_by => k_is)
    (case l_growth_by => k_is)
    (case c_growth_by => k_is)
    (case k_growth_by => k_is)
    (case a_law_mk_plain => k_is)
    (case l_law_mk_plain => k_is)
    (case c_law_mk_plain => k_is)
    (case k_law_mk_plain => k_is)
    (case a_law_mk_undone => k_is)
    (case l_law_mk_undone => k_is)
    (case c_law_mk_undone => k_is)
    (case k_law_mk_undone => k_is)
    (case a_law_mk_letters => k_is)
    (case l_law_mk_letters => k_is)
    (case c_law_mk_letters => k_is)
    (case k_law_mk_letters => k_is)
    (case a_law_sh_lots => k_is)
    (case l_law_sh_lots => k_is)
    (case c_law_sh_lots => k_is)
    (case k_law_sh_lots => k_is)
    (case a_law_sh_images => k_is)
    (case l_law_sh_images => k_is)
    (case c_law_sh_images => k_is)
    (case k_law_sh_images => k_is)
    (case a_law_told_ahead => k_is)
    (case l_law_told_ahead => k_is)
    (case c_law_told_ahead => k_is)
    (case k_law_told_ahead => k_is)
    (case a_is_between => k_is)
    (case l_is_between => k_is)
    (case c_is_between => k_is)
    (case k_is_between => k_is)
    (case a_is_letter_in => k_is)
    (case l_is_letter_in => k_is)
    (case c_is_letter_in => k_is)
    (case k_is_letter_in => k_is)
    (case a_middle_of => k_is)
    (case l_middle_of => k_is)
    (case c_middle_of => k_is)
    (case k_middle_of => k_is)
    (case a_law_mk_ring => k_is)
    (case l_law_mk_ring => k_is)
    (case c_law_mk_ring => k_is)
    (case k_law_mk_ring => k_is)
    (case a_law_mk_renamed => k_is)
    (case l_law_mk_renamed => k_is)
    (case c_law_mk_renamed => k_is)
    (case k_law_mk_renamed => k_is)
    (case a_law_sh_moves => k_is)
    (case l_law_sh_moves => k_is)
    (case c_law_sh_moves => k_is)
    (case k_law_sh_moves => k_is)
    (case a_law_rn_turned => k_is)
    (case l_law_rn_turned => k_is)
    (case c_law_rn_turned => k_is)
    (case k_law_rn_turned => k_is)
    (case a_law_cu_spans => k_is)
    (case l_law_cu_spans => k_is)
    (case c_law_cu_spans => k_is)
    (case k_law_cu_spans => k_is)
    (case a_need_deeds => k_is)
    (case l_need_deeds => k_is)
    (case c_need_deeds => k_is)
    (case k_need_deeds => k_is)
    (case a_fits_letter => k_is)
    (case l_fits_letter => k_is)
    (case c_fits_letter => k_is)
    (case k_fits_letter => k_is)
    (case a_is_move_in => k_is)
    (case l_is_move_in => k_is)
    (case c_is_move_in => k_is)
    (case k_is_move_in => k_is)
    (case a_ring_in => k_is)
    (case l_ring_in => k_is)
    (case c_ring_in => k_is)
    (case k_ring_in => k_is)
    (case a_law_pick => k_is)
    (case l_law_pick => k_is)
    (case c_law_pick => k_is)
    (case k_law_pick => k_is)
    (case a_law_shuffled => k_is)
    (case l_law_shuffled => k_is)
    (case c_law_shuffled => k_is)
    (case k_law_shuffled => k_is)
    (case a_law_mk_renaming => k_is)
    (case l_law_mk_renaming => k_is)
    (case c_law_mk_renaming => k_is)
    (case k_law_mk_renaming => k_is)
    (case a_fits_row => k_is)
    (case l_fits_row => k_is)
    (case c_fits_row => k_is)
    (case k_fits_row => k_is)
    (case a_need_move => k_is)
    (case l_need_move => k_is)
    (case c_need_move => k_is)
    (case k_need_move => k_is)
    (case a_law_mk_row => k_is)
    (case l_law_mk_row => k_is)
    (case c_law_mk_row => k_is)
    (case k_law_mk_row => k_is)
    (case a_law_mk_of_deeds => k_is)
    (case l_law_mk_of_deeds => k_is)
    (case c_law_mk_of_deeds => k_is)
    (case k_law_mk_of_deeds => k_is)
    (case a_law_mk_bad_deeds => k_is)
    (case l_law_mk_bad_deeds => k_is)
    (case c_law_mk_bad_deeds => k_is)
    (case k_law_mk_bad_deeds => k_is)
    (case a_law_mk_bad_rows => k_is)
    (case l_law_mk_bad_rows => k_is)
    (case c_law_mk_bad_rows => k_is)
    (case k_law_mk_bad_rows => k_is)
    (case a_law_sh_bad_move => k_is)
    (case l_law_sh_bad_move => k_is)
    (case c_law_sh_bad_move => k_is)
    (case k_law_sh_bad_move => k_is)
    (case a_law_rn_move => k_is)
    (case l_law_rn_move => k_is)
    (case c_law_rn_move => k_is)
    (case k_law_rn_move => k_is)
    (case a_need_rows => k_is)
    (case l_need_rows => k_is)
    (case c_need_rows => k_is)
    (case k_need_rows => k_is)
    (case a_law_sh_base => k_is)
    (case l_law_sh_base => k_is)
    (case c_law_sh_base => k_is)
    (case k_law_sh_base => k_is)
    (case a_need_row_rings => k_is)
    (case l_need_row_rings => k_is)
    (case c_need_row_rings => k_is)
    (case k_need_row_rings => k_is)
    (case a_law_cu_rows => k_is)
    (case l_law_cu_rows => k_is)
    (case c_law_cu_rows => k_is)
    (case k_law_cu_rows => k_is)
    (case a_neighbours => k_is)
    (case l_neighbours => k_is)
    (case c_neighbours => k_is)
    (case k_neighbours => k_is)
    (case a_length_behind => k_is)
    (case l_length_behind => k_is)
    (case c_length_behind => k_is)
    (case k_length_behind => k_is)
    (case a_law => k_is)
    (case l_law => k_is)
    (case c_law_ => k_is)
    (case k_law => k_is)
    (case lc_law => k_is)
    (case hP_law => first | rfl | k_is)
    (case hh_law => kernel_rfl)
    (case nP_law => kernel_rfl)
    (case aC_KeepError => k_is)
    (case aC_BadDeeds => k_is)
    (case aC_BadRows => k_is)
    (case aC_BadMove => k_is)
    (case kC_BadDeeds => k_is)
    (case xC_BadDeeds => first | k_exc | k_is)
    (case bC_BadDeeds => k_is)
    (case tC_BadDeeds => k_is)
    (case g1_BadDeeds => k_is)
    (case g2_BadDeeds => k_is)
    (case g3_BadDeeds => k_is)
    (case g4_BadDeeds => k_is)
    (case g5_BadDeeds => k_is)
    (case ex_BadDeeds => first | rfl | k_is)
    (case ki_BadDeeds_BadDeeds => first | rfl | k_is)
    (case ki_BadDeeds_BadRows => first | rfl | k_is)
    (case ki_BadDeeds_BadMove => first | rfl | k_is)
    (case kC_BadRows => k_is)
    (case xC_BadRows => first | k_exc | k_is)
    (case bC_BadRows => k_is)
    (case tC_BadRows => k_is)
    (case g1_BadRows => k_is)
    (case g2_BadRows => k_is)
    (case g3_BadRows => k_is)
    (case g4_BadRows => k_is)
    (case g5_BadRows => k_is)
    (case ex_BadRows => first | rfl | k_is)
    (case ki_BadRows_BadDeeds => first | rfl | k_is)
    (case ki_BadRows_BadRows => first | rfl | k_is)
    (case ki_BadRows_BadMove => first | rfl | k_is)
    (case kC_BadMove => k_is)
    (case xC_BadMove => first | k_exc | k_is)
    (case bC_BadMove => k_is)
    (case tC_BadMove => k_is)
    (case g1_BadMove => k_is)
    (case g2_BadMove => k_is)
    (case g3_BadMove => k_is)
    (case g4_BadMove => k_is)
    (case g5_BadMove => k_is)
    (case ex_BadMove => first | rfl | k_is)
    (case ki_BadMove_BadDeeds => first | rfl | k_is)
    (case ki_BadMove_BadRows => first | rfl | k_is)
    (case ki_BadMove_BadMove => first | rfl | k_is)
    (case u1 => first | rfl | k_is)
    (case u2 => first | rfl | k_is)
    (case z_abs => k_is)
    (case z_all => k_is)
    (case z_bool => k_is)
    (case gi_MOST_DEEDS => k_is)
    (case gi_MOST_IN_ROW => k_is)
    (case gi_MOST_ROWS => k_is)
    (case z_int => k_is)
    (case z_isinstance => k_is)
    (case z_len => k_is)
    (case z_list => k_is)
    (case z_max => k_is)
    (case z_min => k_is)
    (case z_range => k_is)
    (case z_sorted => k_is)
    (case z_sum => k_is)
    (case z_tuple => k_is)
    (case ow => exact ow _ (PySem.W.mg_of KX G (by k_is)))
