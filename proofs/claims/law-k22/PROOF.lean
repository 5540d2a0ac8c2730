import PyProof.Rows.All
import Wide.All
import OpenK.AllK
import Wide.FinOn
import HandS.ForMost
import HandS.IsInst
import HandS.TupAny
import HandS.Style
import HandS.Deep
import HandS.Zip
import HandS.Wide
import HandS.Star
import HandS.SortRule
import HandS.SortInts
import HandS.More
import HandS.Exc
import HandS.SlotsVar
import HandS.Slots
import HandS.Walk
import KE.DataFind
import KE.GoesEnum
import KE.GoesZip
import KE.GoesNew
import PyProof.Rows.Range3
import HandS.Sort
import HandS.Conv
import HandS.CallLocal
import HandS.Head0
import HandS.Head1
import HandS.Head2
import HandS.HeadEnd
import HandS.HeadHook1
import HandS.HeadHook2
import PyProof.ReprRoads
import PyProof.ReprLen
import KE.DataEq
import PySem.Challenge.RW_whilemoved_k22_whole_rows_led_by_stores
set_option Elab.async false
set_option linter.all false
set_option maxRecDepth 100000
set_option maxHeartbeats 4000000
/-! Wm.X: tuples told exactly (their object is known: no dict of its own). -/
namespace Wm
open PySem PySem.Spec L2

def ExT (o : Obj) : Prop := o.cls = .type "tuple" ∧ o.dict = none
def TupAt (H : Hp) (a : Addr) (xs : List V) : Prop := ∃ o : Obj, ExT o ∧ H a = some (.frz o (.tup xs))
section
variable {H H' : Hp} {a : Addr} {xs : List V} {K : PySem.W.Frag} {o : Obj}
theorem TupAt.sq (h : TupAt H a xs) : SqT K H a xs := let ⟨o, _, e⟩ := h; .inl (.inr ⟨o, e⟩)
theorem TupAt.mono (e : Same H H') (h : TupAt H a xs) : TupAt H' a xs := let ⟨o, x, q⟩ := h; ⟨o, x, e _ _ q⟩
theorem TupAt.new (x : ExT o) : TupAt (upd H a (.frz o (.tup xs))) a xs := ⟨o, x, upd_same⟩
theorem TupAt.inj {ys : List V} (h : TupAt H a xs) (h' : TupAt H a ys) : xs = ys := by
  obtain ⟨o, _, e⟩ := h
  obtain ⟨o', _, e'⟩ := h'
  rw [e] at e'
  cases e'
  rfl
theorem exT_new (its : List Value) : ExT { cls := .type "tuple", data := .seq its.toArray } := ⟨rfl, rfl⟩
end
section
variable {X : Cx} {es : List Expr} {t : TA} {pos : Pos}
/-- an object laid that is known whole -/
theorem laidT {pins : List (Addr × Obj)} {s : Shared} {σ : L2.St} {H : Hp} {its : List Value} {xs : List V} {h' : Heap} {a : Addr} (I : Inv X pins σ H s) (k : ∀ b u, s.heap.get? b = some u → h'.get? b = some u) (hp : s.heap.objs.size ≤ a)
    (hg : h'.get? a = some { cls := .type "tuple", data := .seq its.toArray }) (r : Vals xs its) (hz : xs.length ≤ sizeLine) :
    Inv X pins σ (upd H a (.frz { cls := .type "tuple", data := .seq its.toArray } (.tup xs))) { s with heap := h' } :=
  I.laid (t' := s.toks) k hp ⟨hg, hz, its, r, ⟨_, hg, rfl, _, rfl⟩⟩
def tTupX (t : TA) : TE := fun σ H Q => t σ H fun xs H1 => xs.length ≤ sizeLine ∧ ∀ p o, ExT o → H1 p = none → Q (.ref p) (upd H1 p (.frz o (.tup xs)))
theorem px_tup {x1} (h : PA X es t) : PE X (.Tuple es x1 pos) (tTupX t) := by
  refine ⟨fun pins s σ H Q I hq => ?_⟩
  refine wpAny_Tuple_spliced (thn (h.run pos pins s σ H _ I hq) fun us s1 ⟨xs, H1, I1, r, z, q⟩ => ⟨by rw [← r.length]; exact z, ?_⟩)
  exact ⟨.ref s1.heap.objs.size, _, laidT I1 (fun b u e => Heap.get?_push_of_some _ e) (Nat.le_refl _) (Heap.get?_push_size _ rfl) r z, rfl, q _ _ (exT_new us) (I1.hok.fresh (Nat.le_refl _))⟩
/-- t + u -/
def rCatX (K : PySem.W.Frag) : R2 := fun x y H Q => ∃ a b xs ys, x = .ref a ∧ y = .ref b ∧ SqT K H a xs ∧ SqT K H b ys ∧ xs.length + ys.length ≤ sizeLine ∧
  (xs = [] → Q (.ref b) H) ∧ (xs ≠ [] → ys = [] → Q (.ref a) H) ∧ (xs ≠ [] → ys ≠ [] → ∀ p o, ExT o → H p = none → Q (.ref p) (upd H p (.frz o (.tup (xs ++ ys)))))
theorem op_catX : OpR X (binaryOp .Add) (rCatX X.K) := by
  intro pins s σ H x y v u Q I rx ry h
  obtain ⟨a, b, xs, ys, rfl, rfl, ha, hb, hz, q0, q1, q2⟩ := h
  cases rx
  cases ry
  obtain ⟨its, r1, p1, _⟩ := I.tuple ha
  obtain ⟨its2, r2, p2, _⟩ := I.tuple hb
  by_cases hx : xs = []
  · subst hx
    cases r1
    exact L2.cat_tup0 p1 p2 ⟨.ref b, H, I, rfl, q0 rfl⟩
  · refine HT.cat_tup p1 p2 (fun z => hx (r1.nil_iff.mp z)) (fun z => ⟨.ref a, H, I, rfl, q1 hx (r2.nil_iff.mp z)⟩) (fun z => ?_) (by rw [← r1.length, ← r2.length]; exact hz)
    exact ⟨.ref s.heap.objs.size, _, laidT I (fun b ob q => Heap.get?_push_of_some _ q) (Nat.le_refl _) (Heap.get?_push_size _ rfl) (r1.append r2) (by rw [List.length_append]; exact hz), rfl, q2 hx (fun w => z (r2.nil_iff.mpr w)) _ _ (exT_new _) (I.hok.fresh (Nat.le_refl _))⟩
/-- t[lo:hi] -/
def rSlX (K : PySem.W.Frag) : V → Option Int → Option Int → Hp → VK → Prop := fun x lo hi H Q => ∃ a xs, x = .ref a ∧ SqT K H a xs ∧
  (HT.sIx xs.length 0 lo = 0 ∧ HT.sIx xs.length xs.length hi = xs.length → Q (.ref a) H) ∧ (¬ (HT.sIx xs.length 0 lo = 0 ∧ HT.sIx xs.length xs.length hi = xs.length) → ∀ p o, ExT o → H p = none → Q (.ref p) (upd H p (.frz o (.tup (cutV xs lo hi)))))
theorem sl_tupX : SlR X (rSlX X.K) := by
  intro pins s σ H x v vl vu lo hi sl Q I rx hs pl pu h
  obtain ⟨a, xs, rfl, hx, q1, q2⟩ := h
  cases rx
  obtain ⟨its, r, ht, hz⟩ := I.tuple hx
  have hlen : its.toArray.size = xs.length := by rw [List.size_toArray]; exact r.length.symm
  refine ⟨"tuple", _, PyProof.Rows.slot_tuple_getitem.lookup, ht.typeIs, ?_⟩
  by_cases hw : HT.sIx xs.length 0 lo = 0 ∧ HT.sIx xs.length xs.length hi = xs.length
  · exact L2.getItem_tuple_whole ht hs pl pu (by rw [hlen]; exact hw) ⟨.ref a, H, I, rfl, q1 hw⟩
  · refine HT.getItem_tuple_cut ht hs pl pu (by rw [hlen]; exact hw) ?_ (by rw [hlen]; exact hz)
    rw [hlen]
    exact ⟨.ref s.heap.objs.size, _, laidT (xs := cutV xs lo hi) I (fun b ob q => Heap.get?_push_of_some _ q) (Nat.le_refl _) (Heap.get?_push_size _ rfl) ((r.drop (HT.sIx xs.length 0 lo)).take (HT.sIx xs.length xs.length hi - HT.sIx xs.length 0 lo)) (Nat.le_trans (cutV_length xs lo hi) hz), rfl, q2 hw _ _ (exT_new _) (I.hok.fresh (Nat.le_refl _))⟩
/-- tuple(x) -/
theorem call_tupX : CallR X (.type "tuple") (fun xs H Q => ∃ p ys, xs = [.ref p] ∧ ((SqL X.K H p ys ∧ ∀ l o, ExT o → H l = none → Q (.ref l) (upd H l (.frz o (.tup ys)))) ∨ (SqT X.K H p ys ∧ Q (.ref p) H))) := by
  intro pins s σ H xs us Q I r h
  obtain ⟨p, ys, rfl, h⟩ := h
  obtain ⟨u, rfl, rx⟩ := vals1 r
  cases rx
  rcases h with ⟨hq, q⟩ | ⟨hq, q⟩
  · obtain ⟨its, r', pl, hz⟩ := I.list hq
    have hlen := r'.length
    refine call_tuple_list pl.isList (fun h' kp => ?_) (by simp only [List.size_toArray] <;> omega)
    have I1 : Inv X pins σ H { s with heap := h' } := I.kept (t' := s.toks) kp
    exact ⟨.ref h'.objs.size, _, laidT (s := { s with heap := h' }) I1 (fun b o e => Heap.get?_push_of_some _ e) (Nat.le_refl _) (Heap.get?_push_size _ rfl) r' hz, rfl, q _ _ (exT_new _) (I1.hok.fresh (Nat.le_refl _))⟩
  · obtain ⟨its, r', pl, hz⟩ := I.tuple hq
    exact call_tuple_same pl ⟨.ref p, H, I, rfl, q⟩
end
end Wm

set_option Elab.async false
set_option maxRecDepth 100000
set_option maxHeartbeats 2000000
/-! Wm.A: values as data over an abstract heap, contexts of slots, the judgement of an expression. -/
namespace Wm
open PySem PySem.Spec L2

/-! ### data over a heap -/
mutual
inductive Rp (H : Hp) : V → PyData → Prop
  | non : Rp H .non .none
  | bl (b : Bool) : Rp H (.bl b) (.bool b)
  | int (i : Int) : Rp H (.int i) (.int i)
  | str (x : Str) : Rp H (.str x) (.str x)
  | lst {a : Addr} {xs : List V} {ds : List PyData} (h : H a = some (.lst xs)) (r : RpAll H xs ds) : Rp H (.ref a) (.list ds)
  | tup {a : Addr} {xs : List V} {ds : List PyData} (h : TupAt H a xs) (r : RpAll H xs ds) : Rp H (.ref a) (.tuple ds)
inductive RpAll (H : Hp) : List V → List PyData → Prop
  | nil : RpAll H [] []
  | cons {v : V} {vs : List V} {d : PyData} {ds : List PyData} (h : Rp H v d) (t : RpAll H vs ds) : RpAll H (v :: vs) (d :: ds)
end

section
variable {H H' : Hp} {K : PySem.W.Frag}
mutual
theorem Rp.mono (e : Same H H') : ∀ (d : PyData) (v : V), Rp H v d → Rp H' v d
  | .none, _, .non => .non
  | .bool _, _, .bl b => .bl b
  | .int _, _, .int i => .int i
  | .str _, _, .str x => .str x
  | .list ds, _, .lst h r => .lst (e _ _ h) (RpAll.mono e ds _ r)
  | .tuple ds, _, .tup h r => .tup (h.mono e) (RpAll.mono e ds _ r)
theorem RpAll.mono (e : Same H H') : ∀ (ds : List PyData) (vs : List V), RpAll H vs ds → RpAll H' vs ds
  | [], _, .nil => .nil
  | d :: ds, _, .cons h t => .cons (Rp.mono e d _ h) (RpAll.mono e ds _ t)
end
mutual
theorem Rp.dp : ∀ (d : PyData) (v : V), Rp H v d → Dp K H v d
  | .none, _, .non => .non
  | .bool _, _, .bl b => .bl b
  | .int _, _, .int i => .int i
  | .str _, _, .str x => .str x
  | .list ds, _, .lst h r => .lst (.of h) (RpAll.dp ds _ r)
  | .tuple ds, _, .tup h r => .tup h.sq (RpAll.dp ds _ r)
theorem RpAll.dp : ∀ (ds : List PyData) (vs : List V), RpAll H vs ds → DpAll K H vs ds
  | [], _, .nil => .nil
  | d :: ds, _, .cons h t => .cons (Rp.dp d _ h) (RpAll.dp ds _ t)
end
-- no list within
mutual
def lless : PyData → Bool
  | .list _ => false
  | .dict _ => false
  | .tuple xs => llessAll xs
  | _ => true
def llessAll : List PyData → Bool
  | [] => true
  | d :: ds => lless d && llessAll ds
end
def hide (F : Hp) (p : Addr) : Hp := fun a => if a = p then none else F a
theorem hide_self (F : Hp) (p : Addr) : hide F p p = none := by unfold hide; rw [if_pos rfl]
theorem hide_ne {F : Hp} {p a : Addr} (h : a ≠ p) : hide F p a = F a := by unfold hide; rw [if_neg h]
mutual
theorem Rp.hide {p : Addr} {vs : List V} (hp : H p = some (.lst vs)) : ∀ (d : PyData) (v : V), lless d = true → Rp H v d → Rp (hide H p) v d
  | .none, _, _, .non => .non
  | .bool _, _, _, .bl b => .bl b
  | .int _, _, _, .int i => .int i
  | .str _, _, _, .str x => .str x
  | .list ds, _, l, _ => by unfold lless at l; cases l
  | .tuple ds, _, l, .tup h r => by
    refine .tup ?_ (RpAll.hide hp ds _ (by unfold lless at l; exact l) r)
    obtain ⟨o, ho, h⟩ := h
    exact ⟨o, ho, by rw [hide_ne fun e => by rw [e, hp] at h; cases h]; exact h⟩
theorem RpAll.hide {p : Addr} {vs : List V} (hp : H p = some (.lst vs)) : ∀ (ds : List PyData) (ws : List V), llessAll ds = true → RpAll H ws ds → RpAll (Wm.hide H p) ws ds
  | [], _, _, .nil => .nil
  | d :: ds, _, l, .cons h t => by
    unfold llessAll at l
    rw [Bool.and_eq_true] at l
    exact .cons (Rp.hide hp d _ l.1 h) (RpAll.hide hp ds _ l.2 t)
end
theorem RpAll.length : ∀ {vs : List V} {ds : List PyData}, RpAll H vs ds → vs.length = ds.length
  | _, _, .nil => rfl
  | _, _, .cons _ t => by rw [List.length_cons, List.length_cons, RpAll.length t]
theorem RpAll.get : ∀ {vs : List V} {ds : List PyData} {i : Nat} {d : PyData}, RpAll H vs ds → ds[i]? = some d → ∃ v, vs[i]? = some v ∧ Rp H v d
  | _, _, _, _, .nil, e => by simp at e
  | _, _, 0, _, .cons h _, e => by
    have e1 := Option.some.inj e
    subst e1
    exact ⟨_, rfl, h⟩
  | _, _, i + 1, d, .cons _ t, e => RpAll.get (i := i) t e
theorem RpAll.get' : ∀ {vs : List V} {ds : List PyData} {i : Nat} {v : V}, RpAll H vs ds → vs[i]? = some v → ∃ d, ds[i]? = some d ∧ Rp H v d
  | _, _, _, _, .nil, e => by simp at e
  | _, _, 0, _, .cons h _, e => by
    have e1 := Option.some.inj e
    subst e1
    exact ⟨_, rfl, h⟩
  | _, _, i + 1, d, .cons _ t, e => RpAll.get' (i := i) t e
theorem RpAll.append : ∀ {vs ws : List V} {ds es : List PyData}, RpAll H vs ds → RpAll H ws es → RpAll H (vs ++ ws) (ds ++ es)
  | _, _, _, _, .nil, s => s
  | _, _, _, _, .cons h t, s => .cons h (RpAll.append t s)
theorem RpAll.snoc {vs : List V} {ds : List PyData} {v : V} {d : PyData} (r : RpAll H vs ds) (h : Rp H v d) : RpAll H (vs ++ [v]) (ds ++ [d]) := r.append (.cons h .nil)
theorem RpAll.take : ∀ {vs : List V} {ds : List PyData} (n : Nat), RpAll H vs ds → RpAll H (vs.take n) (ds.take n)
  | _, _, 0, _ => .nil
  | _, _, _ + 1, .nil => .nil
  | _, _, n + 1, .cons h t => .cons h (RpAll.take n t)
theorem RpAll.drop : ∀ {vs : List V} {ds : List PyData} (n : Nat), RpAll H vs ds → RpAll H (vs.drop n) (ds.drop n)
  | _, _, 0, r => r
  | _, _, _ + 1, .nil => .nil
  | _, _, n + 1, .cons _ t => RpAll.drop n t
theorem RpAll.set {v : V} {d : PyData} (h : Rp H v d) : ∀ {vs : List V} {ds : List PyData} (n : Nat), RpAll H vs ds → RpAll H (vs.set n v) (ds.set n d)
  | _, _, _, .nil => .nil
  | _, _, 0, .cons _ t => .cons h t
  | _, _, n + 1, .cons g t => .cons g (RpAll.set h n t)
theorem Rp.inj_v : ∀ (d : PyData) {v w : V}, (∀ ds, d ≠ .list ds) → (∀ ds, d ≠ .tuple ds) → Rp H v d → Rp H w d → v = w
  | .none, _, _, _, _, .non, .non => rfl
  | .bool _, _, _, _, _, .bl _, .bl _ => rfl
  | .int _, _, _, _, _, .int _, .int _ => rfl
  | .str _, _, _, _, _, .str _, .str _ => rfl
  | .list ds, _, _, n, _, _, _ => absurd rfl (n ds)
  | .tuple ds, _, _, _, n, _, _ => absurd rfl (n ds)
theorem rp_int {v : V} {i : Int} (h : Rp H v (.int i)) : v = .int i := by cases h; rfl
theorem rp_bl {v : V} {b : Bool} (h : Rp H v (.bool b)) : v = .bl b := by cases h; rfl
theorem rp_non {v : V} (h : Rp H v .none) : v = .non := by cases h; rfl
theorem rp_str {v : V} {x : Str} (h : Rp H v (.str x)) : v = .str x := by cases h; rfl
theorem rp_lst {v : V} {ds : List PyData} (h : Rp H v (.list ds)) : ∃ a xs, v = .ref a ∧ H a = some (.lst xs) ∧ RpAll H xs ds := by
  cases h with
  | lst h r => exact ⟨_, _, rfl, h, r⟩
theorem rp_tup {v : V} {ds : List PyData} (h : Rp H v (.tuple ds)) : ∃ a xs, v = .ref a ∧ TupAt H a xs ∧ RpAll H xs ds := by
  cases h with
  | tup h r => exact ⟨_, _, rfl, h, r⟩
theorem rpAll_ints : ∀ {vs : List V} {ns : List Int}, RpAll H vs (ns.map .int) → vs = ns.map V.int
  | _, [], .nil => rfl
  | _, n :: ns, .cons h t => by rw [rp_int h, rpAll_ints t]; rfl
theorem rpAll_bls : ∀ {vs : List V} {ns : List Bool}, RpAll H vs (ns.map .bool) → vs = ns.map V.bl
  | _, [], .nil => rfl
  | _, n :: ns, .cons h t => by rw [rp_bl h, rpAll_bls t]; rfl
theorem ints_rpAll : ∀ (ns : List Int), RpAll H (ns.map V.int) (ns.map .int)
  | [] => .nil
  | n :: ns => .cons (.int n) (ints_rpAll ns)
end

/-! ### contexts -/
/-- what is known of a variable of an object: nothing; data; a list of its own -/
inductive Fl where
  | no
  | val (d : PyData)
  | own (p : Addr) (xs : List PyData)
def Fl.addrs : Fl → List Addr
  | .own p _ => [p]
  | _ => []
def fAddrs (fs : List Fl) : List Addr := fs.flatMap Fl.addrs
/-- what is known of a slot: nothing; data that nobody changes; a list of our own; the bag of draws (c its cells), open or not; an object of ours with its variables; a def -/
inductive Sd where
  | no
  | val (d : PyData)
  | own (p : Addr) (xs : List PyData)
  | bag (p c : Addr)
  | opn (p c : Addr) (s0 s1 s2 : Int)
  | obj (x dx C : Addr) (fs : List Fl)
  | rob (x dx C : Addr) (fs : List Fl)
  | fn (f : Addr)
abbrev Ctx := List Sd
def Sd.addrs : Sd → List Addr
  | .own p _ => [p]
  | .bag p _ => [p]
  | .opn p _ _ _ _ => [p]
  | .obj x dx _ fs => x :: dx :: fAddrs fs
  | _ => []
def BagAt (H : Hp) (p c : Addr) : Prop := ∃ s0 s1 s2 : Int, H p = some (.lst [.int s0, .int s1, .int s2, .ref c]) ∧ 0 ≤ s0 ∧ 0 ≤ s1 ∧ s1 < 2147483647 ∧ 0 ≤ s2
/-- the cells of a bag -/
def CellsAt (F : Hp) (c : Addr) : Prop := ∃ cells : List Int, cells.length ≤ 1000 ∧ F c = some (.lst (cells.map V.int))
theorem CellsAt.mono {F F' : Hp} {c : Addr} (h : CellsAt F c) (e : Same F F') : CellsAt F' c := let ⟨cells, z, q⟩ := h; ⟨cells, z, e _ _ q⟩
def FlOk (F H : Hp) (ou : Option (Option V)) : Fl → Prop
  | .no => True
  | .val d => ∃ v, ou = some (some v) ∧ Rp F v d
  | .own p xs => ou = some (some (.ref p)) ∧ F p = none ∧ ∃ vs, H p = some (.lst vs) ∧ RpAll F vs xs
/-- an object of the class at C at x, its own dict at dx -/
structure ObOk (F H : Hp) (x dx C : Addr) (fs : List Fl) : Prop where
  nx : F x = none
  nd : F dx = none
  hd : H dx ≠ none
  ne : dx ≠ x
  nod : (fAddrs fs).Nodup
  out : x ∉ fAddrs fs ∧ dx ∉ fAddrs fs
  sl : ∃ us : List (Option V), SlX.Slt H x C dx us ∧ ∀ (i : Nat) f, fs[i]? = some f → FlOk F H us[i]? f
theorem slt_keep {H H' : Hp} {x C dx : Addr} {us : List (Option V)} (h : SlX.Slt H x C dx us) (fr : ∀ a o, (a = x ∨ a = dx) → H a = some o → H' a = some o) : SlX.Slt H' x C dx us :=
  match h with
  | .inl ⟨h1, h2⟩ => .inl ⟨fr x _ (.inl rfl) h1, h2⟩
  | .inr ⟨h1, h2⟩ => .inr ⟨fr x _ (.inl rfl) h1, fr dx _ (.inr rfl) h2⟩
theorem slt_some {H : Hp} {x C dx : Addr} {us : List (Option V)} (h : SlX.Slt H x C dx us) : H x ≠ none := by
  rcases h with ⟨h, _⟩ | ⟨h, _⟩ <;> rw [h] <;> simp
theorem mem_fAddrs {fs : List Fl} {a : Addr} : a ∈ fAddrs fs ↔ ∃ (i : Nat) (xs : List PyData), fs[i]? = some (.own a xs) := by
  unfold fAddrs
  rw [List.mem_flatMap]
  constructor
  · rintro ⟨f, hf, ha⟩
    obtain ⟨i, hi, e⟩ := List.mem_iff_getElem.mp hf
    cases f with
    | no => cases ha
    | val d => cases ha
    | own p xs =>
      have e2 : a = p := by simpa [Fl.addrs] using ha
      subst e2
      exact ⟨i, xs, by rw [List.getElem?_eq_getElem hi, e]⟩
  · rintro ⟨i, xs, e⟩
    exact ⟨_, List.mem_of_getElem? e, by simp [Fl.addrs]⟩
theorem ObOk.addr {F H : Hp} {x dx C : Addr} {fs : List Fl} (h : ObOk F H x dx C fs) {a : Addr} (ha : a ∈ x :: dx :: fAddrs fs) : F a = none ∧ H a ≠ none := by
  obtain ⟨us, h1, h2⟩ := h.sl
  rcases List.mem_cons.mp ha with e | ha
  · subst e
    exact ⟨h.nx, slt_some h1⟩
  · rcases List.mem_cons.mp ha with e | ha
    · subst e
      exact ⟨h.nd, h.hd⟩
    · obtain ⟨i, xs, e⟩ := mem_fAddrs.mp ha
      obtain ⟨_, n, vs, hp, _⟩ := h2 i _ e
      exact ⟨n, by rw [hp]; simp⟩
theorem ObOk.grow {F H F' H' : Hp} {x dx C : Addr} {fs : List Fl} (h : ObOk F H x dx C fs) (sF : Same F F') (fr : ∀ a o, a ∈ x :: dx :: fAddrs fs → H a = some o → H' a = some o) (nw : ∀ a, a ∈ x :: dx :: fAddrs fs → F' a = none) : ObOk F' H' x dx C fs := by
  obtain ⟨us, h1, h2⟩ := h.sl
  refine ⟨nw x List.mem_cons_self, nw dx (List.mem_cons_of_mem _ List.mem_cons_self), ?_, h.ne, h.nod, h.out, us, slt_keep h1 fun a o ha e => fr a o ?_ e, fun i f e => ?_⟩
  · cases e : H dx with
    | none => exact absurd e h.hd
    | some o =>
      rw [fr dx o (List.mem_cons_of_mem _ List.mem_cons_self) e]
      simp
  · rcases ha with ha | ha <;> subst ha <;> simp
  · have q := h2 i f e
    cases f with
    | no => trivial
    | val d =>
      obtain ⟨v, e1, r⟩ := q
      exact ⟨v, e1, r.mono sF d v⟩
    | own p xs =>
      have hm : p ∈ x :: dx :: fAddrs fs := List.mem_cons_of_mem _ (List.mem_cons_of_mem _ (mem_fAddrs.mpr ⟨i, xs, e⟩))
      obtain ⟨e1, n, vs, hp, r⟩ := q
      exact ⟨e1, nw p hm, vs, fr p _ hm hp, r.mono sF xs vs⟩
/-- an object lent: nobody changes it -/
def RfOk (F : Hp) (ou : Option (Option V)) : Fl → Prop
  | .no => True
  | .val d => ∃ v, ou = some (some v) ∧ Rp F v d
  | .own _ xs => ∃ v, ou = some (some v) ∧ Rp F v (.list xs)
def RoOk (F : Hp) (x dx C : Addr) (fs : List Fl) : Prop := ∃ us : List (Option V), SlX.Slt F x C dx us ∧ ∀ (i : Nat) f, fs[i]? = some f → RfOk F us[i]? f
theorem RoOk.mono {F F' : Hp} {x dx C : Addr} {fs : List Fl} (e : Same F F') (h : RoOk F x dx C fs) : RoOk F' x dx C fs := by
  obtain ⟨us, h1, h2⟩ := h
  refine ⟨us, slt_keep h1 fun a o _ z => e a o z, fun i f q => ?_⟩
  have q := h2 i f q
  cases f with
  | no => trivial
  | val d =>
    obtain ⟨v, e1, r⟩ := q
    exact ⟨v, e1, r.mono e d v⟩
  | own p xs =>
    obtain ⟨v, e1, r⟩ := q
    exact ⟨v, e1, r.mono e _ v⟩
def SlOk (F H : Hp) (ov : Option V) : Sd → Prop
  | .no => True
  | .val d => ∃ v, ov = some v ∧ Rp F v d
  | .own p xs => ov = some (.ref p) ∧ F p = none ∧ ∃ vs, H p = some (.lst vs) ∧ RpAll F vs xs
  | .bag p c => ov = some (.ref p) ∧ F p = none ∧ CellsAt F c ∧ BagAt H p c
  | .opn p c s0 s1 s2 => ov = some (.ref p) ∧ F p = none ∧ CellsAt F c ∧ H p = some (.lst [.int s0, .int s1, .int s2, .ref c])
  | .obj x dx C fs => ov = some (.ref x) ∧ ObOk F H x dx C fs
  | .rob x dx C fs => ov = some (.ref x) ∧ RoOk F x dx C fs
  | .fn f => ov = some (.ref f)
structure En (F H : Hp) (σ : St) (Γ : Ctx) : Prop where
  len : σ.length = Γ.length
  ex : Same F H
  sl : ∀ (i : Nat) s ov, Γ[i]? = some s → σ[i]? = some ov → SlOk F H ov s
  sep : ∀ (i j : Nat) s t a, Γ[i]? = some s → Γ[j]? = some t → a ∈ s.addrs → a ∈ t.addrs → i = j
/-- what an expression may do: F grows by new things, all of H stands but the bag, which stays a bag -/
structure Gr (Γ : Ctx) (F H F' H' : Hp) : Prop where
  sF : Same F F'
  ex : Same F' H'
  fr : ∀ a o, H a = some o → (∀ c, Sd.bag a c ∉ Γ) → H' a = some o
  nw : ∀ a, F a = none → H a ≠ none → F' a = none
  bg : ∀ p c, Sd.bag p c ∈ Γ → BagAt H' p c

theorem En.addr_no {F H : Hp} {σ : St} {Γ : Ctx} (E : En F H σ Γ) {i : Nat} {s : Sd} {a : Addr} (h : Γ[i]? = some s) (ha : a ∈ s.addrs) : F a = none ∧ H a ≠ none := by
  have hi : i < Γ.length := (List.getElem?_eq_some_iff.mp h).1
  have hs : i < σ.length := by rw [E.len]; exact hi
  have q := E.sl i s σ[i] h (List.getElem?_eq_getElem hs)
  cases s with
  | no => cases ha
  | val d => cases ha
  | own p xs =>
    obtain ⟨_, n, vs, e, _⟩ := q
    have e2 : a = p := by simpa [Sd.addrs] using ha
    subst e2
    exact ⟨n, by rw [e]; simp⟩
  | bag p c =>
    obtain ⟨_, n, _, s0, s1, s2, e, _⟩ := q
    have e2 : a = p := by simpa [Sd.addrs] using ha
    subst e2
    exact ⟨n, by rw [e]; simp⟩
  | opn p c s0 s1 s2 =>
    obtain ⟨_, n, _, e⟩ := q
    have e2 : a = p := by simpa [Sd.addrs] using ha
    subst e2
    exact ⟨n, by rw [e]; simp⟩
  | obj x dx C fs => exact q.2.addr ha
  | rob x dx C fs => cases ha
  | fn f => cases ha
theorem En.val {F H : Hp} {σ : St} {Γ : Ctx} (E : En F H σ Γ) {i : Nat} {d : PyData} (h : Γ[i]? = some (.val d)) : ∃ v, σ[i]? = some (some v) ∧ Rp F v d := by
  have hi : i < Γ.length := (List.getElem?_eq_some_iff.mp h).1
  have hs : i < σ.length := by rw [E.len]; exact hi
  obtain ⟨v, e, r⟩ := E.sl i _ σ[i] h (List.getElem?_eq_getElem hs)
  exact ⟨v, by rw [List.getElem?_eq_getElem hs, e], r⟩
theorem En.at {F H : Hp} {σ : St} {Γ : Ctx} (E : En F H σ Γ) {i : Nat} {s : Sd} (h : Γ[i]? = some s) : ∃ ov, σ[i]? = some ov ∧ SlOk F H ov s := by
  have hi : i < Γ.length := (List.getElem?_eq_some_iff.mp h).1
  have hs : i < σ.length := by rw [E.len]; exact hi
  exact ⟨σ[i], List.getElem?_eq_getElem hs, E.sl i _ σ[i] h (List.getElem?_eq_getElem hs)⟩
theorem ctx_mem {Γ : Ctx} {s : Sd} (h : s ∈ Γ) : ∃ i : Nat, Γ[i]? = some s := by
  obtain ⟨i, hi, e⟩ := List.mem_iff_getElem.mp h
  exact ⟨i, by rw [List.getElem?_eq_getElem hi, e]⟩
theorem En.bag {F H : Hp} {σ : St} {Γ : Ctx} (E : En F H σ Γ) {p c : Addr} (h : Sd.bag p c ∈ Γ) : F p = none ∧ BagAt H p c := by
  obtain ⟨i, hi⟩ := ctx_mem h
  obtain ⟨ov, _, q⟩ := E.at hi
  exact ⟨q.2.1, q.2.2.2⟩
theorem Gr.refl {F H : Hp} {σ : St} {Γ : Ctx} (E : En F H σ Γ) : Gr Γ F H F H :=
  ⟨Same.refl F, E.ex, fun _ _ e _ => e, fun _ e _ => e, fun _ _ m => (E.bag m).2⟩
theorem BagAt.some {H : Hp} {p c : Addr} (b : BagAt H p c) : H p ≠ none := by
  obtain ⟨_, _, _, e, _⟩ := b
  rw [e]
  simp
theorem Gr.kept {Γ : Ctx} {F H F' H' : Hp} (g : Gr Γ F H F' H') {a : Addr} (h : H a ≠ none) : H' a ≠ none := by
  by_cases hb : ∃ c, Sd.bag a c ∈ Γ
  · obtain ⟨c, hc⟩ := hb
    exact (g.bg a c hc).some
  · cases e : H a with
    | none => exact absurd e h
    | some o =>
      rw [g.fr a o e fun c hc => hb ⟨c, hc⟩]
      simp
theorem Gr.trans {Γ : Ctx} {F H F1 H1 F2 H2 : Hp} (a : Gr Γ F H F1 H1) (b : Gr Γ F1 H1 F2 H2) : Gr Γ F H F2 H2 :=
  ⟨a.sF.trans b.sF, b.ex, fun x o e n => b.fr x o (a.fr x o e n) n, fun x e n => b.nw x (a.nw x e n) (a.kept n), b.bg⟩
theorem SlOk.grow {F H F' H' : Hp} {ov : Option V} {s : Sd} (h : SlOk F H ov s) (sF : Same F F') (fr : ∀ a o, a ∈ s.addrs → H a = some o → (∀ p c, s ≠ .bag p c) → H' a = some o) (nw : ∀ a, a ∈ s.addrs → F' a = none) (bg : ∀ p c, s = .bag p c → BagAt H' p c) : SlOk F' H' ov s := by
  cases s with
  | no => trivial
  | val d =>
    obtain ⟨v, e, r⟩ := h
    exact ⟨v, e, r.mono sF d v⟩
  | own p xs =>
    obtain ⟨e, n, vs, hp, r⟩ := h
    exact ⟨e, nw p (by simp [Sd.addrs]), vs, fr p _ (by simp [Sd.addrs]) hp (fun _ _ z => by cases z), r.mono sF xs vs⟩
  | bag p c =>
    obtain ⟨e, n, hc, b⟩ := h
    exact ⟨e, nw p (by simp [Sd.addrs]), hc.mono sF, bg p c rfl⟩
  | opn p c s0 s1 s2 =>
    obtain ⟨e, n, hc, b⟩ := h
    exact ⟨e, nw p (by simp [Sd.addrs]), hc.mono sF, fr p _ (by simp [Sd.addrs]) b (fun _ _ z => by cases z)⟩
  | obj x dx C fs => exact ⟨h.1, h.2.grow sF (fun a o ha e => fr a o ha e (fun _ _ z => by cases z)) nw⟩
  | rob x dx C fs => exact ⟨h.1, h.2.mono sF⟩
  | fn f => exact h
theorem En.grow {F H F' H' : Hp} {σ : St} {Γ : Ctx} (E : En F H σ Γ) (g : Gr Γ F H F' H') : En F' H' σ Γ := by
  refine ⟨E.len, g.ex, fun i s ov h1 h2 => ?_, E.sep⟩
  refine (E.sl i s ov h1 h2).grow g.sF (fun a o ha e nb => g.fr a o e fun c hc => ?_) (fun a ha => ?_) (fun p c e => ?_)
  · obtain ⟨j, hj⟩ := ctx_mem hc
    have := E.sep i j s _ a h1 hj ha (by simp [Sd.addrs])
    subst this
    rw [h1] at hj
    exact nb a c (Option.some.inj hj)
  · have q := E.addr_no h1 ha
    exact g.nw a q.1 q.2
  · subst e
    exact g.bg p c (List.mem_of_getElem? h1)
/-- a new thing, known from now on -/
theorem Gr.new {F H : Hp} {σ : St} {Γ : Ctx} (E : En F H σ Γ) {p : Addr} {o : HO} (h : H p = none) : Gr Γ F H (upd F p o) (upd H p o) := by
  have hF : F p = none := E.ex.free h
  refine ⟨fun a u e => ?_, fun a u e => ?_, fun a u e _ => ?_, fun a e n => ?_, fun q c m => ?_⟩
  · rw [upd_ne (ne_of_none e hF)]
    exact e
  · by_cases ha : a = p
    · subst ha
      rw [upd_same] at e ⊢
      exact e
    · rw [upd_ne ha] at e ⊢
      exact E.ex a u e
  · rw [upd_ne (ne_of_none e h)]
    exact e
  · have ha : a ≠ p := fun z => by rw [z] at n; exact n h
    rw [upd_ne ha]
    exact e
  · obtain ⟨s0, s1, s2, e, r⟩ := (E.bag m).2
    exact ⟨s0, s1, s2, by rw [upd_ne (ne_of_none e h)]; exact e, r⟩
/-- a new thing of our own -/
theorem Gr.mine {F H : Hp} {σ : St} {Γ : Ctx} (E : En F H σ Γ) {p : Addr} {o : HO} (h : H p = none) : Gr Γ F H F (upd H p o) := by
  refine ⟨Same.refl F, fun a u e => ?_, fun a u e _ => ?_, fun a e n => e, fun q c m => ?_⟩
  · rw [upd_ne (ne_of_none (E.ex a u e) h)]
    exact E.ex a u e
  · rw [upd_ne (ne_of_none e h)]
    exact e
  · obtain ⟨s0, s1, s2, e, r⟩ := (E.bag m).2
    exact ⟨s0, s1, s2, by rw [upd_ne (ne_of_none e h)]; exact e, r⟩
/-- what is new becomes known -/
theorem Gr.know {Γ : Ctx} {F H F' H' : Hp} {p : Addr} {o : HO} (g : Gr Γ F H F' H') (h : H p = none) (hF : F' p = none) (hH : H' p = some o) : Gr Γ F H (upd F' p o) H' := by
  have s : Same F' (upd F' p o) := fun a u e => by
    rw [upd_ne (ne_of_none e hF)]
    exact e
  refine ⟨g.sF.trans s, fun a u e => ?_, g.fr, fun a e n => ?_, g.bg⟩
  · by_cases ha : a = p
    · subst ha
      rw [upd_same] at e
      cases e
      exact hH
    · rw [upd_ne ha] at e
      exact g.ex a u e
  · have ha : a ≠ p := fun z => by rw [z] at n; exact n h
    rw [upd_ne ha]
    exact g.nw a e n
theorem Gr.wide {Γ : Ctx} {F H F' H' : Hp} {σ : St} (E : En F H σ Γ) (g : Gr [] F H F' H') : Gr Γ F H F' H' :=
  ⟨g.sF, g.ex, fun a o e _ => g.fr a o e fun c hc => by simp at hc, g.nw, fun p c m => by
    obtain ⟨s0, s1, s2, e, r⟩ := (E.bag m).2
    exact ⟨s0, s1, s2, g.fr p _ e fun c hc => by simp at hc, r⟩⟩
theorem Gr.wideB {Γ : Ctx} {F H F' H' : Hp} {σ : St} {b c : Addr} (E : En F H σ Γ) (hb : Sd.bag b c ∈ Γ) (g : Gr [.bag b c] F H F' H') : Gr Γ F H F' H' :=
  ⟨g.sF, g.ex, fun a o e n => g.fr a o e fun c' hc => by
    have e2 : a = b ∧ c' = c := by simpa using hc
    obtain ⟨rfl, rfl⟩ := e2
    exact n c' hb, g.nw, fun p c' m => by
    by_cases hp : p = b
    · subst hp
      obtain ⟨i, hi⟩ := ctx_mem m
      obtain ⟨j, hj⟩ := ctx_mem hb
      have := E.sep i j _ _ p hi hj (by simp [Sd.addrs]) (by simp [Sd.addrs])
      subst this
      rw [hi] at hj
      cases hj
      exact g.bg p c (by simp)
    · obtain ⟨s0, s1, s2, e, r⟩ := (E.bag m).2
      exact ⟨s0, s1, s2, g.fr p _ e fun c2 hc => by
        have e2 : p = b ∧ c2 = c := by simpa using hc
        exact hp e2.1, r⟩⟩
end Wm

set_option Elab.async false
set_option linter.all false
set_option maxRecDepth 100000
set_option maxHeartbeats 2000000
/-! Wm.B: expressions and tests. -/
namespace Wm
open PySem PySem.Spec L2

/-! ### the widest readings -/
section
variable (X : Cx)
def we (e : Expr) : TE := fun σ H Q => ∀ (pins : List (Addr × Obj)) (s : Shared), Inv X pins σ H s → wpAny (model X.prog X.w) X.A (eval e X.env) (EP X pins σ Q) X.xe s
def wt (e : Expr) : TT := fun σ H Q => ∀ (pins : List (Addr × Obj)) (s : Shared), Inv X pins σ H s → wpAny (model X.prog X.w) X.A (isTrue e X.env (eval e X.env)) (TP X pins σ Q) X.xe s
def ww (e : Expr) : TT := fun σ H Q => ∀ (whole : Sem Value) (pins : List (Addr × Obj)) (s : Shared), Inv X pins σ H s → wpAny (model X.prog X.w) X.A (isTrue e X.env whole) (TP X pins σ Q) X.xe s
def wa (es : List Expr) : TA := fun σ H Q => ∀ (pos : Pos) (pins : List (Addr × Obj)) (s : Shared), Inv X pins σ H s → wpAny (model X.prog X.w) X.A (spliced (backTo pos (starEach es X.env))) (AP X pins σ Q) X.xe s
def wp (e : Option Expr) : TO := fun σ H Q => ∀ (pins : List (Addr × Obj)) (s : Shared), Inv X pins σ H s →
  wpAny (model X.prog X.w) X.A (evalPart e X.env) (fun u s' => ∃ o H', Inv X pins σ H' s' ∧ IsPart u o ∧ Q o H') X.xe s
def wI (tg iter : Expr) : TI := fun σ H R => ∀ (pins : List (Addr × Obj)) (s : Shared), Inv X pins σ H s →
  wpAny (model X.prog X.w) X.A (eval iter X.env) (fun v s1 => wpAny (model X.prog X.w) X.A (pyIter v) (PIE X pins σ tg R) X.xe s1) X.xe s
end
section
variable {X : Cx} {e : Expr} {es : List Expr} {σ : L2.St} {H : Hp}
theorem pe_we : PE X e (we X e) := ⟨fun pins s _ _ _ I h => h pins s I⟩
theorem we_of {t : TE} {Q : VK} (h : PE X e t) (q : t σ H Q) : we X e σ H Q := fun pins s I => h.run pins s σ H Q I q
theorem pt_wt : PT X e (wt X e) := ⟨fun pins s _ _ _ I h => h pins s I⟩
theorem wt_of {t : TT} {Q : Bool → Hp → Prop} (h : PT X e t) (q : t σ H Q) : wt X e σ H Q := fun pins s I => h.run pins s σ H Q I q
theorem pw_ww : PW X e (ww X e) := ⟨fun wh pins s _ _ _ I h => h wh pins s I⟩
theorem ww_of {t : TT} {Q : Bool → Hp → Prop} (h : PW X e t) (q : t σ H Q) : ww X e σ H Q := fun wh pins s I => h.run wh pins s σ H Q I q
theorem pa_wa : PA X es (wa X es) := ⟨fun pos pins s _ _ _ I h => h pos pins s I⟩
theorem wa_of {t : TA} {Q : List V → Hp → Prop} (h : PA X es t) (q : t σ H Q) : wa X es σ H Q := fun pos pins s I => h.run pos pins s σ H Q I q
theorem po_wp {o : Option Expr} : PO X o (wp X o) := ⟨fun pins s _ _ _ I h => h pins s I⟩
theorem wp_of {o : Option Expr} {t : TO} {Q : Option Int → Hp → Prop} (h : PO X o t) (q : t σ H Q) : wp X o σ H Q := fun pins s I => h.run pins s σ H Q I q
theorem pi_wI {tg it : Expr} : PI X tg it (wI X tg it) := ⟨fun pins s _ _ _ I h => h pins s I⟩
theorem wI_of {tg it : Expr} {t : TI} {R : It → Hp → Prop} (h : PI X tg it t) (q : t σ H R) : wI X tg it σ H R := fun pins s I => h.run pins s σ H R I q
theorem we_mono {Q Q' : VK} (h : we X e σ H Q) (m : ∀ v H', Q v H' → Q' v H') : we X e σ H Q' := fun pins s I =>
  thn (h pins s I) fun _ _ ⟨v, H1, I1, r, q⟩ => ⟨v, H1, I1, r, m v H1 q⟩
end

/-! ### judgements -/
/-- e gives data d with P d, the context stays -/
def Nd (X : Cx) (e : Expr) (Γ : Ctx) (P : PyData → Prop) : Prop := ∀ F H σ, En F H σ Γ → ∀ Q : VK, (∀ v F' H' d, Gr Γ F H F' H' → Rp F' v d → P d → Q v H') → we X e σ H Q
/-- e gives a new list that nobody else has -/
def Nl (X : Cx) (e : Expr) (Γ : Ctx) (P : List PyData → Prop) : Prop := ∀ F H σ, En F H σ Γ → ∀ Q : VK,
  (∀ p vs xs F' H', Gr Γ F H F' H' → H p = none → F' p = none → H' p = some (.lst vs) → RpAll F' vs xs → P xs → Q (.ref p) H') → we X e σ H Q
def Nt (X : Cx) (e : Expr) (Γ : Ctx) (P : Bool → Prop) : Prop := ∀ F H σ, En F H σ Γ → ∀ Q : Bool → Hp → Prop, (∀ b F' H', Gr Γ F H F' H' → P b → Q b H') → wt X e σ H Q
def Nw (X : Cx) (e : Expr) (Γ : Ctx) (P : Bool → Prop) : Prop := ∀ F H σ, En F H σ Γ → ∀ Q : Bool → Hp → Prop, (∀ b F' H', Gr Γ F H F' H' → P b → Q b H') → ww X e σ H Q
def Na (X : Cx) (es : List Expr) (Γ : Ctx) (P : List PyData → Prop) : Prop := ∀ F H σ, En F H σ Γ → ∀ Q : List V → Hp → Prop,
  (∀ vs F' H' ds, Gr Γ F H F' H' → RpAll F' vs ds → P ds → Q vs H') → wa X es σ H Q
def Np (X : Cx) (e : Option Expr) (Γ : Ctx) (P : Option Int → Prop) : Prop := ∀ F H σ, En F H σ Γ → ∀ Q : Option Int → Hp → Prop,
  (∀ o F' H', Gr Γ F H F' H' → P o → Q o H') → wp X e σ H Q

section
variable {X : Cx} {e a b c : Expr} {es rest : List Expr} {Γ : Ctx} {P P' : PyData → Prop} {pos pos' p p2 : Pos}
theorem Nd.mono (h : Nd X e Γ P) (m : ∀ d, P d → P' d) : Nd X e Γ P' := fun F H σ E Q q => h F H σ E Q fun v F' H' d g r p => q v F' H' d g r (m d p)
theorem Nt.mono {P P' : Bool → Prop} (h : Nt X e Γ P) (m : ∀ d, P d → P' d) : Nt X e Γ P' := fun F H σ E Q q => h F H σ E Q fun d F' H' g p => q d F' H' g (m d p)
theorem Nl.nd {P : List PyData → Prop} (h : Nl X e Γ P) : Nd X e Γ fun d => ∃ xs, d = .list xs ∧ P xs := fun F H σ E Q q =>
  h F H σ E Q fun p vs xs F' H' g n nF hp r px => q _ _ _ (.list xs) (g.know n nF hp) (.lst upd_same (r.mono (fun a u z => by
    rw [upd_ne (ne_of_none z nF)]
    exact z) xs vs)) ⟨xs, rfl, px⟩
theorem nl_nd {P : PyData → Prop} (h : Nl X e Γ fun xs => P (.list xs)) : Nd X e Γ P := h.nd.mono fun _ ⟨_, e, p⟩ => e ▸ p
theorem nd_var {i : Nat} {x : Str} {d : PyData} (hi : Γ[i]? = some (.val d)) (q : P d) (hN : X.N[i]? = some x := by rfl)
    (hv : Vis X.env.scope x := by first | exact Or.inl rfl | exact Or.inr (Or.inl rfl) | exact Or.inr (Or.inr rfl)) (hd : (x == ("__debug__" : Str)) = false := by decide) (hcd : (x == ("__classdict__" : Str)) = false := by decide) : Nd X (.Name x pos) Γ P := by
  intro F H σ E Q k
  obtain ⟨v, e, r⟩ := E.val hi
  exact we_of (pe_var hN hv hd hcd) ⟨v, e, k v F H d (.refl E) r q⟩
theorem nd_int {i : Int} {j} (q : P (.int i)) : Nd X (.Constant (.int i) j pos) Γ P := fun F H σ E Q k => we_of pe_int (k _ F H _ (.refl E) (.int i) q)
theorem nd_bool {i : Bool} {j} (q : P (.bool i)) : Nd X (.Constant (.bool i) j pos) Γ P := fun F H σ E Q k => we_of pe_bl (k _ F H _ (.refl E) (.bl i) q)
theorem nd_none {j} (q : P .none) : Nd X (.Constant .none j pos) Γ P := fun F H σ E Q k => we_of pe_non (k _ F H _ (.refl E) .non q)
theorem nd_str {x : Str} {j} (q : P (.str x)) : Nd X (.Constant (.str x) j pos) Γ P := fun F H σ E Q k => we_of pe_str (k _ F H _ (.refl E) (.str x) q)

/-! ### operators -/
/-- an operation by values, on data -/
def Op2 (Γ : Ctx) (r : R2) (x y : PyData) (P : PyData → Prop) : Prop := ∀ F H σ, En F H σ Γ → ∀ v u, Rp F v x → Rp F u y → ∀ Q : VK, (∀ w F' H' d, Gr Γ F H F' H' → Rp F' w d → P d → Q w H') → r v u H Q
theorem bin_nd {r : R2} (ha : Nd X a Γ fun x => Nd X b Γ fun y => Op2 Γ r x y P) : ∀ F H σ, En F H σ Γ → ∀ Q : VK, (∀ v F' H' d, Gr Γ F H F' H' → Rp F' v d → P d → Q v H') → tOp r (we X a) (we X b) σ H Q := by
  intro F H σ E Q k
  refine ha F H σ E _ fun v F1 H1 x g1 r1 p1 => ?_
  refine p1 F1 H1 σ (E.grow g1) _ fun u F2 H2 y g2 r2 p2 => ?_
  refine p2 F2 H2 σ ((E.grow g1).grow g2) v u (r1.mono g2.sF x v) r2 Q fun w F3 H3 d g3 r3 p3 => ?_
  exact k w F3 H3 d ((g1.trans g2).trans g3) r3 p3
def BinOk (X : Cx) (Γ : Ctx) (op : Operator) (x y : PyData) (P : PyData → Prop) : Prop := ∃ r, OpR X (binaryOp op) r ∧ Op2 Γ r x y P
def CmpOk (X : Cx) (Γ : Ctx) (op : CmpOp) (x y : PyData) (P : PyData → Prop) : Prop := ∃ r, OpR X (compareOp op) r ∧ Op2 Γ r x y P
theorem fst_ok {f : Value → Value → Sem Value} {r : PyData → PyData → R2} (x y : PyData) : True := trivial
/-- the operands are told first, then the operation -/
def rAny (X : Cx) (f : Value → Value → Sem Value) : R2 := fun v u H Q => ∃ r, OpR X f r ∧ r v u H Q
theorem op_any {f : Value → Value → Sem Value} : OpR X f (rAny X f) := fun pins s σ H x y v u Q I rx ry ⟨_, ho, h⟩ => ho pins s σ H x y v u Q I rx ry h
theorem op2_any {f : Value → Value → Sem Value} {x y : PyData} (h : ∃ r, OpR X f r ∧ Op2 Γ r x y P) : Op2 Γ (rAny X f) x y P := by
  obtain ⟨r, ho, h⟩ := h
  exact fun F H σ E v u rv ru Q k => ⟨r, ho, h F H σ E v u rv ru Q k⟩
theorem nd_bin {op : Operator} (ha : Nd X a Γ fun x => Nd X b Γ fun y => BinOk X Γ op x y P) : Nd X (.BinOp a op b pos) Γ P := fun F H σ E Q k =>
  we_of (pe_op op_any pe_we pe_we) (bin_nd (ha.mono fun _ h => h.mono fun _ h => op2_any h) F H σ E Q k)
theorem nd_cmp {op : CmpOp} (ha : Nd X a Γ fun x => Nd X b Γ fun y => CmpOk X Γ op x y P) (hm : behindInMarks op b = false := by first | exact nobehind _ (by decide) (by decide) | rfl | with_unfolding_all rfl) : Nd X (.Compare a [op] [b] pos) Γ P := fun F H σ E Q k =>
  we_of (pe_cmpR op_any pe_we pe_we hm) (bin_nd (ha.mono fun _ h => h.mono fun _ h => op2_any h) F H σ E Q k)
theorem nt_cmp {op : CmpOp} {P : Bool → Prop} (ha : Nd X a Γ fun x => Nd X b Γ fun y => CmpOk X Γ op x y fun d => ∃ k, d = .bool k ∧ P k)
    (hm : behindInMarks op b = false := by first | exact nobehind _ (by decide) (by decide) | rfl | with_unfolding_all rfl) : Nt X (.Compare a [op] [b] pos) Γ P := fun F H σ E Q k =>
  wt_of (pt_cmpR op_any pe_we pe_we hm) (bin_nd (P := fun d => ∃ k, d = .bool k ∧ P k) (ha.mono fun _ h => h.mono fun _ h => op2_any h) F H σ E _ fun v F' H' d g r ⟨c, e, p⟩ => by
    subst e
    exact ⟨c, rp_bl r, k c F' H' g p⟩)
theorem nd_chain {op op' : CmpOp} {P : PyData → Prop} (ha : Nd X a Γ fun x => Nd X b Γ fun y => CmpOk X Γ op x y fun d => ∃ k, d = .bool k ∧ if k = true then Nd X c Γ fun z => CmpOk X Γ op' y z P else P (.bool false))
    (hm : lastMarks [op, op'] [b, c] = false := by with_unfolding_all rfl) : Nd X (.Compare a [op, op'] [b, c] pos) Γ P := by
  intro F H σ E Q k
  refine we_of (pe_chain op_any op_any pe_we pe_we pe_we hm) ?_
  refine ha F H σ E _ fun v F1 H1 x g1 r1 p1 => ?_
  refine p1 F1 H1 σ (E.grow g1) _ fun u F2 H2 y g2 r2 p2 => ?_
  have E2 := (E.grow g1).grow g2
  refine op2_any p2 F2 H2 σ E2 v u (r1.mono g2.sF x v) r2 _ fun w F3 H3 d g3 r3 ⟨t, e, p3⟩ => ?_
  subst e
  refine ⟨t, rp_bl r3, ?_⟩
  have E3 := E2.grow g3
  cases t with
  | false =>
    exact iteF (k _ F3 H3 _ ((g1.trans g2).trans g3) (.bl false) p3)
  | true =>
    have p3 : Nd X c Γ fun z => CmpOk X Γ op' y z P := p3
    refine iteT (p3 F3 H3 σ E3 _ fun z F4 H4 d4 g4 r4 p4 => ?_)
    refine op2_any p4 F4 H4 σ (E3.grow g4) u z (r2.mono (g3.sF.trans g4.sF) y u) r4 Q fun w5 F5 H5 d5 g5 r5 p5 => ?_
    exact k w5 F5 H5 d5 ((((g1.trans g2).trans g3).trans g4).trans g5) r5 p5
theorem nt_chain {op op' : CmpOp} {P : Bool → Prop} (ha : Nd X a Γ fun x => Nd X b Γ fun y => CmpOk X Γ op x y fun d => ∃ k, d = .bool k ∧ if k = true then Nd X c Γ fun z => CmpOk X Γ op' y z fun d => ∃ k, d = .bool k ∧ P k else P false)
    (hm : lastMarks [op, op'] [b, c] = false := by with_unfolding_all rfl) : Nt X (.Compare a [op, op'] [b, c] pos) Γ P := by
  intro F H σ E Q k
  refine wt_of (pt_chain op_any op_any pe_we pe_we pe_we hm) ?_
  refine ha F H σ E _ fun v F1 H1 x g1 r1 p1 => ?_
  refine p1 F1 H1 σ (E.grow g1) _ fun u F2 H2 y g2 r2 p2 => ?_
  have E2 := (E.grow g1).grow g2
  refine op2_any p2 F2 H2 σ E2 v u (r1.mono g2.sF x v) r2 _ fun w F3 H3 d g3 r3 ⟨t, e, p3⟩ => ?_
  subst e
  refine ⟨t, rp_bl r3, ?_⟩
  have E3 := E2.grow g3
  cases t with
  | false =>
    exact iteF ⟨false, rfl, k _ F3 H3 ((g1.trans g2).trans g3) p3⟩
  | true =>
    have p3 : Nd X c Γ fun z => CmpOk X Γ op' y z fun d => ∃ k, d = .bool k ∧ P k := p3
    refine iteT (p3 F3 H3 σ E3 _ fun z F4 H4 d4 g4 r4 p4 => ?_)
    refine op2_any p4 F4 H4 σ (E3.grow g4) u z (r2.mono (g3.sF.trans g4.sF) y u) r4 _ fun w5 F5 H5 d5 g5 r5 ⟨t5, e5, p5⟩ => ?_
    subst e5
    exact ⟨t5, rp_bl r5, k t5 F5 H5 ((((g1.trans g2).trans g3).trans g4).trans g5) p5⟩
def UnOk (X : Cx) (op : UnaryOp) (x : PyData) (P : PyData → Prop) : Prop := match op, x with
  | .USub, .int i => P (.int (-i))
  | _, _ => False
theorem nd_neg (ha : Nd X a Γ fun x => ∃ i, x = .int i ∧ P (.int (-i))) : Nd X (.UnaryOp .USub a pos) Γ P := fun F H σ E Q k => we_of (pe_un un_neg pe_we) (ha F H σ E _ fun v F1 H1 x g1 r1 ⟨i, e, p⟩ => by
  subst e
  exact ⟨i, rp_int r1, k _ F1 H1 _ g1 (.int _) p⟩)

/-- ints in, a value out -/
theorem op2_I0 {g : Int → Int → V} {h : Int → Int → PyData} {i j : Int} (hg : ∀ F i j, Rp F (g i j) (h i j)) (q : P (h i j)) : Op2 Γ (rI0 g) (.int i) (.int j) P := fun F H σ E v u rv ru Q k =>
  ⟨i, j, rp_int rv, rp_int ru, k _ F H _ (.refl E) (hg F i j) q⟩
theorem op2_I {C : Int → Int → Prop} {g : Int → Int → V} {h : Int → Int → PyData} {i j : Int} (hg : ∀ F i j, Rp F (g i j) (h i j)) (hc : C i j) (q : P (h i j)) : Op2 Γ (rI C g) (.int i) (.int j) P := fun F H σ E v u rv ru Q k =>
  ⟨i, j, rp_int rv, rp_int ru, hc, k _ F H _ (.refl E) (hg F i j) q⟩
theorem bin_add {i j : Int} (q : P (.int (i + j))) : BinOk X Γ .Add (.int i) (.int j) P := ⟨_, op_add, op2_I0 (h := fun i j => .int (i + j)) (fun _ _ _ => .int _) q⟩
theorem bin_sub {i j : Int} (q : P (.int (i - j))) : BinOk X Γ .Sub (.int i) (.int j) P := ⟨_, op_sub, op2_I0 (h := fun i j => .int (i - j)) (fun _ _ _ => .int _) q⟩
theorem bin_mul {i j : Int} (hc : CMul i j) (q : P (.int (i * j))) : BinOk X Γ .Mult (.int i) (.int j) P := ⟨_, op_mul, op2_I (h := fun i j => .int (i * j)) (fun _ _ _ => .int _) hc q⟩
theorem bin_mod {i j : Int} (hc : 0 < j) (q : P (.int (i % j))) : BinOk X Γ .Mod (.int i) (.int j) P := ⟨_, op_mod, op2_I (C := fun _ j => 0 < j) (h := fun i j => .int (i % j)) (fun _ _ _ => .int _) hc q⟩
theorem bin_fdiv {i j : Int} (hc : CDivW i j) (q : P (.int (i / j))) : BinOk X Γ .FloorDiv (.int i) (.int j) P := ⟨_, op_fdivW, op2_I (h := fun i j => .int (i / j)) (fun _ _ _ => .int _) hc q⟩
theorem bin_pow {i j : Int} (hc : CPow i j) (q : P (.int (i ^ j.toNat))) : BinOk X Γ .Pow (.int i) (.int j) P := ⟨_, op_pow, op2_I (h := fun i j => .int (i ^ j.toNat)) (fun _ _ _ => .int _) hc q⟩
theorem bin_cat {xs ys : List PyData} (hz : xs.length + ys.length ≤ 100000) (q : P (.list (xs ++ ys))) : BinOk X Γ .Add (.list xs) (.list ys) P := ⟨_, op_cat, fun F H σ E v u rv ru Q k => by
  obtain ⟨a, vs, rfl, ha, ra⟩ := rp_lst rv
  obtain ⟨b, us, rfl, hb, rb⟩ := rp_lst ru
  refine ⟨a, b, vs, us, rfl, rfl, E.ex _ _ ha, E.ex _ _ hb, ?_, fun p hp => ?_⟩
  · rw [ra.length, rb.length]
    exact Nat.le_trans hz (by decide)
  · have g := Gr.new E (o := .lst (vs ++ us)) hp
    exact k _ _ _ _ g (.lst upd_same ((ra.append rb).mono g.sF _ _)) q⟩
theorem bin_catT {xs ys : List PyData} (hz : xs.length + ys.length ≤ 100000) (q : P (.tuple (xs ++ ys))) : BinOk X Γ .Add (.tuple xs) (.tuple ys) P := ⟨_, op_catX, fun F H σ E v u rv ru Q k => by
  obtain ⟨a, vs, rfl, ha, ra⟩ := rp_tup rv
  obtain ⟨b, us, rfl, hb, rb⟩ := rp_tup ru
  refine ⟨a, b, vs, us, rfl, rfl, (ha.mono E.ex).sq, (hb.mono E.ex).sq, ?_, fun z => ?_, fun _ z => ?_, fun _ _ p o xo hp => ?_⟩
  · rw [ra.length, rb.length]
    exact Nat.le_trans hz (by decide)
  · subst z
    cases ra
    exact k _ F H _ (.refl E) ru q
  · subst z
    cases rb
    rw [List.append_nil] at q
    exact k _ F H _ (.refl E) rv q
  · have g := Gr.new E (o := .frz o (.tup (vs ++ us))) hp
    exact k _ _ _ _ g (.tup (.new xo) ((ra.append rb).mono g.sF _ _)) q⟩
theorem rpAll_rep {F : Hp} {vs : List V} {xs : List PyData} (r : RpAll F vs xs) : ∀ n : Nat, RpAll F (List.replicate n vs).flatten (List.replicate n xs).flatten
  | 0 => .nil
  | n + 1 => by
    rw [List.replicate_succ, List.replicate_succ, List.flatten_cons, List.flatten_cons]
    exact r.append (rpAll_rep r n)
theorem bin_rep {xs : List PyData} {n : Int} (h0 : 0 ≤ n) (hz : xs.length * n.toNat ≤ 100000) (hn : n ≤ 100000) (q : P (.list (List.replicate n.toNat xs).flatten)) : BinOk X Γ .Mult (.list xs) (.int n) P := ⟨_, op_rep, fun F H σ E v u rv ru Q k => by
  obtain ⟨a, vs, rfl, ha, ra⟩ := rp_lst rv
  refine ⟨a, n, vs, rfl, rp_int ru, E.ex _ _ ha, by omega, by omega, ?_, fun p hp => ?_⟩
  · rw [ra.length]
    exact Nat.le_trans hz (by decide)
  · have g := Gr.new E (o := .lst (List.replicate n.toNat vs).flatten) hp
    exact k _ _ _ _ g (.lst upd_same ((rpAll_rep ra _).mono g.sF _ _)) q⟩

/-! ### comparisons -/
theorem cmp_lt {i j : Int} (q : P (.bool (decide (i < j)))) : CmpOk X Γ .Lt (.int i) (.int j) P := ⟨_, op_lt, op2_I0 (h := fun i j => .bool (decide (i < j))) (fun _ _ _ => .bl _) q⟩
theorem cmp_le {i j : Int} (q : P (.bool (decide (i ≤ j)))) : CmpOk X Γ .LtE (.int i) (.int j) P := ⟨_, op_le, op2_I0 (h := fun i j => .bool (decide (i ≤ j))) (fun _ _ _ => .bl _) q⟩
theorem cmp_gt {i j : Int} (q : P (.bool (decide (j < i)))) : CmpOk X Γ .Gt (.int i) (.int j) P := ⟨_, op_gt, op2_I0 (h := fun i j => .bool (decide (j < i))) (fun _ _ _ => .bl _) q⟩
theorem cmp_ge {i j : Int} (q : P (.bool (decide (j ≤ i)))) : CmpOk X Γ .GtE (.int i) (.int j) P := ⟨_, op_ge, op2_I0 (h := fun i j => .bool (decide (j ≤ i))) (fun _ _ _ => .bl _) q⟩
theorem cmp_eq {x y : PyData} (hu : X.A.units + 64 < cLine) (hx : SeqAt.shaped x = true) (hy : SeqAt.shaped y = true) (q : P (.bool (PyData.eqv x y))) : CmpOk X Γ .Eq x y P := ⟨_, op_eqD hu, fun F H σ E v u rv ru Q k =>
  ⟨x, y, (rv.mono E.ex x v).dp x v, (ru.mono E.ex y u).dp y u, hx, hy, k _ F H _ (.refl E) (.bl _) q⟩⟩
theorem cmp_ne {x y : PyData} (hu : X.A.units + 64 < cLine) (hx : SeqAt.shaped x = true) (hy : SeqAt.shaped y = true) (q : P (.bool (!PyData.eqv x y))) : CmpOk X Γ .NotEq x y P := ⟨_, op_neD hu, fun F H σ E v u rv ru Q k =>
  ⟨x, y, (rv.mono E.ex x v).dp x v, (ru.mono E.ex y u).dp y u, hx, hy, k _ F H _ (.refl E) (.bl _) q⟩⟩
def isN : PyData → Bool
  | .none => true
  | _ => false
theorem isN_v {F : Hp} {v : V} {d : PyData} (r : Rp F v d) : decide (v = .non) = isN d := by
  cases r <;> simp [isN]
theorem cmp_isN {x : PyData} (q : P (.bool (isN x))) : CmpOk X Γ .Is x .none P := ⟨_, op_isN, fun F H σ E v u rv ru Q k => ⟨rp_non ru, by rw [isN_v rv]; exact k _ F H _ (.refl E) (.bl _) q⟩⟩
theorem cmp_notN {x : PyData} (q : P (.bool (!isN x))) : CmpOk X Γ .IsNot x .none P := ⟨_, op_notN, fun F H σ E v u rv ru Q k => ⟨rp_non ru, by rw [isN_v rv]; exact k _ F H _ (.refl E) (.bl _) q⟩⟩
theorem cmp_notB {x y : Bool} (q : P (.bool (!decide (x = y)))) : CmpOk X Γ .IsNot (.bool x) (.bool y) P := ⟨_, op_notBl, fun F H σ E v u rv ru Q k => ⟨x, y, rp_bl rv, rp_bl ru, k _ F H _ (.refl E) (.bl _) q⟩⟩
/-- flat data -/
def flatD : PyData → Bool
  | .none => true
  | .int _ => true
  | _ => false
theorem flat_v {F : Hp} {v : V} {d : PyData} (r : Rp F v d) (h : flatD d = true) : flatV v = true := by
  cases r <;> first | rfl | (simp [flatD] at h; done)
theorem flat_all {F : Hp} : ∀ {vs : List V} {ds : List PyData}, RpAll F vs ds → ds.all flatD = true → vs.all flatV = true
  | _, _, .nil, _ => rfl
  | _, _, .cons h t, e => by
    rw [List.all_cons, Bool.and_eq_true] at e ⊢
    exact ⟨flat_v h e.1, flat_all t e.2⟩
theorem inV_eq {F : Hp} {x : PyData} {v : V} (rv : Rp F v x) (hx : flatD x = true) : ∀ {vs : List V} {ds : List PyData}, RpAll F vs ds → ds.all flatD = true → inV v vs = ds.any fun z => PyData.eqv z x
  | _, _, .nil, _ => rfl
  | _, _, .cons h t, e => by
    rw [List.all_cons, Bool.and_eq_true] at e
    have ih := inV_eq rv hx t e.2
    unfold inV at ih ⊢
    rw [List.any_cons, List.any_cons, ih]
    congr 1
    have e1 := e.1
    cases h <;> cases rv <;> first | (simp [flatD] at e1; done) | (simp [flatD] at hx; done) | simp [eqV, PyData.eqv]
theorem cmp_in {x y : PyData} {ys : List PyData} (hy : y = .list ys ∨ y = .tuple ys) (hx : flatD x = true) (hf : ys.all flatD = true) (q : P (.bool (ys.any fun z => PyData.eqv z x))) : CmpOk X Γ .In x y P := ⟨_, op_in_seq, fun F H σ E v u rv ru Q k => by
  rcases hy with rfl | rfl
  · obtain ⟨a, vs, rfl, ha, ra⟩ := rp_lst ru
    exact ⟨a, vs, rfl, .inl (.of (E.ex _ _ ha)), flat_v rv hx, flat_all ra hf, by
      show Q (.bl (inV v vs)) H
      rw [inV_eq rv hx ra hf]
      exact k _ F H _ (.refl E) (.bl _) q⟩
  · obtain ⟨a, vs, rfl, ha, ra⟩ := rp_tup ru
    exact ⟨a, vs, rfl, .inr (ha.mono E.ex).sq, flat_v rv hx, flat_all ra hf, by
      show Q (.bl (inV v vs)) H
      rw [inV_eq rv hx ra hf]
      exact k _ F H _ (.refl E) (.bl _) q⟩⟩
theorem cmp_notIn {x y : PyData} {ys : List PyData} (hy : y = .list ys ∨ y = .tuple ys) (hx : flatD x = true) (hf : ys.all flatD = true) (q : P (.bool (!ys.any fun z => PyData.eqv z x))) : CmpOk X Γ .NotIn x y P := ⟨_, op_notIn_seq, fun F H σ E v u rv ru Q k => by
  rcases hy with rfl | rfl
  · obtain ⟨a, vs, rfl, ha, ra⟩ := rp_lst ru
    exact ⟨a, vs, rfl, .inl (.of (E.ex _ _ ha)), flat_v rv hx, flat_all ra hf, by
      show Q (.bl (!inV v vs)) H
      rw [inV_eq rv hx ra hf]
      exact k _ F H _ (.refl E) (.bl _) q⟩
  · obtain ⟨a, vs, rfl, ha, ra⟩ := rp_tup ru
    exact ⟨a, vs, rfl, .inr (ha.mono E.ex).sq, flat_v rv hx, flat_all ra hf, by
      show Q (.bl (!inV v vs)) H
      rw [inV_eq rv hx ra hf]
      exact k _ F H _ (.refl E) (.bl _) q⟩⟩

/-! ### and, or, not, if -/
theorem nd_and1 {op : BoolOp} (h : Nd X a Γ P) : Nd X (.BoolOp op [a] pos) Γ P := fun F H σ E Q k => we_of (pe_one pe_we) (h F H σ E Q k)
theorem nd_and (h : Nd X a Γ fun x => ∃ c, x = .bool c ∧ if c = true then Nd X (.BoolOp .And (b :: rest) pos) Γ P else P (.bool false)) : Nd X (.BoolOp .And (a :: b :: rest) pos) Γ P := fun F H σ E Q k =>
  we_of (pe_and pe_we pe_we) (h F H σ E _ fun v F1 H1 x g r ⟨c, e, p⟩ => by
    subst e
    refine ⟨c, rp_bl r, ?_⟩
    cases c with
    | false => exact iteF (k _ F1 H1 _ g (.bl false) p)
    | true => exact iteT ((show Nd X (.BoolOp .And (b :: rest) pos) Γ P from p) F1 H1 σ (E.grow g) Q fun w F2 H2 d g2 r2 p2 => k w F2 H2 d (g.trans g2) r2 p2))
theorem nd_or (h : Nd X a Γ fun x => ∃ c, x = .bool c ∧ if c = true then P (.bool true) else Nd X (.BoolOp .Or (b :: rest) pos) Γ P) : Nd X (.BoolOp .Or (a :: b :: rest) pos) Γ P := fun F H σ E Q k =>
  we_of (pe_or pe_we pe_we) (h F H σ E _ fun v F1 H1 x g r ⟨c, e, p⟩ => by
    subst e
    refine ⟨c, rp_bl r, ?_⟩
    cases c with
    | true => exact iteT (k _ F1 H1 _ g (.bl true) p)
    | false => exact iteF ((show Nd X (.BoolOp .Or (b :: rest) pos) Γ P from p) F1 H1 σ (E.grow g) Q fun w F2 H2 d g2 r2 p2 => k w F2 H2 d (g.trans g2) r2 p2))
theorem nd_not (h : Nd X a Γ fun x => ∃ c, x = .bool c ∧ P (.bool (!c))) : Nd X (.UnaryOp .Not a pos) Γ P := fun F H σ E Q k =>
  we_of (pe_not pe_we) (h F H σ E _ fun v F1 H1 x g r ⟨c, e, p⟩ => by
    subst e
    exact ⟨c, rp_bl r, k _ F1 H1 _ g (.bl _) p⟩)
theorem nd_if (h : Nt X c Γ fun t => if t = true then Nd X a Γ P else Nd X b Γ P) : Nd X (.IfExp c a b pos) Γ P := fun F H σ E Q k =>
  we_of (pe_ifExp pt_wt pe_we pe_we) (h F H σ E _ fun t F1 H1 g p => by
    cases t with
    | true => exact iteT ((show Nd X a Γ P from p) F1 H1 σ (E.grow g) Q fun w F2 H2 d g2 r2 p2 => k w F2 H2 d (g.trans g2) r2 p2)
    | false => exact iteF ((show Nd X b Γ P from p) F1 H1 σ (E.grow g) Q fun w F2 H2 d g2 r2 p2 => k w F2 H2 d (g.trans g2) r2 p2))
variable {R R' : Bool → Prop}
/-- an expression whose value is a truth, as a test -/
theorem nt_val (h : Nd X e Γ fun d => ∃ b, d = .bool b ∧ R b) (he : ∀ whole, isTrue e X.env whole = (do let v ← whole; standAt e.pos; holding [v] (truthy v)) := by intro _; rfl) : Nt X e Γ R := fun F H σ E Q k =>
  wt_of (pt_val pe_we he) (h F H σ E _ fun v F1 H1 x g r ⟨c, e, p⟩ => by
    subst e
    exact ⟨c, rp_bl r, k c F1 H1 g p⟩)
theorem nt_not (h : Nt X a Γ fun c => R (!c)) : Nt X (.UnaryOp .Not a pos) Γ R := fun F H σ E Q k => wt_of (pt_not pt_wt) (h F H σ E _ fun t F1 H1 g p => k _ F1 H1 g p)
theorem nt_w (h : Nw X e Γ R) : Nt X e Γ R := fun F H σ E Q k => wt_of (PW.pt pw_ww) (h F H σ E Q k)
theorem nw_and1 (h : Nt X a Γ R) : Nw X (.BoolOp .And [a] pos) Γ R := fun F H σ E Q k => ww_of (pw_and1 pt_wt) (h F H σ E Q k)
theorem nw_or1 (h : Nt X a Γ R) : Nw X (.BoolOp .Or [a] pos) Γ R := fun F H σ E Q k => ww_of (pw_or1 pt_wt) (h F H σ E Q k)
theorem nw_and (h : Nt X a Γ fun c => if c = true then Nw X (.BoolOp .And (b :: rest) pos) Γ R else R false) : Nw X (.BoolOp .And (a :: b :: rest) pos) Γ R := fun F H σ E Q k =>
  ww_of (pw_and pt_wt pw_ww) (h F H σ E _ fun t F1 H1 g p => by
    cases t with
    | true => exact iteT ((show Nw X (.BoolOp .And (b :: rest) pos) Γ R from p) F1 H1 σ (E.grow g) Q fun c F2 H2 g2 p2 => k c F2 H2 (g.trans g2) p2)
    | false => exact iteF (k false F1 H1 g p))
theorem nw_or (h : Nt X a Γ fun c => if c = true then R true else Nw X (.BoolOp .Or (b :: rest) pos) Γ R) : Nw X (.BoolOp .Or (a :: b :: rest) pos) Γ R := fun F H σ E Q k =>
  ww_of (pw_or pt_wt pw_ww) (h F H σ E _ fun t F1 H1 g p => by
    cases t with
    | true => exact iteT (k true F1 H1 g p)
    | false => exact iteF ((show Nw X (.BoolOp .Or (b :: rest) pos) Γ R from p) F1 H1 σ (E.grow g) Q fun c F2 H2 g2 p2 => k c F2 H2 (g.trans g2) p2))
theorem nt_and (h : Nt X a Γ fun c => if c = true then Nw X (.BoolOp .And (b :: rest) pos) Γ R else R false) : Nt X (.BoolOp .And (a :: b :: rest) pos) Γ R := nt_w (nw_and h)
theorem nt_or (h : Nt X a Γ fun c => if c = true then R true else Nw X (.BoolOp .Or (b :: rest) pos) Γ R) : Nt X (.BoolOp .Or (a :: b :: rest) pos) Γ R := nt_w (nw_or h)

/-! ### argument lists, displays -/
variable {A : List PyData → Prop}
theorem na_nil (q : A []) : Na X [] Γ A := fun F H σ E Q k => wa_of pa_nil (k [] F H [] (.refl E) .nil q)
theorem na_cons (h : Nd X e Γ fun d => Na X es Γ fun ds => A (d :: ds)) (hs : starEach (e :: es) X.env = (false, eval e X.env) :: starEach es X.env := by rfl) : Na X (e :: es) Γ A := fun F H σ E Q k =>
  wa_of (pa_cons pe_we pa_wa hs) (h F H σ E _ fun v F1 H1 d g1 r1 p1 => p1 F1 H1 σ (E.grow g1) _ fun vs F2 H2 ds g2 r2 p2 => k (v :: vs) F2 H2 (d :: ds) (g1.trans g2) (.cons (r1.mono g2.sF d v) r2) p2)
theorem na_star (h : Nd X e Γ fun d => ∃ xs, (d = .list xs ∨ d = .tuple xs) ∧ Na X es Γ fun ds => A (xs ++ ds)) (hs : starEach (.Starred e p :: es) X.env = (true, eval e X.env) :: starEach es X.env := by rfl) : Na X (.Starred e p :: es) Γ A := fun F H σ E Q k =>
  wa_of (StX.pa_star pe_we pa_wa hs) (h F H σ E _ fun v F1 H1 d g1 r1 ⟨xs, hx, p1⟩ => by
    have E1 := E.grow g1
    rcases hx with rfl | rfl
    · obtain ⟨a, ws, rfl, ha, ra⟩ := rp_lst r1
      exact ⟨a, ws, rfl, .inr (.of (E1.ex _ _ ha)), p1 F1 H1 σ E1 _ fun vs F2 H2 ds g2 r2 p2 => k (ws ++ vs) F2 H2 (xs ++ ds) (g1.trans g2) ((ra.mono g2.sF xs ws).append r2) p2⟩
    · obtain ⟨a, ws, rfl, ha, ra⟩ := rp_tup r1
      exact ⟨a, ws, rfl, .inl (ha.mono E1.ex).sq, p1 F1 H1 σ E1 _ fun vs F2 H2 ds g2 r2 p2 => k (ws ++ vs) F2 H2 (xs ++ ds) (g1.trans g2) ((ra.mono g2.sF xs ws).append r2) p2⟩)
theorem small {n : Nat} (h : n ≤ 100000) : n ≤ sizeLine := Nat.le_trans h (by decide)
theorem small' {n : Nat} (h : n ≤ 100000) : n < sizeLine := Nat.lt_of_le_of_lt h (by decide)
theorem nd_tup {j} (h : Na X es Γ fun ds => ds.length ≤ 100000 ∧ P (.tuple ds)) : Nd X (.Tuple es j pos) Γ P := fun F H σ E Q k =>
  we_of (px_tup pa_wa) (h F H σ E _ fun vs F1 H1 ds g r ⟨l, q⟩ => ⟨by rw [r.length]; exact small l, fun p o xo hp => by
    have g2 := Gr.new (E.grow g) (o := .frz o (.tup vs)) hp
    exact k _ _ _ _ (g.trans g2) (.tup (.new xo) (r.mono g2.sF ds vs)) q⟩)
theorem nl_lst (h : Na X es Γ fun ds => ds.length ≤ 100000 ∧ A ds) : Nl X (.List es pos) Γ A := fun F H σ E Q k =>
  we_of (pe_lst pa_wa) (h F H σ E _ fun vs F1 H1 ds g r ⟨l, q⟩ => ⟨by rw [r.length]; exact small l, fun p hp => by
    have E1 := E.grow g
    have g2 := Gr.mine E1 (o := .lst vs) hp
    refine k p vs ds F1 _ (g.trans g2) ?_ (E1.ex.free hp) upd_same r q
    cases e : H p with
    | none => rfl
    | some o => exact absurd hp (g.kept (by rw [e]; simp))⟩)
theorem nd_lst (h : Na X es Γ fun ds => ds.length ≤ 100000 ∧ P (.list ds)) : Nd X (.List es pos) Γ P := nl_nd (nl_lst h)
end
end Wm

set_option Elab.async false
set_option linter.all false
set_option maxRecDepth 100000
set_option maxHeartbeats 2000000
/-! Wm.C: subscripts, slices, built-ins, calls of defs, borrowing. -/
namespace Wm
open PySem PySem.Spec L2

/-! ### subscripts, slices -/
def seqD : PyData → Option (List PyData)
  | .list xs => some xs
  | .tuple xs => some xs
  | _ => none
theorem atI_rp {F : Hp} {vs : List V} {xs : List PyData} {i : Int} {d : PyData} (r : RpAll F vs xs) (h : atI xs i = some d) : ∃ v, atI vs i = some v ∧ Rp F v d := by
  unfold atI at h ⊢
  rw [r.length]
  cases e : ixN xs.length i with
  | none => rw [e] at h; cases h
  | some j =>
    rw [e] at h
    obtain ⟨v, hv, rv⟩ := r.get (show xs[j]? = some d from h)
    exact ⟨v, hv, rv⟩
def cutD (xs : List PyData) (lo hi : Option Int) : List PyData := (xs.drop (HT.sIx xs.length 0 lo)).take (HT.sIx xs.length xs.length hi - HT.sIx xs.length 0 lo)
theorem cut_rp {F : Hp} {vs : List V} {xs : List PyData} (r : RpAll F vs xs) (lo hi : Option Int) : RpAll F (cutV vs lo hi) (cutD xs lo hi) := by
  unfold cutV cutD
  rw [r.length]
  exact (r.drop _).take _
theorem cutD_all {xs : List PyData} {lo hi : Option Int} (h : HT.sIx xs.length 0 lo = 0 ∧ HT.sIx xs.length xs.length hi = xs.length) : cutD xs lo hi = xs := by
  unfold cutD
  rw [h.1, h.2, List.drop_zero, Nat.sub_zero, List.take_length]
section
variable {X : Cx} {e a b c : Expr} {es rest : List Expr} {Γ : Ctx} {P P' : PyData → Prop} {A : List PyData → Prop} {pos pos' p p2 : Pos} {lo hi : Option Expr}
theorem nd_sub (h : Nd X a Γ fun x => ∃ xs, seqD x = some xs ∧ Nd X b Γ fun y => ∃ i, y = .int i ∧ ∃ d, atI xs i = some d ∧ P d) (hs : PlainIx b := by intro _ _; rfl) : Nd X (.Subscript a b pos) Γ P := by
  intro F H σ E Q k
  refine we_of (pe_ix (.or ix_list ix_tup) pe_we pe_we hs) ?_
  refine h F H σ E _ fun v F1 H1 x g1 r1 ⟨xs, hx, p1⟩ => ?_
  refine p1 F1 H1 σ (E.grow g1) _ fun u F2 H2 y g2 r2 ⟨i, ey, d, hd, p2⟩ => ?_
  subst ey
  have g := g1.trans g2
  have r1 := r1.mono g2.sF x v
  cases x with
  | list ys =>
    have hx : ys = xs := Option.some.inj hx
    subst hx
    obtain ⟨q, ws, rfl, hq, rq⟩ := rp_lst r1
    obtain ⟨w, hw, rw'⟩ := atI_rp rq hd
    exact .inl ⟨q, ws, i, w, rfl, rp_int r2, .of (g.ex _ _ hq), hw, k w F2 H2 d g rw' p2⟩
  | tuple ys =>
    have hx : ys = xs := Option.some.inj hx
    subst hx
    obtain ⟨q, ws, rfl, hq, rq⟩ := rp_tup r1
    obtain ⟨w, hw, rw'⟩ := atI_rp rq hd
    exact .inr ⟨q, ws, i, w, rfl, rp_int r2, (hq.mono (Gr.ex g)).sq, hw, k w F2 H2 d g rw' p2⟩
  | none => cases hx
  | bool _ => cases hx
  | int _ => cases hx
  | str _ => cases hx
  | dict _ => cases hx
theorem np_none {R : Option Int → Prop} (q : R none) : Np X none Γ R := fun F H σ E Q k => wp_of po_none (k none F H (.refl E) q)
theorem np_some {R : Option Int → Prop} (h : Nd X e Γ fun d => ∃ i, d = .int i ∧ R (some i)) : Np X (some e) Γ R := fun F H σ E Q k => wp_of (po_some pe_we) (h F H σ E _ fun v F1 H1 d g r ⟨i, e1, q⟩ => by
  subst e1
  exact ⟨i, rp_int r, k _ F1 H1 g q⟩)
theorem nd_sliceT (h : Nd X a Γ fun x => ∃ xs, x = .tuple xs ∧ Np X lo Γ fun l => Np X hi Γ fun u => P (.tuple (cutD xs l u))) : Nd X (.Subscript a (.Slice lo hi none p2) pos) Γ P := by
  intro F H σ E Q k
  refine we_of (pe_slice sl_tupX pe_we po_wp po_wp) ?_
  refine h F H σ E _ fun v F1 H1 x g1 r1 ⟨xs, hx, p1⟩ => ?_
  subst hx
  refine p1 F1 H1 σ (E.grow g1) _ fun l F2 H2 g2 p2 => ?_
  refine p2 F2 H2 σ ((E.grow g1).grow g2) _ fun u F3 H3 g3 p3 => ?_
  have E3 := ((E.grow g1).grow g2).grow g3
  have g := (g1.trans g2).trans g3
  have r1 := r1.mono (g2.sF.trans g3.sF) _ v
  obtain ⟨q, ws, rfl, hq, rq⟩ := rp_tup r1
  refine ⟨q, ws, rfl, (hq.mono g.ex).sq, fun hw => ?_, fun _ z o xo hz => ?_⟩
  · rw [rq.length] at hw
    have p3 : P (.tuple (cutD xs l u)) := p3
    rw [cutD_all hw] at p3
    exact k _ F3 H3 _ g r1 p3
  · have g4 := Gr.new E3 (o := .frz o (.tup (cutV ws l u))) hz
    exact k _ _ _ _ (g.trans g4) (.tup (.new xo) ((cut_rp rq l u).mono g4.sF _ _)) p3
theorem nl_slice (h : Nd X a Γ fun x => ∃ xs, x = .list xs ∧ Np X lo Γ fun l => Np X hi Γ fun u => A (cutD xs l u)) : Nl X (.Subscript a (.Slice lo hi none p2) pos) Γ A := by
  intro F H σ E Q k
  refine we_of (pe_slice sl_list pe_we po_wp po_wp) ?_
  refine h F H σ E _ fun v F1 H1 x g1 r1 ⟨xs, hx, p1⟩ => ?_
  subst hx
  refine p1 F1 H1 σ (E.grow g1) _ fun l F2 H2 g2 p2 => ?_
  refine p2 F2 H2 σ ((E.grow g1).grow g2) _ fun u F3 H3 g3 p3 => ?_
  have E3 := ((E.grow g1).grow g2).grow g3
  have g := (g1.trans g2).trans g3
  have r1 := r1.mono (g2.sF.trans g3.sF) _ v
  obtain ⟨q, ws, rfl, hq, rq⟩ := rp_lst r1
  refine ⟨q, ws, rfl, .of (g.ex _ _ hq), fun z hz => ?_⟩
  have g4 := Gr.mine E3 (o := .lst (cutV ws l u)) hz
  refine k z _ _ F3 _ (g.trans g4) ?_ (E3.ex.free hz) upd_same (cut_rp rq l u) p3
  cases e : H z with
  | none => rfl
  | some o => exact absurd hz (g.kept (by rw [e]; simp))
theorem nd_slice (h : Nd X a Γ fun x => ∃ xs, x = .list xs ∧ Np X lo Γ fun l => Np X hi Γ fun u => P (.list (cutD xs l u))) : Nd X (.Subscript a (.Slice lo hi none p2) pos) Γ P := nl_nd (nl_slice h)

/-! ### built-ins -/
def rAnyC (X : Cx) (u : Value) : List V → Hp → VK → Prop := fun vs H Q => ∃ r, CallR X u r ∧ r vs H Q
theorem call_any {u : Value} : CallR X u (rAnyC X u) := fun pins s σ H xs us Q I r ⟨_, hc, h⟩ => hc pins s σ H xs us Q I r h
def CallOk (X : Cx) (Γ : Ctx) (u : Value) (ds : List PyData) (P : PyData → Prop) : Prop := ∃ r, CallR X u r ∧ ∀ F H σ, En F H σ Γ → ∀ vs, RpAll F vs ds → ∀ Q : VK, (∀ w F' H' d, Gr Γ F H F' H' → Rp F' w d → P d → Q w H') → r vs H Q
/-- the call gives a new list -/
def CallOkL (X : Cx) (Γ : Ctx) (u : Value) (ds : List PyData) (A : List PyData → Prop) : Prop := ∃ r, CallR X u r ∧ ∀ F H σ, En F H σ Γ → ∀ vs, RpAll F vs ds → ∀ Q : VK, (∀ p ws xs F' H', Gr Γ F H F' H' → H p = none → F' p = none → H' p = some (.lst ws) → RpAll F' ws xs → A xs → Q (.ref p) H') → r vs H Q
variable {x : Str} {id T : String}
theorem nd_callB (hm : X.mg x = none) (hv : bootBuiltins x = some (.builtin id)) (ha : Na X (e :: es) Γ fun ds => CallOk X Γ (.builtin id) ds P) (hg : Gl X x := by rfl) (hn : x ≠ "__name__" := by decide) (hdb : (x == ("__debug__" : Str)) = false := by decide)
    (he : starEach (e :: es) X.env = (false, eval e X.env) :: starEach es X.env := by rfl) (hpl : (backTo pos (starEach es X.env)).any (·.1) = false := by rfl) : Nd X (.Call (.Name x p) (e :: es) [] pos) Γ P := fun F H σ E Q k =>
  we_of (pe_callB call_any hg hm hv pa_wa hn hdb he hpl) (ha F H σ E _ fun vs F1 H1 ds g r ⟨rr, hc, q⟩ => ⟨rr, hc, q F1 H1 σ (E.grow g) vs r Q fun w F2 H2 d g2 r2 p2 => k w F2 H2 d (g.trans g2) r2 p2⟩)
theorem nd_callTy (hm : X.mg x = none) (hv : bootBuiltins x = some (.type T)) (ha : Na X (e :: es) Γ fun ds => CallOk X Γ (.type T) ds P) (hg : Gl X x := by rfl) (hn : x ≠ "__name__" := by decide) (hdb : (x == ("__debug__" : Str)) = false := by decide)
    (he : starEach (e :: es) X.env = (false, eval e X.env) :: starEach es X.env := by rfl) (hpl : (backTo pos (starEach es X.env)).any (·.1) = false := by rfl) : Nd X (.Call (.Name x p) (e :: es) [] pos) Γ P := fun F H σ E Q k =>
  we_of (pe_callTy call_any hg hm hv pa_wa hn hdb he hpl) (ha F H σ E _ fun vs F1 H1 ds g r ⟨rr, hc, q⟩ => ⟨rr, hc, q F1 H1 σ (E.grow g) vs r Q fun w F2 H2 d g2 r2 p2 => k w F2 H2 d (g.trans g2) r2 p2⟩)
theorem back_none {Γ : Ctx} {F H F' H' : Hp} (g : Gr Γ F H F' H') {q : Addr} (h : H' q = none) : H q = none := by
  cases e : H q with
  | none => rfl
  | some o => exact absurd h (g.kept (by rw [e]; simp))
theorem nl_callTy (hm : X.mg x = none) (hv : bootBuiltins x = some (.type T)) (ha : Na X (e :: es) Γ fun ds => CallOkL X Γ (.type T) ds A) (hg : Gl X x := by rfl) (hn : x ≠ "__name__" := by decide) (hdb : (x == ("__debug__" : Str)) = false := by decide)
    (he : starEach (e :: es) X.env = (false, eval e X.env) :: starEach es X.env := by rfl) (hpl : (backTo pos (starEach es X.env)).any (·.1) = false := by rfl) : Nl X (.Call (.Name x p) (e :: es) [] pos) Γ A := fun F H σ E Q k =>
  we_of (pe_callTy call_any hg hm hv pa_wa hn hdb he hpl) (ha F H σ E _ fun vs F1 H1 ds g r ⟨rr, hc, q⟩ => ⟨rr, hc, q F1 H1 σ (E.grow g) vs r Q fun w ws xs F2 H2 g2 n nF h2 r2 p2 => k w ws xs F2 H2 (g.trans g2) (back_none g n) nF h2 r2 p2⟩)
theorem nl_callB (hm : X.mg x = none) (hv : bootBuiltins x = some (.builtin id)) (ha : Na X (e :: es) Γ fun ds => CallOkL X Γ (.builtin id) ds A) (hg : Gl X x := by rfl) (hn : x ≠ "__name__" := by decide) (hdb : (x == ("__debug__" : Str)) = false := by decide)
    (he : starEach (e :: es) X.env = (false, eval e X.env) :: starEach es X.env := by rfl) (hpl : (backTo pos (starEach es X.env)).any (·.1) = false := by rfl) : Nl X (.Call (.Name x p) (e :: es) [] pos) Γ A := fun F H σ E Q k =>
  we_of (pe_callB call_any hg hm hv pa_wa hn hdb he hpl) (ha F H σ E _ fun vs F1 H1 ds g r ⟨rr, hc, q⟩ => ⟨rr, hc, q F1 H1 σ (E.grow g) vs r Q fun w ws xs F2 H2 g2 n nF h2 r2 p2 => k w ws xs F2 H2 (g.trans g2) (back_none g n) nF h2 r2 p2⟩)
theorem boot_len' : bootBuiltins "len" = some (.builtin "len") := by decide +kernel
theorem boot_all' : bootBuiltins "all" = some (.builtin "all") := by decide +kernel
theorem boot_abs' : bootBuiltins "abs" = some (.builtin "abs") := by decide +kernel
theorem boot_min' : bootBuiltins "min" = some (.builtin "min") := by decide +kernel
theorem boot_max' : bootBuiltins "max" = some (.builtin "max") := by decide +kernel
theorem boot_sum' : bootBuiltins "sum" = some (.builtin "sum") := by decide +kernel
theorem boot_sorted' : bootBuiltins "sorted" = some (.builtin "sorted") := by decide +kernel
theorem boot_repr' : bootBuiltins "repr" = some (.builtin "repr") := by decide +kernel
theorem boot_isinstance' : bootBuiltins "isinstance" = some (.builtin "isinstance") := by decide +kernel
theorem boot_int' : bootBuiltins "int" = some (.type "int") := by decide +kernel
theorem boot_bool' : bootBuiltins "bool" = some (.type "bool") := by decide +kernel
theorem boot_list' : bootBuiltins "list" = some (.type "list") := by decide +kernel
theorem boot_tuple' : bootBuiltins "tuple" = some (.type "tuple") := by decide +kernel
/-- one argument -/
theorem rp1 {F : Hp} {vs : List V} {d : PyData} (r : RpAll F vs [d]) : ∃ v, vs = [v] ∧ Rp F v d := by
  cases r with
  | cons h t => cases t; exact ⟨_, rfl, h⟩
theorem rp2 {F : Hp} {vs : List V} {d e : PyData} (r : RpAll F vs [d, e]) : ∃ v u, vs = [v, u] ∧ Rp F v d ∧ Rp F u e := by
  cases r with
  | cons h t =>
    obtain ⟨u, rfl, h2⟩ := rp1 t
    exact ⟨_, u, rfl, h, h2⟩
theorem ok_len {d : PyData} {xs : List PyData} (hx : seqD d = some xs) (q : P (.int xs.length)) : CallOk X Γ (.builtin "len") [d] P := ⟨_, call_len_seq, fun F H σ E vs r Q k => by
  obtain ⟨v, rfl, rv⟩ := rp1 r
  cases d with
  | list ys =>
    have hx : ys = xs := Option.some.inj hx
    subst hx
    obtain ⟨a, ws, rfl, ha, ra⟩ := rp_lst rv
    refine ⟨a, ws, rfl, .inl (.of (E.ex _ _ ha)), ?_⟩
    rw [ra.length]
    exact k _ F H _ (.refl E) (.int _) q
  | tuple ys =>
    have hx : ys = xs := Option.some.inj hx
    subst hx
    obtain ⟨a, ws, rfl, ha, ra⟩ := rp_tup rv
    refine ⟨a, ws, rfl, .inr (ha.mono E.ex).sq, ?_⟩
    rw [ra.length]
    exact k _ F H _ (.refl E) (.int _) q
  | none => cases hx
  | bool _ => cases hx
  | int _ => cases hx
  | str _ => cases hx
  | dict _ => cases hx⟩
theorem ok_tuple {xs : List PyData} {d : PyData} (hx : seqD d = some xs) (q : P (.tuple xs)) : CallOk X Γ (.type "tuple") [d] P := ⟨_, call_tupX, fun F H σ E vs r Q k => by
  obtain ⟨v, rfl, rv⟩ := rp1 r
  cases d with
  | list ys =>
    have hx : ys = xs := Option.some.inj hx
    subst hx
    obtain ⟨a, ws, rfl, ha, ra⟩ := rp_lst rv
    refine ⟨a, ws, rfl, .inl ⟨.of (E.ex _ _ ha), fun l o xo hl => ?_⟩⟩
    have g := Gr.new E (o := .frz o (.tup ws)) hl
    exact k _ _ _ _ g (.tup (.new xo) (ra.mono g.sF _ _)) q
  | tuple ys =>
    have hx : ys = xs := Option.some.inj hx
    subst hx
    obtain ⟨a, ws, rfl, ha, ra⟩ := rp_tup rv
    exact ⟨a, ws, rfl, .inr ⟨(ha.mono E.ex).sq, k _ F H _ (.refl E) rv q⟩⟩
  | none => cases hx
  | bool _ => cases hx
  | int _ => cases hx
  | str _ => cases hx
  | dict _ => cases hx⟩
theorem ok_list {xs : List PyData} {d : PyData} (hx : seqD d = some xs) (q : A xs) : CallOkL X Γ (.type "list") [d] A := ⟨_, call_list_of, fun F H σ E vs r Q k => by
  obtain ⟨v, rfl, rv⟩ := rp1 r
  cases d with
  | list ys =>
    have hx : ys = xs := Option.some.inj hx
    subst hx
    obtain ⟨a, ws, rfl, ha, ra⟩ := rp_lst rv
    exact ⟨a, ws, rfl, .inl (.of (E.ex _ _ ha)), fun l hl => k l ws ys F _ (Gr.mine E hl) hl (E.ex.free hl) upd_same ra q⟩
  | tuple ys =>
    have hx : ys = xs := Option.some.inj hx
    subst hx
    obtain ⟨a, ws, rfl, ha, ra⟩ := rp_tup rv
    exact ⟨a, ws, rfl, .inr (ha.mono E.ex).sq, fun l hl => k l ws ys F _ (Gr.mine E hl) hl (E.ex.free hl) upd_same ra q⟩
  | none => cases hx
  | bool _ => cases hx
  | int _ => cases hx
  | str _ => cases hx
  | dict _ => cases hx⟩
theorem ok_abs {i : Int} (q : P (.int (if i < 0 then -i else i))) : CallOk X Γ (.builtin "abs") [.int i] P := ⟨_, call_abs, fun F H σ E vs r Q k => by
  obtain ⟨v, rfl, rv⟩ := rp1 r
  exact ⟨i, by rw [rp_int rv], k _ F H _ (.refl E) (.int _) q⟩⟩
theorem ok_int {i : Int} (q : P (.int i)) : CallOk X Γ (.type "int") [.int i] P := ⟨_, call_int1, fun F H σ E vs r Q k => by
  obtain ⟨v, rfl, rv⟩ := rp1 r
  exact .inl ⟨i, by rw [rp_int rv], k _ F H _ (.refl E) (.int _) q⟩⟩
theorem ok_intB {b : Bool} (q : P (.int (if b then 1 else 0))) : CallOk X Γ (.type "int") [.bool b] P := ⟨_, call_int1, fun F H σ E vs r Q k => by
  obtain ⟨v, rfl, rv⟩ := rp1 r
  exact .inr ⟨b, by rw [rp_bl rv], k _ F H _ (.refl E) (.int _) q⟩⟩
theorem ok_min2 {i j : Int} (hc : X.calm = true) (q : P (.int (if j < i then j else i))) : CallOk X Γ (.builtin "min") [.int i, .int j] P := ⟨_, call_min2 hc, fun F H σ E vs r Q k => by
  obtain ⟨v, u, rfl, rv, ru⟩ := rp2 r
  exact ⟨i, j, by rw [rp_int rv, rp_int ru], k _ F H _ (.refl E) (.int _) q⟩⟩
theorem ok_max2 {i j : Int} (hc : X.calm = true) (q : P (.int (if j > i then j else i))) : CallOk X Γ (.builtin "max") [.int i, .int j] P := ⟨_, call_max2 hc, fun F H σ E vs r Q k => by
  obtain ⟨v, u, rfl, rv, ru⟩ := rp2 r
  exact ⟨i, j, by rw [rp_int rv, rp_int ru], k _ F H _ (.refl E) (.int _) q⟩⟩
theorem ok_all {bs : List Bool} (hc : X.calm = true) (q : P (.bool (bs.all fun b => b))) : CallOk X Γ (.builtin "all") [.list (bs.map .bool)] P := ⟨_, cr_all hc, fun F H σ E vs r Q k => by
  obtain ⟨v, rfl, rv⟩ := rp1 r
  obtain ⟨a, ws, rfl, ha, ra⟩ := rp_lst rv
  exact ⟨a, bs, rfl, by rw [← rpAll_bls ra]; exact .of (E.ex _ _ ha), k _ F H _ (.refl E) (.bl _) q⟩⟩
theorem ok_sumL {ns : List Int} (hc : X.calm = true) (q : P (.int ns.sum)) : CallOk X Γ (.builtin "sum") [.list (ns.map .int)] P := ⟨_, cr_sum hc, fun F H σ E vs r Q k => by
  obtain ⟨v, rfl, rv⟩ := rp1 r
  obtain ⟨a, ws, rfl, ha, ra⟩ := rp_lst rv
  exact ⟨a, ns, rfl, by rw [← rpAll_ints ra]; exact .of (E.ex _ _ ha), k _ F H _ (.refl E) (.int _) q⟩⟩
theorem ok_minL {ns : List Int} (hc : X.calm = true) (hne : 0 < ns.length) (q : ∀ m, m ∈ ns → (∀ y ∈ ns, m ≤ y) → P (.int m)) : CallOk X Γ (.builtin "min") [.list (ns.map .int)] P := ⟨_, cr_min hc, fun F H σ E vs r Q k => by
  obtain ⟨v, rfl, rv⟩ := rp1 r
  obtain ⟨a, ws, rfl, ha, ra⟩ := rp_lst rv
  exact ⟨a, ns, rfl, by rw [← rpAll_ints ra]; exact .of (E.ex _ _ ha), hne, fun m h1 h2 => k _ F H _ (.refl E) (.int _) (q m h1 h2)⟩⟩
theorem okL_sortedI {ns : List Int} (q : ∀ ns' : List Int, ns'.Perm ns → ns'.Pairwise (· ≤ ·) → A (ns'.map .int)) : CallOkL X Γ (.builtin "sorted") [.list (ns.map .int)] A := ⟨_, cr_sortedI, fun F H σ E vs r Q k => by
  obtain ⟨v, rfl, rv⟩ := rp1 r
  obtain ⟨a, ws, rfl, ha, ra⟩ := rp_lst rv
  exact ⟨a, ns, rfl, by rw [← rpAll_ints ra]; exact .of (E.ex _ _ ha), fun ns' z h1 h2 hz => k z _ _ F _ (Gr.mine E hz) hz (E.ex.free hz) upd_same (ints_rpAll ns') (q ns' h1 h2)⟩⟩
/-- isinstance(e, T), T a built-in class by its name -/
def tyName : PyData → String
  | .none => "NoneType"
  | .bool _ => "bool"
  | .int _ => "int"
  | .str _ => "str"
  | .list _ => "list"
  | .tuple _ => "tuple"
  | .dict _ => "dict"
theorem ty_rp {K : PySem.W.Frag} {F H : Hp} {v : V} {d : PyData} (e : Same F H) (r : Rp F v d) : TyX K H v (.type (tyName d)) := by
  cases r with
  | non => exact .base .non
  | bl b => exact .base (.bl b)
  | int i => exact .base (.int i)
  | str x => exact .base (.str x)
  | lst h _ => exact .base (.lst (e _ _ h))
  | tup h _ =>
    obtain ⟨o, _, h⟩ := h
    exact .fTuple (e _ _ h)
theorem nd_isi {t : Str} {T : String} {pt : Pos} (hm : X.mg "isinstance" = none) (ht : X.mg t = none) (hv : bootBuiltins t = some (.type T)) (h : Nd X e Γ fun d => ∃ r, kitB (tyName d) T = some r ∧ P (.bool r)) (hg : Gl X "isinstance" := by rfl) (hgt : Gl X t := by rfl)
    (hn : t ≠ "__name__" := by decide) (hdb : (t == ("__debug__" : Str)) = false := by decide) (hs1 : starEach [e, .Name t pt] X.env = (false, eval e X.env) :: starEach [.Name t pt] X.env := by rfl) (hs2 : starEach [.Name t pt] X.env = (false, eval (.Name t pt) X.env) :: starEach [] X.env := by rfl)
    (hpl : (backTo pos (starEach [.Name t pt] X.env)).any (·.1) = false := by rfl) : Nd X (.Call (.Name "isinstance" p) [e, .Name t pt] [] pos) Γ P := fun F H σ E Q k =>
  we_of (pe_callB call_isi hg hm boot_isinstance' (pa_cons pe_we (pa_cons (pe_bltn (v := .ty T) hgt ht hv rfl hn hdb) pa_nil hs2) hs1) (by decide) (by decide) hs1 hpl) (h F H σ E _ fun v F1 H1 d g r ⟨b, kb, q⟩ =>
    ⟨v, .ty T, _, .type T, b, rfl, .ty T, ty_rp g.ex r, kit_ty kb, k _ F1 H1 _ g (.bl b) q⟩)

/-- t.count(x), flat things -/
def canF : ∀ {ds : List PyData}, ds.all flatD = true → PyData.canLayAll0 ds = true
  | [], _ => by simp [PyData.canLayAll0]
  | d :: ds, h => by
    rw [List.all_cons, Bool.and_eq_true] at h
    have ih := canF h.2
    cases d <;> first | (simp [flatD] at h; done) | simp [PyData.canLayAll0, PyData.canLay0, ih]
theorem shF {d : PyData} (h : flatD d = true) : SeqAt.shaped d = true := by
  cases d <;> first | (simp [flatD] at h; done) | rfl
theorem nd_count (hu : X.A.units + 65 < cLine) (h : Nd X a Γ fun x => ∃ ds, x = .tuple ds ∧ ds.all flatD = true ∧ Nd X e Γ fun y => flatD y = true ∧ P (.int (ds.countP fun z => PyData.eqv z y : Nat)))
    (hbase : attributeBase a "count" X.env (eval a X.env) = eval a X.env := by rfl)
    (hfew : ((backTo pos (starEach [e] X.env)).all (fun x => !x.1) && (backToKw pos (keywordEach [] X.env)).all (fun x => x.1.isSome)
      && decide ([e].length + ([] : List Keyword).length + (if ([] : List Keyword).isEmpty then 0 else 1) < 30)) = true := by rfl)
    (hline : (p.endLine == pos.line) = true := by rfl) (hs : starEach [e] X.env = (false, eval e X.env) :: starEach [] X.env := by rfl) :
    Nd X (.Call (.Attribute a "count" p) [e] [] pos) Γ P := by
  intro F H σ E Q k pins s I
  refine wpAny_Call_method_late hbase hfew hline rfl (thn (h F H σ E (fun v H1 => ∃ F1 d, Gr Γ F H F1 H1 ∧ Rp F1 v d ∧ ∃ ds, d = .tuple ds ∧ ds.all flatD = true ∧ Nd X e Γ fun y => flatD y = true ∧ P (.int (ds.countP fun z => PyData.eqv z y : Nat))) (fun v F1 H1 d g r q => ⟨F1, d, g, r, q⟩) pins s I) fun v s1 ⟨x, H1, I1, rx, F1, d, g, r, ds, ed, hf, he⟩ => ?_)
  subst ed
  obtain ⟨q, xs, rfl, hq, rq⟩ := rp_tup r
  obtain ⟨o, xo, hqe⟩ := hq
  cases rx
  obtain ⟨ho, _⟩ := (show ObjOk X.prog X.w H1 s1.heap q (.frz o (.tup xs)) from I1.hok q _ (g.ex _ _ hqe))
  refine ⟨"tuple", _, PySem.F.plainAttrs_tuple, PySem.F.slot_tuple_count, PySem.F.type_tuple_count, ⟨o, ho, xo.1⟩, fun z ez => by cases ez; exact ⟨o, ho, xo.2⟩, ?_⟩
  have hA := he F1 H1 σ (E.grow g) (fun u H2 => ∃ F2 y, Gr Γ F1 H1 F2 H2 ∧ Rp F2 u y ∧ flatD y = true ∧ P (.int (ds.countP fun z => PyData.eqv z y : Nat))) (fun u F2 H2 y g2 r2 q2 => ⟨F2, y, g2, r2, q2⟩)
  have hB := (pa_cons (pe_we (X := X) (e := e)) pa_nil hs).run pos pins s1 σ H1 (fun vs H2 => ∃ u, vs = [u] ∧ ∃ F2 y, Gr Γ F1 H1 F2 H2 ∧ Rp F2 u y ∧ flatD y = true ∧ P (.int (ds.countP fun z => PyData.eqv z y : Nat))) I1 (we_mono hA fun u H2 z => ⟨u, rfl, z⟩)
  rw [hs] at hB ⊢
  refine Calls.callWith_builtin (by rfl) (Calls.evalArgs_plain ?_)
  refine thn hB fun us s2 ⟨vs, H2, I2, rv, u, ev, F2, y, g2, r2, fy, hP⟩ => ?_
  subst ev
  obtain ⟨w, rfl, rw'⟩ := rv.one
  have gg := g.trans g2
  have ht : TupAt H2 q xs := TupAt.mono g2.ex (TupAt.mono g2.sF ⟨o, xo, hqe⟩)
  obtain ⟨its, rvs, hl, hz⟩ := I2.tuple (ht.sq)
  obtain ⟨⟨cls, dd, data, sls⟩, ho2, hc, n, hdt⟩ := id hl
  simp only at hc hdt
  subst hc hdt
  obtain ⟨as, h4⟩ := Dp.readsAll I2 ds _ its (RpAll.dp ds xs ((rq.mono g2.sF ds xs).mono g2.ex ds xs)) rvs
  obtain ⟨bs, r1⟩ := Dp.reads I2 y u w ((r2.mono g2.ex y u).dp y u) rw'
  have hxs : PyData.canLayAll0 ds = true := canF hf
  have hmap : its.map (SeqAt.readOf s2.heap) = ds := SeqAt.readsAll_map ds its as hxs h4
  refine call_meets PySem.F.slot_tuple_count ⟨_, ho2, rfl⟩ PySem.F.entry_tuple_count (PySem.F.args_tuple_count_2 _ _)
    (SeqAt.tuple_countAt q its.toArray n dd sls w (fun u => PyData.eqv (SeqAt.readOf s2.heap u) y)) ⟨ho2, SeqAt.items_eqAt (vs := its.toArray) (show ReadsAll s2.heap its.toArray.toList ds as from h4) r1 hxs (SeqAt.canLay_of_shaped (shF fy)) (PyProof.Rows.room_in_shaped (shF fy) hu), ?_⟩
  have ec : its.toArray.toList.countP (fun u => PyData.eqv (SeqAt.readOf s2.heap u) y) = ds.countP fun z => PyData.eqv z y := by
    rw [← hmap, List.countP_map]
    rfl
  refine ⟨.int (ds.countP fun z => PyData.eqv z y : Nat), H2, I2.tok _, ⟨s2.toks, ?_⟩, k _ F2 H2 _ gg (.int _) hP⟩
  rw [ec]

/-! ### calls of defs -/
/-- a def's promise over data: S args P: called so it gives some d with P d -/
abbrev Spc := List PyData → (PyData → Prop) → Prop
def pSp (S : Spc) : Sp := fun vs H Q _ => ∃ F ds P, Same F H ∧ RpAll F vs ds ∧ S ds P ∧ ∀ v F' H' d, Gr [] F H F' H' → Rp F' v d → P d → Q v H'
/-- .. whose first argument is the bag -/
def bSp (S : Spc) : Sp := fun vs H Q _ => ∃ F b c ws ds P, vs = .ref b :: ws ∧ Same F H ∧ F b = none ∧ CellsAt F c ∧ BagAt H b c ∧ RpAll F ws ds ∧ S ds P ∧ ∀ v F' H' d, Gr [.bag b c] F H F' H' → Rp F' v d → P d → Q v H'
/-- a def as its callers need it -/
def Fk (P : Program) (w : World) (K : PySem.W.Frag) (mg : Str → Option Value) (base : Heap) (k : Nat) (x : Str) (sp : Sp) : Prop :=
  ∃ f fd ps, FnOk P w K mg base CX0 k f fd ps sp ∧ mg x = some (.ref f) ∧ PySem.W.keepIn K (.ref f) = true ∧ Binds K fd ps []
variable {S : Spc} {j k : Nat}
theorem Gr.wide' {Γ : Ctx} {F H F' H' : Hp} {σ : L2.St} (E : En F H σ Γ) (g : Gr [] F H F' H') : Gr Γ F H F' H' := Gr.wide E g
theorem nd_call (G : Fk X.prog X.w X.K X.mg X.base j x (pSp S)) (hr : Room k X.A) (ha : Na X (e :: es) Γ fun ds => S ds P) (hk : j ≤ k := by decide) (hg : Gl X x := by rfl) (hdb : (x == ("__debug__" : Str)) = false := by decide)
    (he : starEach (e :: es) X.env = (false, eval e X.env) :: starEach es X.env := by rfl) (hpl : (backTo pos (starEach es X.env)).any (·.1) = false := by rfl) : Nd X (.Call (.Name x p) (e :: es) [] pos) Γ P := by
  obtain ⟨f, fd, ps, F0, hm, kp, bd⟩ := G
  intro F H σ E Q q
  refine we_of (pe_call F0 (hr.mono hk) hg hm kp bd .nil pass0 pa_wa hdb he hpl) ?_
  refine ha F H σ E _ fun vs F1 H1 ds g r s => ?_
  refine ⟨F1, ds, P, g.ex, by rw [List.append_nil]; exact r, s, fun v F2 H2 d g2 r2 p2 => ?_⟩
  exact q v F2 H2 d (g.trans (Gr.wide (E.grow g) g2)) r2 p2
theorem nd_callBag {i : Nat} {b c : Addr} {y : Str} {py : Pos} (G : Fk X.prog X.w X.K X.mg X.base j x (bSp S)) (hr : Room k X.A) (hi : Γ[i]? = some (.bag b c)) (ha : Na X es Γ fun ds => S ds P) (hk : j ≤ k := by decide) (hN : X.N[i]? = some y := by rfl)
    (hv : Vis X.env.scope y := by first | exact Or.inl rfl | exact Or.inr (Or.inl rfl) | exact Or.inr (Or.inr rfl)) (hd : (y == ("__debug__" : Str)) = false := by decide) (hcd : (y == ("__classdict__" : Str)) = false := by decide)
    (hg : Gl X x := by rfl) (hdb : (x == ("__debug__" : Str)) = false := by decide) (he : starEach (.Name y py :: es) X.env = (false, eval (.Name y py) X.env) :: starEach es X.env := by rfl) (hpl : (backTo pos (starEach es X.env)).any (·.1) = false := by rfl) : Nd X (.Call (.Name x p) (.Name y py :: es) [] pos) Γ P := by
  obtain ⟨f, fd, ps, F0, hm, kp, bd⟩ := G
  intro F H σ E Q q
  refine we_of (pe_call F0 (hr.mono hk) hg hm kp bd .nil pass0 (pa_cons (pe_var hN hv hd hcd) pa_wa he) hdb he hpl) ?_
  obtain ⟨ov, h1, h2⟩ := E.at hi
  obtain ⟨rfl, nF, hc, bg⟩ := h2
  refine ⟨.ref b, h1, ?_⟩
  refine ha F H σ E _ fun vs F1 H1 ds g r s => ?_
  have E1 := E.grow g
  have hb : Sd.bag b c ∈ Γ := List.mem_of_getElem? hi
  refine ⟨F1, b, c, vs, ds, P, by rw [List.append_nil], g.ex, (E1.bag hb).1, hc.mono g.sF, (E1.bag hb).2, r, s, fun v F2 H2 d g2 r2 p2 => ?_⟩
  exact q v F2 H2 d (g.trans (Gr.wideB E1 hb g2)) r2 p2

/-! ### borrowing: a list of our own is read as data -/
theorem En.lend {F H : Hp} {σ : L2.St} {i : Nat} {q : Addr} {xs : List PyData} (E : En F H σ Γ) (hi : Γ[i]? = some (.own q xs)) : ∃ vs, H q = some (.lst vs) ∧ F q = none ∧ En (upd F q (.lst vs)) H σ (Γ.set i (.val (.list xs))) := by
  obtain ⟨ov, h1, h2⟩ := E.at hi
  obtain ⟨rfl, nF, vs, hq, r⟩ := h2
  have hs : Same F (upd F q (.lst vs)) := fun a o e => by
    rw [upd_ne (ne_of_none e nF)]
    exact e
  have hil : i < Γ.length := (List.getElem?_eq_some_iff.mp hi).1
  refine ⟨vs, hq, nF, by rw [List.length_set]; exact E.len, fun a o e => ?_, fun j s ov e1 e2 => ?_, fun j l s t a e1 e2 m1 m2 => ?_⟩
  · by_cases ha : a = q
    · subst ha
      rw [upd_same] at e
      cases e
      exact hq
    · rw [upd_ne ha] at e
      exact E.ex a o e
  · by_cases hj : i = j
    · subst hj
      rw [List.getElem?_set_self hil] at e1
      cases e1
      rw [h1] at e2
      cases e2
      exact ⟨_, rfl, .lst upd_same (r.mono hs _ _)⟩
    · rw [List.getElem?_set_ne hj] at e1
      have sep : ∀ a ∈ s.addrs, a ≠ q := fun a ha z => hj (E.sep i j _ _ q hi e1 (by simp [Sd.addrs]) (by rw [← z]; exact ha))
      refine (E.sl j s ov e1 e2).grow hs (fun a o _ e _ => e) (fun a ha => ?_) (fun b c e => ?_)
      · rw [upd_ne (sep a ha)]
        exact (E.addr_no e1 ha).1
      · subst e
        exact (E.bag (List.mem_of_getElem? e1)).2
  · by_cases hj : i = j
    · subst hj
      rw [List.getElem?_set_self hil] at e1
      cases e1
      cases m1
    · by_cases hl : i = l
      · subst hl
        rw [List.getElem?_set_self hil] at e2
        cases e2
        cases m2
      · rw [List.getElem?_set_ne hj] at e1
        rw [List.getElem?_set_ne hl] at e2
        exact E.sep j l s t a e1 e2 m1 m2
theorem bag_set {i : Nat} {d : PyData} {q : Addr} {xs : List PyData} (hi : Γ[i]? = some (.own q xs)) {a c : Addr} : Sd.bag a c ∈ Γ.set i (.val d) ↔ Sd.bag a c ∈ Γ := by
  have hil : i < Γ.length := (List.getElem?_eq_some_iff.mp hi).1
  constructor
  · intro h
    obtain ⟨j, hj⟩ := ctx_mem h
    by_cases e : i = j
    · subst e
      rw [List.getElem?_set_self hil] at hj
      cases hj
    · rw [List.getElem?_set_ne e] at hj
      exact List.mem_of_getElem? hj
  · intro h
    obtain ⟨j, hj⟩ := ctx_mem h
    have e : i ≠ j := fun z => by
      subst z
      rw [hi] at hj
      cases hj
    exact List.mem_of_getElem? (i := j) (by rw [List.getElem?_set_ne e]; exact hj)
theorem lend_gr {F H F' H' : Hp} {i : Nat} {q : Addr} {xs : List PyData} {vs : List V} (hi : Γ[i]? = some (.own q xs)) (nF : F q = none) (g : Gr (Γ.set i (.val (.list xs))) (upd F q (.lst vs)) H F' H') : Gr Γ F H (hide F' q) H' ∧ F' q = some (.lst vs) := by
  have hq : F' q = some (.lst vs) := g.sF q _ upd_same
  refine ⟨⟨fun a o e => ?_, fun a o e => ?_, fun a o e n => g.fr a o e fun c hc => n c ((bag_set hi).mp hc), fun a e n => ?_, fun p c m => g.bg p c ((bag_set hi).mpr m)⟩, hq⟩
  · have ha : a ≠ q := ne_of_none e nF
    rw [hide_ne ha]
    exact g.sF a o (by rw [upd_ne ha]; exact e)
  · by_cases ha : a = q
    · subst ha
      rw [hide_self] at e
      cases e
    · rw [hide_ne ha] at e
      exact g.ex a o e
  · by_cases ha : a = q
    · subst ha
      exact hide_self _ _
    · rw [hide_ne ha]
      exact g.nw a (by rw [upd_ne ha]; exact e) n
theorem nd_lend {i : Nat} {q : Addr} {xs : List PyData} (hi : Γ[i]? = some (.own q xs)) (h : Nd X e (Γ.set i (.val (.list xs))) fun d => lless d = true ∧ P d) : Nd X e Γ P := by
  intro F H σ E Q k
  obtain ⟨vs, hq, nF, E1⟩ := E.lend hi
  refine h _ H σ E1 Q fun v F' H' d g r ⟨l, pd⟩ => ?_
  obtain ⟨g2, hq2⟩ := lend_gr hi nF g
  exact k v _ H' d g2 (Rp.hide hq2 d v l r) pd
theorem nt_lend {i : Nat} {q : Addr} {xs : List PyData} {R : Bool → Prop} (hi : Γ[i]? = some (.own q xs)) (h : Nt X e (Γ.set i (.val (.list xs))) R) : Nt X e Γ R := by
  intro F H σ E Q k
  obtain ⟨vs, hq, nF, E1⟩ := E.lend hi
  refine h _ H σ E1 Q fun b F' H' g pd => ?_
  obtain ⟨g2, hq2⟩ := lend_gr hi nF g
  exact k b _ H' g2 pd
end
end Wm

set_option Elab.async false
set_option linter.all false
set_option maxRecDepth 100000
set_option maxHeartbeats 2000000
/-! Wm.I: what a for or a comprehension walks. -/
namespace Wm
open PySem PySem.Spec L2

/-! ### enumerate(v), one argument, v told by what iter(v) gives -/
section
variable {prog : Program} {w : World}
set_option maxHeartbeats 4000000 in
theorem enum_new1 {v : Value} : MeetsIn prog w (Builtin.«enumerate.__new__» ⟨[.type "enumerate", v], []⟩) (fun _ R s => ∃ (it : Addr) (h1 : Heap),
    (∀ (A' : Around) (E Q : Value → Shared → Prop), Q (.ref it) { s with heap := h1 } → wpAny (model prog w) A' (pyIter v) Q E s) ∧
    R (.ok (.ret (.ref h1.objs.size))) { s with heap := h1.push { cls := .type "enumerate", data := .fields #[.none, .bool false, .ref it, rawInt 0, .none, .none] } }) :=
  .of_wp fun A R s h => by
    obtain ⟨hp, g, d, tk, os⟩ := s
    obtain ⟨it, h1, hI, fin⟩ := h
    have hsub := sub_enumerate
    have hJ : ∀ {A' : Around} {E Q : Value → Shared → Prop}, Q (.ref it) ⟨h1, g, d, tk, os⟩ → wpAny (model prog w) A' (pyIter v) Q E ⟨hp, g, d, tk, os⟩ := fun {A' E Q} q => hI A' E Q q
    wp_walk using hJ
    refine wpAny_stack_any fun st => wpAny_pure ?_
    split
    · rename_i c _ _ _ _ _
      cases hc : (c == Value.type "enumerate")
      all_goals (wp_walk using hJ; exact ⟨_, rfl, fin⟩)
    · wp_walk using hJ
      exact ⟨_, rfl, fin⟩
theorem call_enum1 {A : Around} {E : Value → Shared → Prop} {s : Shared} {v : Value} {it : Addr} {h1 : Heap} {Q : Value → Shared → Prop} (hI : ∀ (A' : Around) (E Q : Value → Shared → Prop), Q (.ref it) { s with heap := h1 } → wpAny (model prog w) A' (pyIter v) Q E s)
    (q : Q (.ref h1.objs.size) { s with heap := h1.push { cls := .type "enumerate", data := .fields #[.none, .bool false, .ref it, rawInt 0, .none, .none] } }) : wpAny (model prog w) A (call (.type "enumerate") [v]) Q E s :=
  callType_newIn F.called_enumerate (by decide) (F.typeCall_enumerate_1 _) (F.newCall_enumerate_1 _) (fun obj => F.args_object_init_2 obj _) F.entry_enumerate_new enum_new1
    ⟨it, h1, hI, ⟨_, Heap.get?_push_size _ rfl, rfl⟩, q⟩
end

/-- the items xs, the i-th in a new pair with i -/
def Jen (F : Hp) (vs : List V) : It :=
  ⟨fun i H => Same F H ∧ i < vs.length, fun i H v H' => ∃ T x, v = .ref T ∧ H T = none ∧ H' = upd H T (.tup [.int (i : Nat), x]) ∧ vs[i]? = some x, fun i H => Same F H ∧ vs.length ≤ i⟩
theorem turn_enT {P : Program} {w : World} {K : PySem.W.Frag} {elts : List Expr} {kk : Nat} {tpos : Pos} {F : Hp} {vs : List V} (a e it : Addr) {oT : Obj} (ha : F a = some (.frz oT (.tup vs))) :
    Turn P w K (.Tuple elts kk tpos) (Jen F vs) [e, it] e (fun i h => (∃ old, IsEnum h e it ((i : Nat) : Int) old) ∧ h.IsTupleIter it a i ∧ e ≠ it) where
  mem := List.mem_cons_self ..
  obj := fun i h st b hb => by
    obtain ⟨⟨old, he⟩, ⟨o, ho, _, hd⟩, _⟩ := st
    rcases List.mem_cons.mp hb with rfl | hb
    · exact ⟨_, he, fun v q => nomatch q⟩
    · obtain rfl := List.mem_singleton.mp hb
      exact ⟨o, ho, fun v q => by rw [hd] at q; cases q⟩
  keep := fun i h h' st k => by
    obtain ⟨⟨old, he⟩, hi, ne⟩ := st
    exact ⟨⟨old, k e (List.mem_cons_self ..) _ he⟩, hi.at fun o q => k it (by simp) o q, ne⟩
  item := by
    intro X hP hw hK hc i pins s σ H E I hf st hg
    subst hP hw hK
    obtain ⟨⟨old, he⟩, hit, ne⟩ := st
    obtain ⟨hs, hi⟩ := hg
    obtain ⟨its, rv, ht, hz⟩ := I.tuple (.inl (.inr ⟨_, hs a _ ha⟩))
    obtain ⟨u, hu, ru⟩ := rv.get (List.getElem?_eq_getElem hi)
    have hel : e < s.heap.objs.size := Heap.lt_size he
    have hil : it < s.heap.objs.size := by
      obtain ⟨_, q, _⟩ := hit
      exact Heap.lt_size q
    have hal : a ≠ it := fun z => by
      have q := (hf it (by simp)).1
      rw [← z, hs a _ ha] at q
      cases q
    have hea : e ≠ a := fun z => by
      have q := (hf e (by simp)).1
      rw [z, hs a _ ha] at q
      cases q
    have hsz : i < its.toArray.size := by
      have q := rv.length
      rw [List.size_toArray]
      omega
    refine wpAny_pyNext_enum_itemC (Draws.tuple (prog := X.prog) (w := X.w) (A := X.A.in1) (show X.A.in1.handled = none from I.ok.hd hc) it a hal its.toArray) he ⟨hit, ht⟩ hsz ne (by simp [ne, hea]) fun x h' tk hx ho hst hT hz' hk => ?_
    have hxu : x = u := by
      have q : its.toArray[i]? = some x := hx
      rw [List.getElem?_toArray, hu] at q
      exact (Option.some.inj q).symm
    subst hxu
    refine ⟨_, rfl, wpAny_letOwnedTupleGo_enum (s := { s with heap := h', toks := tk + 1 }) ho fun h2 he2 sb => ?_⟩
    have hT2 : h2.get? s.heap.objs.size = some { cls := .type "tuple", data := .seq #[.int (i : Int) tk, x] } := (sb.2 _ (Nat.ne_of_gt hel)).trans hT
    have I1 : Inv X pins σ (upd H s.heap.objs.size (.tup [.int (i : Nat), vs[i]])) { s with heap := h2, toks := tk + 1 } :=
      I.turnedNew (ch := [e, it]) (fun b ob hb q => (sb.2 b fun z => hb (by simp [z])).trans (hk b ob (fun z => hb (by simp [z])) (fun z => hb (by simp [z])) q)) hf (Nat.le_refl _)
        ⟨by show 2 ≤ sizeLine; decide, [.int (i : Int) tk, x], .cons ⟨_, rfl⟩ (.cons ru .nil), ⟨_, hT2, rfl, _, rfl⟩⟩
    refine ⟨.ref s.heap.objs.size, _, I1, rfl, ⟨_, vs[i], rfl, I.hok.fresh (Nat.le_refl _), rfl, List.getElem?_eq_getElem hi⟩, ⟨⟨x, ?_⟩, hst.1.at fun o q => (sb.2 it (Ne.symm ne)).trans q, ne⟩, fun b hb => ?_⟩
    · have e1 : ((i + 1 : Nat) : Int) = (i : Int) + 1 := by omega
      rw [e1]
      exact he2
    · have hlt : b < s.heap.objs.size := by
        rcases List.mem_cons.mp hb with rfl | hb
        · exact hel
        · obtain rfl := List.mem_singleton.mp hb
          exact hil
      rw [upd_ne (Nat.ne_of_lt hlt)]
      exact (hf b hb).1
  done := by
    intro X hP hw hK hc i pins s σ H E I hf st hg
    subst hP hw hK
    obtain ⟨⟨old, he⟩, hit, ne⟩ := st
    obtain ⟨hs, hi⟩ := hg
    obtain ⟨its, rv, ht, hz⟩ := I.tuple (.inl (.inr ⟨_, hs a _ ha⟩))
    have hal : a ≠ it := fun z => by
      have q := (hf it (by simp)).1
      rw [← z, hs a _ ha] at q
      cases q
    have hn : its.toArray.size ≤ i := by
      have q := rv.length
      rw [List.size_toArray]
      omega
    -- the tuple's iterator is at its end: as an iterator of i items
    obtain ⟨f0, f1, f2, f3, f4, f5⟩ := hf it (by simp)
    have D : Draws X.prog X.w X.A.in1 it [it, a] i (fun _ _ => True) (fun j h => h.IsTupleIter it a i ∧ h.IsTuple a its.toArray ∧ j = i) :=
      { live := fun _ _ z => let ⟨o, ho, _⟩ := z.1; ⟨o, ho⟩
        frame := fun _ _ _ z hk => ⟨z.1.at fun o e => hk it (by simp) o e, z.2.1.at fun o e => hk a (by simp) o e, z.2.2⟩
        item := fun j s Q E hj z => absurd z.2.2 (Nat.ne_of_lt hj)
        done := fun s Q E z hE => wpAny_nextOf_tuple_end (I.ok.hd hc) z.1 z.2.1 (by simp; simpa using hn) hE }
    exact wpAny_pyNext_enum_endD D he ⟨hit, ht, rfl⟩ fun h' hx => ⟨rfl, I.turned (t' := s.toks) (fun b o hb q => hx b o hb q) f0 f1 f3 f4 f5⟩
  self := fun A i s Q E st h => let ⟨⟨_, he⟩, _⟩ := st; wpAny_pyIter_enum he h
end Wm

set_option Elab.async false
set_option linter.all false
set_option maxRecDepth 100000
set_option maxHeartbeats 2000000
/-! Wm.J: zip of a list and a tuple. -/
namespace Wm
open PySem PySem.Spec L2

def Jzp (F : Hp) (vs ws : List V) : It :=
  ⟨fun i H => Same F H ∧ i < vs.length ∧ i < ws.length, fun i H v H' => ∃ T x y, v = .ref T ∧ H T = none ∧ H' = upd H T (.tup [x, y]) ∧ vs[i]? = some x ∧ ws[i]? = some y, fun i H => Same F H ∧ i = min vs.length ws.length⟩
theorem turn_zipLT {P : Program} {w : World} {K : PySem.W.Frag} {elts : List Expr} {kk : Nat} {tpos : Pos} {F : Hp} {vs ws : List V} {a b z TI TO i1 i2 : Addr} (S : ZipSep2 z TI TO i1 i2 [i1, a] [i2, b]) (ha : F a = some (.lst vs)) {oT : Obj} (hb : F b = some (.frz oT (.tup ws))) :
    Turn P w K (.Tuple elts kk tpos) (Jzp F vs ws) [z, TI, TO, i1, i2] z
      (fun i h => IsZip h z TI TO .none ∧ IsTupOf2 h TI (.ref i1) (.ref i2) ∧ (∃ a1 a2, IsTupOf2 h TO a1 a2) ∧ h.IsListIter i1 a i ∧ h.IsTupleIter i2 b i) where
  mem := List.mem_cons_self ..
  obj := fun i h st c hc => by
    obtain ⟨hz, hTI, ⟨a1, a2, hTO⟩, ⟨o1, e1, _, d1⟩, ⟨o2, e2, _, d2⟩⟩ := st
    have hc' : c = z ∨ c = TI ∨ c = TO ∨ c = i1 ∨ c = i2 := by simpa using hc
    rcases hc' with rfl | rfl | rfl | rfl | rfl
    · exact ⟨_, hz, fun v q => nomatch q⟩
    · exact ⟨_, hTI, fun v q => nomatch q⟩
    · exact ⟨_, hTO, fun v q => nomatch q⟩
    · exact ⟨o1, e1, fun v q => by rw [d1] at q; cases q⟩
    · exact ⟨o2, e2, fun v q => by rw [d2] at q; cases q⟩
  keep := fun i h h' st k => by
    obtain ⟨hz, hTI, ⟨a1, a2, hTO⟩, h1, h2⟩ := st
    exact ⟨k z (by simp) _ hz, k TI (by simp) _ hTI, ⟨a1, a2, k TO (by simp) _ hTO⟩, h1.at fun o q => k i1 (by simp) o q, h2.at fun o q => k i2 (by simp) o q⟩
  item := by
    intro X hP hw hK hc i pins s σ H E I hf st hg
    subst hP hw hK
    obtain ⟨hz, hTI, ⟨a1, a2, hTO⟩, h1, h2⟩ := st
    obtain ⟨hs, hi1, hi2⟩ := hg
    obtain ⟨its, rv, pl, _⟩ := I.list (.of (hs a _ ha))
    obtain ⟨jts, rw', pt, _⟩ := I.tuple (.inl (.inr ⟨_, hs b _ hb⟩))
    obtain ⟨u1, hu1, ru1⟩ := rv.get (List.getElem?_eq_getElem hi1)
    obtain ⟨u2, hu2, ru2⟩ := rw'.get (List.getElem?_eq_getElem hi2)
    have n1 : i < its.toArray.size := by
      have q := rv.length
      rw [List.size_toArray]
      omega
    have n2 : i < jts.toArray.size := by
      have q := rw'.length
      rw [List.size_toArray]
      omega
    have hh : X.A.in1.handled = none := I.ok.hd hc
    have D1 := Draws.list (prog := X.prog) (w := X.w) (A := X.A.in1) hh i1 a (fun q => by
      have z' := (hf i1 (by simp)).1
      rw [← q, hs a _ ha] at z'
      cases z') its.toArray
    have D2 := Draws.tuple (prog := X.prog) (w := X.w) (A := X.A.in1) hh i2 b (fun q => by
      have z' := (hf i2 (by simp)).1
      rw [← q, hs b _ hb] at z'
      cases z') jts.toArray
    have lt : ∀ {c o}, s.heap.get? c = some o → c < s.heap.objs.size := fun q => Heap.lt_size q
    refine wpAny_pyNext_zipD2_item S D1 D2 hz hTI hTO ⟨h1, pl.isList⟩ ⟨h2, pt⟩ n1 n2 fun x1 x2 h' tk y1 y2 b1 b2 d1 d2 b5 b6 hk => ?_
    have ex1 : x1 = u1 := by
      have q : its.toArray[i]? = some x1 := y1
      rw [List.getElem?_toArray, hu1] at q
      exact (Option.some.inj q).symm
    have ex2 : x2 = u2 := by
      have q : jts.toArray[i]? = some x2 := y2
      rw [List.getElem?_toArray, hu2] at q
      exact (Option.some.inj q).symm
    subst ex1 ex2
    refine ⟨_, rfl, wpAny_letOwnedTupleGo_zip (s := { s with heap := h', toks := tk }) b1 fun h3 hz3 sb => ?_⟩
    have hzl : z < s.heap.objs.size := lt hz
    have hT : h3.get? s.heap.objs.size = some { cls := .type "tuple", data := .seq #[x1, x2] } := (sb.2 _ (Nat.ne_of_gt hzl)).trans b5
    have I1 : Inv X pins σ (upd H s.heap.objs.size (.tup [vs[i], ws[i]])) { s with heap := h3, toks := tk } :=
      I.turnedNew (ch := [z, TI, TO, i1, i2]) (fun c o hcm q => (sb.2 c fun q' => hcm (by simp [q'])).trans (hk c o (fun q' => hcm (by simp [q'])) (fun q' => hcm (by simp [q'])) (fun q' => hcm (by simp [q'])) (fun q' => hcm (by simp [q'])) q)) hf (Nat.le_refl _)
        ⟨by show 2 ≤ sizeLine; decide, [x1, x2], .cons ru1 (.cons ru2 .nil), ⟨_, hT, rfl, _, rfl⟩⟩
    refine ⟨.ref s.heap.objs.size, _, I1, rfl, ⟨_, vs[i], ws[i], rfl, I.hok.fresh (Nat.le_refl _), rfl, List.getElem?_eq_getElem hi1, List.getElem?_eq_getElem hi2⟩, ⟨hz3, ?_, ⟨x1, x2, ?_⟩, ?_, ?_⟩, fun c hcm => ?_⟩
    · exact (sb.2 _ S.TIz).trans (hk _ _ S.TIz S.TITO S.TIi1 S.TIi2 hTI)
    · exact (sb.2 _ S.TOz).trans b2
    · exact d1.1.at fun o q => (sb.2 _ S.zi1.symm).trans q
    · exact d2.1.at fun o q => (sb.2 _ S.zi2.symm).trans q
    · have hlt : c < s.heap.objs.size := by
        have hc' : c = z ∨ c = TI ∨ c = TO ∨ c = i1 ∨ c = i2 := by simpa using hcm
        rcases hc' with rfl | rfl | rfl | rfl | rfl
        · exact hzl
        · exact lt hTI
        · exact lt hTO
        · obtain ⟨_, q, _⟩ := h1
          exact lt q
        · obtain ⟨_, q, _⟩ := h2
          exact lt q
      rw [upd_ne (Nat.ne_of_lt hlt)]
      exact (hf c hcm).1
  done := by
    intro X hP hw hK hc i pins s σ H E I hf st hg
    subst hP hw hK
    obtain ⟨hz, hTI, ⟨a1, a2, hTO⟩, h1, h2⟩ := st
    obtain ⟨hs, hi⟩ := hg
    obtain ⟨its, rv, pl, _⟩ := I.list (.of (hs a _ ha))
    obtain ⟨jts, rw', pt, _⟩ := I.tuple (.inl (.inr ⟨_, hs b _ hb⟩))
    have hh : X.A.in1.handled = none := I.ok.hd hc
    have D1 := Draws.list (prog := X.prog) (w := X.w) (A := X.A.in1) hh i1 a (fun q => by
      have z' := (hf i1 (by simp)).1
      rw [← q, hs a _ ha] at z'
      cases z') its.toArray
    have D2 := Draws.tuple (prog := X.prog) (w := X.w) (A := X.A.in1) hh i2 b (fun q => by
      have z' := (hf i2 (by simp)).1
      rw [← q, hs b _ hb] at z'
      cases z') jts.toArray
    have l1 := rv.length
    have l2 := rw'.length
    have s1 : its.toArray.size = its.length := by simp
    have s2 : jts.toArray.size = jts.length := by simp
    exact wpAny_pyNext_zipD2_end S D1 D2 hz hTI hTO ⟨h1, pl.isList⟩ ⟨h2, pt⟩ (by omega) (by omega) (by omega) fun h' tk hk => ⟨rfl, I.turnedL (ch := [z, TI, TO, i1, i2]) (fun c o hcm q =>
      hk c o (fun q' => hcm (by simp [q'])) (fun q' => hcm (by simp [q'])) (fun q' => hcm (by simp [q'])) (fun q' => hcm (by simp [q'])) q) hf⟩
  self := fun A i s Q E st h => wpAny_pyIter_zip st.1 h
end Wm

set_option Elab.async false
set_option linter.all false
set_option maxRecDepth 100000
set_option maxHeartbeats 2000000
/-! Wm.K: walks by data, list comprehensions. -/
namespace Wm
open PySem PySem.Spec L2

/-- an item just told: data, or (b) a pair that nobody keeps -/
def Rq (b : Bool) (F : Hp) (v : V) (d : PyData) : Prop := Rp F v d ∨ (b = true ∧ ∃ a xs ds, v = .ref a ∧ F a = some (.tup xs) ∧ RpAll F xs ds ∧ d = .tuple ds)
theorem Rq.rp {F : Hp} {v : V} {d : PyData} (h : Rq false F v d) : Rp F v d := h.resolve_right fun z => by cases z.1
theorem Rq.tup {b : Bool} {F H : Hp} {K : PySem.W.Frag} {v : V} {ds : List PyData} (e : Same F H) (h : Rq b F v (.tuple ds)) : ∃ a xs, v = .ref a ∧ SqT K H a xs ∧ RpAll F xs ds := by
  rcases h with h | ⟨_, a, xs, es, rfl, ha, r, e2⟩
  · obtain ⟨a, xs, rfl, ha, r⟩ := rp_tup h
    exact ⟨a, xs, rfl, (ha.mono e).sq, r⟩
  · cases e2
    exact ⟨a, xs, rfl, .of (e _ _ ha), r⟩
/-- an iterator that gives the items ds, one a turn, while F stands -/
structure WalkD (b : Bool) (J : It) (F : Hp) (ds : List PyData) : Prop where
  go : ∀ i H, Same F H → i < ds.length → J.go i H
  stop : ∀ H, Same F H → J.stop ds.length H
  yld : ∀ i F1 H x H', Same F F1 → Same F1 H → i < ds.length → J.yld i H x H' → ∃ F2 d, ds[i]? = some d ∧ Gr [] F1 H F2 H' ∧ Rq b F2 x d
theorem gr_nil {F H : Hp} (e : Same F H) : Gr [] F H F H := ⟨Same.refl F, e, fun _ _ h _ => h, fun _ h _ => h, fun _ _ m => by simp at m⟩
theorem gr_new {F H : Hp} {q : Addr} {o : HO} (e : Same F H) (h : H q = none) : Gr [] F H (upd F q o) (upd H q o) := by
  have hF : F q = none := e.free h
  refine ⟨fun a u z => ?_, fun a u z => ?_, fun a u z _ => ?_, fun a z n => ?_, fun _ _ m => by simp at m⟩
  · rw [upd_ne (ne_of_none z hF)]
    exact z
  · by_cases ha : a = q
    · subst ha
      rw [upd_same] at z ⊢
      exact z
    · rw [upd_ne ha] at z ⊢
      exact e a u z
  · rw [upd_ne (ne_of_none z h)]
    exact z
  · have ha : a ≠ q := fun y => by rw [y] at n; exact n h
    rw [upd_ne ha]
    exact z
def enumD (xs : List PyData) : List PyData := xs.mapIdx fun i d => .tuple [.int (i : Nat), d]
theorem enumD_len (xs : List PyData) : (enumD xs).length = xs.length := by unfold enumD; rw [List.length_mapIdx]
theorem enumD_get (xs : List PyData) (i : Nat) : (enumD xs)[i]? = xs[i]?.map fun d => .tuple [.int (i : Nat), d] := by unfold enumD; rw [List.getElem?_mapIdx]
def zipD (xs ys : List PyData) : List PyData := List.zipWith (fun x y => .tuple [x, y]) xs ys
theorem zipD_len (xs ys : List PyData) : (zipD xs ys).length = min xs.length ys.length := by unfold zipD; rw [List.length_zipWith]
theorem zipD_get {xs ys : List PyData} {i : Nat} {x y : PyData} (hx : xs[i]? = some x) (hy : ys[i]? = some y) : (zipD xs ys)[i]? = some (.tuple [x, y]) := by
  unfold zipD
  rw [List.getElem?_zipWith, hx, hy]
def rangeD (lo : Int) (n : Nat) : List PyData := (List.range n).map fun i => .int (lo + (i : Nat))
theorem rangeD_len (lo : Int) (n : Nat) : (rangeD lo n).length = n := by unfold rangeD; rw [List.length_map, List.length_range]
theorem rangeD_get {lo : Int} {n i : Nat} (h : i < n) : (rangeD lo n)[i]? = some (.int (lo + (i : Nat))) := by
  unfold rangeD
  rw [List.getElem?_map, List.getElem?_range h]
  rfl
section
variable {bb : Bool} {K : PySem.W.Frag} {F : Hp} {a b : Addr} {vs ws : List V} {xs ys : List PyData}
theorem walkD_list (ha : F a = some (.lst vs)) (r : RpAll F vs xs) : WalkD bb (Itl K a) F xs := by
  have w := walk_list (K := K) (a := a) (xs := vs)
  refine ⟨fun i H e hi => w.goes i H (by rw [r.length]; exact hi) (.of (e _ _ ha)), fun H e => by rw [← r.length]; exact w.stops H (.of (e _ _ ha)), fun i F1 H x H' e1 e2 hi y => ?_⟩
  obtain ⟨rfl, hx⟩ := w.yields i H x H' (by rw [r.length]; exact hi) (.of (e2 _ _ (e1 _ _ ha))) y
  obtain ⟨d, hd, rd⟩ := r.get' hx
  exact ⟨F1, d, hd, gr_nil e2, .inl (rd.mono e1 d x)⟩
theorem walkD_tup (ha : TupAt F a vs) (r : RpAll F vs xs) : WalkD bb (Itt K a) F xs := by
  have w := walk_tup (K := K) (a := a) (xs := vs)
  refine ⟨fun i H e hi => w.goes i H (by rw [r.length]; exact hi) (ha.mono e).sq, fun H e => by rw [← r.length]; exact w.stops H (ha.mono e).sq, fun i F1 H x H' e1 e2 hi y => ?_⟩
  obtain ⟨rfl, hx⟩ := w.yields i H x H' (by rw [r.length]; exact hi) ((ha.mono e1).mono e2).sq y
  obtain ⟨d, hd, rd⟩ := r.get' hx
  exact ⟨F1, d, hd, gr_nil e2, .inl (rd.mono e1 d x)⟩
theorem walkD_range {lo : Int} {n : Nat} : WalkD bb (Itr lo n) F (rangeD lo n) := by
  refine ⟨fun i H e hi => by rw [rangeD_len] at hi; exact hi, fun H e => by rw [rangeD_len]; exact Nat.le_refl n, fun i F1 H x H' e1 e2 hi y => ?_⟩
  obtain ⟨rfl, rfl⟩ := y
  rw [rangeD_len] at hi
  exact ⟨F1, _, rangeD_get hi, gr_nil e2, .inl (.int _)⟩
theorem walkD_en {J : It} {n : Nat} (hl : n = xs.length) (r : RpAll F vs xs) (hgo : ∀ i H, Same F H → i < n → J.go i H) (hst : ∀ H, Same F H → J.stop n H)
    (hy : ∀ i H x H', Same F H → i < n → J.yld i H x H' → ∃ T y, x = .ref T ∧ H T = none ∧ H' = upd H T (.tup [.int (i : Nat), y]) ∧ vs[i]? = some y) : WalkD true J F (enumD xs) := by
  subst hl
  refine ⟨fun i H e hi => hgo i H e (by rw [enumD_len] at hi; exact hi), fun H e => by rw [enumD_len]; exact hst H e, fun i F1 H x H' e1 e2 hi y => ?_⟩
  rw [enumD_len] at hi
  obtain ⟨T, z, rfl, hT, rfl, hz⟩ := hy i H x H' (e1.trans e2) hi y
  obtain ⟨d, hd, rd⟩ := r.get' hz
  have g := gr_new (o := .tup [.int (i : Nat), z]) e2 hT
  exact ⟨_, .tuple [.int (i : Nat), d], by rw [enumD_get, hd]; rfl, g, .inr ⟨rfl, T, _, _, rfl, upd_same, .cons (.int _) (.cons ((rd.mono e1 d z).mono g.sF d z) .nil), rfl⟩⟩
theorem walkD_enL (ha : F a = some (.lst vs)) (r : RpAll F vs xs) : WalkD true (Ite K a) F (enumD xs) := by
  have w := walk_enum (K := K) (a := a) (xs := vs)
  refine walkD_en r.length r (fun i H e hi => w.goes i H hi (.of (e _ _ ha))) (fun H e => w.stops H (.of (e _ _ ha))) fun i H x H' e hi y => ?_
  obtain ⟨T, z, u, rfl, hT, rfl, hz, hu⟩ := w.yields i H x H' hi (.of (e _ _ ha)) y
  cases hz
  exact ⟨T, u, rfl, hT, rfl, hu⟩
theorem walkD_enT (r : RpAll F vs xs) : WalkD true (Jen F vs) F (enumD xs) :=
  walkD_en r.length r (fun i H e hi => ⟨e, hi⟩) (fun H e => ⟨e, Nat.le_refl _⟩) fun i H x H' e hi y => y
theorem walkD_zp {J : It} {n : Nat} (hl : n = min xs.length ys.length) (r : RpAll F vs xs) (q : RpAll F ws ys) (hgo : ∀ i H, Same F H → i < n → J.go i H) (hst : ∀ H, Same F H → J.stop n H)
    (hy : ∀ i H x H', Same F H → i < n → J.yld i H x H' → ∃ T y z, x = .ref T ∧ H T = none ∧ H' = upd H T (.tup [y, z]) ∧ vs[i]? = some y ∧ ws[i]? = some z) : WalkD true J F (zipD xs ys) := by
  subst hl
  refine ⟨fun i H e hi => hgo i H e (by rw [zipD_len] at hi; exact hi), fun H e => by rw [zipD_len]; exact hst H e, fun i F1 H x H' e1 e2 hi y => ?_⟩
  rw [zipD_len] at hi
  obtain ⟨T, z, u, rfl, hT, rfl, hz, hu⟩ := hy i H x H' (e1.trans e2) hi y
  obtain ⟨d, hd, rd⟩ := r.get' hz
  obtain ⟨e, he, re⟩ := q.get' hu
  have g := gr_new (o := .tup [z, u]) e2 hT
  exact ⟨_, .tuple [d, e], zipD_get hd he, g, .inr ⟨rfl, T, _, _, rfl, upd_same, .cons ((rd.mono e1 d z).mono g.sF d z) (.cons ((re.mono e1 e u).mono g.sF e u) .nil), rfl⟩⟩
theorem walkD_zLL (ha : F a = some (.lst vs)) (r : RpAll F vs xs) (hb : F b = some (.lst ws)) (q : RpAll F ws ys) : WalkD true (Itz K a b) F (zipD xs ys) := by
  have w := walk_zip (K := K) (a := a) (b := b) (xs := vs) (ys := ws) (n := min vs.length ws.length) rfl
  refine walkD_zp (by rw [r.length, q.length]) r q (fun i H e hi => w.goes i H hi ⟨.of (e _ _ ha), .of (e _ _ hb)⟩) (fun H e => w.stops H ⟨.of (e _ _ ha), .of (e _ _ hb)⟩) fun i H x H' e hi y => ?_
  obtain ⟨T, z, u, rfl, hT, rfl, hz, hu⟩ := w.yields i H x H' hi ⟨.of (e _ _ ha), .of (e _ _ hb)⟩ y
  exact ⟨T, z, u, rfl, hT, rfl, hz, hu⟩
theorem walkD_zTT (ha : TupAt F a vs) (r : RpAll F vs xs) (hb : TupAt F b ws) (q : RpAll F ws ys) : WalkD true (RZ.ItzT K a b) F (zipD xs ys) := by
  refine walkD_zp (n := min vs.length ws.length) (by rw [r.length, q.length]) r q (fun i H e hi => ?_) (fun H e => ?_) fun i H x H' e hi y => ?_
  · have h1 : i < vs.length := by omega
    have h2 : i < ws.length := by omega
    exact ⟨vs, ws, vs[i], ws[i], (ha.mono e).sq, (hb.mono e).sq, List.getElem?_eq_getElem h1, List.getElem?_eq_getElem h2⟩
  · exact ⟨vs, ws, (ha.mono e).sq, (hb.mono e).sq, by omega⟩
  · obtain ⟨T, z, u, rfl, hT, rfl, hz, hu⟩ := y
    exact ⟨T, z, u, rfl, hT, rfl, hz _ (ha.mono e).sq, hu _ (hb.mono e).sq⟩
theorem walkD_zLT (r : RpAll F vs xs) (q : RpAll F ws ys) : WalkD true (Jzp F vs ws) F (zipD xs ys) := by
  refine walkD_zp (n := min vs.length ws.length) (by rw [r.length, q.length]) r q (fun i H e hi => ⟨e, by omega, by omega⟩) (fun H e => ⟨e, rfl⟩) fun i H x H' e hi y => y
end

/-- iter gives items ds with P ds -/
def NI (b : Bool) (X : Cx) (tg iter : Expr) (Γ : Ctx) (P : List PyData → Prop) : Prop := ∀ F H σ, En F H σ Γ → ∀ R : It → Hp → Prop, (∀ J F' H' ds, Gr Γ F H F' H' → WalkD b J F' ds → P ds → R J H') → wI X tg iter σ H R
section
variable {bb : Bool} {X : Cx} {tg e e2 : Expr} {Γ : Ctx} {P : List PyData → Prop} {pos p tpos : Pos} {elts : List Expr} {kk : Nat}
theorem ni_list (h : Nd X e Γ fun d => ∃ xs, d = .list xs ∧ P xs) : NI bb X tg e Γ P := fun F H σ E R k => wI_of (pi_list pe_we) (h F H σ E _ fun v F1 H1 d g r ⟨xs, ed, px⟩ => by
  subst ed
  obtain ⟨a, ws, rfl, ha, ra⟩ := rp_lst r
  exact ⟨a, rfl, ⟨ws, .of (g.ex _ _ ha)⟩, k _ F1 H1 xs g (walkD_list ha ra) px⟩)
theorem ni_tup (h : Nd X e Γ fun d => ∃ xs, d = .tuple xs ∧ P xs) : NI bb X tg e Γ P := fun F H σ E R k => wI_of (pi_tup pe_we) (h F H σ E _ fun v F1 H1 d g r ⟨xs, ed, px⟩ => by
  subst ed
  obtain ⟨a, ws, rfl, ha, ra⟩ := rp_tup r
  exact ⟨a, rfl, ⟨ws, (ha.mono g.ex).sq⟩, k _ F1 H1 xs g (walkD_tup ha ra) px⟩)
theorem ni_range1 (hm : X.mg "range" = none) (h : Nd X e Γ fun d => ∃ n : Int, d = .int n ∧ (-(2 ^ 62) ≤ n ∧ n < 2 ^ 62) ∧ P (rangeD 0 n.toNat)) (hg : Gl X "range" := by rfl) (hs : starEach [e] X.env = [(false, eval e X.env)] := by rfl) :
    NI bb X tg (.Call (.Name "range" p) [e] [] pos) Γ P := fun F H σ E R k => wI_of (pi_range1 hg hm (pa_cons pe_we pa_nil hs) hs) (h F H σ E _ fun v F1 H1 d g r ⟨n, ed, ⟨l1, l2⟩, px⟩ => by
  subst ed
  exact ⟨n, by rw [rp_int r], l1, l2, k _ F1 H1 _ g walkD_range px⟩)
theorem ni_range2 (hm : X.mg "range" = none) (h : Nd X e Γ fun d => ∃ lo : Int, d = .int lo ∧ Nd X e2 Γ fun d => ∃ n : Int, d = .int n ∧ (-(2 ^ 62) ≤ lo ∧ lo < 2 ^ 62 ∧ -(2 ^ 62) ≤ n ∧ n < 2 ^ 62) ∧ P (rangeD lo (n - lo).toNat)) (hg : Gl X "range" := by rfl)
    (hs : starEach [e, e2] X.env = [(false, eval e X.env), (false, eval e2 X.env)] := by rfl) (hs2 : starEach [e2] X.env = [(false, eval e2 X.env)] := by rfl) :
    NI bb X tg (.Call (.Name "range" p) [e, e2] [] pos) Γ P := fun F H σ E R k => wI_of (pi_range2 hg hm (pa_cons pe_we (pa_cons pe_we pa_nil hs2) (by rw [hs, hs2])) hs hs2) (h F H σ E _ fun v F1 H1 d g r ⟨lo, ed, px⟩ => by
  subst ed
  refine px F1 H1 σ (E.grow g) _ fun u F2 H2 d2 g2 r2 ⟨n, ed, l, py⟩ => ?_
  subst ed
  exact ⟨lo, n, by rw [rp_int r, rp_int r2], l, k _ F2 H2 _ (g.trans g2) walkD_range py⟩)
theorem ni_enumL (hm : X.mg "enumerate" = none) (h : Nd X e Γ fun d => ∃ xs, d = .list xs ∧ P (enumD xs)) (hg : Gl X "enumerate" := by rfl) (hs : starEach [e] X.env = [(false, eval e X.env)] := by rfl) :
    NI true X (.Tuple elts kk tpos) (.Call (.Name "enumerate" p) [e] [] pos) Γ P := fun F H σ E R k => wI_of (pi_enum hg hm (pa_cons pe_we pa_nil hs) hs) (h F H σ E _ fun v F1 H1 d g r ⟨xs, ed, px⟩ => by
  subst ed
  obtain ⟨a, ws, rfl, ha, ra⟩ := rp_lst r
  exact ⟨a, ws, rfl, .of (g.ex _ _ ha), k _ F1 H1 _ g (walkD_enL ha ra) px⟩)
def iEnT (ta : TA) : TI := fun σ H R => ta σ H fun vs H1 => ∃ a xs F, vs = [.ref a] ∧ TupAt F a xs ∧ Same F H1 ∧ R (Jen F xs) H1
theorem pi_enT {ta : TA} (hg : Gl X "enumerate") (hm : X.mg "enumerate" = none) (ha : PA X [e] ta) (hs : starEach [e] X.env = [(false, eval e X.env)] := by rfl) : PI X (.Tuple elts kk tpos) (.Call (.Name "enumerate" p) [e] [] pos) (iEnT ta) := by
  refine ⟨fun pins s σ H R I h => ?_⟩
  refine PyProof.Rows.Call_ (ld_blt I hg hm PyProof.Rows.boot_enumerate (PyProof.Rows.callWith_type1 (thn (ha.run pos pins s σ H _ I h) fun us s1 ⟨vs, H1, I1, r1, a, xs, F, ev, ⟨oT, _, hF⟩, sF, q1⟩ => ?_) hs rfl))
  subst ev
  obtain ⟨u, rfl, ru⟩ := Vals.one r1
  obtain rfl : u = Value.ref a := ru
  obtain ⟨its, rv, ht, hz⟩ := I1.tuple (.inl (.inr ⟨_, sF a _ hF⟩))
  refine call_enum1 (it := s1.heap.objs.size) (h1 := s1.heap.push { cls := .type "tuple_iterator", data := .fields #[.ref a, .int 0 0] }) (fun A' E Q q => wpAny_pyIter_tuple (show s1.heap.IsTuple a its.toArray from ht) q) ?_
  have hsz : (s1.heap.push { cls := .type "tuple_iterator", data := .fields #[.ref a, .int 0 0] }).objs.size = s1.heap.objs.size + 1 := Heap.size_push ..
  rw [hsz]
  have he : IsEnum ((s1.heap.push { cls := .type "tuple_iterator", data := .fields #[.ref a, .int 0 0] }).push { cls := .type "enumerate", data := .fields #[.none, .bool false, .ref s1.heap.objs.size, rawInt 0, .none, .none] }) (s1.heap.objs.size + 1) s1.heap.objs.size 0 .none := by
    rw [← hsz]
    exact Heap.get?_push_size _ rfl
  refine wpAny_pyIter_enum he ?_
  have I2 : Inv X pins σ H1 { s1 with heap := ((s1.heap.push { cls := .type "tuple_iterator", data := .fields #[.ref a, .int 0 0] }).push { cls := .type "enumerate", data := .fields #[.none, .bool false, .ref s1.heap.objs.size, rawInt 0, .none, .none] }) } :=
    I1.kept (t' := s1.toks) fun b o q => Heap.get?_push_of_some _ (Heap.get?_push_of_some _ q)
  refine ⟨s1.heap.objs.size + 1, [s1.heap.objs.size + 1, s1.heap.objs.size], _, _, H1, rfl, I2, turn_enT a (s1.heap.objs.size + 1) s1.heap.objs.size hF, ⟨⟨.none, he⟩, ⟨_, Heap.get?_push_of_some _ (Heap.get?_push_size _ rfl), rfl, rfl⟩, Nat.succ_ne_self _⟩, fun b hb => ?_, q1⟩
  have hle : s1.heap.objs.size ≤ b := by
    rcases List.mem_cons.mp hb with rfl | hb
    · exact Nat.le_add_right _ _
    · rw [List.mem_singleton.mp hb]
      exact Nat.le_refl _
  exact I1.fpOk hle (I1.hok.fresh hle)
theorem ni_enumT (hm : X.mg "enumerate" = none) (h : Nd X e Γ fun d => ∃ xs, d = .tuple xs ∧ P (enumD xs)) (hg : Gl X "enumerate" := by rfl) (hs : starEach [e] X.env = [(false, eval e X.env)] := by rfl) :
    NI true X (.Tuple elts kk tpos) (.Call (.Name "enumerate" p) [e] [] pos) Γ P := fun F H σ E R k => wI_of (pi_enT hg hm (pa_cons pe_we pa_nil hs) hs) (h F H σ E _ fun v F1 H1 d g r ⟨xs, ed, px⟩ => by
  subst ed
  obtain ⟨a, ws, rfl, ha, ra⟩ := rp_tup r
  exact ⟨a, ws, F1, rfl, ha, g.ex, k _ F1 H1 _ g (walkD_enT ra) px⟩)
theorem ni_zipLL (hm : X.mg "zip" = none) (h : Nd X e Γ fun d => ∃ xs, d = .list xs ∧ Nd X e2 Γ fun d => ∃ ys, d = .list ys ∧ P (zipD xs ys)) (hg : Gl X "zip" := by rfl)
    (hs : starEach [e, e2] X.env = (false, eval e X.env) :: starEach [e2] X.env := by rfl) (hs2 : starEach [e2] X.env = (false, eval e2 X.env) :: starEach [] X.env := by rfl) (hpl : (backTo pos (starEach [e2] X.env)).any (·.1) = false := by rfl) :
    NI true X (.Tuple elts kk tpos) (.Call (.Name "zip" p) [e, e2] [] pos) Γ P := fun F H σ E R k => wI_of (RZ.pi_zipA hg hm (pa_cons pe_we (pa_cons pe_we pa_nil hs2) hs) hs hpl) (h F H σ E _ fun v F1 H1 d g r ⟨xs, ed, px⟩ => by
  subst ed
  refine px F1 H1 σ (E.grow g) _ fun u F2 H2 d2 g2 r2 ⟨ys, ed, py⟩ => ?_
  subst ed
  have g3 := g.trans g2
  obtain ⟨a, vs, rfl, ha, ra⟩ := rp_lst (r.mono g2.sF _ _)
  obtain ⟨b, ws, rfl, hb, rb⟩ := rp_lst r2
  exact ⟨a, b, vs, ws, rfl, .inl ⟨.of (g3.ex _ _ ha), .of (g3.ex _ _ hb), k _ F2 H2 _ g3 (walkD_zLL ha ra hb rb) py⟩⟩)
theorem ni_zipTT (hm : X.mg "zip" = none) (h : Nd X e Γ fun d => ∃ xs, d = .tuple xs ∧ Nd X e2 Γ fun d => ∃ ys, d = .tuple ys ∧ P (zipD xs ys)) (hg : Gl X "zip" := by rfl)
    (hs : starEach [e, e2] X.env = (false, eval e X.env) :: starEach [e2] X.env := by rfl) (hs2 : starEach [e2] X.env = (false, eval e2 X.env) :: starEach [] X.env := by rfl) (hpl : (backTo pos (starEach [e2] X.env)).any (·.1) = false := by rfl) :
    NI true X (.Tuple elts kk tpos) (.Call (.Name "zip" p) [e, e2] [] pos) Γ P := fun F H σ E R k => wI_of (RZ.pi_zipA hg hm (pa_cons pe_we (pa_cons pe_we pa_nil hs2) hs) hs hpl) (h F H σ E _ fun v F1 H1 d g r ⟨xs, ed, px⟩ => by
  subst ed
  refine px F1 H1 σ (E.grow g) _ fun u F2 H2 d2 g2 r2 ⟨ys, ed, py⟩ => ?_
  subst ed
  have g3 := g.trans g2
  obtain ⟨a, vs, rfl, ha, ra⟩ := rp_tup (r.mono g2.sF _ _)
  obtain ⟨b, ws, rfl, hb, rb⟩ := rp_tup r2
  exact ⟨a, b, vs, ws, rfl, .inr ⟨(ha.mono g3.ex).sq, (hb.mono g3.ex).sq, k _ F2 H2 _ g3 (walkD_zTT ha ra hb rb) py⟩⟩)
def iZpLT (ta : TA) : TI := fun σ H R => ta σ H fun us H1 => ∃ a b vs ws F, us = [.ref a, .ref b] ∧ F a = some (.lst vs) ∧ TupAt F b ws ∧ Same F H1 ∧ R (Jzp F vs ws) H1
theorem pi_zpLT {ta : TA} (hg : Gl X "zip") (hm : X.mg "zip" = none) (ha : PA X [e, e2] ta) (hs : starEach [e, e2] X.env = (false, eval e X.env) :: starEach [e2] X.env := by rfl) (hpl : (backTo pos (starEach [e2] X.env)).any (·.1) = false := by rfl) :
    PI X (.Tuple elts kk tpos) (.Call (.Name "zip" p) [e, e2] [] pos) (iZpLT ta) := by
  refine ⟨fun pins s σ H R I h => ?_⟩
  refine PyProof.Rows.Call_ (ld_blt I hg hm PyProof.Rows.boot_zip (PyProof.Rows.callWith_type1 (thn (ha.run pos pins s σ H _ I h) fun us s1 ⟨vs, H1, I1, r1, a, b, xs, ys, F, ev, hF1, ⟨oT, _, hF2⟩, sF, q1⟩ => ?_) hs hpl))
  subst ev
  obtain ⟨u1, u2, rfl, ru1, ru2⟩ := vals2 r1
  obtain rfl : u1 = Value.ref a := ru1
  obtain rfl : u2 = Value.ref b := ru2
  obtain ⟨its, rv, pl, _⟩ := I1.list (.of (sF a _ hF1))
  obtain ⟨jts, rw', pt, _⟩ := I1.tuple (.inl (.inr ⟨_, sF b _ hF2⟩))
  have la : a < s1.heap.objs.size := pl.lt
  have lb : b < s1.heap.objs.size := by
    obtain ⟨o, ho, _⟩ := id pt
    exact Heap.lt_size ho
  refine zip_begins2 (begins_list a its.toArray) (begins_tuple b jts.toArray) pl.isList (show s1.heap.IsTuple b jts.toArray from pt) fun h' hz hTI hTO h1 h2 hsz hk => wpAny_pyIter_zip hz ?_
  have I2 : Inv X pins σ H1 { s1 with heap := h' } := I1.kept (t' := s1.toks) hk
  refine ⟨s1.heap.objs.size + 4, [s1.heap.objs.size + 4, s1.heap.objs.size + 2, s1.heap.objs.size + 3, s1.heap.objs.size, s1.heap.objs.size + 1], _, _, H1, rfl, I2,
    turn_zipLT (zip_sep2 (N := s1.heap.objs.size) (fp1 := [a]) (fp2 := [b]) (fun c hc => by rw [List.mem_singleton.mp hc]; exact la) (fun c hc => by rw [List.mem_singleton.mp hc]; exact lb)) hF1 hF2,
    ⟨hz, hTI, ⟨_, _, hTO⟩, ⟨_, h1, rfl, rfl⟩, ⟨_, h2, rfl, rfl⟩⟩, fun c hc => ?_, q1⟩
  have hle : s1.heap.objs.size ≤ c := by
    have hc' : c = s1.heap.objs.size + 4 ∨ c = s1.heap.objs.size + 2 ∨ c = s1.heap.objs.size + 3 ∨ c = s1.heap.objs.size ∨ c = s1.heap.objs.size + 1 := by simpa using hc
    rcases hc' with rfl | rfl | rfl | rfl | rfl <;> first | exact Nat.le_add_right _ _ | exact Nat.le_refl _
  exact I1.fpOk hle (I1.hok.fresh hle)
theorem ni_zipLT (hm : X.mg "zip" = none) (h : Nd X e Γ fun d => ∃ xs, d = .list xs ∧ Nd X e2 Γ fun d => ∃ ys, d = .tuple ys ∧ P (zipD xs ys)) (hg : Gl X "zip" := by rfl)
    (hs : starEach [e, e2] X.env = (false, eval e X.env) :: starEach [e2] X.env := by rfl) (hs2 : starEach [e2] X.env = (false, eval e2 X.env) :: starEach [] X.env := by rfl) (hpl : (backTo pos (starEach [e2] X.env)).any (·.1) = false := by rfl) :
    NI true X (.Tuple elts kk tpos) (.Call (.Name "zip" p) [e, e2] [] pos) Γ P := fun F H σ E R k => wI_of (pi_zpLT hg hm (pa_cons pe_we (pa_cons pe_we pa_nil hs2) hs) hs hpl) (h F H σ E _ fun v F1 H1 d g r ⟨xs, ed, px⟩ => by
  subst ed
  refine px F1 H1 σ (E.grow g) _ fun u F2 H2 d2 g2 r2 ⟨ys, ed, py⟩ => ?_
  subst ed
  have g3 := g.trans g2
  obtain ⟨a, vs, rfl, ha, ra⟩ := rp_lst (r.mono g2.sF _ _)
  obtain ⟨b, ws, rfl, hb, rb⟩ := rp_tup r2
  exact ⟨a, b, vs, ws, F2, rfl, ha, hb, g3.ex, k _ F2 H2 _ g3 (walkD_zLT ra rb) py⟩)
end

/-! ### targets: names, tuples of names -/
theorem En.put {F H : Hp} {σ : L2.St} {Γ : Ctx} (E : En F H σ Γ) (j : Nat) {ov : Option V} {s : Sd} (h : SlOk F H ov s) (hs : s.addrs = []) : En F H (σ.set j ov) (Γ.set j s) := by
  refine ⟨by rw [List.length_set, List.length_set]; exact E.len, E.ex, fun i t ow e1 e2 => ?_, fun i l s1 s2 a e1 e2 m1 m2 => ?_⟩
  · by_cases hj : j = i
    · subst hj
      have h1 : j < Γ.length := by have := (List.getElem?_eq_some_iff.mp e1).1; rw [List.length_set] at this; exact this
      have h2 : j < σ.length := by rw [E.len]; exact h1
      rw [List.getElem?_set_self h1] at e1
      rw [List.getElem?_set_self h2] at e2
      cases e1
      cases e2
      exact h
    · rw [List.getElem?_set_ne hj] at e1 e2
      exact E.sl i t ow e1 e2
  · have side : ∀ (i : Nat) s', (Γ.set j s)[i]? = some s' → a ∈ s'.addrs → Γ[i]? = some s' := fun i s' e m => by
      by_cases hj : j = i
      · subst hj
        have h1 : j < Γ.length := by have := (List.getElem?_eq_some_iff.mp e).1; rw [List.length_set] at this; exact this
        rw [List.getElem?_set_self h1] at e
        cases e
        rw [hs] at m
        cases m
      · rw [List.getElem?_set_ne hj] at e
        exact e
    exact E.sep i l s1 s2 a (side i s1 e1 m1) (side l s2 e2 m2) m1 m2
def bagsIn (Γ2 Γ : Ctx) : Prop := ∀ s, s ∈ Γ2 → s.addrs ≠ [] → s ∈ Γ
theorem bagsIn.bag {Γ2 Γ : Ctx} (h : bagsIn Γ2 Γ) {a c : Addr} (m : Sd.bag a c ∈ Γ2) : Sd.bag a c ∈ Γ := h _ m (by simp [Sd.addrs])
theorem bags_put {Γ : Ctx} {j : Nat} {s : Sd} (hs : s.addrs = []) : bagsIn (Γ.set j s) Γ := fun t m n => by
  rcases List.mem_or_eq_of_mem_set m with m | e
  · exact m
  · rw [← e] at hs
    exact absurd hs n
/-- slots outside js stay -/
def keeps (js : List Nat) (σ σ2 : L2.St) : Prop := σ2.length = σ.length ∧ ∀ i, i ∉ js → σ2[i]? = σ[i]?
def TgN (b : Bool) (g : TG) (js : List Nat) (Γ : Ctx) (d : PyData) (R : Ctx → Prop) : Prop := ∀ F H σ x, En F H σ Γ → Rq b F x d → ∀ Q : L2.St → Hp → Prop, (∀ σ2 Γ2, En F H σ2 Γ2 → bagsIn Γ2 Γ → keeps js σ σ2 → R Γ2 → Q σ2 H) → g x σ H Q
def TgsN (g : TGs) (js : List Nat) (Γ : Ctx) (ds : List PyData) (R : Ctx → Prop) : Prop := ∀ F H σ xs, En F H σ Γ → RpAll F xs ds → ∀ Q : L2.St → Hp → Prop, (∀ σ2 Γ2, En F H σ2 Γ2 → bagsIn Γ2 Γ → keeps js σ σ2 → R Γ2 → Q σ2 H) → g xs σ H Q
section
variable {Γ : Ctx} {d : PyData} {ds : List PyData} {R : Ctx → Prop} {K : PySem.W.Frag}
theorem tgn_name {j : Nat} (q : R (Γ.set j (.val d))) : TgN false (gName j) [j] Γ d R := fun F H σ x E r Q k =>
  k _ _ (E.put j (s := .val d) ⟨x, rfl, r.rp⟩ rfl) (bags_put rfl) ⟨List.length_set .., fun i hi => List.getElem?_set_ne fun e => hi (by simp [e])⟩ q
theorem tgsn_nil (q : R Γ) : TgsN gNil [] Γ [] R := fun F H σ xs E r Q k => by
  cases r
  exact ⟨rfl, k σ Γ E (fun _ m _ => m) ⟨rfl, fun _ _ => rfl⟩ q⟩
theorem tgsn_cons {g : TG} {gs : TGs} {js ks : List Nat} (h : TgN false g js Γ d fun Γ2 => TgsN gs ks Γ2 ds R) : TgsN (gCons g gs) (js ++ ks) Γ (d :: ds) R := fun F H σ xs E r Q k => by
  cases r with
  | cons r1 rr =>
    refine ⟨_, _, rfl, h F H σ _ E (.inl r1) _ fun σ2 Γ2 E2 b2 k2 p2 => p2 F H σ2 _ E2 rr Q fun σ3 Γ3 E3 b3 k3 p3 => ?_⟩
    exact k σ3 Γ3 E3 (fun t m n => b2 t (b3 t m n) n) ⟨k3.1.trans k2.1, fun i hi => (k3.2 i fun z => hi (List.mem_append_right _ z)).trans (k2.2 i fun z => hi (List.mem_append_left _ z))⟩ p3
theorem tgn_tup {b : Bool} {g : TGs} {n : Nat} {js : List Nat} (hn : ds.length = n) (h : TgsN g js Γ ds R) : TgN b (gTup K n g) js Γ (.tuple ds) R := fun F H σ x E r Q k => by
  obtain ⟨a, xs, rfl, ha, ra⟩ := Rq.tup (K := K) E.ex r
  exact ⟨a, xs, rfl, ha, by rw [ra.length]; exact hn, h F H σ xs E ra Q k⟩
end

/-! ### list comprehensions -/
def wts (X : Cx) (ifs : List Expr) : TT := fun σ H Q => ∀ (pins : List (Addr × Obj)) (s : Shared), Inv X pins σ H s →
  wpAny (model X.prog X.w) X.A (forIn ifs true fun c r => if r = true then do let ok ← isTrue c X.env (eval c X.env); pure (ForInStep.yield ok) else pure (ForInStep.yield r)) (TP X pins σ Q) X.xe s
def Nts (X : Cx) (ifs : List Expr) (Γ : Ctx) (R : Bool → Prop) : Prop := ∀ F H σ, En F H σ Γ → ∀ Q : Bool → Hp → Prop, (∀ b F' H', Gr Γ F H F' H' → R b → Q b H') → wts X ifs σ H Q
theorem nts_nil {X : Cx} {Γ : Ctx} {R : Bool → Prop} (q : R true) : Nts X [] Γ R := fun F H σ E Q k pins s I => pts_nil.run pins s σ H Q I (k true F H (.refl E) q)
theorem nts_one {X : Cx} {c : Expr} {Γ : Ctx} {R : Bool → Prop} (h : Nt X c Γ R) : Nts X [c] Γ R := fun F H σ E Q k pins s I => (pts_one pt_wt).run pins s σ H Q I (h F H σ E Q k)
/-- a comprehension's block, whatever frame it has -/
abbrev Blk (X : Cx) (scope : Scope) (T : Cx → Prop) : Prop := ∀ (s : Shared) (H : Hp) (C : Addr) (cl : List (Str × Addr)) (fp : List Addr), T (X.blk s H scope (compEnvC scope cl C X.env) fp)
def weB (X : Cx) (scope : Scope) (e : Expr) : TE := fun σ H Q => Blk X scope fun Y => we Y e σ H Q
def wtsB (X : Cx) (scope : Scope) (ifs : List Expr) : TT := fun σ H Q => Blk X scope fun Y => wts Y ifs σ H Q
def wipeC (Γ : Ctx) : List Nat → Ctx
  | [] => Γ
  | v :: vs => (wipeC Γ vs).set v .no
theorem En.wipe {F H : Hp} {σ : L2.St} {Γ : Ctx} (E : En F H σ Γ) : ∀ vs : List Nat, En F H (L2.wipe σ vs) (wipeC Γ vs)
  | [] => E
  | v :: vs => (En.wipe E vs).put v (ov := none) (s := .no) trivial rfl
theorem bags_wipe (Γ : Ctx) : ∀ vs : List Nat, bagsIn (wipeC Γ vs) Γ
  | [] => fun _ m _ => m
  | v :: vs => fun t m n => bags_wipe Γ vs t (bags_put rfl t m n) n
theorem wipe_get (σ : L2.St) : ∀ (vs : List Nat) (i : Nat), (L2.wipe σ vs)[i]? = if i ∈ vs then σ[i]?.map fun _ => none else σ[i]?
  | [], i => by simp [L2.wipe]
  | v :: vs, i => by
    show ((L2.wipe σ vs).set v none)[i]? = _
    have ih := wipe_get σ vs i
    by_cases h : v = i
    · subst h
      rw [if_pos List.mem_cons_self, List.getElem?_set]
      by_cases hl : v < σ.length
      · simp [L2.wipe_length, hl, List.getElem?_eq_getElem hl]
      · simp [L2.wipe_length, hl, List.getElem?_eq_none (Nat.le_of_not_lt hl)]
    · rw [List.getElem?_set_ne h, ih]
      have h' : i ≠ v := fun z => h z.symm
      simp [h']
theorem wipe_keeps {σ σ2 : L2.St} {js vs : List Nat} (k : keeps js (L2.wipe σ vs) σ2) (hj : ∀ j ∈ js, j ∈ vs) : L2.wipe σ2 vs = L2.wipe σ vs := by
  apply List.ext_getElem?
  intro i
  rw [wipe_get, wipe_get]
  by_cases h : i ∈ vs
  · rw [if_pos h, if_pos h]
    have hl : σ2.length = σ.length := k.1.trans (L2.wipe_length σ vs)
    by_cases hi : i < σ.length
    · rw [List.getElem?_eq_getElem hi, List.getElem?_eq_getElem (by omega)]
      rfl
    · rw [List.getElem?_eq_none (by omega), List.getElem?_eq_none (by omega)]
  · rw [if_neg h, if_neg h, k.2 i fun z => h (hj i z), wipe_get, if_neg h]
theorem Gr.sub {Γ Γ2 : Ctx} {F H F' H' : Hp} {σ : L2.St} (E : En F H σ Γ) (b : bagsIn Γ2 Γ) (g : Gr Γ2 F H F' H') : Gr Γ F H F' H' := by
  refine ⟨g.sF, g.ex, fun a o e n => g.fr a o e fun c hc => n c (b.bag hc), g.nw, fun p c m => ?_⟩
  by_cases h : ∃ c', Sd.bag p c' ∈ Γ2
  · obtain ⟨c', hc⟩ := h
    obtain ⟨i, hi⟩ := ctx_mem m
    obtain ⟨j, hj⟩ := ctx_mem (b.bag hc)
    have := E.sep i j _ _ p hi hj (by simp [Sd.addrs]) (by simp [Sd.addrs])
    subst this
    rw [hi] at hj
    cases hj
    exact g.bg p c hc
  · obtain ⟨s0, s1, s2, e, r⟩ := (E.bag m).2
    exact ⟨s0, s1, s2, g.fr p _ e fun c' hc => h ⟨c', hc⟩, r⟩
/-- one turn: the tests, then the element -/
def LcT (X : Cx) (scope : Scope) (ifs : List Expr) (elt : Expr) (Γ : Ctx) (no : Prop) (yes : PyData → Prop) : Prop := Blk X scope fun Y => Nts Y ifs Γ fun b => if b = true then Blk X scope (fun Z => Nd Z elt Γ yes) else no
section
variable {b : Bool} {X : Cx} {elt tg iter : Expr} {ifs : List Expr} {scope : Scope} {own : List (Str × Nat)} {Γ : Ctx} {P A : List PyData → Prop} {pos : Pos} {g : TG} {js : List Nat}
/-- what a comprehension asks: an invariant of the list so far -/
def LcOk (b : Bool) (X : Cx) (elt : Expr) (ifs : List Expr) (scope : Scope) (vs : List Nat) (g : TG) (js : List Nat) (Γ : Ctx) (ds : List PyData) (A : List PyData → Prop) : Prop :=
  ds.length ≤ 100000 ∧ ∃ J : Nat → List PyData → Prop, J 0 [] ∧ (∀ i d acc, ds[i]? = some d → J i acc → TgN b g js (wipeC Γ vs) d fun Γ2 => LcT X scope ifs elt Γ2 (J (i + 1) acc) fun y => J (i + 1) (acc ++ [y])) ∧ ∀ acc, J ds.length acc → A acc
theorem lc_run (hi : NI b X tg iter Γ fun ds => LcOk b X elt ifs scope (own.map (·.2)) g js Γ ds A) (hj : ∀ j ∈ js, j ∈ own.map (·.2)) {F H : Hp} {σ : L2.St} (E : En F H σ Γ) {Q : VK}
    (k : ∀ p vs xs F' H', Gr Γ F H F' H' → H p = none → F' p = none → H' p = some (.lst vs) → RpAll F' vs xs → A xs → Q (.ref p) H') :
    tLc (wI X tg iter) g (wtsB X scope ifs) (weB X scope elt) (own.map (·.2)) σ H Q := by
  refine hi F H σ E _ fun J F1 H1 ds g1 wk ⟨hz, Jv, j0, hstep, hend⟩ => ?_
  intro D hD
  have E1 := E.grow g1
  have hF1 : F1 D = none := E1.ex.free hD
  have hDb : ∀ c, Sd.bag D c ∉ Γ := fun c m => (E1.bag m).2.some hD
  let St : Nat → Hp → Prop := fun i H' => ∃ F' vs acc, Gr Γ F1 H1 F' H' ∧ F' D = none ∧ H' D = some (.lst vs) ∧ RpAll F' vs acc ∧ acc.length ≤ i ∧ Jv i acc
  refine ⟨fun i m H' => m = ds.length - i ∧ i ≤ ds.length ∧ St i H', ⟨ds.length, rfl, Nat.zero_le _, F1, [], [], Gr.mine E1 hD, hF1, upd_same, .nil, Nat.le_refl _, j0⟩, ?_⟩
  rintro i m H' ⟨rfl, hi', F', vs, acc, g2, nF, hH, r, hl, jv⟩
  by_cases hlt : i < ds.length
  · refine .inr ⟨wk.go i H' (g2.sF.trans g2.ex) hlt, St (i + 1), fun H2 q => ⟨ds.length - (i + 1), by omega, rfl, hlt, q⟩, fun x H2 y => ?_⟩
    obtain ⟨F2, d, hd, g3, rx⟩ := wk.yld i F' H' x H2 g2.sF g2.ex hlt y
    have E2 := E1.grow g2
    have g3' : Gr Γ F' H' F2 H2 := Gr.wide E2 g3
    have E3 := E2.grow g3'
    have g4 := g2.trans g3'
    have nF2 : F2 D = none := g3.nw D nF (by rw [hH]; simp)
    have hH2 : H2 D = some (.lst vs) := g3.fr D _ hH fun c m => by simp at m
    refine hstep i d acc hd jv F2 H2 _ x (E3.wipe _) rx _ fun σ2 Γ2 E4 b4 k4 p4 => ⟨wipe_keeps k4 hj, ?_⟩
    have bb : bagsIn Γ2 Γ := fun t m n => bags_wipe Γ _ t (b4 t m n) n
    intro s0 H0 C0 cl0 fp0
    refine p4 s0 H0 C0 cl0 fp0 F2 H2 σ2 E4 _ fun b F3 H3 g5 p5 => ?_
    have g5' : Gr Γ F2 H2 F3 H3 := Gr.sub E3 bb g5
    have nF3 : F3 D = none := g5.nw D nF2 (by rw [hH2]; simp)
    have hH3 : H3 D = some (.lst vs) := g5'.fr D _ hH2 hDb
    have r3 : RpAll F3 vs acc := (r.mono g3.sF _ _).mono g5.sF _ _
    cases b with
    | false =>
      rw [if_neg Bool.false_ne_true]
      exact ⟨F3, vs, acc, g4.trans g5', nF3, hH3, r3, by omega, p5⟩
    | true =>
      rw [if_pos rfl]
      intro s1 H1' C1 cl1 fp1
      refine (show Blk X scope (fun Z => Nd Z elt Γ2 fun y => Jv (i + 1) (acc ++ [y])) from p5) s1 H1' C1 cl1 fp1 F3 H3 σ2 (E4.grow g5) _ fun w F4 H4 y g6 r6 p6 => ?_
      have g6' : Gr Γ F3 H3 F4 H4 := Gr.sub (E3.grow g5') bb g6
      have nF4 : F4 D = none := g6.nw D nF3 (by rw [hH3]; simp)
      have hH4 : H4 D = some (.lst vs) := g6'.fr D _ hH3 hDb
      have r4 : RpAll F4 vs acc := r3.mono g6.sF _ _
      have g7 := (g4.trans g5').trans g6'
      refine ⟨vs, hH4, by rw [r4.length]; exact small' (by omega), F4, vs ++ [w], acc ++ [y], ⟨g7.sF, fun a o e => ?_, fun a o e n => ?_, g7.nw, fun p c m => ?_⟩, nF4, upd_same, r4.snoc r6, by rw [List.length_append, List.length_singleton]; omega, p6⟩
      · rw [upd_ne (ne_of_none e nF4)]
        exact g7.ex a o e
      · rw [upd_ne (ne_of_none e hD)]
        exact g7.fr a o e n
      · obtain ⟨t0, t1, t2, e, q⟩ := g7.bg p c m
        refine ⟨t0, t1, t2, ?_, q⟩
        rw [upd_ne (show p ≠ D from fun z => hDb c (by rw [← z]; exact m))]
        exact e
  · have e : i = ds.length := by omega
    subst e
    exact .inl ⟨wk.stop H' (g2.sF.trans g2.ex), k D vs acc F' H' (g1.trans g2) (back_none g1 hD) nF hH r (hend acc jv)⟩
theorem nl_lc (hc : X.calm = true) (hN : X.N.Nodup) (ok : BlkOk X.N X.env.scope scope own) (hg : Blk X scope fun Y => PG Y tg g) (hj : ∀ j ∈ js, j ∈ own.map (·.2)) (hi : NI b X tg iter Γ fun ds => LcOk b X elt ifs scope (own.map (·.2)) g js Γ ds A)
    (hs : ∀ x, foldedSetIterable iter X.env x = pure x := by intro _; rfl) : Nl X (.ListComp elt [⟨tg, iter, ifs, 0⟩] scope pos) Γ A := fun F H σ E Q k =>
  we_of (pe_lc hc hN pi_wI ok hg (fun s H C cl fp => ⟨fun pins st σ H' Q I h => h s H C cl fp pins st I⟩) (fun s H C cl fp => ⟨fun pins st σ H' Q I h => h s H C cl fp pins st I⟩) hs) (lc_run hi hj E k)
end
end Wm

set_option Elab.async false
set_option linter.all false
set_option maxRecDepth 100000
set_option maxHeartbeats 2000000
/-! Wm.S: statements, blocks. -/
namespace Wm
open PySem PySem.Spec L2

/-- where a def began: what was known, what stood, which lists of its caller's it may change -/
structure Bs where
  F0 : Hp
  H0 : Hp
  M : List Addr
structure EnB (B : Bs) (F H : Hp) (σ : L2.St) (Γ : Ctx) : Prop where
  en : En F H σ Γ
  f0 : Same B.F0 F
  fr : ∀ a o, B.H0 a = some o → a ∉ B.M → H a = some o
  nw : ∀ a, B.F0 a = none → B.H0 a ≠ none → F a = none
  mv : ∀ s, s ∈ Γ → ∀ q, q ∈ s.addrs → q ∈ B.M ∨ B.H0 q = none
  al : ∀ a, B.H0 a ≠ none → H a ≠ none
section
variable {B : Bs} {F H F' H' : Hp} {σ : L2.St} {Γ : Ctx}
theorem EnB.grow (E : EnB B F H σ Γ) (g : Gr Γ F H F' H') : EnB B F' H' σ Γ := by
  refine ⟨E.en.grow g, E.f0.trans g.sF, fun a o e n => g.fr a o (E.fr a o e n) fun c m => ?_, fun a e n => g.nw a (E.nw a e n) (E.al a n), E.mv, fun a n => g.kept (E.al a n)⟩
  rcases E.mv _ m a (by simp [Sd.addrs]) with h | h
  · exact n h
  · rw [h] at e
    cases e
theorem EnB.put (E : EnB B F H σ Γ) (j : Nat) {ov : Option V} {s : Sd} (h : SlOk F H ov s) (hs : s.addrs = []) : EnB B F H (σ.set j ov) (Γ.set j s) := by
  refine ⟨E.en.put j h hs, E.f0, E.fr, E.nw, fun t m q hq => ?_, E.al⟩
  rcases List.mem_or_eq_of_mem_set m with m | e
  · exact E.mv t m q hq
  · subst e
    rw [hs] at hq
    cases hq
theorem EnB.val (E : EnB B F H σ Γ) (j : Nat) {v : V} {d : PyData} (r : Rp F v d) : EnB B F H (σ.set j (some v)) (Γ.set j (.val d)) := E.put j ⟨v, rfl, r⟩ rfl
theorem EnB.tgt {σ2 : L2.St} {Γ2 : Ctx} (E : EnB B F H σ Γ) (E2 : En F H σ2 Γ2) (b : bagsIn Γ2 Γ) : EnB B F H σ2 Γ2 :=
  ⟨E2, E.f0, E.fr, E.nw, fun s m q hq => E.mv s (b s m (List.ne_nil_of_mem hq)) q hq, E.al⟩
theorem own_new {p : Addr} {vs : List V} {xs : List PyData} {j : Nat} (E : EnB B F H σ Γ) (hp : ∀ s, s ∈ Γ → p ∉ s.addrs) (h0 : p ∈ B.M ∨ B.H0 p = none) (nF : F p = none) (hH : H p = some (.lst vs)) (r : RpAll F vs xs) : EnB B F H (σ.set j (some (.ref p))) (Γ.set j (.own p xs)) := by
  refine ⟨⟨by rw [List.length_set, List.length_set]; exact E.en.len, E.en.ex, fun i t ow e1 e2 => ?_, fun i l s1 s2 a e1 e2 m1 m2 => ?_⟩, E.f0, E.fr, E.nw, fun t m q hq => ?_, E.al⟩
  · by_cases hj : j = i
    · subst hj
      have h1 : j < Γ.length := by have := (List.getElem?_eq_some_iff.mp e1).1; rw [List.length_set] at this; exact this
      have h2 : j < σ.length := by rw [E.en.len]; exact h1
      rw [List.getElem?_set_self h1] at e1
      rw [List.getElem?_set_self h2] at e2
      cases e1
      cases e2
      exact ⟨rfl, nF, vs, hH, r⟩
    · rw [List.getElem?_set_ne hj] at e1 e2
      exact E.en.sl i t ow e1 e2
  · have side : ∀ (i : Nat) s', (Γ.set j (.own p xs))[i]? = some s' → (i = j ∧ s' = .own p xs) ∨ (i ≠ j ∧ Γ[i]? = some s') := fun i s' e => by
      by_cases hj : j = i
      · subst hj
        have h1 : j < Γ.length := by have := (List.getElem?_eq_some_iff.mp e).1; rw [List.length_set] at this; exact this
        rw [List.getElem?_set_self h1] at e
        cases e
        exact .inl ⟨rfl, rfl⟩
      · rw [List.getElem?_set_ne hj] at e
        exact .inr ⟨Ne.symm hj, e⟩
    have pe : a ∈ (Sd.own p xs).addrs → a = p := fun m => by simpa [Sd.addrs] using m
    rcases side i s1 e1 with ⟨q1, q2⟩ | ⟨q1, q2⟩ <;> rcases side l s2 e2 with ⟨q3, q4⟩ | ⟨q3, q4⟩
    · rw [q1, q3]
    · subst q2
      rw [pe m1] at m2
      exact absurd m2 (hp s2 (List.mem_of_getElem? q4))
    · subst q4
      rw [pe m2] at m1
      exact absurd m1 (hp s1 (List.mem_of_getElem? q2))
    · exact E.en.sep i l s1 s2 a q2 q4 m1 m2
  · rcases List.mem_or_eq_of_mem_set m with m | e
    · exact E.mv t m q hq
    · subst e
      have e2 : q = p := by simpa [Sd.addrs] using hq
      rw [e2]
      exact h0
theorem EnB.new_no {p : Addr} (E : EnB B F H σ Γ) (n : H p = none) : B.H0 p = none := by
  cases e : B.H0 p with
  | none => rfl
  | some o => exact absurd n (E.al p (by rw [e]; simp))
theorem EnB.new_out {p : Addr} {s : Sd} (E : EnB B F H σ Γ) (n : H p = none) (m : s ∈ Γ) (hp : p ∈ s.addrs) : False := by
  obtain ⟨i, hi⟩ := ctx_mem m
  exact (E.en.addr_no hi hp).2 n
/-- a new list stored -/
theorem EnB.own {p : Addr} {vs : List V} {xs : List PyData} (E : EnB B F H σ Γ) (j : Nat) (g : Gr Γ F H F' H') (n : H p = none) (nF : F' p = none) (hH : H' p = some (.lst vs)) (r : RpAll F' vs xs) : EnB B F' H' (σ.set j (some (.ref p))) (Γ.set j (.own p xs)) := by
  refine own_new (E.grow g) (fun s m hp => ?_) (.inr ?_) nF hH r
  · obtain ⟨i, hi⟩ := ctx_mem m
    exact (E.en.addr_no hi hp).2 n
  · cases e : B.H0 p with
    | none => rfl
    | some o => exact absurd n (E.al p (by rw [e]; simp))
/-- a list of our own changed -/
theorem EnB.change {p : Addr} {vs : List V} {xs xs' : List PyData} {i : Nat} (E : EnB B F H σ Γ) (hi : Γ[i]? = some (.own p xs)) (r : RpAll F vs xs') : EnB B F (upd H p (.lst vs)) σ (Γ.set i (.own p xs')) := by
  obtain ⟨ov, h1, rfl, nF, vs0, hH, r0⟩ := E.en.at hi
  have hil : i < Γ.length := (List.getElem?_eq_some_iff.mp hi).1
  have sepi : ∀ (j : Nat) s, i ≠ j → Γ[j]? = some s → p ∉ s.addrs := fun j s hj e m => hj (E.en.sep i j _ s p hi e (by simp [Sd.addrs]) m)
  have back : ∀ (j : Nat) s, i ≠ j → (Γ.set i (.own p xs'))[j]? = some s → Γ[j]? = some s := fun j s hj e => by
    rw [List.getElem?_set_ne hj] at e
    exact e
  refine ⟨⟨by rw [List.length_set]; exact E.en.len, fun a o e => ?_, fun j s ov e1 e2 => ?_, fun j l s1 s2 a e1 e2 m1 m2 => ?_⟩, E.f0, fun a o e n => ?_, E.nw, fun t m q hq => ?_, fun a n => ?_⟩
  · rw [upd_ne (ne_of_none e nF)]
    exact E.en.ex a o e
  · by_cases hj : i = j
    · subst hj
      rw [List.getElem?_set_self hil] at e1
      rw [h1] at e2
      cases e1
      cases e2
      exact ⟨rfl, nF, vs, upd_same, r⟩
    · have e1 := back j s hj e1
      refine (E.en.sl j s ov e1 e2).grow (Same.refl F) (fun a o ha e _ => ?_) (fun a ha => (E.en.addr_no e1 ha).1) (fun q c e => ?_)
      · rw [upd_ne fun z => sepi j s hj e1 (by rw [← z]; exact ha)]
        exact e
      · subst e
        obtain ⟨s0, s1, s2, e, q2⟩ := (E.en.bag (List.mem_of_getElem? e1)).2
        refine ⟨s0, s1, s2, ?_, q2⟩
        rw [upd_ne (show q ≠ p from fun z => sepi j _ hj e1 (by rw [← z]; simp [Sd.addrs]))]
        exact e
  · have same : ∀ (j : Nat) s, (Γ.set i (.own p xs'))[j]? = some s → a ∈ s.addrs → ∃ s', Γ[j]? = some s' ∧ a ∈ s'.addrs := fun j s e m => by
      by_cases hj : i = j
      · subst hj
        rw [List.getElem?_set_self hil] at e
        cases e
        exact ⟨_, hi, m⟩
      · exact ⟨s, back j s hj e, m⟩
    obtain ⟨t1, q1, n1⟩ := same j s1 e1 m1
    obtain ⟨t2, q2, n2⟩ := same l s2 e2 m2
    exact E.en.sep j l t1 t2 a q1 q2 n1 n2
  · have ha : a ≠ p := fun z => by
      rcases E.mv _ (List.mem_of_getElem? hi) p (by simp [Sd.addrs]) with h | h
      · rw [z] at n
        exact n h
      · rw [z, h] at e
        cases e
    rw [upd_ne ha]
    exact E.fr a o e n
  · rcases List.mem_or_eq_of_mem_set m with m | e
    · exact E.mv t m q hq
    · subst e
      exact E.mv _ (List.mem_of_getElem? hi) q hq
  · by_cases ha : a = p
    · rw [ha, upd_same]
      simp
    · rw [upd_ne ha]
      exact E.al a n
/-- a list of our own that nobody will change any more -/
theorem EnB.freeze {p : Addr} {xs : List PyData} {i : Nat} (E : EnB B F H σ Γ) (hi : Γ[i]? = some (.own p xs)) (h0 : p ∉ B.M) : ∃ vs, H p = some (.lst vs) ∧ F p = none ∧ EnB B (upd F p (.lst vs)) H σ (Γ.set i (.val (.list xs))) := by
  obtain ⟨vs, hH, nF, E2⟩ := E.en.lend hi
  have hs : Same F (upd F p (.lst vs)) := fun a o e => by
    rw [upd_ne (ne_of_none e nF)]
    exact e
  have hB : B.H0 p = none := (E.mv _ (List.mem_of_getElem? hi) p (by simp [Sd.addrs])).resolve_left h0
  refine ⟨vs, hH, nF, E2, E.f0.trans hs, E.fr, fun a e n => ?_, fun t m q hq => ?_, E.al⟩
  · have ha : a ≠ p := fun z => by
      rw [z] at n
      exact n hB
    rw [upd_ne ha]
    exact E.nw a e n
  · rcases List.mem_or_eq_of_mem_set m with m | e
    · exact E.mv t m q hq
    · subst e
      cases hq
end

/-! ### judgements -/
structure Po where
  nx : Ctx → Prop
  rt : PyData → Ctx → Prop
  bk : Ctx → Prop := fun _ => False
  ct : Ctx → Prop := fun _ => False
structure EndsOk (B : Bs) (F : Hp) (O : Po) (D : Ends) : Prop where
  nx : ∀ F' H' σ' Γ', Same F F' → EnB B F' H' σ' Γ' → O.nx Γ' → D.nx σ' H'
  rt : ∀ F' H' σ' Γ' v d, Same F F' → EnB B F' H' σ' Γ' → Rp F' v d → O.rt d Γ' → D.rt v H'
  bk : ∀ F' H' σ' Γ', Same F F' → EnB B F' H' σ' Γ' → O.bk Γ' → D.bk σ' H'
  ct : ∀ F' H' σ' Γ', Same F F' → EnB B F' H' σ' Γ' → O.ct Γ' → D.ct σ' H'
theorem EndsOk.later {B : Bs} {F F' : Hp} {O : Po} {D : Ends} (K : EndsOk B F O D) (s : Same F F') : EndsOk B F' O D :=
  ⟨fun F2 H2 σ2 Γ2 q => K.nx F2 H2 σ2 Γ2 (s.trans q), fun F2 H2 σ2 Γ2 v d q => K.rt F2 H2 σ2 Γ2 v d (s.trans q), fun F2 H2 σ2 Γ2 q => K.bk F2 H2 σ2 Γ2 (s.trans q), fun F2 H2 σ2 Γ2 q => K.ct F2 H2 σ2 Γ2 (s.trans q)⟩
def ws (X : Cx) (st : Stmt) : TS := fun D σ H => ∀ (pins : List (Addr × Obj)) (s : Shared), Inv X pins σ H s → wpAny (model X.prog X.w) X.A (exec st X.env) (SP X pins D) X.xe s
def wss (X : Cx) (sts : List Stmt) : TS := fun D σ H => ∀ (pins : List (Addr × Obj)) (s : Shared), Inv X pins σ H s → wpAny (model X.prog X.w) X.A (execs sts X.env) (SP X pins D) X.xe s
theorem ps_ws {X : Cx} {st : Stmt} : PS X st (ws X st) := ⟨fun pins s _ _ _ I h => h pins s I⟩
theorem ws_of {X : Cx} {st : Stmt} {t : TS} {D : Ends} {σ : L2.St} {H : Hp} (h : PS X st t) (q : t D σ H) : ws X st D σ H := fun pins s I => h.run pins s σ H D I q
theorem pss_wss {X : Cx} {sts : List Stmt} : PSs X sts (wss X sts) := ⟨fun pins s _ _ _ I h => h pins s I⟩
theorem wss_of {X : Cx} {sts : List Stmt} {t : TS} {D : Ends} {σ : L2.St} {H : Hp} (h : PSs X sts t) (q : t D σ H) : wss X sts D σ H := fun pins s I => h.run pins s σ H D I q
def E1 (X : Cx) (B : Bs) (st : Stmt) (Γ : Ctx) (O : Po) : Prop := ∀ F H σ, EnB B F H σ Γ → ∀ D, EndsOk B F O D → ws X st D σ H
def Es (X : Cx) (B : Bs) (sts : List Stmt) (Γ : Ctx) (O : Po) : Prop := ∀ F H σ, EnB B F H σ Γ → ∀ D, EndsOk B F O D → wss X sts D σ H
section
variable {bb : Bool} {X : Cx} {B : Bs} {st : Stmt} {rest sts a b : List Stmt} {Γ : Ctx} {O : Po} {e c tg iter : Expr} {pos pos' p : Pos}
theorem es_nil (q : O.nx Γ) : Es X B [] Γ O := fun F H σ E D k => wss_of pss_nil (k.nx F H σ Γ (Same.refl F) E q)
theorem es_cons (h : E1 X B st Γ { O with nx := fun Γ2 => Es X B rest Γ2 O }) : Es X B (st :: rest) Γ O := fun F H σ E D k => wss_of (pss_cons ps_ws pss_wss) (h F H σ E _
  ⟨fun F2 H2 σ2 Γ2 s E2 q => q F2 H2 σ2 E2 D (k.later s), k.rt, k.bk, k.ct⟩)
theorem es_one (h : E1 X B st Γ O) : Es X B [st] Γ O := fun F H σ E D k => wss_of (pss_one ps_ws) (h F H σ E D k)
theorem E1.mono {O' : Po} (h : E1 X B st Γ O) (m1 : ∀ Γ, O.nx Γ → O'.nx Γ) (m2 : ∀ d Γ, O.rt d Γ → O'.rt d Γ) (m3 : ∀ Γ, O.bk Γ → O'.bk Γ) (m4 : ∀ Γ, O.ct Γ → O'.ct Γ) : E1 X B st Γ O' := fun F H σ E D k =>
  h F H σ E D ⟨fun F2 H2 σ2 Γ2 s E2 q => k.nx F2 H2 σ2 Γ2 s E2 (m1 _ q), fun F2 H2 σ2 Γ2 v d s E2 r q => k.rt F2 H2 σ2 Γ2 v d s E2 r (m2 _ _ q), fun F2 H2 σ2 Γ2 s E2 q => k.bk F2 H2 σ2 Γ2 s E2 (m3 _ q), fun F2 H2 σ2 Γ2 s E2 q => k.ct F2 H2 σ2 Γ2 s E2 (m4 _ q)⟩
theorem e1_never (h : False) : E1 X B st Γ O := h.elim
theorem es_freeze {i : Nat} {q : Addr} {xs : List PyData} (hi : Γ[i]? = some (.own q xs)) (h0 : q ∉ B.M) (h : Es X B sts (Γ.set i (.val (.list xs))) O) : Es X B sts Γ O := fun F H σ E D k => by
  obtain ⟨vs, hH, nF, E2⟩ := E.freeze hi h0
  exact h _ H σ E2 D (k.later fun a o e => by
    rw [upd_ne (ne_of_none e nF)]
    exact e)
theorem e1_pass (q : O.nx Γ) : E1 X B (.Pass pos) Γ O := fun F H σ E D k => ws_of ps_pass (k.nx F H σ Γ (Same.refl F) E q)
theorem e1_cont (q : O.ct Γ) : E1 X B (.Continue pos) Γ O := fun F H σ E D k => ws_of ps_continue (k.ct F H σ Γ (Same.refl F) E q)
theorem e1_ret (h : Nd X e Γ fun d => O.rt d Γ) : E1 X B (.Return (some e) pos) Γ O := fun F H σ E D k => ws_of (ps_ret pe_we) (h F H σ E.en _ fun v F2 H2 d g r q => k.rt F2 H2 σ Γ v d g.sF (E.grow g) r q)
theorem e1_drop (h : Nd X e Γ fun d => O.nx Γ) (hs : swapsWith e none pos.line X.env = pure false := by rfl) : E1 X B (.Expr e pos) Γ O := fun F H σ E D k => ws_of (ps_expr pe_we hs) (h F H σ E.en _ fun v F2 H2 d g r q => k.nx F2 H2 σ Γ g.sF (E.grow g) q)
theorem e1_if (h : Nt X c Γ fun t => if t = true then Es X B a Γ O else Es X B b Γ O) : E1 X B (.If c a b pos) Γ O := fun F H σ E D k =>
  ws_of (ps_if pt_wt pss_wss pss_wss) (h F H σ E.en _ fun t F2 H2 g q => by
    cases t with
    | true => exact iteT ((show Es X B a Γ O from q) F2 H2 σ (E.grow g) D (k.later g.sF))
    | false => exact iteF ((show Es X B b Γ O from q) F2 H2 σ (E.grow g) D (k.later g.sF)))
variable {i : Nat} {x : Str}
theorem e1_set (hN : X.N.Nodup) (h : Nd X e Γ fun d => O.nx (Γ.set i (.val d))) (hi : X.N[i]? = some x := by rfl) (hx : Loc X.env.scope x := by first | exact Or.inl rfl | exact Or.inr rfl) (hs : swapsWith e (some (.Name x pos')) pos.line X.env = pure false := by rfl)
    (hf : X.fn x = true ∨ X.env.scope.names.lookup x = some .local := by first | exact .inl rfl | exact .inr rfl) : E1 X B (.Assign [.Name x pos'] e pos) Γ O := fun F H σ E D k =>
  ws_of (ps_set hN hi hx pe_we hs hf) (h F H σ E.en _ fun v F2 H2 d g r q => k.nx F2 H2 _ _ g.sF ((E.grow g).val i r) q)
theorem e1_setL (hN : X.N.Nodup) (h : Nl X e Γ fun xs => ∀ q, q ∉ B.M → O.nx (Γ.set i (.own q xs))) (hi : X.N[i]? = some x := by rfl) (hx : Loc X.env.scope x := by first | exact Or.inl rfl | exact Or.inr rfl) (hs : swapsWith e (some (.Name x pos')) pos.line X.env = pure false := by rfl)
    (hf : X.fn x = true ∨ X.env.scope.names.lookup x = some .local := by first | exact .inl rfl | exact .inr rfl) (hM : ∀ q, q ∈ B.M → B.H0 q ≠ none) : E1 X B (.Assign [.Name x pos'] e pos) Γ O := fun F H σ E D k =>
  ws_of (ps_set hN hi hx pe_we hs hf) (h F H σ E.en _ fun q vs xs F2 H2 g n nF hH r w => k.nx F2 H2 _ _ g.sF (E.own i g n nF hH r) (w q fun m => E.al q (hM q m) n))
variable {elt : Expr} {ifs : List Expr} {scope : Scope} {own : List (Str × Nat)} {g : TG} {js : List Nat}
theorem e1_setLc (hc : X.calm = true) (hN : X.N.Nodup) (hyl : X.env.scope.names.lookup x = some .local) (hsw : swapsWith (.ListComp elt [⟨tg, iter, ifs, 0⟩] scope p) (some (.Name x pos')) pos.line X.env = pure true)
    (ok : BlkOk X.N X.env.scope scope own) (hg : Blk X scope fun Y => PG Y tg g) (hj : ∀ j ∈ js, j ∈ own.map (·.2)) (h : NI bb X tg iter Γ fun ds => LcOk bb X elt ifs scope (own.map (·.2)) g js Γ ds fun xs => O.nx (Γ.set i (.val (.list xs))))
    (hi : X.N[i]? = some x := by rfl) (hs : ∀ x, foldedSetIterable iter X.env x = pure x := by intro _; rfl) : E1 X B (.Assign [.Name x pos'] (.ListComp elt [⟨tg, iter, ifs, 0⟩] scope p) pos) Γ O := fun F H σ E D k =>
  ws_of (ps_setLc hc hN hi hyl hsw pi_wI ok hg (fun s H C cl fp => ⟨fun pins st σ H' Q I h => h s H C cl fp pins st I⟩) (fun s H C cl fp => ⟨fun pins st σ H' Q I h => h s H C cl fp pins st I⟩) hs)
    (lc_run h hj E.en (Q := fun v H1 => gName i v σ H1 D.nx) fun q vs xs F2 H2 g n nF hH r w => by
      have g2 := g.know (o := .lst vs) n nF hH
      have s2 : Same F2 (upd F2 q (.lst vs)) := fun a u z => by
        rw [upd_ne (ne_of_none z nF)]
        exact z
      exact k.nx _ H2 _ _ g2.sF ((E.grow g2).val i (v := .ref q) (d := .list xs) (.lst upd_same (r.mono s2 xs vs))) w)
theorem e1_setLcOwn (hc : X.calm = true) (hN : X.N.Nodup) (hyl : X.env.scope.names.lookup x = some .local) (hsw : swapsWith (.ListComp elt [⟨tg, iter, ifs, 0⟩] scope p) (some (.Name x pos')) pos.line X.env = pure true)
    (ok : BlkOk X.N X.env.scope scope own) (hg : Blk X scope fun Y => PG Y tg g) (hj : ∀ j ∈ js, j ∈ own.map (·.2)) (hM : ∀ q, q ∈ B.M → B.H0 q ≠ none) (h : NI bb X tg iter Γ fun ds => LcOk bb X elt ifs scope (own.map (·.2)) g js Γ ds fun xs => ∀ q, q ∉ B.M → O.nx (Γ.set i (.own q xs)))
    (hi : X.N[i]? = some x := by rfl) (hs : ∀ x, foldedSetIterable iter X.env x = pure x := by intro _; rfl) : E1 X B (.Assign [.Name x pos'] (.ListComp elt [⟨tg, iter, ifs, 0⟩] scope p) pos) Γ O := fun F H σ E D k =>
  ws_of (ps_setLc hc hN hi hyl hsw pi_wI ok hg (fun s H C cl fp => ⟨fun pins st σ H' Q I h => h s H C cl fp pins st I⟩) (fun s H C cl fp => ⟨fun pins st σ H' Q I h => h s H C cl fp pins st I⟩) hs)
    (lc_run h hj E.en (Q := fun v H1 => gName i v σ H1 D.nx) fun q vs xs F2 H2 g n nF hH r w => k.nx F2 H2 _ _ g.sF (E.own i g n nF hH r) (w q fun m => E.al q (hM q m) n))
/-- names told by a tuple -/
theorem e1_asg (h : Nd X e Γ fun d => TgN false g js Γ d O.nx) (hg : PG X tg g) (hs : swapsWithSole [tg] e pos.line X.env = pure false := by rfl) (hw : swappedStores [tg] e X.env = pure none := by rfl) (h1 : (assignEach [tg] X.env).map (·.2) = [assign tg X.env] := by rfl) : E1 X B (.Assign [tg] e pos) Γ O := fun F H σ E D k =>
  ws_of (ps_asg pe_we hg hs hw h1) (h F H σ E.en _ fun v F2 H2 d g r q => q F2 H2 σ v (E.grow g).en (.inl r) _ fun σ3 Γ3 E3 b3 _ q3 => k.nx F2 H2 σ3 Γ3 g.sF ((E.grow g).tgt E3 b3) q3)
theorem e1_for (hc : X.calm = true) (hp : PassesOwn (model X.prog X.w) X.A X.env X.xe) (hg : PG X tg g) (h : NI bb X tg iter Γ fun ds => ∃ I : Nat → Ctx → Prop, I 0 Γ ∧ (∀ i d Γ2, ds[i]? = some d → I i Γ2 → TgN bb g js Γ2 d fun Γ3 => Es X B sts Γ3 ⟨I (i + 1), O.rt, O.nx, I (i + 1)⟩) ∧ ∀ Γ2, I ds.length Γ2 → O.nx Γ2)
    (hs : ∀ x, foldedSetIterable iter X.env x = pure x := by intro _; rfl) : E1 X B (.For tg iter sts [] pos) Γ O := fun F H σ E D k =>
  ws_of (ps_for hp hc pi_wI hg pss_wss hs) (h F H σ E.en _ fun J F1 H1 ds g1 wk ⟨I, i0, hstep, hend⟩ => by
    refine ⟨fun i m σ' H' => m = ds.length - i ∧ i ≤ ds.length ∧ ∃ F' Γ', Same F1 F' ∧ EnB B F' H' σ' Γ' ∧ I i Γ', ⟨ds.length, rfl, Nat.zero_le _, F1, Γ, Same.refl _, E.grow g1, i0⟩, ?_⟩
    rintro i m σ' H' ⟨rfl, hi, F', Γ', s', E', q⟩
    by_cases hlt : i < ds.length
    · refine .inr ⟨wk.go i H' (s'.trans E'.en.ex) hlt, fun σ2 H2 => ∃ F2 Γ2, Same F1 F2 ∧ EnB B F2 H2 σ2 Γ2 ∧ I (i + 1) Γ2, fun σ2 H2 z => ⟨ds.length - (i + 1), by omega, rfl, hlt, z⟩, fun y H2 hy => ?_⟩
      obtain ⟨F2, d, hd, g2, ry⟩ := wk.yld i F' H' y H2 s' E'.en.ex hlt hy
      have E2 := E'.grow (Gr.wide E'.en g2)
      refine hstep i d Γ' hd q F2 H2 σ' y E2.en ry _ fun σ3 Γ3 E3 b3 _ q3 => ?_
      have s2 : Same F1 F2 := s'.trans g2.sF
      have sK : Same F F2 := g1.sF.trans s2
      exact q3 F2 H2 σ3 (E2.tgt E3 b3) _ ⟨fun F4 H4 σ4 Γ4 s4 E4 q4 => ⟨F4, Γ4, s2.trans s4, E4, q4⟩, fun F4 H4 σ4 Γ4 v d s4 => k.rt F4 H4 σ4 Γ4 v d (sK.trans s4), fun F4 H4 σ4 Γ4 s4 => k.nx F4 H4 σ4 Γ4 (sK.trans s4), fun F4 H4 σ4 Γ4 s4 E4 q4 => ⟨F4, Γ4, s2.trans s4, E4, q4⟩⟩
    · have e : i = ds.length := by omega
      subst e
      exact .inl ⟨wk.stop H' (s'.trans E'.en.ex), k.nx F' H' σ' Γ' (g1.sF.trans s') E' (hend Γ' q)⟩)
theorem e1_while (hp : PassesOwn (model X.prog X.w) X.A X.env X.xe) (I : Nat → Ctx → Prop) (m0 : Nat) (h0 : I m0 Γ)
    (h : ∀ m Γ2, I m Γ2 → Nt X c Γ2 fun t => if t = true then Es X B sts Γ2 ⟨fun Γ3 => ∃ m', m' < m ∧ I m' Γ3, O.rt, O.nx, fun Γ3 => ∃ m', m' < m ∧ I m' Γ3⟩ else O.nx Γ2) : E1 X B (.While c sts [] pos) Γ O := fun F H σ E D k =>
  ws_of (ps_while hp pt_wt pss_wss) (by
    refine ⟨fun m σ' H' => ∃ F' Γ', Same F F' ∧ EnB B F' H' σ' Γ' ∧ I m Γ', ⟨m0, F, Γ, Same.refl _, E, h0⟩, ?_⟩
    rintro m σ' H' ⟨F', Γ', s', E', q⟩
    refine h m Γ' q F' H' σ' E'.en _ fun t F2 H2 g2 q2 => ?_
    have E2 := E'.grow g2
    have s2 := s'.trans g2.sF
    cases t with
    | true =>
      refine iteT ⟨fun σ3 H3 => ∃ m', m' < m ∧ ∃ F3 Γ3, Same F F3 ∧ EnB B F3 H3 σ3 Γ3 ∧ I m' Γ3, fun σ3 H3 ⟨m', hm, z⟩ => ⟨m', hm, z⟩, ?_⟩
      exact (show Es X B sts Γ' _ from q2) F2 H2 σ' E2 _ ⟨fun F4 H4 σ4 Γ4 s4 E4 ⟨m', hm, q4⟩ => ⟨m', hm, F4, Γ4, s2.trans s4, E4, q4⟩, fun F4 H4 σ4 Γ4 v d s4 => k.rt F4 H4 σ4 Γ4 v d (s2.trans s4), fun F4 H4 σ4 Γ4 s4 => k.nx F4 H4 σ4 Γ4 (s2.trans s4), fun F4 H4 σ4 Γ4 s4 E4 ⟨m', hm, q4⟩ => ⟨m', hm, F4, Γ4, s2.trans s4, E4, q4⟩⟩
    | false => exact iteF (k.nx F2 H2 σ' Γ' s2 E2 (show O.nx Γ' from q2)))

/-! ### lists of our own changed -/
variable {q : Addr} {xs : List PyData} {apos : Pos}
theorem own_ty {K : PySem.W.Frag} {H : Hp} {vs : List V} (h : H q = some (.lst vs)) : tyV K "list" (.ref q) H := .inl ⟨rfl, vs, .of h⟩
theorem e1_append (hi : Γ[i]? = some (.own q xs)) (h : Nd X e Γ fun d => xs.length < 100000 ∧ O.nx (Γ.set i (.own q (xs ++ [d]))))
    (hpe : PE X (.Call (.Attribute (.Name x p) "append" apos) [e] [] pos) (tBM X.K "list" rAppend (tVar i) (tCons (we X e) tNil)) := by exact pe_bm PySem.F.plainAttrs_list PySem.F.slot_list_append PySem.F.type_list_append mt_append (pv _) (pa_cons pe_we pa_nil))
    (hs : swapsWith (.Call (.Attribute (.Name x p) "append" apos) [e] [] pos) none pos'.line X.env = pure false := by rfl) : E1 X B (.Expr (.Call (.Attribute (.Name x p) "append" apos) [e] [] pos) pos') Γ O := fun F H σ E D k => by
  obtain ⟨ov, h1, rfl, nF, vs, hH, r0⟩ := E.en.at hi
  refine ws_of (ps_expr hpe hs) ⟨.ref q, h1, own_ty hH, ?_⟩
  refine h F H σ E.en _ fun v F2 H2 d g r ⟨hz, w⟩ => ?_
  have E2 := E.grow g
  obtain ⟨ov2, h2, e2, nF2, vs2, hH2, r2⟩ := E2.en.at hi
  rw [h1] at h2
  cases h2
  exact ⟨q, vs2, v, rfl, rfl, hH2, by rw [r2.length]; exact small' (by omega), k.nx F2 _ σ _ g.sF (E2.change hi (r2.snoc r)) w⟩
theorem e1_extend (hi : Γ[i]? = some (.own q xs)) (h : Nd X e Γ fun d => ∃ ys, d = .list ys ∧ xs.length + ys.length ≤ 100000 ∧ O.nx (Γ.set i (.own q (xs ++ ys))))
    (hpe : PE X (.Call (.Attribute (.Name x p) "extend" apos) [e] [] pos) (tBM X.K "list" rExtend (tVar i) (tCons (we X e) tNil)) := by exact pe_bm PySem.F.plainAttrs_list PySem.F.slot_list_extend PySem.F.type_list_extend mt_extend (pv _) (pa_cons pe_we pa_nil))
    (hs : swapsWith (.Call (.Attribute (.Name x p) "extend" apos) [e] [] pos) none pos'.line X.env = pure false := by rfl) : E1 X B (.Expr (.Call (.Attribute (.Name x p) "extend" apos) [e] [] pos) pos') Γ O := fun F H σ E D k => by
  obtain ⟨ov, h1, rfl, nF, vs, hH, r0⟩ := E.en.at hi
  refine ws_of (ps_expr hpe hs) ⟨.ref q, h1, own_ty hH, ?_⟩
  refine h F H σ E.en _ fun v F2 H2 d g r ⟨ys, ed, hz, w⟩ => ?_
  subst ed
  have E2 := E.grow g
  obtain ⟨ov2, h2, e2, nF2, vs2, hH2, r2⟩ := E2.en.at hi
  rw [h1] at h2
  cases h2
  obtain ⟨b, us, rfl, hb, rb⟩ := rp_lst r
  exact ⟨q, b, vs2, us, rfl, rfl, hH2, E2.en.ex _ _ hb, by rw [r2.length, rb.length]; exact small hz, k.nx F2 _ σ _ g.sF (E2.change hi (r2.append rb)) w⟩
theorem e1_insert {e2 : Expr} (hi : Γ[i]? = some (.own q xs)) (h : Na X [e, e2] Γ fun ds => ∃ (n : Int) (d : PyData), ds = [.int n, d] ∧ (0 ≤ n ∧ n < 2 ^ 63) ∧ xs.length < 100000 ∧ O.nx (Γ.set i (.own q (xs.take n.toNat ++ [d] ++ xs.drop n.toNat))))
    (hpe : PE X (.Call (.Attribute (.Name x p) "insert" apos) [e, e2] [] pos) (tBM X.K "list" (fun x vs H Q => ∃ (l : Addr) (xs : List V) (i : Int) (y : V), x = .ref l ∧ vs = [.int i, y] ∧ H l = some (.lst xs) ∧ xs.length < sizeLine ∧ 0 ≤ i ∧ i < 2 ^ 63 ∧
      Q .non (upd H l (.lst (xs.take i.toNat ++ [y] ++ xs.drop i.toNat)))) (tVar i) (wa X [e, e2])) := by exact pe_bm PySem.F.plainAttrs_list PySem.F.slot_list_insert PySem.F.type_list_insert mt_insert (pv _) pa_wa)
    (hs : swapsWith (.Call (.Attribute (.Name x p) "insert" apos) [e, e2] [] pos) none pos'.line X.env = pure false := by rfl) : E1 X B (.Expr (.Call (.Attribute (.Name x p) "insert" apos) [e, e2] [] pos) pos') Γ O := fun F H σ E D k => by
  obtain ⟨ov, h1, rfl, nF, vs, hH, r0⟩ := E.en.at hi
  refine ws_of (ps_expr hpe hs) ⟨.ref q, h1, own_ty hH, ?_⟩
  refine h F H σ E.en _ fun us F2 H2 ds g r ⟨n, d, ed, ⟨n0, n1⟩, hz, w⟩ => ?_
  subst ed
  have E2 := E.grow g
  obtain ⟨ov2, h2, e2, nF2, vs2, hH2, r2⟩ := E2.en.at hi
  rw [h1] at h2
  cases h2
  obtain ⟨v1, v2, rfl, rv1, rv2⟩ := rp2 r
  exact ⟨q, vs2, n, v2, rfl, by rw [rp_int rv1], hH2, by rw [r2.length]; exact small' (by omega), n0, n1, k.nx F2 _ σ _ g.sF (E2.change hi (((r2.take _).append (.cons rv2 .nil)).append (r2.drop _))) w⟩
/-- x[e2] = e -/
theorem e1_item {e2 : Expr} (hi : Γ[i]? = some (.own q xs)) (h : Nd X e Γ fun d => Nd X e2 Γ fun y => ∃ (n : Int) (j : Nat), y = .int n ∧ ixN xs.length n = some j ∧ O.nx (Γ.set i (.own q (xs.set j d))))
    (hpg : PG X (.Subscript (.Name x p) e2 pos') (gSub (tVar i) (we X e2) rSetL) := by exact pg_sub (pv _) pe_we set_list)
    (hs : swapsWithSole [.Subscript (.Name x p) e2 pos'] e pos.line X.env = pure false := by rfl) (hw : swappedStores [.Subscript (.Name x p) e2 pos'] e X.env = pure none := by rfl)
    (ha : (assignEach [.Subscript (.Name x p) e2 pos'] X.env).map (·.2) = [assign (.Subscript (.Name x p) e2 pos') X.env] := by rfl) : E1 X B (.Assign [.Subscript (.Name x p) e2 pos'] e pos) Γ O := fun F H σ E D k => by
  refine ws_of (ps_asg pe_we hpg hs hw ha) ?_
  refine h F H σ E.en _ fun v F1 H1 d g1 r1 w1 => ?_
  have E1' := E.grow g1
  obtain ⟨ov, h1, rfl, nF, vs, hH, r0⟩ := E1'.en.at hi
  refine ⟨.ref q, h1, ?_⟩
  refine w1 F1 H1 σ E1'.en _ fun u F2 H2 y g2 r2 ⟨n, j, ey, hj, w⟩ => ?_
  subst ey
  have E2 := E1'.grow g2
  obtain ⟨ov2, h2, e3, nF2, vs2, hH2, r3⟩ := E2.en.at hi
  rw [h1] at h2
  cases h2
  exact ⟨q, vs2, n, j, rfl, rp_int r2, hH2, by rw [r3.length]; exact hj, k.nx F2 _ σ _ (g1.sF.trans g2.sF) (E2.change hi (r3.set (r1.mono g2.sF _ _) j)) w⟩
/-! ### two names told by two expressions -/
variable {i' : Nat} {e' : Expr}
def M2 (X : Cx) (st : Stmt) (e e' : Expr) (i i' : Nat) : Prop := ∀ (D : Ends) (σ : L2.St) (H : Hp), wa X [e, e'] σ H (fun vs H1 => ∃ v w, vs = [v, w] ∧ D.nx ((σ.set i (some v)).set i' (some w)) H1 ∧ ∀ z, H1 z = none → D.nx ((σ.set i (some v)).set i' (some w)) (upd H1 z (.tup vs))) → ws X st D σ H
theorem m2_par {y : Str} {px py pt pt2 : Pos} {kt k2} (hc : X.calm = true) (hN : X.N.Nodup) (hij : i ≠ i') (hw : swappedStores [.Tuple [.Name x px, .Name y py] kt pt] (.Tuple [e, e'] k2 pt2) X.env = pure (some [x, y])) (hi : X.N[i]? = some x := by rfl) (hj : X.N[i']? = some y := by rfl)
    (hx : X.env.scope.names.lookup x = some .local := by rfl) (hy : X.env.scope.names.lookup y = some .local := by rfl) (hs : swapsWithSole [.Tuple [.Name x px, .Name y py] kt pt] (.Tuple [e, e'] k2 pt2) pos.line X.env = pure false := by rfl) :
    M2 X (.Assign [.Tuple [.Name x px, .Name y py] kt pt] (.Tuple [e, e'] k2 pt2) pos) e e' i i' := fun D σ H h =>
  ws_of (ps_par hc hN hi hj hij hx hy pa_wa hw hs) (fun pos pins s I => thn (h pos pins s I) fun us s1 ⟨vs, H1, I1, r, v, w, ev, q, _⟩ => ⟨vs, H1, I1, r, v, w, ev, q⟩)
theorem m2_tup {y : Str} {px py pt pt2 : Pos} {kt k2} (hc : X.calm = true) (hN : X.N.Nodup) (hw : swappedStores [.Tuple [.Name x px, .Name y py] kt pt] (.Tuple [e, e'] k2 pt2) X.env = pure none) (hi : X.N[i]? = some x := by rfl) (hj : X.N[i']? = some y := by rfl)
    (hx : Loc X.env.scope x := by first | exact Or.inl rfl | exact Or.inr rfl) (hy : Loc X.env.scope y := by first | exact Or.inl rfl | exact Or.inr rfl) (hs : swapsWithSole [.Tuple [.Name x px, .Name y py] kt pt] (.Tuple [e, e'] k2 pt2) pos.line X.env = pure false := by rfl)
    (hpg : PG X (.Tuple [.Name x px, .Name y py] kt pt) (gTup X.K 2 (gCons (gName i) (gCons (gName i') gNil))) := by exact pg_tup rfl (pgs_cons (pg_name (by assumption) rfl (by assumption)) (pgs_cons (pg_name (by assumption) rfl (by assumption)) pgs_nil)))
    (h1 : (assignEach [.Tuple [.Name x px, .Name y py] kt pt] X.env).map (·.2) = [assign (.Tuple [.Name x px, .Name y py] kt pt) X.env] := by rfl) :
    M2 X (.Assign [.Tuple [.Name x px, .Name y py] kt pt] (.Tuple [e, e'] k2 pt2) pos) e e' i i' := fun D σ H h =>
  ws_of (ps_asg (pe_tup pa_wa) hpg hs hw h1) (fun pos pins s I => thn (h pos pins s I) fun us s1 ⟨vs, H1, I1, r, v, w, ev, _, q⟩ => by
    refine ⟨vs, H1, I1, r, ?_⟩
    subst ev
    exact ⟨by show 2 ≤ sizeLine; decide, fun z hz => ⟨z, [v, w], rfl, .of upd_same, rfl, v, [w], rfl, w, [], rfl, rfl, q z hz⟩⟩)
theorem EnB.more {F H : Hp} {σ : L2.St} {z : Addr} {o : HO} (E : EnB B F H σ Γ) (hz : H z = none) : EnB B F (upd H z o) σ Γ := E.grow (Gr.mine E.en hz)
theorem e1_vv (hm : M2 X st e e' i i') (h : Nd X e Γ fun d => Nd X e' Γ fun d' => O.nx ((Γ.set i (.val d)).set i' (.val d'))) (h1 : starEach [e, e'] X.env = (false, eval e X.env) :: starEach [e'] X.env := by rfl) (h2 : starEach [e'] X.env = (false, eval e' X.env) :: starEach [] X.env := by rfl) : E1 X B st Γ O := fun F H σ E D k => by
  refine hm D σ H (wa_of (pa_cons pe_we (pa_cons pe_we pa_nil h2) h1) ?_)
  refine h F H σ E.en _ fun v F1 H1 d g1 r1 w1 => w1 F1 H1 σ (E.grow g1).en _ fun u F2 H2 d' g2 r2 w2 => ?_
  have E2 := (E.grow g1).grow g2
  have s2 := g1.sF.trans g2.sF
  exact ⟨v, u, rfl, k.nx F2 H2 _ _ s2 ((E2.val i (r1.mono g2.sF _ _)).val i' r2) w2, fun z hz => k.nx F2 _ _ _ s2 (((E2.val i (r1.mono g2.sF _ _)).val i' r2).more hz) w2⟩
theorem e1_vo (hm : M2 X st e e' i i') (hM : ∀ q, q ∈ B.M → B.H0 q ≠ none) (h : Nd X e Γ fun d => Nl X e' Γ fun xs => ∀ q, q ∉ B.M → O.nx ((Γ.set i (.val d)).set i' (.own q xs))) (h1 : starEach [e, e'] X.env = (false, eval e X.env) :: starEach [e'] X.env := by rfl) (h2 : starEach [e'] X.env = (false, eval e' X.env) :: starEach [] X.env := by rfl) : E1 X B st Γ O := fun F H σ E D k => by
  refine hm D σ H (wa_of (pa_cons pe_we (pa_cons pe_we pa_nil h2) h1) ?_)
  refine h F H σ E.en _ fun v F1 H1 d g1 r1 w1 => w1 F1 H1 σ (E.grow g1).en _ fun q vs xs F2 H2 g2 n nF hH r2 w2 => ?_
  have Ea := E.grow g1
  have s2 := g1.sF.trans g2.sF
  have w := w2 q fun m => Ea.al q (hM q m) n
  have Eb : EnB B F2 H2 ((σ.set i (some v)).set i' (some (.ref q))) ((Γ.set i (.val d)).set i' (.own q xs)) := by
    refine own_new ((Ea.grow g2).val i (r1.mono g2.sF _ _)) (fun s m hs => ?_) (.inr (Ea.new_no n)) nF hH r2
    exact Ea.new_out n (bags_put rfl s m (List.ne_nil_of_mem hs)) hs
  exact ⟨v, .ref q, rfl, k.nx F2 H2 _ _ s2 Eb w, fun z hz => k.nx F2 _ _ _ s2 (Eb.more hz) w⟩
theorem e1_ov (hm : M2 X st e e' i i') (hii : i ≠ i') (hM : ∀ q, q ∈ B.M → B.H0 q ≠ none) (h : Nl X e Γ fun xs => Nd X e' Γ fun d' => ∀ q, q ∉ B.M → O.nx ((Γ.set i (.own q xs)).set i' (.val d'))) (h1 : starEach [e, e'] X.env = (false, eval e X.env) :: starEach [e'] X.env := by rfl) (h2 : starEach [e'] X.env = (false, eval e' X.env) :: starEach [] X.env := by rfl) : E1 X B st Γ O := fun F H σ E D k => by
  refine hm D σ H (wa_of (pa_cons pe_we (pa_cons pe_we pa_nil h2) h1) ?_)
  refine h F H σ E.en _ fun q vs xs F1 H1 g1 n nF hH r1 w1 => w1 F1 H1 σ (E.grow g1).en _ fun u F2 H2 d' g2 r2 w2 => ?_
  have Ea := E.grow g1
  have s2 := g1.sF.trans g2.sF
  have w := w2 q fun m => E.al q (hM q m) n
  have nF2 : F2 q = none := g2.nw q nF (by rw [hH]; simp)
  have hH2 : H2 q = some (.lst vs) := g2.fr q _ hH fun c m => E.new_out n m (by simp [Sd.addrs])
  have Eb : EnB B F2 H2 ((σ.set i (some (.ref q))).set i' (some u)) ((Γ.set i (.own q xs)).set i' (.val d')) := by
    refine (own_new (Ea.grow g2) (fun s m hs => E.new_out n m hs) (.inr (E.new_no n)) nF2 hH2 (r1.mono g2.sF _ _)).val i' r2
  exact ⟨.ref q, u, rfl, k.nx F2 H2 _ _ s2 Eb w, fun z hz => k.nx F2 _ _ _ s2 (Eb.more hz) w⟩
end
end Wm

set_option Elab.async false
set_option linter.all false
set_option maxRecDepth 100000
set_option maxHeartbeats 2000000
/-! Wm.F: a def by its body. -/
namespace Wm
open PySem PySem.Spec L2

/-- a def of the text as the top leaves it -/
def Fd (K : PySem.W.Frag) (mg : Str → Option Value) (x : Str) (st : Stmt) : Prop := ∃ f fd, Fun K x x st f fd ∧ mg x = some (.ref f)
/-- how n positional arguments bind -/
def BindN (st : Stmt) (x : Str) (ps : List Str) : Prop := ∀ (kV doc pm : Value) (an : Option Addr) (cdv ct : Value) (us : List Value), us.length = ps.length → bindArgs (PySem.W.fnOf x x (defArgs st) (defBody st) (defScope st) .none kV doc pm an cdv ct) ⟨us, []⟩ = pure (ps.zip us)
/-- the context of a body -/
abbrev Xo (P : Program) (w : World) (K : PySem.W.Frag) (mg : Str → Option Value) (base : Heap) (N : List Str) (x : Str) (st : Stmt) (f : Addr) (cdv : Value) (A : Around) (outer : List Env) (s : Shared) (H : Hp) (E : XK) : Cx :=
  (cxOf CX0 P w K mg base N x (defScope st) f cdv A outer s H E).nox
def ctx0 (N : List Str) (Γ : Ctx) : Ctx := Γ ++ List.replicate (N.length - Γ.length) .no
section
variable {P : Program} {w : World} {K : PySem.W.Frag} {mg : Str → Option Value} {base : Heap} {x : Str} {st : Stmt} {N ps : List Str} {k : Nat}
theorem start_en {F H : Hp} {vs : List V} {Γ : Ctx} (hl : vs.length = Γ.length) (hn : Γ.length ≤ N.length) (E : En F H (vs.map some) Γ) : En F H (L2.start N vs) (ctx0 N Γ) := by
  refine ⟨?_, E.ex, fun i s ov h1 h2 => ?_, fun i j s t a h1 h2 m1 m2 => ?_⟩
  · unfold L2.start ctx0
    rw [List.length_append, List.length_append, List.length_map, List.length_replicate, List.length_replicate, hl]
  · unfold L2.start at h2
    unfold ctx0 at h1
    by_cases hi : i < Γ.length
    · rw [List.getElem?_append_left hi] at h1
      rw [List.getElem?_append_left (by rw [List.length_map]; omega)] at h2
      exact E.sl i s ov h1 h2
    · rw [List.getElem?_append_right (by omega), List.getElem?_replicate] at h1
      split at h1
      · cases h1
        trivial
      · cases h1
  · have side : ∀ (i : Nat) s, (ctx0 N Γ)[i]? = some s → a ∈ s.addrs → Γ[i]? = some s := fun i s e m => by
      unfold ctx0 at e
      by_cases hi : i < Γ.length
      · rw [List.getElem?_append_left hi] at e
        exact e
      · rw [List.getElem?_append_right (by omega), List.getElem?_replicate] at e
        split at e
        · cases e
          cases m
        · cases e
    exact E.sep i j s t a (side i s h1 m1) (side j t h2 m2) m1 m2
theorem vals_en {F H : Hp} (e : Same F H) : ∀ {vs : List V} {ds : List PyData}, RpAll F vs ds → En F H (vs.map some) (ds.map .val) := by
  intro vs ds r
  refine ⟨by rw [List.length_map, List.length_map]; exact r.length, e, fun i s ov h1 h2 => ?_, fun i j s t a h1 h2 m1 m2 => ?_⟩
  · rw [List.getElem?_map] at h1 h2
    cases hd : ds[i]? with
    | none => rw [hd] at h1; cases h1
    | some d =>
      rw [hd] at h1
      cases h1
      obtain ⟨v, hv, rv⟩ := r.get hd
      rw [hv] at h2
      cases h2
      exact ⟨v, rfl, rv⟩
  · rw [List.getElem?_map] at h1
    cases hd : ds[i]? with
    | none => rw [hd] at h1; cases h1
    | some d =>
      rw [hd] at h1
      cases h1
      cases m1
theorem no_addr {Γ : Ctx} (h : ∀ s, s ∈ Γ → s.addrs = []) : ∀ s, s ∈ ctx0 N Γ → s.addrs = [] := fun s m => by
  rcases List.mem_append.mp m with m | m
  · exact h s m
  · rw [List.eq_of_mem_replicate m]
    rfl
/-- a def over data -/
theorem fk_p {sp : Spc} (D : Fd K mg x st) (S : FnScope N ps (defScope st)) (hb : BindN st x ps) (hlen : ∀ ds R, sp ds R → ds.length = ps.length)
    (hbody : ∀ (f : Addr) (cdv : Value) (A : Around) (outer : List Env) (s : Shared) (H : Hp) (E : XK), Room k (A.deeper (PyProof.Rows.envOfC x (defScope st) s.heap.objs.size f cdv)) → ∀ (F : Hp) (ds : List PyData) (R : PyData → Prop), sp ds R →
      Es (Xo P w K mg base N x st f cdv A outer s H E) ⟨F, H, []⟩ (defBody st) (ctx0 N (ds.map .val)) ⟨fun _ => R .none, fun d _ => R d, fun _ => False, fun _ => False⟩) : Fk P w K mg base (k + 1) x (pSp sp) := by
  obtain ⟨f, fd, F0, hm⟩ := D
  refine ⟨f, fd, ps, ?_, hm, F0.kp, F0.binds hb⟩
  refine F0.ok S (fun vs H Q E h => ?_) (fun cdv A outer s H vs Q E hr h => ?_)
  · obtain ⟨F, ds, R, _, r, q, _⟩ := h
    rw [r.length]
    exact hlen ds R q
  · obtain ⟨F, ds, R, sF, r, q, fin⟩ := h
    refine ⟨wss _ (defBody st), pss_wss, ?_⟩
    have hl : (ds.map Sd.val).length = ps.length := by rw [List.length_map]; exact hlen ds R q
    have hpl : ps.length ≤ N.length := by
      have := congrArg List.length S.pre
      rw [List.length_take] at this
      omega
    have hv : ∀ s, s ∈ ds.map Sd.val → s.addrs = [] := fun s m => by
      obtain ⟨d, _, rfl⟩ := List.mem_map.mp m
      rfl
    have E0 : EnB ⟨F, H, []⟩ F H (L2.start N vs) (ctx0 N (ds.map .val)) :=
      ⟨start_en (by rw [r.length, List.length_map]) (by rw [hl]; exact hpl) (vals_en sF r), Same.refl F, fun a o e _ => e, fun a e _ => e, fun s m q hq => absurd hq (by rw [no_addr hv s m]; simp), fun a n => n⟩
    have gr : ∀ {F' H' σ' Γ'}, EnB ⟨F, H, []⟩ F' H' σ' Γ' → Gr [] F H F' H' := fun {F' H' σ' Γ'} E' => ⟨E'.f0, E'.en.ex, fun a o e _ => E'.fr a o e (by simp), E'.nw, fun _ _ m => by simp at m⟩
    exact hbody f cdv A outer s H E hr F ds R q F H _ E0 _ ⟨fun F' H' σ' Γ' _ E' q' => fin .non F' H' .none (gr E') .non q', fun F' H' σ' Γ' v d _ E' r' q' => fin v F' H' d (gr E') r' q', fun _ _ _ _ _ _ z => z.elim, fun _ _ _ _ _ _ z => z.elim⟩
/-- a def whose first argument is the bag -/
theorem fk_b {sp : Spc} (D : Fd K mg x st) (S : FnScope N ps (defScope st)) (hb : BindN st x ps) (hlen : ∀ ds R, sp ds R → ds.length + 1 = ps.length)
    (hbody : ∀ (f : Addr) (cdv : Value) (A : Around) (outer : List Env) (s : Shared) (H : Hp) (E : XK), Room k (A.deeper (PyProof.Rows.envOfC x (defScope st) s.heap.objs.size f cdv)) → ∀ (F : Hp) (b c : Addr), H b ≠ none → ∀ (ds : List PyData) (R : PyData → Prop), sp ds R →
      Es (Xo P w K mg base N x st f cdv A outer s H E) ⟨F, H, [b]⟩ (defBody st) (ctx0 N (.bag b c :: ds.map .val)) ⟨fun Γ => R .none ∧ Sd.bag b c ∈ Γ, fun d Γ => R d ∧ Sd.bag b c ∈ Γ, fun _ => False, fun _ => False⟩) : Fk P w K mg base (k + 1) x (bSp sp) := by
  obtain ⟨f, fd, F0, hm⟩ := D
  refine ⟨f, fd, ps, ?_, hm, F0.kp, F0.binds hb⟩
  refine F0.ok S (fun vs H Q E h => ?_) (fun cdv A outer s H vs Q E hr h => ?_)
  · obtain ⟨F, b, c, ws, ds, R, rfl, _, _, _, _, r, q, _⟩ := h
    rw [List.length_cons, r.length]
    exact hlen ds R q
  · obtain ⟨F, b, c, ws, ds, R, rfl, sF, nF, hc, bg, r, q, fin⟩ := h
    refine ⟨wss _ (defBody st), pss_wss, ?_⟩
    have hl : (ds.map Sd.val).length + 1 = ps.length := by rw [List.length_map]; exact hlen ds R q
    have hpl : ps.length ≤ N.length := by
      have := congrArg List.length S.pre
      rw [List.length_take] at this
      omega
    have hv : ∀ s, s ∈ ds.map Sd.val → s.addrs = [] := fun s m => by
      obtain ⟨d, _, rfl⟩ := List.mem_map.mp m
      rfl
    have Ev := vals_en sF r
    have En0 : En F H ((V.ref b :: ws).map some) (.bag b c :: ds.map .val) := by
      refine ⟨by rw [List.map_cons, List.length_cons, List.length_cons]; exact congrArg (· + 1) Ev.len, sF, fun i s ov h1 h2 => ?_, fun i j s t a h1 h2 m1 m2 => ?_⟩
      · cases i with
        | zero =>
          cases h1
          cases h2
          exact ⟨rfl, nF, hc, bg⟩
        | succ i => exact Ev.sl i s ov h1 h2
      · have z : ∀ (i : Nat) s, (Sd.bag b c :: ds.map Sd.val)[i]? = some s → a ∈ s.addrs → i = 0 := fun i s e m => by
          cases i with
          | zero => rfl
          | succ i =>
            rw [hv s (List.mem_of_getElem? (show (ds.map Sd.val)[i]? = some s from e))] at m
            cases m
        rw [z i s h1 m1, z j t h2 m2]
    have E0 : EnB ⟨F, H, [b]⟩ F H (L2.start N (V.ref b :: ws)) (ctx0 N (.bag b c :: ds.map .val)) := by
      refine ⟨start_en (by rw [List.length_cons, List.length_cons, r.length, List.length_map]) (by rw [List.length_cons]; omega) En0, Same.refl F, fun a o e _ => e, fun a e _ => e, fun s m q hq => ?_, fun a n => n⟩
      rcases List.mem_append.mp m with m | m
      · rcases List.mem_cons.mp m with e | m
        · subst e
          exact .inl hq
        · rw [hv s m] at hq
          cases hq
      · rw [List.eq_of_mem_replicate m] at hq
        cases hq
    have gr : ∀ {F' H' σ' Γ'}, EnB ⟨F, H, [b]⟩ F' H' σ' Γ' → Sd.bag b c ∈ Γ' → Gr [.bag b c] F H F' H' := fun {F' H' σ' Γ'} E' m => ⟨E'.f0, E'.en.ex, fun a o e n => E'.fr a o e fun ha => n c (by rw [List.mem_singleton.mp ha]; exact List.mem_singleton.mpr rfl), E'.nw, fun p c' m' => by
      have e := List.mem_singleton.mp m'
      cases e
      exact (E'.en.bag m).2⟩
    exact hbody f cdv A outer s H E hr F b c bg.some ds R q F H _ E0 _ ⟨fun F' H' σ' Γ' _ E' q' => fin .non F' H' .none (gr E' q'.2) .non q'.1, fun F' H' σ' Γ' v d _ E' r' q' => fin v F' H' d (gr E' q'.2) r' q'.1, fun _ _ _ _ _ _ z => z.elim, fun _ _ _ _ _ _ z => z.elim⟩
end
end Wm

set_option Elab.async false
set_option linter.all false
set_option maxRecDepth 100000
set_option maxHeartbeats 2000000
/-! Wm.G: the rules in the shape that the steps want. -/
namespace Wm
open PySem PySem.Spec L2

abbrev iD (n : Nat) : PyData := .int n
theorem nidx_0 {α : Type} {x : α} {l : List α} : (x :: l)[0]? = some x := rfl
theorem nidx_s {α : Type} {x y : α} {l : List α} {i : Nat} (h : l[i]? = some x) : (y :: l)[i + 1]? = some x := h
theorem xo_N {P : Program} {w : World} {K : PySem.W.Frag} {mg : Str → Option Value} {base : Heap} {N : List Str} {x : Str} {st : Stmt} {f : Addr} {cdv : Value} {A : Around} {outer : List Env} {s : Shared} {H : Hp} {E : XK} : (Xo P w K mg base N x st f cdv A outer s H E).N = N := rfl
theorem xo_S {P : Program} {w : World} {K : PySem.W.Frag} {mg : Str → Option Value} {base : Heap} {N : List Str} {x : Str} {st : Stmt} {f : Addr} {cdv : Value} {A : Around} {outer : List Env} {s : Shared} {H : Hp} {E : XK} : (Xo P w K mg base N x st f cdv A outer s H E).env.scope = defScope st := rfl
def relS (scope sc : Scope) : Scope := { scope with names := scope.names.map fun (n, k) => if (k == .free && sc.kind == .function && sc.names.lookup n == some .cell) then (n, .cell) else (n, k) }
theorem blk_S {X : Cx} {sc : Scope} {s : Shared} {H : Hp} {scope : Scope} {cl : List (Str × Addr)} {C : Addr} {fp : List Addr} (h : X.env.scope = sc) : (X.blk s H scope (compEnvC scope cl C X.env) fp).env.scope = relS scope sc := by
  subst h
  rfl
theorem blk_N {X : Cx} {N : List Str} {s : Shared} {H : Hp} {scope : Scope} {cenv : Env} {fp : List Addr} (h : X.N = N) : (X.blk s H scope cenv fp).N = N := h
theorem look_miss {Γ : Ctx} {i j : Nat} {s x : Sd} (h : j ≠ i) (q : Γ[i]? = some x) : (Γ.set j s)[i]? = some x := by
  rw [List.getElem?_set_ne h]
  exact q
theorem look_hit {Γ : Ctx} {i j : Nat} {s y : Sd} (h : j = i) (q : Γ[i]? = some y) : (Γ.set j s)[i]? = some s := by
  subst h
  exact List.getElem?_set_self (List.getElem?_eq_some_iff.mp q).1
/-- the built-in names stand as they stood -/
structure Bi (mg : Str → Option Value) : Prop where
  len : mg "len" = none
  all : mg "all" = none
  abs : mg "abs" = none
  min : mg "min" = none
  max : mg "max" = none
  sum : mg "sum" = none
  sorted : mg "sorted" = none
  repr : mg "repr" = none
  isinstance : mg "isinstance" = none
  int : mg "int" = none
  bool : mg "bool" = none
  list : mg "list" = none
  tuple : mg "tuple" = none
  range : mg "range" = none
  enumerate : mg "enumerate" = none
  zip : mg "zip" = none

def kitI (d : PyData) : Bool := match d with | .int _ => true | .bool _ => true | _ => false
def kitBo (d : PyData) : Bool := match d with | .bool _ => true | _ => false
def kitTu (d : PyData) : Bool := match d with | .tuple _ => true | _ => false
theorem kit_int : ∀ d : PyData, kitB (tyName d) "int" = some (kitI d)
  | .none => (show kitB "NoneType" "int" = some false by decide +kernel)
  | .bool _ => (show kitB "bool" "int" = some true by decide +kernel)
  | .int _ => (show kitB "int" "int" = some true by decide +kernel)
  | .str _ => (show kitB "str" "int" = some false by decide +kernel)
  | .list _ => (show kitB "list" "int" = some false by decide +kernel)
  | .tuple _ => (show kitB "tuple" "int" = some false by decide +kernel)
  | .dict _ => (show kitB "dict" "int" = some false by decide +kernel)
theorem kit_bool : ∀ d : PyData, kitB (tyName d) "bool" = some (kitBo d)
  | .none => (show kitB "NoneType" "bool" = some false by decide +kernel)
  | .bool _ => (show kitB "bool" "bool" = some true by decide +kernel)
  | .int _ => (show kitB "int" "bool" = some false by decide +kernel)
  | .str _ => (show kitB "str" "bool" = some false by decide +kernel)
  | .list _ => (show kitB "list" "bool" = some false by decide +kernel)
  | .tuple _ => (show kitB "tuple" "bool" = some false by decide +kernel)
  | .dict _ => (show kitB "dict" "bool" = some false by decide +kernel)
theorem kit_tuple : ∀ d : PyData, kitB (tyName d) "tuple" = some (kitTu d)
  | .none => (show kitB "NoneType" "tuple" = some false by decide +kernel)
  | .bool _ => (show kitB "bool" "tuple" = some false by decide +kernel)
  | .int _ => (show kitB "int" "tuple" = some false by decide +kernel)
  | .str _ => (show kitB "str" "tuple" = some false by decide +kernel)
  | .list _ => (show kitB "list" "tuple" = some false by decide +kernel)
  | .tuple _ => (show kitB "tuple" "tuple" = some true by decide +kernel)
  | .dict _ => (show kitB "dict" "tuple" = some false by decide +kernel)

section
variable {bb : Bool} {X : Cx} {e e2 a b c tg iter elt : Expr} {es rest : List Expr} {Γ : Ctx} {P P' : PyData → Prop} {A : List PyData → Prop} {pos pos' p p2 p3 p4 : Pos} {N : List Str} {x y : Str} {i j : Nat} {B : Bs} {O : Po} {sts : List Stmt} {ifs : List Expr} {scope : Scope} {kk : Nat}
theorem nd_v {d : PyData} (h1 : X.N = N) (h2 : N[i]? = some x) (h3 : Γ[i]? = some (.val d)) (hv : Vis X.env.scope x) (q : P d) (hd : (x == ("__debug__" : Str)) = false := by decide) (hcd : (x == ("__classdict__" : Str)) = false := by decide) : Nd X (.Name x pos) Γ P :=
  nd_var h3 q (by rw [h1]; exact h2) hv hd hcd
/-! built-ins by name -/
theorem nd_len (T : Bi X.mg) (h : Nd X e Γ fun d => ∃ xs, seqD d = some xs ∧ P (.int xs.length)) (hg : Gl X "len" := by rfl) (he : starEach [e] X.env = (false, eval e X.env) :: starEach [] X.env := by rfl) (hpl : (backTo pos (starEach [] X.env)).any (·.1) = false := by rfl) : Nd X (.Call (.Name "len" p) [e] [] pos) Γ P :=
  nd_callB T.len boot_len' (na_cons (h.mono fun d ⟨xs, hx, q⟩ => na_nil (ok_len hx q)) he) hg (by decide) (by decide) he hpl
theorem nd_all (T : Bi X.mg) (hc : X.calm = true) (h : Nd X e Γ fun d => ∃ bs : List Bool, d = .list (bs.map .bool) ∧ P (.bool (bs.all fun b => b))) (hg : Gl X "all" := by rfl) (he : starEach [e] X.env = (false, eval e X.env) :: starEach [] X.env := by rfl) (hpl : (backTo pos (starEach [] X.env)).any (·.1) = false := by rfl) : Nd X (.Call (.Name "all" p) [e] [] pos) Γ P :=
  nd_callB T.all boot_all' (na_cons (h.mono fun d ⟨bs, hx, q⟩ => na_nil (by subst hx; exact ok_all hc q)) he) hg (by decide) (by decide) he hpl
theorem nd_abs (T : Bi X.mg) (h : Nd X e Γ fun d => ∃ n : Int, d = .int n ∧ P (.int (if n < 0 then -n else n))) (hg : Gl X "abs" := by rfl) (he : starEach [e] X.env = (false, eval e X.env) :: starEach [] X.env := by rfl) (hpl : (backTo pos (starEach [] X.env)).any (·.1) = false := by rfl) : Nd X (.Call (.Name "abs" p) [e] [] pos) Γ P :=
  nd_callB T.abs boot_abs' (na_cons (h.mono fun d ⟨n, hx, q⟩ => na_nil (by subst hx; exact ok_abs q)) he) hg (by decide) (by decide) he hpl
theorem nd_intc (T : Bi X.mg) (h : Nd X e Γ fun d => ∃ n : Int, d = .int n ∧ P (.int n)) (hg : Gl X "int" := by rfl) (he : starEach [e] X.env = (false, eval e X.env) :: starEach [] X.env := by rfl) (hpl : (backTo pos (starEach [] X.env)).any (·.1) = false := by rfl) : Nd X (.Call (.Name "int" p) [e] [] pos) Γ P :=
  nd_callTy T.int boot_int' (na_cons (h.mono fun d ⟨n, hx, q⟩ => na_nil (by subst hx; exact ok_int q)) he) hg (by decide) (by decide) he hpl
theorem nd_intB (T : Bi X.mg) (h : Nd X e Γ fun d => ∃ n : Bool, d = .bool n ∧ P (.int (if n then 1 else 0))) (hg : Gl X "int" := by rfl) (he : starEach [e] X.env = (false, eval e X.env) :: starEach [] X.env := by rfl) (hpl : (backTo pos (starEach [] X.env)).any (·.1) = false := by rfl) : Nd X (.Call (.Name "int" p) [e] [] pos) Γ P :=
  nd_callTy T.int boot_int' (na_cons (h.mono fun d ⟨n, hx, q⟩ => na_nil (by subst hx; exact ok_intB q)) he) hg (by decide) (by decide) he hpl
theorem nd_tupc (T : Bi X.mg) (h : Nd X e Γ fun d => ∃ xs, seqD d = some xs ∧ P (.tuple xs)) (hg : Gl X "tuple" := by rfl) (he : starEach [e] X.env = (false, eval e X.env) :: starEach [] X.env := by rfl) (hpl : (backTo pos (starEach [] X.env)).any (·.1) = false := by rfl) : Nd X (.Call (.Name "tuple" p) [e] [] pos) Γ P :=
  nd_callTy T.tuple boot_tuple' (na_cons (h.mono fun d ⟨xs, hx, q⟩ => na_nil (ok_tuple hx q)) he) hg (by decide) (by decide) he hpl
theorem nl_listc (T : Bi X.mg) (h : Nd X e Γ fun d => ∃ xs, seqD d = some xs ∧ A xs) (hg : Gl X "list" := by rfl) (he : starEach [e] X.env = (false, eval e X.env) :: starEach [] X.env := by rfl) (hpl : (backTo pos (starEach [] X.env)).any (·.1) = false := by rfl) : Nl X (.Call (.Name "list" p) [e] [] pos) Γ A :=
  nl_callTy T.list boot_list' (na_cons (h.mono fun d ⟨xs, hx, q⟩ => na_nil (ok_list hx q)) he) hg (by decide) (by decide) he hpl
theorem nd_listc (T : Bi X.mg) (h : Nd X e Γ fun d => ∃ xs, seqD d = some xs ∧ P (.list xs)) (hg : Gl X "list" := by rfl) (he : starEach [e] X.env = (false, eval e X.env) :: starEach [] X.env := by rfl) (hpl : (backTo pos (starEach [] X.env)).any (·.1) = false := by rfl) : Nd X (.Call (.Name "list" p) [e] [] pos) Γ P := nl_nd (nl_listc T h hg he hpl)
theorem nd_min2 (T : Bi X.mg) (hc : X.calm = true) (h : Nd X e Γ fun d => ∃ n : Int, d = .int n ∧ Nd X e2 Γ fun d => ∃ m : Int, d = .int m ∧ P (.int (if m < n then m else n))) (hg : Gl X "min" := by rfl) (he : starEach [e, e2] X.env = (false, eval e X.env) :: starEach [e2] X.env := by rfl)
    (he2 : starEach [e2] X.env = (false, eval e2 X.env) :: starEach [] X.env := by rfl) (hpl : (backTo pos (starEach [e2] X.env)).any (·.1) = false := by rfl) : Nd X (.Call (.Name "min" p) [e, e2] [] pos) Γ P :=
  nd_callB T.min boot_min' (na_cons (h.mono fun d ⟨n, hx, q⟩ => na_cons (q.mono fun d ⟨m, hy, q⟩ => na_nil (by subst hx; subst hy; exact ok_min2 hc q)) he2) he) hg (by decide) (by decide) he hpl
theorem nd_max2 (T : Bi X.mg) (hc : X.calm = true) (h : Nd X e Γ fun d => ∃ n : Int, d = .int n ∧ Nd X e2 Γ fun d => ∃ m : Int, d = .int m ∧ P (.int (if m > n then m else n))) (hg : Gl X "max" := by rfl) (he : starEach [e, e2] X.env = (false, eval e X.env) :: starEach [e2] X.env := by rfl)
    (he2 : starEach [e2] X.env = (false, eval e2 X.env) :: starEach [] X.env := by rfl) (hpl : (backTo pos (starEach [e2] X.env)).any (·.1) = false := by rfl) : Nd X (.Call (.Name "max" p) [e, e2] [] pos) Γ P :=
  nd_callB T.max boot_max' (na_cons (h.mono fun d ⟨n, hx, q⟩ => na_cons (q.mono fun d ⟨m, hy, q⟩ => na_nil (by subst hx; subst hy; exact ok_max2 hc q)) he2) he) hg (by decide) (by decide) he hpl
theorem nd_sumL (T : Bi X.mg) (hc : X.calm = true) (h : Nd X e Γ fun d => ∃ ns : List Int, d = .list (ns.map .int) ∧ P (.int ns.sum)) (hg : Gl X "sum" := by rfl) (he : starEach [e] X.env = (false, eval e X.env) :: starEach [] X.env := by rfl) (hpl : (backTo pos (starEach [] X.env)).any (·.1) = false := by rfl) : Nd X (.Call (.Name "sum" p) [e] [] pos) Γ P :=
  nd_callB T.sum boot_sum' (na_cons (h.mono fun d ⟨n, hx, q⟩ => na_nil (by subst hx; exact ok_sumL hc q)) he) hg (by decide) (by decide) he hpl
theorem nd_minL (T : Bi X.mg) (hc : X.calm = true) (h : Nd X e Γ fun d => ∃ ns : List Int, d = .list (ns.map .int) ∧ 0 < ns.length ∧ ∀ m, m ∈ ns → (∀ y ∈ ns, m ≤ y) → P (.int m)) (hg : Gl X "min" := by rfl) (he : starEach [e] X.env = (false, eval e X.env) :: starEach [] X.env := by rfl) (hpl : (backTo pos (starEach [] X.env)).any (·.1) = false := by rfl) : Nd X (.Call (.Name "min" p) [e] [] pos) Γ P :=
  nd_callB T.min boot_min' (na_cons (h.mono fun d ⟨n, hx, hl, q⟩ => na_nil (by subst hx; exact ok_minL hc hl q)) he) hg (by decide) (by decide) he hpl
theorem nd_sortedI (T : Bi X.mg) (h : Nd X e Γ fun d => ∃ ns : List Int, d = .list (ns.map .int) ∧ ∀ ns' : List Int, ns'.Perm ns → ns'.Pairwise (· ≤ ·) → P (.list (ns'.map .int))) (hg : Gl X "sorted" := by rfl) (he : starEach [e] X.env = (false, eval e X.env) :: starEach [] X.env := by rfl) (hpl : (backTo pos (starEach [] X.env)).any (·.1) = false := by rfl) : Nd X (.Call (.Name "sorted" p) [e] [] pos) Γ P :=
  nl_nd (nl_callB T.sorted boot_sorted' (na_cons (h.mono fun d ⟨n, hx, q⟩ => na_nil (by subst hx; exact okL_sortedI q)) he) hg (by decide) (by decide) he hpl)
theorem nd_isInt (T : Bi X.mg) (h : Nd X e Γ fun d => P (.bool (kitI d))) (hg : Gl X "isinstance" := by rfl) (hgt : Gl X "int" := by rfl) (hs1 : starEach [e, .Name "int" p2] X.env = (false, eval e X.env) :: starEach [.Name "int" p2] X.env := by rfl) (hs2 : starEach [.Name "int" p2] X.env = (false, eval (.Name "int" p2) X.env) :: starEach [] X.env := by rfl)
    (hpl : (backTo pos (starEach [.Name "int" p2] X.env)).any (·.1) = false := by rfl) : Nd X (.Call (.Name "isinstance" p) [e, .Name "int" p2] [] pos) Γ P := nd_isi T.isinstance T.int boot_int' (h.mono fun d q => ⟨_, kit_int d, q⟩) hg hgt (by decide) (by decide) hs1 hs2 hpl
theorem nd_isBool (T : Bi X.mg) (h : Nd X e Γ fun d => P (.bool (kitBo d))) (hg : Gl X "isinstance" := by rfl) (hgt : Gl X "bool" := by rfl) (hs1 : starEach [e, .Name "bool" p2] X.env = (false, eval e X.env) :: starEach [.Name "bool" p2] X.env := by rfl) (hs2 : starEach [.Name "bool" p2] X.env = (false, eval (.Name "bool" p2) X.env) :: starEach [] X.env := by rfl)
    (hpl : (backTo pos (starEach [.Name "bool" p2] X.env)).any (·.1) = false := by rfl) : Nd X (.Call (.Name "isinstance" p) [e, .Name "bool" p2] [] pos) Γ P := nd_isi T.isinstance T.bool boot_bool' (h.mono fun d q => ⟨_, kit_bool d, q⟩) hg hgt (by decide) (by decide) hs1 hs2 hpl
theorem nd_isTup (T : Bi X.mg) (h : Nd X e Γ fun d => P (.bool (kitTu d))) (hg : Gl X "isinstance" := by rfl) (hgt : Gl X "tuple" := by rfl) (hs1 : starEach [e, .Name "tuple" p2] X.env = (false, eval e X.env) :: starEach [.Name "tuple" p2] X.env := by rfl) (hs2 : starEach [.Name "tuple" p2] X.env = (false, eval (.Name "tuple" p2) X.env) :: starEach [] X.env := by rfl)
    (hpl : (backTo pos (starEach [.Name "tuple" p2] X.env)).any (·.1) = false := by rfl) : Nd X (.Call (.Name "isinstance" p) [e, .Name "tuple" p2] [] pos) Γ P := nd_isi T.isinstance T.tuple boot_tuple' (h.mono fun d q => ⟨_, kit_tuple d, q⟩) hg hgt (by decide) (by decide) hs1 hs2 hpl
/-! comprehensions by their target -/
theorem nl_lc1 (h1 : X.N = N) (h2 : N[i]? = some x) (hc : X.calm = true) (hN : N.Nodup) (h : NI false X (.Name x pos') iter Γ fun ds => LcOk false X elt ifs scope [i] (gName i) [i] Γ ds A) {sc : Scope} (hsc : X.env.scope = sc) (ok : blkC N sc scope [(x, i)] = true := by decide +kernel)
    (hl : Blk X scope fun Y => Loc Y.env.scope x := by intro _ _ _ _ _; first | exact Or.inl rfl | exact Or.inr rfl) (hf : Blk X scope fun Y => Y.fn x = true ∨ Y.env.scope.names.lookup x = some .local := by intro _ _ _ _ _; first | exact Or.inl rfl | exact Or.inr rfl)
    (hs : ∀ x, foldedSetIterable iter X.env x = pure x := by intro _; rfl) : Nl X (.ListComp elt [⟨.Name x pos', iter, ifs, 0⟩] scope pos) Γ A := by
  subst h1
  subst hsc
  exact nl_lc (own := [(x, i)]) hc hN (blkOk_by ok) (fun s H C cl fp => pg_name (i := i) hN h2 (hl s H C cl fp) (hf s H C cl fp)) (by simp) h hs
theorem nd_lc1 (h1 : X.N = N) (h2 : N[i]? = some x) (hc : X.calm = true) (hN : N.Nodup) (h : NI false X (.Name x pos') iter Γ fun ds => LcOk false X elt ifs scope [i] (gName i) [i] Γ ds fun xs => P (.list xs)) {sc : Scope} (hsc : X.env.scope = sc) (ok : blkC N sc scope [(x, i)] = true := by decide +kernel)
    (hl : Blk X scope fun Y => Loc Y.env.scope x := by intro _ _ _ _ _; first | exact Or.inl rfl | exact Or.inr rfl) (hf : Blk X scope fun Y => Y.fn x = true ∨ Y.env.scope.names.lookup x = some .local := by intro _ _ _ _ _; first | exact Or.inl rfl | exact Or.inr rfl)
    (hs : ∀ x, foldedSetIterable iter X.env x = pure x := by intro _; rfl) : Nd X (.ListComp elt [⟨.Name x pos', iter, ifs, 0⟩] scope pos) Γ P := nl_nd (nl_lc1 h1 h2 hc hN h hsc ok hl hf hs)
abbrev gPair (K : PySem.W.Frag) (i j : Nat) : TG := gTup K 2 (gCons (gName i) (gCons (gName j) gNil))
theorem nl_lc2 (h1 : X.N = N) (h2 : N[i]? = some x) (h3 : N[j]? = some y) (hc : X.calm = true) (hN : N.Nodup) (h : NI true X (.Tuple [.Name x p3, .Name y p4] kk pos') iter Γ fun ds => LcOk true X elt ifs scope [i, j] (gPair X.K i j) [i, j] Γ ds A) {sc : Scope} (hsc : X.env.scope = sc) (ok : blkC N sc scope [(x, i), (y, j)] = true := by decide +kernel)
    (hpg : Blk X scope fun Y => PG Y (.Tuple [.Name x p3, .Name y p4] kk pos') (gPair X.K i j)) (hs : ∀ x, foldedSetIterable iter X.env x = pure x := by intro _; rfl) : Nl X (.ListComp elt [⟨.Tuple [.Name x p3, .Name y p4] kk pos', iter, ifs, 0⟩] scope pos) Γ A := by
  subst h1
  subst hsc
  exact nl_lc (own := [(x, i), (y, j)]) hc hN (blkOk_by ok) hpg (by simp) h hs
theorem nd_lc2 (h1 : X.N = N) (h2 : N[i]? = some x) (h3 : N[j]? = some y) (hc : X.calm = true) (hN : N.Nodup) (h : NI true X (.Tuple [.Name x p3, .Name y p4] kk pos') iter Γ fun ds => LcOk true X elt ifs scope [i, j] (gPair X.K i j) [i, j] Γ ds fun xs => P (.list xs)) {sc : Scope} (hsc : X.env.scope = sc) (ok : blkC N sc scope [(x, i), (y, j)] = true := by decide +kernel)
    (hpg : Blk X scope fun Y => PG Y (.Tuple [.Name x p3, .Name y p4] kk pos') (gPair X.K i j)) (hs : ∀ x, foldedSetIterable iter X.env x = pure x := by intro _; rfl) : Nd X (.ListComp elt [⟨.Tuple [.Name x p3, .Name y p4] kk pos', iter, ifs, 0⟩] scope pos) Γ P := nl_nd (nl_lc2 h1 h2 h3 hc hN h hsc ok hpg hs)
theorem tgn_pair {K : PySem.W.Frag} {d1 d2 : PyData} {R : Ctx → Prop} (q : R ((Γ.set i (.val d1)).set j (.val d2))) : TgN bb (gPair K i j) [i, j] Γ (.tuple [d1, d2]) R :=
  tgn_tup rfl (tgsn_cons (js := [i]) (ks := [j]) (tgn_name (tgsn_cons (js := [j]) (ks := []) (tgn_name (tgsn_nil q)))))
/-- what a comprehension gives where its element and its test are functions of the item -/
theorem lc_map {vs : List Nat} {g : TG} {js : List Nat} {α : Type} {L : List α} {enc f : α → PyData} {t : α → Bool} (hz : L.length ≤ 100000)
    (hs : ∀ a, a ∈ L → TgN bb g js (wipeC Γ vs) (enc a) fun Γ2 => Blk X scope fun Y => Nts Y ifs Γ2 fun b => b = t a ∧ (t a = true → Blk X scope fun Z => Nd Z elt Γ2 fun y => y = f a)) (q : A ((L.filter t).map f)) : LcOk bb X elt ifs scope vs g js Γ (L.map enc) A := by
  refine ⟨by rw [List.length_map]; exact hz, fun i acc => acc = ((L.take i).filter t).map f, by simp, fun i d acc hd ha => ?_, fun acc ha => ?_⟩
  · subst ha
    rw [List.getElem?_map] at hd
    cases ha : L[i]? with
    | none => rw [ha] at hd; cases hd
    | some a =>
      rw [ha] at hd
      have e : enc a = d := Option.some.inj hd
      subst e
      have tk : L.take (i + 1) = L.take i ++ [a] := by rw [List.take_add_one, ha]; rfl
      intro F H σ y E r Q k
      refine hs a (List.mem_of_getElem? ha) F H σ y E r Q fun σ2 Γ2 E2 b2 k2 p2 => k σ2 Γ2 E2 b2 k2 fun s0 H0 C cl fp F3 H3 σ3 E3 Q3 k3 => ?_
      refine p2 s0 H0 C cl fp F3 H3 σ3 E3 Q3 fun b F4 H4 g4 ⟨eb, ht⟩ => k3 b F4 H4 g4 ?_
      subst eb
      cases hta : t a with
      | true =>
        refine iteT fun s1 H1 C1 cl1 fp1 => (ht hta s1 H1 C1 cl1 fp1).mono fun y ey => ?_
        subst ey
        show _ = _
        rw [tk, List.filter_append, List.map_append]
        simp [hta]
      | false =>
        refine iteF ?_
        show _ = _
        rw [tk, List.filter_append, List.map_append]
        simp [hta]
  · subst ha
    rw [List.length_map, List.take_length]
    exact q
/-- .. without a test -/
theorem lc_all {vs : List Nat} {g : TG} {js : List Nat} {α : Type} {L : List α} {enc f : α → PyData} (hz : L.length ≤ 100000)
    (hs : ∀ a, a ∈ L → TgN bb g js (wipeC Γ vs) (enc a) fun Γ2 => Blk X scope fun Z => Nd Z elt Γ2 fun y => y = f a) (q : A (L.map f)) : LcOk bb X elt [] scope vs g js Γ (L.map enc) A := by
  refine lc_map (t := fun _ => true) (f := f) hz (fun a ha F H σ y E r Q k => hs a ha F H σ y E r Q fun σ2 Γ2 E2 b2 k2 p2 => k σ2 Γ2 E2 b2 k2 fun s0 H0 C cl fp => nts_nil ⟨rfl, fun _ => p2⟩) (by rw [List.filter_eq_self.mpr fun _ _ => rfl]; exact q)
/-! statements by their target -/
theorem e1_v (h1 : X.N = N) (h2 : N[i]? = some x) (hN : N.Nodup) (h : Nd X e Γ fun d => O.nx (Γ.set i (.val d))) (hx : Loc X.env.scope x) (hf : X.fn x = true ∨ X.env.scope.names.lookup x = some .local) (hs : swapsWith e (some (.Name x pos')) pos.line X.env = pure false := by rfl) : E1 X B (.Assign [.Name x pos'] e pos) Γ O := by
  subst h1
  exact e1_set hN h h2 hx hs hf
theorem e1_vL (h1 : X.N = N) (h2 : N[i]? = some x) (hN : N.Nodup) (hM : ∀ q, q ∈ B.M → B.H0 q ≠ none) (h : Nl X e Γ fun xs => ∀ q, q ∉ B.M → O.nx (Γ.set i (.own q xs))) (hx : Loc X.env.scope x) (hf : X.fn x = true ∨ X.env.scope.names.lookup x = some .local) (hs : swapsWith e (some (.Name x pos')) pos.line X.env = pure false := by rfl) : E1 X B (.Assign [.Name x pos'] e pos) Γ O := by
  subst h1
  exact e1_setL hN h h2 hx hs hf hM
theorem e1_for1 (h1 : X.N = N) (h2 : N[i]? = some x) (hN : N.Nodup) (hc : X.calm = true) (hp : PassesOwn (model X.prog X.w) X.A X.env X.xe) (hx : Loc X.env.scope x) (hf : X.fn x = true ∨ X.env.scope.names.lookup x = some .local)
    (h : NI false X (.Name x pos') iter Γ fun ds => ∃ I : Nat → Ctx → Prop, I 0 Γ ∧ (∀ n d Γ2, ds[n]? = some d → I n Γ2 → Es X B sts (Γ2.set i (.val d)) ⟨I (n + 1), O.rt, O.nx, I (n + 1)⟩) ∧ ∀ Γ2, I ds.length Γ2 → O.nx Γ2)
    (hs : ∀ x, foldedSetIterable iter X.env x = pure x := by intro _; rfl) : E1 X B (.For (.Name x pos') iter sts [] pos) Γ O := by
  subst h1
  refine e1_for (js := [i]) hc hp (pg_name hN h2 hx hf) (fun F H σ E R k => h F H σ E R fun J F' H' ds g wk ⟨I, i0, hstep, hend⟩ => k J F' H' ds g wk ⟨I, i0, fun n d Γ2 hd q => tgn_name (hstep n d Γ2 hd q), hend⟩) hs
theorem e1_for2 (h1 : X.N = N) (h2 : N[i]? = some x) (h3 : N[j]? = some y) (hN : N.Nodup) (hc : X.calm = true) (hp : PassesOwn (model X.prog X.w) X.A X.env X.xe) (hpg : PG X (.Tuple [.Name x p3, .Name y p4] kk pos') (gPair X.K i j))
    (h : NI true X (.Tuple [.Name x p3, .Name y p4] kk pos') iter Γ fun ds => ∃ I : Nat → Ctx → Prop, I 0 Γ ∧ (∀ n d Γ2, ds[n]? = some d → I n Γ2 → ∃ d1 d2, d = .tuple [d1, d2] ∧ Es X B sts ((Γ2.set i (.val d1)).set j (.val d2)) ⟨I (n + 1), O.rt, O.nx, I (n + 1)⟩) ∧ ∀ Γ2, I ds.length Γ2 → O.nx Γ2)
    (hs : ∀ x, foldedSetIterable iter X.env x = pure x := by intro _; rfl) : E1 X B (.For (.Tuple [.Name x p3, .Name y p4] kk pos') iter sts [] pos) Γ O := by
  refine e1_for (js := [i, j]) hc hp hpg (fun F H σ E R k => h F H σ E R fun J F' H' ds g wk ⟨I, i0, hstep, hend⟩ => k J F' H' ds g wk ⟨I, i0, fun n d Γ2 hd q => ?_, hend⟩) hs
  obtain ⟨d1, d2, e, w⟩ := hstep n d Γ2 hd q
  subst e
  exact tgn_pair w
/-! shapes: a goal's form is looked at first, then its rule is tried -/
theorem sh_name (h : Nd X (.Name x pos) Γ P) : Nd X (.Name x pos) Γ P := h
theorem sh_cmp {op : CmpOp} (h : Nd X (.Compare a [op] [b] pos) Γ P) : Nd X (.Compare a [op] [b] pos) Γ P := h
theorem sh_chain {op op' : CmpOp} (h : Nd X (.Compare a [op, op'] [b, c] pos) Γ P) : Nd X (.Compare a [op, op'] [b, c] pos) Γ P := h
theorem sh_sub (h : Nd X (.Subscript a b pos) Γ P) : Nd X (.Subscript a b pos) Γ P := h
theorem sh_call {es : List Expr} (h : Nd X (.Call (.Name x p) es [] pos) Γ P) : Nd X (.Call (.Name x p) es [] pos) Γ P := h
theorem sh_cons {A : List PyData → Prop} (h : Na X (e :: es) Γ A) : Na X (e :: es) Γ A := h
theorem sh_tcmp {op : CmpOp} {R : Bool → Prop} (h : Nt X (.Compare a [op] [b] pos) Γ R) : Nt X (.Compare a [op] [b] pos) Γ R := h
theorem sh_tchain {op op' : CmpOp} {R : Bool → Prop} (h : Nt X (.Compare a [op, op'] [b, c] pos) Γ R) : Nt X (.Compare a [op, op'] [b, c] pos) Γ R := h
theorem sh_tcall {es : List Expr} {R : Bool → Prop} (h : Nt X (.Call (.Name x p) es [] pos) Γ R) : Nt X (.Call (.Name x p) es [] pos) Γ R := h
theorem sh_tname {R : Bool → Prop} (h : Nt X (.Name x pos) Γ R) : Nt X (.Name x pos) Γ R := h
theorem ifB {c : Bool} {A B : Prop} (h1 : c = true → A) (h2 : c = false → B) : if c = true then A else B := by
  cases c with
  | true => exact iteT (h1 rfl)
  | false => exact iteF (h2 rfl)
theorem sh_ite {c : Bool} {A B : Prop} (h : if c = true then A else B) : if c = true then A else B := h
theorem sh_lc1 (h : Nd X (.ListComp elt [⟨.Name x pos', iter, ifs, 0⟩] scope pos) Γ P) : Nd X (.ListComp elt [⟨.Name x pos', iter, ifs, 0⟩] scope pos) Γ P := h
theorem sh_lc2 (h : Nd X (.ListComp elt [⟨.Tuple [.Name x p3, .Name y p4] kk pos', iter, ifs, 0⟩] scope pos) Γ P) : Nd X (.ListComp elt [⟨.Tuple [.Name x p3, .Name y p4] kk pos', iter, ifs, 0⟩] scope pos) Γ P := h
theorem nd_allF (T : Bi X.mg) (hc : X.calm = true) (h : Nd X e Γ fun d => ∃ (α : Type) (L : List α) (g : α → Bool), d = .list (L.map fun a => .bool (g a)) ∧ P (.bool (L.all g))) (hg : Gl X "all" := by rfl) (he : starEach [e] X.env = (false, eval e X.env) :: starEach [] X.env := by rfl) (hpl : (backTo pos (starEach [] X.env)).any (·.1) = false := by rfl) : Nd X (.Call (.Name "all" p) [e] [] pos) Γ P :=
  nd_all T hc (h.mono fun d ⟨α, L, g, hx, q⟩ => ⟨L.map g, by rw [hx, List.map_map]; rfl, by rw [List.all_map]; exact q⟩) hg he hpl
theorem pg_pair {X : Cx} {N : List Str} {x y : Str} {i j : Nat} {kk : Nat} {p3 p4 pos' : Pos} (hc : X.calm = true) (h1 : X.N = N) (h2 : N[i]? = some x) (h3 : N[j]? = some y) (hN : N.Nodup) (hx : Loc X.env.scope x) (hy : Loc X.env.scope y) (fx : X.fn x = true ∨ X.env.scope.names.lookup x = some .local) (fy : X.fn y = true ∨ X.env.scope.names.lookup y = some .local) :
    PG X (.Tuple [.Name x p3, .Name y p4] kk pos') (gPair X.K i j) := by
  subst h1
  exact pg_tup hc (pgs_cons (pg_name hN h2 hx fx) (pgs_cons (pg_name hN h3 hy fy) pgs_nil))
theorem sh_len {es : List Expr} (h : Nd X (.Call (.Name "len" p) es [] pos) Γ P) : Nd X (.Call (.Name "len" p) es [] pos) Γ P := h
theorem sh_all {es : List Expr} (h : Nd X (.Call (.Name "all" p) es [] pos) Γ P) : Nd X (.Call (.Name "all" p) es [] pos) Γ P := h
theorem sh_abs {es : List Expr} (h : Nd X (.Call (.Name "abs" p) es [] pos) Γ P) : Nd X (.Call (.Name "abs" p) es [] pos) Γ P := h
theorem sh_min {es : List Expr} (h : Nd X (.Call (.Name "min" p) es [] pos) Γ P) : Nd X (.Call (.Name "min" p) es [] pos) Γ P := h
theorem sh_max {es : List Expr} (h : Nd X (.Call (.Name "max" p) es [] pos) Γ P) : Nd X (.Call (.Name "max" p) es [] pos) Γ P := h
theorem sh_sum {es : List Expr} (h : Nd X (.Call (.Name "sum" p) es [] pos) Γ P) : Nd X (.Call (.Name "sum" p) es [] pos) Γ P := h
theorem sh_sorted {es : List Expr} (h : Nd X (.Call (.Name "sorted" p) es [] pos) Γ P) : Nd X (.Call (.Name "sorted" p) es [] pos) Γ P := h
theorem sh_repr {es : List Expr} (h : Nd X (.Call (.Name "repr" p) es [] pos) Γ P) : Nd X (.Call (.Name "repr" p) es [] pos) Γ P := h
theorem sh_int {es : List Expr} (h : Nd X (.Call (.Name "int" p) es [] pos) Γ P) : Nd X (.Call (.Name "int" p) es [] pos) Γ P := h
theorem sh_list {es : List Expr} (h : Nd X (.Call (.Name "list" p) es [] pos) Γ P) : Nd X (.Call (.Name "list" p) es [] pos) Γ P := h
theorem sh_tuple {es : List Expr} (h : Nd X (.Call (.Name "tuple" p) es [] pos) Γ P) : Nd X (.Call (.Name "tuple" p) es [] pos) Γ P := h
theorem sh_is_int (h : Nd X (.Call (.Name "isinstance" p) [e, .Name "int" p2] [] pos) Γ P) : Nd X (.Call (.Name "isinstance" p) [e, .Name "int" p2] [] pos) Γ P := h
theorem sh_is_bool (h : Nd X (.Call (.Name "isinstance" p) [e, .Name "bool" p2] [] pos) Γ P) : Nd X (.Call (.Name "isinstance" p) [e, .Name "bool" p2] [] pos) Γ P := h
theorem sh_is_tuple (h : Nd X (.Call (.Name "isinstance" p) [e, .Name "tuple" p2] [] pos) Γ P) : Nd X (.Call (.Name "isinstance" p) [e, .Name "tuple" p2] [] pos) Γ P := h
theorem sh_set (h : E1 X B (.Assign [.Name x pos'] e pos) Γ O) : E1 X B (.Assign [.Name x pos'] e pos) Γ O := h
theorem sh_count (h : Nd X (.Call (.Attribute a "count" p) [e] [] pos) Γ P) : Nd X (.Call (.Attribute a "count" p) [e] [] pos) Γ P := h
theorem sh_ret (h : E1 X B (.Return (some e) pos) Γ O) : E1 X B (.Return (some e) pos) Γ O := h
theorem u65 {k : Nat} {A : Around} (r : Room k A) : A.units + 65 < cLine := by have := r.un; omega
theorem enumD_map {α : Type} (L : List α) (f : α → PyData) : enumD (L.map f) = L.zipIdx.map fun p => .tuple [.int (p.2 : Nat), f p.1] := by
  unfold enumD
  apply List.ext_getElem?
  intro i
  rw [List.getElem?_mapIdx, List.getElem?_map, List.getElem?_map, List.getElem?_zipIdx]
  cases L[i]? with
  | none => rfl
  | some a => simp
theorem zipD_map {α β : Type} (L : List α) (M : List β) (f : α → PyData) (g : β → PyData) : zipD (L.map f) (M.map g) = (L.zip M).map fun p => .tuple [f p.1, g p.2] := by
  unfold zipD
  rw [List.zip, List.map_zipWith, List.zipWith_map]
theorem atI_nat {α : Type} {xs : List α} {i : Nat} {d : α} (h : xs[i]? = some d) : atI xs (i : Nat) = some d := by
  have hi : i < xs.length := (List.getElem?_eq_some_iff.mp h).1
  unfold atI ixN
  rw [if_pos (Int.natCast_nonneg i), if_pos (by omega)]
  exact h
theorem atI_map {α : Type} {L : List α} {f : α → PyData} {i : Nat} {a : α} (h : L[i]? = some a) : atI (L.map f) (i : Nat) = some (f a) := atI_nat (by rw [List.getElem?_map, h]; rfl)
abbrev gTri (K : PySem.W.Frag) (i j k : Nat) : TG := gTup K 3 (gCons (gName i) (gCons (gName j) (gCons (gName k) gNil)))
theorem tgn_tri {K : PySem.W.Frag} {k : Nat} {d1 d2 d3 : PyData} {R : Ctx → Prop} (q : R (((Γ.set i (.val d1)).set j (.val d2)).set k (.val d3))) : TgN bb (gTri K i j k) [i, j, k] Γ (.tuple [d1, d2, d3]) R :=
  tgn_tup rfl (tgsn_cons (js := [i]) (ks := [j, k]) (tgn_name (tgsn_cons (js := [j]) (ks := [k]) (tgn_name (tgsn_cons (js := [k]) (ks := []) (tgn_name (tgsn_nil q)))))))
theorem pg_tri {X : Cx} {N : List Str} {x y z : Str} {i j k : Nat} {kk : Nat} {p3 p4 p5 pos' : Pos} (hc : X.calm = true) (h1 : X.N = N) (h2 : N[i]? = some x) (h3 : N[j]? = some y) (h4 : N[k]? = some z) (hN : N.Nodup) (hx : Loc X.env.scope x) (hy : Loc X.env.scope y) (hz : Loc X.env.scope z) (fx : X.fn x = true ∨ X.env.scope.names.lookup x = some .local) (fy : X.fn y = true ∨ X.env.scope.names.lookup y = some .local) (fz : X.fn z = true ∨ X.env.scope.names.lookup z = some .local) :
    PG X (.Tuple [.Name x p3, .Name y p4, .Name z p5] kk pos') (gTri X.K i j k) := by
  subst h1
  exact pg_tup hc (pgs_cons (pg_name hN h2 hx fx) (pgs_cons (pg_name hN h3 hy fy) (pgs_cons (pg_name hN h4 hz fz) pgs_nil)))
/-- a, b, c = e -/
theorem e1_tri {z : Str} {k : Nat} {p5 : Pos} (hc : X.calm = true) (h1 : X.N = N) (h2 : N[i]? = some x) (h3 : N[j]? = some y) (h4 : N[k]? = some z) (hN : N.Nodup) (hx : Loc X.env.scope x) (hy : Loc X.env.scope y) (hz : Loc X.env.scope z) (fx : X.fn x = true ∨ X.env.scope.names.lookup x = some .local) (fy : X.fn y = true ∨ X.env.scope.names.lookup y = some .local) (fz : X.fn z = true ∨ X.env.scope.names.lookup z = some .local)
    (h : Nd X e Γ fun d => ∃ d1 d2 d3, d = .tuple [d1, d2, d3] ∧ O.nx (((Γ.set i (.val d1)).set j (.val d2)).set k (.val d3))) (hs : swapsWithSole [.Tuple [.Name x p3, .Name y p4, .Name z p5] kk pos'] e pos.line X.env = pure false := by rfl) (hw : swappedStores [.Tuple [.Name x p3, .Name y p4, .Name z p5] kk pos'] e X.env = pure none := by rfl) (ha : (assignEach [.Tuple [.Name x p3, .Name y p4, .Name z p5] kk pos'] X.env).map (·.2) = [assign (.Tuple [.Name x p3, .Name y p4, .Name z p5] kk pos') X.env] := by rfl) :
    E1 X B (.Assign [.Tuple [.Name x p3, .Name y p4, .Name z p5] kk pos'] e pos) Γ O :=
  e1_asg (js := [i, j, k]) (h.mono fun d ⟨d1, d2, d3, ed, q⟩ => by subst ed; exact tgn_tri q) (pg_tri hc h1 h2 h3 h4 hN hx hy hz fx fy fz) hs hw ha
theorem sh_tri {z : Str} {p5 : Pos} (h : E1 X B (.Assign [.Tuple [.Name x p3, .Name y p4, .Name z p5] kk pos'] e pos) Γ O) : E1 X B (.Assign [.Tuple [.Name x p3, .Name y p4, .Name z p5] kk pos'] e pos) Γ O := h
theorem sh_eqI {n m : Int} (h : CmpOk X Γ .Eq (.int n) (.int m) P) : CmpOk X Γ .Eq (.int n) (.int m) P := h
theorem sh_neI {n m : Int} (h : CmpOk X Γ .NotEq (.int n) (.int m) P) : CmpOk X Γ .NotEq (.int n) (.int m) P := h
theorem eqv_int (n m : Int) : PyData.eqv (.int n) (.int m) = decide (n = m) := by
  by_cases h : n = m
  · subst h
    simp [PyData.eqv]
  · simp [PyData.eqv, h]
theorem cmp_eqI {k : Nat} {n m : Int} (r : Room k X.A) (q : P (.bool (decide (n = m)))) : CmpOk X Γ .Eq (.int n) (.int m) P := cmp_eq r.units rfl rfl (by rw [eqv_int]; exact q)
theorem cmp_neI {k : Nat} {n m : Int} (r : Room k X.A) (q : P (.bool (!decide (n = m)))) : CmpOk X Γ .NotEq (.int n) (.int m) P := cmp_ne r.units rfl rfl (by rw [eqv_int]; exact q)
theorem cutD_from (xs : List PyData) (k : Nat) : cutD xs (some (k : Int)) none = xs.drop k := by
  unfold cutD
  rw [HT.sIx_nat, HT.sIx_none]
  by_cases h : k ≤ xs.length
  · rw [Nat.min_eq_left h, List.take_of_length_le (by rw [List.length_drop]; omega)]
  · rw [Nat.min_eq_right (by omega), List.drop_of_length_le (Nat.le_refl _), List.drop_of_length_le (by omega), List.take_nil]
theorem cutD_to (xs : List PyData) (k : Nat) : cutD xs none (some (k : Int)) = xs.take k := by
  unfold cutD
  rw [HT.sIx_nat, HT.sIx_none, List.drop_zero, Nat.sub_zero]
  by_cases h : k ≤ xs.length
  · rw [Nat.min_eq_left h]
  · rw [Nat.min_eq_right (by omega), List.take_length, List.take_of_length_le (by omega)]
theorem cutD_mid (xs : List PyData) (j k : Nat) : cutD xs (some (j : Int)) (some (k : Int)) = (xs.drop j).take (k - j) := by
  unfold cutD
  rw [HT.sIx_nat, HT.sIx_nat]
  by_cases h : j ≤ xs.length
  · rw [Nat.min_eq_left h]
    by_cases h2 : k ≤ xs.length
    · rw [Nat.min_eq_left h2]
    · rw [Nat.min_eq_right (by omega), List.take_of_length_le (by rw [List.length_drop]; omega), List.take_of_length_le (by rw [List.length_drop]; omega)]
  · rw [Nat.min_eq_right (show xs.length ≤ j by omega), List.drop_of_length_le (Nat.le_refl _), List.drop_of_length_le (by omega), List.take_nil, List.take_nil]
/-- all items but n from the end -/
theorem cutD_butlast (xs : List PyData) (k : Nat) (hk : 0 < k) : cutD xs none (some (-(k : Int))) = xs.take (xs.length - k) := by
  unfold cutD
  rw [HT.sIx_none, List.drop_zero, Nat.sub_zero]
  congr 1
  show (if -(k : Int) < 0 then (-(k : Int) + (xs.length : Int)).toNat else _) = _
  rw [if_pos (by omega)]
  omega
theorem cutD_mid1 (xs : List PyData) (j k : Nat) (hk : 0 < k) : cutD xs (some (j : Int)) (some (-(k : Int))) = (xs.drop j).take (xs.length - k - j) := by
  unfold cutD
  have e : HT.sIx xs.length xs.length (some (-(k : Int))) = xs.length - k := by
    show (if -(k : Int) < 0 then (-(k : Int) + (xs.length : Int)).toNat else _) = _
    rw [if_pos (by omega)]
    omega
  rw [HT.sIx_nat, e]
  by_cases h : j ≤ xs.length
  · rw [Nat.min_eq_left h]
  · rw [Nat.min_eq_right (by omega), List.drop_of_length_le (Nat.le_refl _), List.drop_of_length_le (by omega), List.take_nil, List.take_nil]
theorem sh_lc1L (h : Nl X (.ListComp elt [⟨.Name x pos', iter, ifs, 0⟩] scope pos) Γ A) : Nl X (.ListComp elt [⟨.Name x pos', iter, ifs, 0⟩] scope pos) Γ A := h
theorem ixN_nat {n i : Nat} (h : i < n) : ixN n (i : Nat) = some i := by
  unfold ixN
  rw [if_pos (Int.natCast_nonneg i), if_pos (by omega)]
  rfl
theorem set_map {α : Type} (L : List α) (f : α → PyData) (i : Nat) (a : α) : (L.map f).set i (f a) = (L.set i a).map f := (List.map_set).symm
theorem sh_subN {b : Expr} (h : Nd X (.Subscript (.Name x p) b pos) Γ P) : Nd X (.Subscript (.Name x p) b pos) Γ P := h
/-- an item of a list of our own -/
theorem nd_subOwn {b : Expr} {q : Addr} {xs : List PyData} (h1 : X.N = N) (h2 : N[i]? = some x) (h3 : Γ[i]? = some (.own q xs)) (h : Nd X (.Subscript (.Name x p) b pos) (Γ.set i (.val (.list xs))) fun d => lless d = true ∧ P d) : Nd X (.Subscript (.Name x p) b pos) Γ P := nd_lend h3 h
theorem sh_sz {α : Type} {xs : List α} {B : Prop} (h : xs.length ≤ 100000 ∧ B) : xs.length ≤ 100000 ∧ B := h
theorem sh_slice {lo hi : Option Expr} (h : Nd X (.Subscript (.Name x p) (.Slice lo hi none p2) pos) Γ P) : Nd X (.Subscript (.Name x p) (.Slice lo hi none p2) pos) Γ P := h
/-! a comprehension stored where the store is by a swap -/
theorem e1_slc1 {z : Str} {k : Nat} (h1 : X.N = N) (hk : N[k]? = some z) (h2 : N[i]? = some x) (hc : X.calm = true) (hN : N.Nodup) {sc : Scope} (hsc : X.env.scope = sc) (hyl : X.env.scope.names.lookup z = some .local) (h : NI false X (.Name x p3) iter Γ fun ds => LcOk false X elt ifs scope [i] (gName i) [i] Γ ds fun xs => O.nx (Γ.set k (.val (.list xs))))
    (hsw : swapsWith (.ListComp elt [⟨.Name x p3, iter, ifs, 0⟩] scope p) (some (.Name z pos')) pos.line X.env = pure true := by rfl) (ok : blkC N sc scope [(x, i)] = true := by decide +kernel)
    (hl : Blk X scope fun Y => Loc Y.env.scope x := by intro _ _ _ _ _; first | exact Or.inl rfl | exact Or.inr rfl) (hf : Blk X scope fun Y => Y.fn x = true ∨ Y.env.scope.names.lookup x = some .local := by intro _ _ _ _ _; first | exact Or.inl rfl | exact Or.inr rfl)
    (hs : ∀ x, foldedSetIterable iter X.env x = pure x := by intro _; rfl) : E1 X B (.Assign [.Name z pos'] (.ListComp elt [⟨.Name x p3, iter, ifs, 0⟩] scope p) pos) Γ O := by
  subst h1
  subst hsc
  exact e1_setLc (own := [(x, i)]) hc hN hyl hsw (blkOk_by ok) (fun s H C cl fp => pg_name (i := i) hN h2 (hl s H C cl fp) (hf s H C cl fp)) (by simp) h hk hs
theorem e1_slc2 {z : Str} {k : Nat} (h1 : X.N = N) (hk : N[k]? = some z) (h2 : N[i]? = some x) (h3 : N[j]? = some y) (hc : X.calm = true) (hN : N.Nodup) {sc : Scope} (hsc : X.env.scope = sc) (hyl : X.env.scope.names.lookup z = some .local) (h : NI true X (.Tuple [.Name x p3, .Name y p4] kk p2) iter Γ fun ds => LcOk true X elt ifs scope [i, j] (gPair X.K i j) [i, j] Γ ds fun xs => O.nx (Γ.set k (.val (.list xs))))
    (hpg : Blk X scope fun Y => PG Y (.Tuple [.Name x p3, .Name y p4] kk p2) (gPair X.K i j)) (hsw : swapsWith (.ListComp elt [⟨.Tuple [.Name x p3, .Name y p4] kk p2, iter, ifs, 0⟩] scope p) (some (.Name z pos')) pos.line X.env = pure true := by rfl) (ok : blkC N sc scope [(x, i), (y, j)] = true := by decide +kernel)
    (hs : ∀ x, foldedSetIterable iter X.env x = pure x := by intro _; rfl) : E1 X B (.Assign [.Name z pos'] (.ListComp elt [⟨.Tuple [.Name x p3, .Name y p4] kk p2, iter, ifs, 0⟩] scope p) pos) Γ O := by
  subst h1
  subst hsc
  exact e1_setLc (own := [(x, i), (y, j)]) hc hN hyl hsw (blkOk_by ok) hpg (by simp) h hk hs
theorem nd_intA (T : Bi X.mg) (h : Nd X e Γ fun d => (∃ n : Int, d = .int n ∧ P (.int n)) ∨ (∃ n : Bool, d = .bool n ∧ P (.int (if n then 1 else 0)))) (hg : Gl X "int" := by rfl) (he : starEach [e] X.env = (false, eval e X.env) :: starEach [] X.env := by rfl) (hpl : (backTo pos (starEach [] X.env)).any (·.1) = false := by rfl) : Nd X (.Call (.Name "int" p) [e] [] pos) Γ P :=
  nd_callTy T.int boot_int' (na_cons (h.mono fun d hq => na_nil (by
    rcases hq with ⟨n, hx, q⟩ | ⟨n, hx, q⟩
    · subst hx
      exact ok_int q
    · subst hx
      exact ok_intB q)) he) hg (by decide) (by decide) he hpl
theorem sh_bmod {n m : Int} (h : BinOk X Γ .Mod (.int n) (.int m) P) : BinOk X Γ .Mod (.int n) (.int m) P := h
theorem sh_bmul {n m : Int} (h : BinOk X Γ .Mult (.int n) (.int m) P) : BinOk X Γ .Mult (.int n) (.int m) P := h
theorem sh_bfdiv {n m : Int} (h : BinOk X Γ .FloorDiv (.int n) (.int m) P) : BinOk X Γ .FloorDiv (.int n) (.int m) P := h
theorem sh_bpow {n m : Int} (h : BinOk X Γ .Pow (.int n) (.int m) P) : BinOk X Γ .Pow (.int n) (.int m) P := h
theorem sh_lenN (h : Nd X (.Call (.Name "len" p) [.Name x p2] [] pos) Γ P) : Nd X (.Call (.Name "len" p) [.Name x p2] [] pos) Γ P := h
/-- len of a list of our own -/
theorem nd_lenOwn {q : Addr} {xs : List PyData} (T : Bi X.mg) (h1 : X.N = N) (h2 : N[i]? = some x) (h3 : Γ[i]? = some (.own q xs)) (hv : Vis X.env.scope x) (q' : P (.int xs.length)) (hd : (x == ("__debug__" : Str)) = false := by decide) (hcd : (x == ("__classdict__" : Str)) = false := by decide) (hg : Gl X "len" := by rfl)
    (he : starEach [.Name x p2] X.env = (false, eval (.Name x p2) X.env) :: starEach [] X.env := by rfl) (hpl : (backTo pos (starEach [] X.env)).any (·.1) = false := by rfl) : Nd X (.Call (.Name "len" p) [.Name x p2] [] pos) Γ P :=
  nd_lend h3 (nd_len T (nd_v h1 h2 (by rw [List.getElem?_set_self (List.getElem?_eq_some_iff.mp h3).1]) hv ⟨xs, rfl, by unfold lless; rfl, q'⟩ hd hcd) hg he hpl)
theorem m2_parN {e' : Expr} {st : Stmt} {kt k2} {px py pt pt2 : Pos} (hc : X.calm = true) (h1 : X.N = N) (h2 : N[i]? = some x) (h3 : N[j]? = some y) (hN : N.Nodup) (hij : i ≠ j) (hw : swappedStores [.Tuple [.Name x px, .Name y py] kt pt] (.Tuple [e, e'] k2 pt2) X.env = pure (some [x, y]) := by rfl)
    (hx : X.env.scope.names.lookup x = some .local := by rfl) (hy : X.env.scope.names.lookup y = some .local := by rfl) (hs : swapsWithSole [.Tuple [.Name x px, .Name y py] kt pt] (.Tuple [e, e'] k2 pt2) pos.line X.env = pure false := by rfl) :
    M2 X (.Assign [.Tuple [.Name x px, .Name y py] kt pt] (.Tuple [e, e'] k2 pt2) pos) e e' i j := by
  subst h1
  exact m2_par hc hN hij hw h2 h3 hx hy hs
theorem m2_tupN {e' : Expr} {st : Stmt} {kt k2} {px py pt pt2 : Pos} (hc : X.calm = true) (h1 : X.N = N) (h2 : N[i]? = some x) (h3 : N[j]? = some y) (hN : N.Nodup) (hx : Loc X.env.scope x) (hy : Loc X.env.scope y) (fx : X.fn x = true ∨ X.env.scope.names.lookup x = some .local) (fy : X.fn y = true ∨ X.env.scope.names.lookup y = some .local)
    (hw : swappedStores [.Tuple [.Name x px, .Name y py] kt pt] (.Tuple [e, e'] k2 pt2) X.env = pure none := by rfl) (hs : swapsWithSole [.Tuple [.Name x px, .Name y py] kt pt] (.Tuple [e, e'] k2 pt2) pos.line X.env = pure false := by rfl) (ha : (assignEach [.Tuple [.Name x px, .Name y py] kt pt] X.env).map (·.2) = [assign (.Tuple [.Name x px, .Name y py] kt pt) X.env] := by rfl) :
    M2 X (.Assign [.Tuple [.Name x px, .Name y py] kt pt] (.Tuple [e, e'] k2 pt2) pos) e e' i j := by
  have hpg := pg_pair (p3 := px) (p4 := py) (pos' := pt) (kk := kt) hc h1 h2 h3 hN hx hy fx fy
  subst h1
  exact m2_tup hc hN hw h2 h3 hx hy hs hpg ha
end
end Wm

set_option Elab.async false
set_option linter.all false
set_option maxRecDepth 100000
set_option maxHeartbeats 4000000
/-! Wm.L: sum, min, sorted over tuples, too. -/
namespace Wm
open PySem PySem.Spec L2
section
variable {prog : Program} {w : World} {A : Around} {E : Value → Shared → Prop} {s : Shared} {l : Addr}
/-- iter(t) of a tuple: a new iterator behind all -/
theorem iterT {items : Array Value} {Q : Value → Shared → Prop} (hl : s.heap.IsTuple l items)
    (q : ∀ u : Shared, u = { s with heap := s.heap.push { cls := .type "tuple_iterator", data := .fields #[.ref l, .int 0 0] } } → (u.heap.IsTupleIter s.heap.objs.size l 0 ∧ u.heap.IsTuple l items) → (∀ c ∈ [s.heap.objs.size, l], c < u.heap.objs.size) → l ≠ s.heap.objs.size → Q (.ref s.heap.objs.size) u) :
    wpAny (model prog w) A (pyIter (.ref l)) Q E s := by
  have below : l < s.heap.objs.size := let ⟨_, z, _⟩ := hl; Heap.lt_size z
  refine wpAny_pyIter_tuple hl (q _ rfl ⟨⟨_, Heap.get?_push_size _ rfl, rfl, rfl⟩, ?_⟩ (fun c m => ?_) (Nat.ne_of_lt below))
  · obtain ⟨o, z, r⟩ := hl
    exact ⟨o, Heap.get?_push_of_some _ z, r⟩
  · have e : (s.heap.push { cls := .type "tuple_iterator", data := .fields #[.ref l, .int 0 0] }).objs.size = s.heap.objs.size + 1 := Heap.size_push ..
    show c < (s.heap.push { cls := .type "tuple_iterator", data := .fields #[.ref l, .int 0 0] }).objs.size
    rw [e]
    rcases List.mem_cons.mp m with z | m
    · rw [z]
      exact Nat.lt_succ_self _
    · rw [List.mem_singleton.mp m]
      exact Nat.lt_succ_of_lt below
theorem keptT {h' : Heap} (k : ∀ b o, b ∉ [s.heap.objs.size] → (s.heap.push { cls := .type "tuple_iterator", data := .fields #[.ref l, .int 0 0] }).get? b = some o → h'.get? b = some o) :
    ∀ b o, s.heap.get? b = some o → h'.get? b = some o := fun b o e => k b o (fun m => by
  have y := Heap.lt_size e
  rw [List.mem_singleton.mp m] at y
  exact Nat.lt_irrefl _ y) (Heap.get?_push_of_some _ e)
open PyProof.Rows in
theorem sumT {its : List Value} {ns : List Int} {Q : Value → Shared → Prop} (hh : A.handled = none) (hl : s.heap.IsTuple l its.toArray) (hi : IntsAre its ns)
    (q : ∀ h' tk t, (∀ b o, s.heap.get? b = some o → h'.get? b = some o) → Q (.int ns.sum t) { s with heap := h', toks := tk }) : wpAny (model prog w) A (call (.builtin "sum") [.ref l]) Q E s := by
  obtain ⟨xs, e⟩ := hi.allInts.items
  have hn : numsOf (intItems xs).toList = ns := by rw [← e]; exact hi.numsOf
  rw [nums_intItems] at hn
  rw [e] at hl
  refine call_sum_walkG (iterT hl fun u eu st fp ne => ?_)
  subst eu
  refine ⟨_, _, _, _, _, _, numAt xs, rfl, Walks.tuple (A := A.in1) hh _ l ne (intItems xs), st, fp, fun _ _ z => intItems_at z, fun h' tk t k => ?_⟩
  have z := q h' tk t (keptT k)
  have sz : (intItems xs).size = xs.size := by unfold intItems; exact Array.size_map ..
  rw [sz, preSum_eq, List.take_of_length_le (by simp), hn]
  exact z
open PyProof.Rows in
theorem minT {its : List Value} {ns : List Int} {Q : Value → Shared → Prop} (hh : A.handled = none) (hl : s.heap.IsTuple l its.toArray) (hi : IntsAre its ns) (hne : 0 < ns.length)
    (q : ∀ h' tk m t, (∀ b o, s.heap.get? b = some o → h'.get? b = some o) → m ∈ ns → (∀ a ∈ ns, m ≤ a) → Q (.int m t) { s with heap := h', toks := tk }) : wpAny (model prog w) A (call (.builtin "min") [.ref l]) Q E s := by
  obtain ⟨xs, e⟩ := hi.allInts.items
  have hn : numsOf (intItems xs).toList = ns := by rw [← e]; exact hi.numsOf
  rw [nums_intItems] at hn
  subst hn
  rw [e] at hl
  have pos : 0 < xs.size := by simpa using hne
  have sz : (intItems xs).size = xs.size := by unfold intItems; exact Array.size_map ..
  refine call_min_walk (iterT hl fun u eu st fp ne => ?_)
  subst eu
  refine ⟨_, _, _, _, _, _, _, rfl, Walks.tuple (A := A.in1) hh _ l ne (intItems xs), st, fp, by rw [sz]; exact pos, CmpOf.ints_lt (numAt xs) (fun _ _ z => intItems_at z), fun v h' tk hP k => ?_⟩
  obtain ⟨t, rfl⟩ := intItems_at hP
  rw [sz]
  obtain ⟨_, least⟩ := argBest_lt (numAt xs) (xs.size - 1)
  have bound := (argBest_lt (numAt xs) (xs.size - 1)).1
  refine q h' tk _ t (keptT k) ?_ fun a ha => ?_
  · rw [numAt_eq]
    refine PySem.getD_mem ?_
    rw [List.length_map, Array.length_toList]
    omega
  · obtain ⟨j, hj, rfl⟩ := mem_getD ha
    rw [List.length_map, Array.length_toList] at hj
    rw [← numAt_eq]
    exact least j (by omega)
end
section
variable {X : Cx} {Γ : Ctx} {P : PyData → Prop} {A : List PyData → Prop}
def IntsR (b : String) (Pq : List Int → Int → Prop) (X : Cx) : List V → Hp → VK → Prop := fun vs H Q => ∃ (a : Addr) (ns : List Int), vs = [V.ref a] ∧ SqT X.K H a (ns.map V.int) ∧ (b = "min" → 0 < ns.length) ∧ ∀ m, Pq ns m → Q (.int m) H
theorem cr_sumT (hc : X.calm = true) : CallR X (.builtin "sum") (IntsR "sum" (fun ns m => m = ns.sum) X) := by
  intro pins s σ H vs us Q I r h
  obtain ⟨a, ns, rfl, hs, _, q⟩ := h
  obtain ⟨its, rv, hl, _⟩ := I.tuple hs
  rw [Vals.ref1 r]
  exact sumT (I.ok.hd hc) hl rv.ints fun h' tk t k => ⟨.int _, H, I.kept k, ⟨_, rfl⟩, q _ rfl⟩
theorem cr_minT (hc : X.calm = true) : CallR X (.builtin "min") (IntsR "min" (fun ns m => m ∈ ns ∧ ∀ a ∈ ns, m ≤ a) X) := by
  intro pins s σ H vs us Q I r h
  obtain ⟨a, ns, rfl, hs, hne, q⟩ := h
  obtain ⟨its, rv, hl, _⟩ := I.tuple hs
  rw [Vals.ref1 r]
  exact minT (I.ok.hd hc) hl rv.ints (hne rfl) fun h' tk m t k m1 m2 => ⟨.int _, H, I.kept k, ⟨_, rfl⟩, q m ⟨m1, m2⟩⟩
theorem ok_sumT {ns : List Int} (hc : X.calm = true) (q : P (.int ns.sum)) : CallOk X Γ (.builtin "sum") [.tuple (ns.map .int)] P := ⟨_, cr_sumT hc, fun F H σ E vs r Q k => by
  obtain ⟨v, rfl, rv⟩ := rp1 r
  obtain ⟨a, ws, rfl, ha, ra⟩ := rp_tup rv
  exact ⟨a, ns, rfl, by rw [← rpAll_ints ra]; exact (ha.mono E.ex).sq, (fun z => absurd z (by decide)), fun m e => by subst e; exact k _ F H _ (.refl E) (.int _) q⟩⟩
theorem ok_minT {ns : List Int} (hc : X.calm = true) (hne : 0 < ns.length) (q : ∀ m, m ∈ ns → (∀ y ∈ ns, m ≤ y) → P (.int m)) : CallOk X Γ (.builtin "min") [.tuple (ns.map .int)] P := ⟨_, cr_minT hc, fun F H σ E vs r Q k => by
  obtain ⟨v, rfl, rv⟩ := rp1 r
  obtain ⟨a, ws, rfl, ha, ra⟩ := rp_tup rv
  exact ⟨a, ns, rfl, by rw [← rpAll_ints ra]; exact (ha.mono E.ex).sq, fun _ => hne, fun m e => k _ F H _ (.refl E) (.int _) (q m e.1 e.2)⟩⟩
variable {e : Expr} {pos p : Pos}
theorem nd_sumT (T : Bi X.mg) (hc : X.calm = true) (h : Nd X e Γ fun d => ∃ ns : List Int, d = .tuple (ns.map .int) ∧ P (.int ns.sum)) (hg : Gl X "sum" := by rfl) (he : starEach [e] X.env = (false, eval e X.env) :: starEach [] X.env := by rfl) (hpl : (backTo pos (starEach [] X.env)).any (·.1) = false := by rfl) : Nd X (.Call (.Name "sum" p) [e] [] pos) Γ P :=
  nd_callB T.sum boot_sum' (na_cons (h.mono fun d ⟨ns, hx, q⟩ => na_nil (by subst hx; exact ok_sumT hc q)) he) hg (by decide) (by decide) he hpl
theorem nd_minT (T : Bi X.mg) (hc : X.calm = true) (h : Nd X e Γ fun d => ∃ ns : List Int, d = .tuple (ns.map .int) ∧ 0 < ns.length ∧ ∀ m, m ∈ ns → (∀ y ∈ ns, m ≤ y) → P (.int m)) (hg : Gl X "min" := by rfl) (he : starEach [e] X.env = (false, eval e X.env) :: starEach [] X.env := by rfl) (hpl : (backTo pos (starEach [] X.env)).any (·.1) = false := by rfl) : Nd X (.Call (.Name "min" p) [e] [] pos) Γ P :=
  nd_callB T.min boot_min' (na_cons (h.mono fun d ⟨ns, hx, hl, q⟩ => na_nil (by subst hx; exact ok_minT hc hl q)) he) hg (by decide) (by decide) he hpl
end
/-! ### sorted(x), x a list or a tuple -/
section
variable {prog : Program} {w : World} {A : Around} {E : Value → Shared → Prop} {s : Shared}
open PyProof.Rows in
theorem collectS {l : Addr} {vs : List Value} {o : Obj} {n : Nat} {Ty : String} {Q : List Value → Shared → Prop} (hT : Ty = "list" ∨ Ty = "tuple") (ho : s.heap.get? l = some o) (hc : o.cls = .type Ty) (hd : o.data = .seq vs.toArray n) (hsz : vs.length ≤ sizeLine)
    (q : Q vs { s with heap := (s.heap.push (seqObj "list" #[] 0)).update s.heap.objs.size (Obj.mapSeq (· ++ vs.toArray)) }) : wpAny (model prog w) A (collect (.ref l)) Q E s := by
  unfold collect
  refine wpAny_bind (wpAny_runValue (codeAny_builtin entry_proto_collect' (show wpAny _ _ (do again (.builtin "list.__iadd__" ⟨[← newList [], .ref l], []⟩)) _ _ s from ?_)))
  refine wpAny_bind (wpAny_newList (wpAny_pure ⟨Code.quiet_builtin _ (by decide +kernel), codeAny_builtin entry_list_iadd' (show wpAny _ _ (Builtin.List.listExtendWith (.ref s.heap.objs.size) (.ref l) (.ref s.heap.objs.size)) _ _ { s with heap := s.heap.push (seqObj "list" #[] 0) } from ?_)⟩))
  unfold Builtin.List.listExtendWith
  have old : (s.heap.push (seqObj "list" #[] 0)).get? l = some o := Heap.get?_push_of_some _ ho
  have new : (s.heap.push (seqObj "list" #[] 0)).get? s.heap.objs.size = some (seqObj "list" #[] 0) := Heap.get?_push_size _ rfl
  refine wpAny_bind (wpAny_typeOf (T := Ty) ⟨o, old, hc⟩ ?_)
  rw [if_pos (by rcases hT with rfl | rfl <;> simp)]
  refine wpAny_bind (listItems_at old hd (wpAny_bind (listItems_at (xs := #[]) (n := 0) new rfl ?_)))
  rw [if_neg (by simp)]
  refine wpAny_bind (listUpdate_at (xs := #[]) (n := 0) new rfl (wpAny_pure ?_) (Nat.zero_le _) (by show (#[] ++ vs.toArray).size ≤ sizeLine + 1; simp only [Array.size_append, List.size_toArray, List.length_nil]; omega))
  refine wpAny_bind (wpAny_load (get?_update_seq new _) ?_)
  show wpAny _ _ (pure ((#[] : Array Value) ++ vs.toArray).toList) Q E _
  have e : ((#[] : Array Value) ++ vs.toArray).toList = vs := by simp
  rw [e]
  exact wpAny_pure q
open PyProof.Rows SrtO Srt in
theorem sortS {l : Addr} {vs : List Value} {o : Obj} {n : Nat} {Ty : String} {k : Value → Int × Int} {Q : Value → Shared → Prop} (hT : Ty = "list" ∨ Ty = "tuple") (ho : s.heap.get? l = some o) (hc : o.cls = .type Ty) (hd : o.data = .seq vs.toArray n) (hz : vs.length ≤ sizeLine) (hp : ∀ v ∈ vs, IsPair s.heap v (k v).1 (k v).2)
    (q : ∀ out : List Value, Srtd (fun v u => lexB (k v) (k u)) out → Stb (fun v u => lexB (k v) (k u)) out vs → Q (.ref (s.heap.objs.size + 1)) { s with heap := sortedAll s.heap vs out.toArray }) : wpAny (model prog w) A (call (.builtin "sorted") [.ref l]) Q E s := by
  refine Calls.call_function_entry kind_sorted plain_sorted entry_sorted (args_sorted1 _) ?_
  unfold Builtin.«sorted»
  refine wpAny_bind (m := checkCount "sorted" 1 1 _) (wpAny_pure (wpAny_bind (collectS hT ho hc hd hz (wpAny_bind (wpAny_newList ?_ hz)))))
  have size1 : ((s.heap.push (seqObj "list" #[] 0)).update s.heap.objs.size (Obj.mapSeq (· ++ vs.toArray))).objs.size = s.heap.objs.size + 1 := by rw [Heap.size_update]; exact size_push' _ _
  have at1 : (((s.heap.push (seqObj "list" #[] 0)).update s.heap.objs.size (Obj.mapSeq (· ++ vs.toArray))).push (seqObj "list" vs.toArray 0)).get? (s.heap.objs.size + 1) = some (seqObj "list" vs.toArray 0) := by
    rw [← size1]
    exact Heap.get?_push_size _ rfl
  have stay : ∀ b u, s.heap.get? b = some u → b ≠ s.heap.objs.size + 1 ∧ (((s.heap.push (seqObj "list" #[] 0)).update s.heap.objs.size (Obj.mapSeq (· ++ vs.toArray))).push (seqObj "list" vs.toArray 0)).get? b = some u := fun b u z => by
    have lt := Heap.lt_size z
    refine ⟨Nat.ne_of_lt (Nat.lt_succ_of_lt lt), Heap.get?_push_of_some _ ?_⟩
    rw [Heap.get?_update_ne _ _ _ _ (Nat.ne_of_lt lt)]
    exact Heap.get?_push_of_some _ z
  show wpAny _ _ _ _ _ { s with heap := ((s.heap.push (seqObj "list" #[] 0)).update s.heap.objs.size (Obj.mapSeq (· ++ vs.toArray))).push (seqObj "list" vs.toArray 0) }
  rw [size1]
  refine wpAny_bind (wpAny_holding (wpAny_call_entry slot_list_sort ⟨_, at1, rfl⟩ entry_list_sort (list_sort_ord (swo_lex k) at1 hz (fun h2 => ?_) fun out a b => ⟨_, rfl, wpAny_pure ⟨_, rfl, q out a b⟩⟩) (args_list_sort _)))
  refine pairs_sortableO (by omega) (fun v m => (hp v m).keeps fun b u z _ => (stay b u z).2) fun u z c => ?_
  have e : some u = some (seqObj "list" vs.toArray 0) := z.symm.trans at1
  cases e
  exact absurd (Value.type.inj c) (by decide)
end
/-- a pair of ints, as data -/
abbrev pD (c : Int × Int) : PyData := .tuple [.int c.1, .int c.2]
def isP (F : Hp) (v : V) (c : Int × Int) : Prop := ∃ a, v = .ref a ∧ TupAt F a [.int c.1, .int c.2]
theorem isP_of {F : Hp} {v : V} {c : Int × Int} (h : Rp F v (pD c)) : isP F v c := by
  obtain ⟨a, xs, rfl, ha, ra⟩ := rp_tup h
  obtain ⟨v1, v2, rfl, r1, r2⟩ := rp2 ra
  rw [rp_int r1, rp_int r2] at ha
  exact ⟨a, rfl, ha⟩
theorem isP_rp {F : Hp} {v : V} {c : Int × Int} (h : isP F v c) : Rp F v (pD c) := by
  obtain ⟨a, rfl, ha⟩ := h
  exact .tup ha (.cons (.int _) (.cons (.int _) .nil))
theorem isP_uniq {F : Hp} {v : V} {c d : Int × Int} (h : isP F v c) (h' : isP F v d) : c = d := by
  obtain ⟨a, rfl, ha⟩ := h
  obtain ⟨b, e, hb⟩ := h'
  cases e
  have e := ha.inj hb
  injection e with e1 e2
  injection e2 with e2 _
  injection e1 with e1
  injection e2 with e2
  exact Prod.ext e1 e2
open Classical in
noncomputable def keyP (F : Hp) (v : V) : Int × Int := if h : ∃ c, isP F v c then h.choose else (0, 0)
theorem keyP_eq {F : Hp} {v : V} {c : Int × Int} (h : isP F v c) : keyP F v = c := by
  unfold keyP
  have ex : ∃ c, isP F v c := ⟨c, h⟩
  rw [dif_pos ex]
  exact isP_uniq ex.choose_spec h
section
variable {X : Cx} {Γ : Ctx} {P : PyData → Prop} {A : List PyData → Prop} {e : Expr} {pos p : Pos}
/-- the key of a value through its address -/
noncomputable def keyV (F : Hp) : Value → Int × Int
  | .ref a => keyP F (.ref a)
  | _ => (0, 0)
def SortR (X : Cx) : List V → Hp → VK → Prop := fun vs H Q => ∃ (a : Addr) (xs : List V) (F : Hp), vs = [V.ref a] ∧ (SqL X.K H a xs ∨ SqT X.K H a xs) ∧ Same F H ∧ (∀ x ∈ xs, ∃ c, isP F x c) ∧
  ∀ ys z, List.Perm ys xs → ys.Pairwise (fun x y => SrtO.lexB (keyP F y) (keyP F x) = false) → H z = none → Q (.ref z) (upd H z (.lst ys))
theorem refsBack {F : Hp} : ∀ {xs : List V} {us : List Value}, Vals xs us → (∀ x ∈ xs, ∃ c, isP F x c) → ∀ u ∈ us, ∃ a, u = .ref a ∧ V.ref a ∈ xs
  | _, _, .nil, _, u, m => absurd m List.not_mem_nil
  | x :: xs, v :: us, .cons r t, h, u, m => by
    rcases List.mem_cons.mp m with e | m
    · obtain ⟨c, a, ex, _⟩ := h x List.mem_cons_self
      subst ex
      have r : v = .ref a := r
      exact ⟨a, e.trans r, List.mem_cons_self⟩
    · obtain ⟨a, ea, ma⟩ := refsBack t (fun y my => h y (List.mem_cons_of_mem _ my)) u m
      exact ⟨a, ea, List.mem_cons_of_mem _ ma⟩
def toV' : Value → V
  | .ref a => .ref a
  | _ => .non
theorem refsMap {F : Hp} : ∀ {xs : List V} {us : List Value}, Vals xs us → (∀ x ∈ xs, ∃ c, isP F x c) → us.map toV' = xs
  | _, _, .nil, _ => rfl
  | x :: xs, v :: us, .cons r t, h => by
    obtain ⟨c, a, ex, _⟩ := h x List.mem_cons_self
    subst ex
    have r : v = .ref a := r
    subst r
    show V.ref a :: us.map toV' = _
    rw [refsMap t fun y my => h y (List.mem_cons_of_mem _ my)]
theorem valsMap : ∀ {us : List Value}, (∀ u ∈ us, ∃ a, u = Value.ref a) → Vals (us.map toV') us
  | [], _ => .nil
  | u :: us, h => by
    obtain ⟨a, rfl⟩ := h u List.mem_cons_self
    exact .cons rfl (valsMap fun v m => h v (List.mem_cons_of_mem _ m))
theorem cr_sortP : CallR X (.builtin "sorted") (SortR X) := by
  intro pins s σ H vs us Q I r h
  obtain ⟨a, xs, F, rfl, hs, sF, hx, q⟩ := h
  rw [Vals.ref1 r]
  have go : ∀ (Ty : String) (its : List Value) (o : Obj) (n : Nat), (Ty = "list" ∨ Ty = "tuple") → s.heap.get? a = some o → o.cls = .type Ty → o.data = .seq its.toArray n → Vals xs its → xs.length ≤ sizeLine → wpAny (model X.prog X.w) X.A (call (.builtin "sorted") [.ref a]) (EP X pins σ Q) X.xe s := by
    intro Ty its o n hT ho hc hd rv hz
    have back := refsBack rv hx
    refine sortS (k := keyV F) hT ho hc hd (by rw [← rv.length]; exact hz) (fun v m => ?_) fun out h1 h2 => ?_
    · obtain ⟨b, rfl, mb⟩ := back v m
      obtain ⟨c, hc'⟩ := hx _ mb
      have ek : keyV F (.ref b) = c := keyP_eq hc'
      obtain ⟨b', eb, ob, _, hb⟩ := hc'
      cases eb
      obtain ⟨g1, _, jts, rj, o2, g2, g3, n2, g4⟩ := (show ObjOk X.prog X.w H s.heap b (.frz ob (.tup [.int c.1, .int c.2])) from I.hok b _ (sF _ _ hb))
      obtain ⟨u1, u2, rfl, ⟨t1, rfl⟩, ⟨t2, rfl⟩⟩ := vals2 rj
      rw [ek]
      exact ⟨b, o2, t1, t2, n2, rfl, g2, g3, g4⟩
    · have refs : ∀ u ∈ out, ∃ b, u = Value.ref b := fun u m => by
        obtain ⟨b, e, _⟩ := back u (h2.perm.mem_iff.mp m)
        exact ⟨b, e⟩
      have vo := valsMap refs
      have pm : (out.map toV').Perm xs := by
        have z := h2.perm.map toV'
        rw [refsMap rv hx] at z
        exact z
      obtain ⟨ep, hat⟩ := PyProof.Rows.sortedAll_at s.heap its out.toArray
      refine ⟨.ref (s.heap.objs.size + 1), _, I.laid (t' := s.toks) (o := .lst (out.map toV')) (fun _ _ z => PyProof.Rows.sortedAll_old z) (Nat.le_succ _) ⟨by rw [pm.length_eq]; exact hz, out, ep, vo, hat⟩, rfl, q _ _ pm ?_ (I.hok.fresh (Nat.le_succ _))⟩
      refine List.pairwise_map.mpr ((List.Pairwise.imp_of_mem (fun {u v} mu mv z => ?_)) h1)
      obtain ⟨b, rfl⟩ := refs u mu
      obtain ⟨c, rfl⟩ := refs v mv
      exact z
  rcases hs with hs | hs
  · obtain ⟨its, rv, hl, hz⟩ := I.list hs
    obtain ⟨o, ho, hc, n, hd⟩ := hl.isList
    exact go "list" its o n (.inl rfl) ho hc hd rv hz
  · obtain ⟨its, rv, hl, hz⟩ := I.tuple hs
    obtain ⟨o, ho, hc, n, hd⟩ := hl
    exact go "tuple" its o n (.inr rfl) ho hc hd rv hz
theorem all_isP {F : Hp} : ∀ {vs : List V} {cs : List (Int × Int)}, RpAll F vs (cs.map pD) → ∀ v ∈ vs, ∃ c, isP F v c
  | _, [], .nil, v, m => absurd m List.not_mem_nil
  | _, c :: cs, .cons h t, v, m => by
    rcases List.mem_cons.mp m with e | m
    · rw [e]
      exact ⟨c, isP_of h⟩
    · exact all_isP t v m
theorem keys_of {F : Hp} : ∀ {vs : List V} {cs : List (Int × Int)}, RpAll F vs (cs.map pD) → vs.map (keyP F) = cs
  | _, [], .nil => rfl
  | _, c :: cs, .cons h t => by
    rw [List.map_cons, keyP_eq (isP_of h), keys_of t]
theorem rp_keys {F : Hp} : ∀ {vs : List V}, (∀ v ∈ vs, ∃ c, isP F v c) → RpAll F vs ((vs.map (keyP F)).map pD)
  | [], _ => .nil
  | v :: vs, h => by
    obtain ⟨c, hc⟩ := h v List.mem_cons_self
    refine .cons ?_ (rp_keys fun u m => h u (List.mem_cons_of_mem _ m))
    show Rp F v (pD (keyP F v))
    rw [keyP_eq hc]
    exact isP_rp hc
/-- lexicographically ascending pairs -/
def LexLe (c d : Int × Int) : Prop := SrtO.lexB d c = false
theorem okL_sortP {cs : List (Int × Int)} {d : PyData} (hd : seqD d = some (cs.map pD)) (q : ∀ cs' : List (Int × Int), cs'.Perm cs → cs'.Pairwise LexLe → A (cs'.map pD)) : CallOkL X Γ (.builtin "sorted") [d] A := ⟨_, cr_sortP, fun F H σ E vs r Q k => by
  obtain ⟨v, rfl, rv⟩ := rp1 r
  have go : ∀ (a : Addr) (ws : List V), (SqL X.K H a ws ∨ SqT X.K H a ws) → RpAll F ws (cs.map pD) → SortR X [V.ref a] H Q := fun a ws hs ra => by
    have ai := all_isP ra
    refine ⟨a, ws, F, rfl, hs, E.ex, ai, fun ys z pm pw hz => ?_⟩
    have ay : ∀ y ∈ ys, ∃ c, isP F y c := fun y m => ai y (pm.mem_iff.mp m)
    refine k z ys _ F _ (Gr.mine E hz) hz (E.ex.free hz) upd_same (rp_keys ay) (q _ ?_ ?_)
    · have := pm.map (keyP F)
      rw [keys_of ra] at this
      exact this
    · exact List.pairwise_map.mpr pw
  cases d with
  | list ys =>
    have hd : ys = cs.map pD := Option.some.inj hd
    subst hd
    obtain ⟨a, ws, rfl, ha, ra⟩ := rp_lst rv
    exact go a ws (.inl (.of (E.ex _ _ ha))) ra
  | tuple ys =>
    have hd : ys = cs.map pD := Option.some.inj hd
    subst hd
    obtain ⟨a, ws, rfl, ha, ra⟩ := rp_tup rv
    exact go a ws (.inr (ha.mono E.ex).sq) ra
  | none => cases hd
  | bool _ => cases hd
  | int _ => cases hd
  | str _ => cases hd
  | dict _ => cases hd⟩
theorem nd_sortP (T : Bi X.mg) (h : Nd X e Γ fun d => ∃ cs : List (Int × Int), seqD d = some (cs.map pD) ∧ ∀ cs' : List (Int × Int), cs'.Perm cs → cs'.Pairwise LexLe → P (.list (cs'.map pD))) (hg : Gl X "sorted" := by rfl) (he : starEach [e] X.env = (false, eval e X.env) :: starEach [] X.env := by rfl) (hpl : (backTo pos (starEach [] X.env)).any (·.1) = false := by rfl) : Nd X (.Call (.Name "sorted" p) [e] [] pos) Γ P :=
  nl_nd (nl_callB T.sorted boot_sorted' (na_cons (h.mono fun d ⟨cs, hx, q⟩ => na_nil (okL_sortP hx q)) he) hg (by decide) (by decide) he hpl)
end
end Wm

set_option Elab.async false
set_option linter.all false
set_option maxRecDepth 100000
set_option maxHeartbeats 4000000
/-! Wm.U: not in range(n), lists that are empty. -/
namespace Wm
open PySem PySem.Spec L2
section
variable {X : Cx} {Γ : Ctx} {P : PyData → Prop} {A : List PyData → Prop} {a e : Expr} {pos p pos2 : Pos}
theorem cr_range1 : CallR X (.type "range") (fun vs H Q => ∃ n : Int, vs = [V.int n] ∧ ∀ z, H z = none → Q (.ref z) (upd H z (.rng 0 n))) := by
  intro pins s σ H vs us Q I r h
  obtain ⟨n, rfl, q⟩ := h
  obtain ⟨u, rfl, t, rfl⟩ := vals1 r
  exact call_range_1 ⟨.ref s.heap.objs.size, _, I.laid (o := .rng 0 n) (fun b o z => Heap.get?_push_of_some _ z) (Nat.le_refl _) ⟨_, _, _, Heap.get?_push_size _ rfl⟩, rfl, q _ (I.hok.fresh (Nat.le_refl _))⟩
theorem op_outR : OpR X (compareOp .NotIn) (fun x y H Q => ∃ (i : Int) (r : Addr) (lo hi : Int), x = V.int i ∧ y = V.ref r ∧ H r = some (.rng lo hi) ∧ Q (.bl (!decide (lo ≤ i ∧ i < hi))) H) := by
  intro pins s σ H x y v u Q I rx ry h
  obtain ⟨i, r, lo, hi, rfl, rfl, hr, q⟩ := h
  obtain ⟨k, rfl⟩ := rx
  cases ry
  obtain ⟨t1, t2, t3, ho⟩ := I.hok r _ hr
  show wpAny _ _ (do return Value.bool !(← contains (Value.ref r) (Value.int i k))) _ _ s
  refine wpAny_bind (wpAny_contains_slot (T := "range") ⟨_, ho, rfl⟩ PySem.F.slot_range_contains ?_)
  refine call_meets PySem.F.slot_range_contains ⟨_, ho, rfl⟩ PySem.F.entry_range_contains (PySem.F.args_range_contains_2 _ _) (q_contains r lo hi i t1 t2 t3 k) ⟨ho, wpAny_truthy_bool (wpAny_pure ⟨.bl _, H, I, rfl, ?_⟩)⟩
  rw [place1]
  exact q
theorem we_rg (hm : X.mg "range" = none) (hg : Gl X "range") (he : starEach [e] X.env = (false, eval e X.env) :: starEach [] X.env) (hpl : (backTo pos2 (starEach [] X.env)).any (·.1) = false) {σ : L2.St} {H : Hp} {Q : VK}
    (h : we X e σ H fun v H1 => ∃ n : Int, v = .int n ∧ ∀ z, H1 z = none → Q (.ref z) (upd H1 z (.rng 0 n))) : we X (.Call (.Name "range" p) [e] [] pos2) σ H Q :=
  we_of (pe_callTy cr_range1 hg hm PyProof.Rows.boot_range (pa_cons pe_we pa_nil he) (by decide) (by decide) he hpl) (we_mono h fun v H1 ⟨n, e1, q⟩ => ⟨n, by rw [e1], q⟩)
/-- a not in range(e) -/
theorem nt_outR {R : Bool → Prop} (T : Bi X.mg) (h : Nd X a Γ fun x => ∃ i : Int, x = .int i ∧ Nd X e Γ fun y => ∃ n : Int, y = .int n ∧ R (!decide (0 ≤ i ∧ i < n))) (hg : Gl X "range" := by rfl) (he : starEach [e] X.env = (false, eval e X.env) :: starEach [] X.env := by rfl) (hpl : (backTo pos2 (starEach [] X.env)).any (·.1) = false := by rfl)
    (hm : behindInMarks .NotIn (.Call (.Name "range" p) [e] [] pos2) = false := by first | exact nobehind _ (by decide) (by decide) | rfl | with_unfolding_all rfl) : Nt X (.Compare a [.NotIn] [.Call (.Name "range" p) [e] [] pos2] pos) Γ R := fun F H σ E Q k => by
  refine wt_of (pt_cmpR op_outR pe_we pe_we hm) ?_
  refine h F H σ E _ fun v F1 H1 x g1 r1 ⟨i, ex, p1⟩ => ?_
  subst ex
  refine we_rg T.range hg he hpl (p1 F1 H1 σ (E.grow g1) _ fun u F2 H2 y g2 r2 ⟨n, ey, q⟩ => ?_)
  subst ey
  refine ⟨n, rp_int r2, fun z hz => ⟨i, z, 0, n, rp_int r1, rfl, upd_same, _, rfl, ?_⟩⟩
  have g := g1.trans g2
  exact k _ _ _ (g.trans (Gr.new (E.grow g) hz)) q
theorem sh_flat {xs : List PyData} (h : xs.all flatD = true) : SeqAt.shaped (.list xs) = true := by
  have dep : ∀ ys : List PyData, ys.all flatD = true → PyData.depthAll ys = 0 := fun ys => by
    induction ys with
    | nil => intro _; simp [PyData.depthAll]
    | cons y ys ih =>
      intro hy
      rw [List.all_cons, Bool.and_eq_true] at hy
      have hy1 := hy.1
      rw [PyData.depthAll, ih hy.2]
      cases y <;> first | (simp [flatD] at hy1; done) | simp [PyData.depth]
  show (PyData.canLay0 (.list xs) && decide (PyData.depth (.list xs) ≤ 64)) = true
  rw [Bool.and_eq_true]
  refine ⟨by simp only [PyData.canLay0]; exact canF h, decide_eq_true ?_⟩
  simp only [PyData.depth]
  rw [dep xs h]
  decide
theorem eqv_nilL (xs : List PyData) : PyData.eqv (.list xs) (.list []) = xs.isEmpty := by
  cases xs <;> simp [PyData.eqv, PyData.eqvAll]
theorem cmp_eqNil {k : Nat} {xs : List PyData} (r : Room k X.A) (hx : SeqAt.shaped (.list xs) = true) (q : P (.bool xs.isEmpty)) : CmpOk X Γ .Eq (.list xs) (.list []) P := cmp_eq r.units hx rfl (by rw [eqv_nilL]; exact q)
theorem cmp_neNil {k : Nat} {xs : List PyData} (r : Room k X.A) (hx : SeqAt.shaped (.list xs) = true) (q : P (.bool (!xs.isEmpty))) : CmpOk X Γ .NotEq (.list xs) (.list []) P := cmp_ne r.units hx rfl (by rw [eqv_nilL]; exact q)
theorem sh_outR {R : Bool → Prop} (h : Nt X (.Compare a [.NotIn] [.Call (.Name "range" p) [e] [] pos2] pos) Γ R) : Nt X (.Compare a [.NotIn] [.Call (.Name "range" p) [e] [] pos2] pos) Γ R := h
theorem rgV_ints (n : Nat) : rgV 0 (n : Int) = ((List.range n).map fun i : Nat => (i : Int)).map V.int := by
  unfold rgV
  rw [show ((n : Int) - 0).toNat = n by omega, List.map_map]
  apply List.map_congr_left
  intro i _
  show V.int _ = V.int _
  rw [Int.zero_add]
/-- list(range(e)) -/
theorem nl_listRg (T : Bi X.mg) (hc : X.calm = true) (h : Nd X e Γ fun d => ∃ n : Nat, d = iD n ∧ n ≤ 100000 ∧ A ((List.range n).map iD)) (hg : Gl X "list" := by rfl) (hg2 : Gl X "range" := by rfl) (he : starEach [e] X.env = (false, eval e X.env) :: starEach [] X.env := by rfl)
    (na : starEach [.Call (.Name "range" p2) [e] [] p] X.env = (false, eval (.Call (.Name "range" p2) [e] [] p) X.env) :: starEach [] X.env := by rfl) {p3 : Pos} : Nl X (.Call (.Name "list" p3) [.Call (.Name "range" p2) [e] [] p] [] pos2) Γ A := fun F H σ E Q k =>
  we_of (pe_listRg hc hg T.list (prg_1 hg2 T.range pe_we he) na) (h F H σ E _ fun v F1 H1 d g r ⟨n, ed, hn, q⟩ => by
    subst ed
    have E1 := E.grow g
    refine ⟨n, rp_int r, ⟨by decide, by decide, by omega, by omega, by omega⟩, fun z hz => ?_⟩
    refine k z _ ((List.range n).map iD) F1 _ (g.trans (Gr.mine E1 hz)) (back_none g hz) (E1.ex.free hz) upd_same ?_ q
    rw [rgV_ints]
    have := ints_rpAll (H := F1) ((List.range n).map fun i : Nat => (i : Int))
    rw [List.map_map] at this
    rw [List.map_map]
    rw [List.map_map] at this
    exact this)
theorem nd_listRg (T : Bi X.mg) (hc : X.calm = true) (h : Nd X e Γ fun d => ∃ n : Nat, d = iD n ∧ n ≤ 100000 ∧ P (.list ((List.range n).map iD))) (hg : Gl X "list" := by rfl) (hg2 : Gl X "range" := by rfl) (he : starEach [e] X.env = (false, eval e X.env) :: starEach [] X.env := by rfl)
    (na : starEach [.Call (.Name "range" p2) [e] [] p] X.env = (false, eval (.Call (.Name "range" p2) [e] [] p) X.env) :: starEach [] X.env := by rfl) {p3 : Pos} : Nd X (.Call (.Name "list" p3) [.Call (.Name "range" p2) [e] [] p] [] pos2) Γ P := nl_nd (nl_listRg T hc h hg hg2 he na)
theorem sh_listRg {p3 : Pos} (h : Nd X (.Call (.Name "list" p3) [.Call (.Name "range" p) [e] [] pos2] [] pos) Γ P) : Nd X (.Call (.Name "list" p3) [.Call (.Name "range" p) [e] [] pos2] [] pos) Γ P := h
end
end Wm

set_option Elab.async false
set_option linter.all false
set_option maxRecDepth 100000
set_option maxHeartbeats 4000000
/-! Wm.D: the bag opened: its four items read and set. -/
namespace Wm
open PySem PySem.Spec L2
section
variable {B : Bs} {F H : Hp} {σ : L2.St} {Γ : Ctx} {i : Nat} {p c : Addr}
/-- a slot seen in another way -/
theorem EnB.reslot {s s' : Sd} (E : EnB B F H σ Γ) (hi : Γ[i]? = some s) (ha : s'.addrs = s.addrs) (hs : ∀ ov, SlOk F H ov s → SlOk F H ov s') : EnB B F H σ (Γ.set i s') := by
  have hil : i < Γ.length := (List.getElem?_eq_some_iff.mp hi).1
  have back : ∀ (j : Nat) t, (Γ.set i s')[j]? = some t → (j = i ∧ t = s') ∨ (j ≠ i ∧ Γ[j]? = some t) := fun j t e => by
    by_cases hj : i = j
    · subst hj
      rw [List.getElem?_set_self hil] at e
      exact .inl ⟨rfl, (Option.some.inj e).symm⟩
    · rw [List.getElem?_set_ne hj] at e
      exact .inr ⟨Ne.symm hj, e⟩
  have same : ∀ (j : Nat) t, (Γ.set i s')[j]? = some t → ∃ t', Γ[j]? = some t' ∧ t.addrs = t'.addrs := fun j t e => by
    rcases back j t e with ⟨e1, e2⟩ | ⟨_, e2⟩
    · subst e1 e2
      exact ⟨s, hi, ha⟩
    · exact ⟨t, e2, rfl⟩
  refine ⟨⟨by rw [List.length_set]; exact E.en.len, E.en.ex, fun j t ov e1 e2 => ?_, fun j l t u a e1 e2 m1 m2 => ?_⟩, E.f0, E.fr, E.nw, fun t m q hq => ?_, E.al⟩
  · rcases back j t e1 with ⟨x1, x2⟩ | ⟨_, x2⟩
    · subst x1 x2
      exact hs ov (E.en.sl j s ov hi e2)
    · exact E.en.sl j t ov x2 e2
  · obtain ⟨t', h1, h2⟩ := same j t e1
    obtain ⟨u', h3, h4⟩ := same l u e2
    exact E.en.sep j l t' u' a h1 h3 (by rw [← h2]; exact m1) (by rw [← h4]; exact m2)
  · obtain ⟨j, hj⟩ := ctx_mem m
    obtain ⟨t', h1, h2⟩ := same j t hj
    exact E.mv t' (List.mem_of_getElem? h1) q (by rw [← h2]; exact hq)
/-- the list of a slot written anew -/
theorem EnB.rewrite {s s' : Sd} {ws : List V} (E : EnB B F H σ Γ) (hi : Γ[i]? = some s) (hp : s.addrs = [p]) (hp' : s'.addrs = [p]) (hs : ∀ ov, SlOk F H ov s → SlOk F (upd H p (.lst ws)) ov s') : EnB B F (upd H p (.lst ws)) σ (Γ.set i s') := by
  have hil : i < Γ.length := (List.getElem?_eq_some_iff.mp hi).1
  have hm : p ∈ s.addrs := by rw [hp]; exact List.mem_singleton.mpr rfl
  have nF : F p = none := (E.en.addr_no hi hm).1
  have other : ∀ (j : Nat) t, i ≠ j → Γ[j]? = some t → p ∉ t.addrs := fun j t hj e m => hj (E.en.sep i j _ t p hi e hm m)
  have back : ∀ (j : Nat) t, (Γ.set i s')[j]? = some t → (j = i ∧ t = s') ∨ (j ≠ i ∧ Γ[j]? = some t) := fun j t e => by
    by_cases hj : i = j
    · subst hj
      rw [List.getElem?_set_self hil] at e
      exact .inl ⟨rfl, (Option.some.inj e).symm⟩
    · rw [List.getElem?_set_ne hj] at e
      exact .inr ⟨Ne.symm hj, e⟩
  have same : ∀ (j : Nat) t, (Γ.set i s')[j]? = some t → ∃ t', Γ[j]? = some t' ∧ t.addrs = t'.addrs := fun j t e => by
    rcases back j t e with ⟨e1, e2⟩ | ⟨_, e2⟩
    · subst e1 e2
      exact ⟨s, hi, by rw [hp, hp']⟩
    · exact ⟨t, e2, rfl⟩
  refine ⟨⟨by rw [List.length_set]; exact E.en.len, fun a o e => ?_, fun j t ov e1 e2 => ?_, fun j l t u a e1 e2 m1 m2 => ?_⟩, E.f0, fun a o e n => ?_, E.nw, fun t m q hq => ?_, fun a n => ?_⟩
  · rw [upd_ne (ne_of_none e nF)]
    exact E.en.ex a o e
  · rcases back j t e1 with ⟨x1, x2⟩ | ⟨x1, x2⟩
    · subst x1 x2
      exact hs ov (E.en.sl j s ov hi e2)
    · have out := other j t (Ne.symm x1) x2
      refine (E.en.sl j t ov x2 e2).grow (Same.refl F) (fun a o ha e _ => ?_) (fun a ha => (E.en.addr_no x2 ha).1) (fun q c e => ?_)
      · rw [upd_ne fun z => out (by rw [← z]; exact ha)]
        exact e
      · subst e
        obtain ⟨s0, s1, s2, e, q2⟩ := (E.en.bag (List.mem_of_getElem? x2)).2
        refine ⟨s0, s1, s2, ?_, q2⟩
        rw [upd_ne (show q ≠ p from fun z => out (by rw [← z]; simp [Sd.addrs]))]
        exact e
  · obtain ⟨t', h1, h2⟩ := same j t e1
    obtain ⟨u', h3, h4⟩ := same l u e2
    exact E.en.sep j l t' u' a h1 h3 (by rw [← h2]; exact m1) (by rw [← h4]; exact m2)
  · have ha : a ≠ p := fun z => by
      rcases E.mv _ (List.mem_of_getElem? hi) p hm with h | h
      · rw [z] at n
        exact n h
      · rw [z, h] at e
        cases e
    rw [upd_ne ha]
    exact E.fr a o e n
  · obtain ⟨j, hj⟩ := ctx_mem m
    obtain ⟨t', h1, h2⟩ := same j t hj
    exact E.mv t' (List.mem_of_getElem? h1) q (by rw [← h2]; exact hq)
  · by_cases ha : a = p
    · rw [ha, upd_same]
      simp
    · rw [upd_ne ha]
      exact E.al a n
end
section
variable {X : Cx} {B : Bs} {Γ : Ctx} {P : PyData → Prop} {O : Po} {sts : List Stmt} {i : Nat} {p c : Addr} {s0 s1 s2 : Int} {N : List Str} {x : Str} {e : Expr} {pos pos' px : Pos}
theorem es_open (hi : Γ[i]? = some (.bag p c)) (h : ∀ s0 s1 s2 : Int, 0 ≤ s0 → 0 ≤ s1 → s1 < 2147483647 → 0 ≤ s2 → Es X B sts (Γ.set i (.opn p c s0 s1 s2)) O) : Es X B sts Γ O := fun F H σ E D k => by
  obtain ⟨ov, _, h2⟩ := E.en.at hi
  obtain ⟨_, _, _, s0, s1, s2, hH, b0, b1, b2, b3⟩ := id h2
  exact h s0 s1 s2 b0 b1 b2 b3 F H σ (E.reslot hi rfl fun ov' hs => ⟨hs.1, hs.2.1, hs.2.2.1, hH⟩) D k
theorem es_close (hi : Γ[i]? = some (.opn p c s0 s1 s2)) (b : 0 ≤ s0 ∧ 0 ≤ s1 ∧ s1 < 2147483647 ∧ 0 ≤ s2) (h : Es X B sts (Γ.set i (.bag p c)) O) : Es X B sts Γ O := fun F H σ E D k =>
  h F H σ (E.reslot hi rfl fun ov' hs => ⟨hs.1, hs.2.1, hs.2.2.1, s0, s1, s2, hs.2.2.2, b⟩) D k
/-- what an item of the opened bag is -/
def bagIt (s0 s1 s2 : Int) (k : Int) (P : PyData → Prop) : Prop := (k = 0 ∧ P (.int s0)) ∨ (k = 1 ∧ P (.int s1)) ∨ (k = 2 ∧ P (.int s2)) ∨ (k = 3 ∧ ∀ cells : List Int, cells.length ≤ 1000 → P (.list (cells.map .int)))
theorem nd_bagAt {k : Int} {kx} {pk : Pos} (h1 : X.N = N) (h2 : N[i]? = some x) (h3 : Γ[i]? = some (.opn p c s0 s1 s2)) (hv : Vis X.env.scope x) (q : bagIt s0 s1 s2 k P) (hd : (x == ("__debug__" : Str)) = false := by decide) (hcd : (x == ("__classdict__" : Str)) = false := by decide) (hs : PlainIx (.Constant (.int k) kx pk) := by intro _ _; rfl) : Nd X (.Subscript (.Name x px) (.Constant (.int k) kx pk) pos) Γ P := fun F H σ E Q kk => by
  subst h1
  refine we_of (pe_ix ix_list (pe_var h2 hv hd hcd) pe_int hs) ?_
  obtain ⟨ov, g1, rfl, nF, ⟨cells, hcz, hc⟩, hH⟩ := E.at h3
  refine ⟨.ref p, g1, ?_⟩
  have sq : SqL X.K H p [.int s0, .int s1, .int s2, .ref c] := .of hH
  rcases q with ⟨rfl, q⟩ | ⟨rfl, q⟩ | ⟨rfl, q⟩ | ⟨rfl, q⟩
  · exact ⟨p, _, 0, .int s0, rfl, rfl, sq, atI_nat (i := 0) rfl, kk _ F H _ (.refl E) (.int _) q⟩
  · exact ⟨p, _, 1, .int s1, rfl, rfl, sq, atI_nat (i := 1) rfl, kk _ F H _ (.refl E) (.int _) q⟩
  · exact ⟨p, _, 2, .int s2, rfl, rfl, sq, atI_nat (i := 2) rfl, kk _ F H _ (.refl E) (.int _) q⟩
  · exact ⟨p, _, 3, .ref c, rfl, rfl, sq, atI_nat (i := 3) rfl, kk _ F H _ (.refl E) (.lst hc (ints_rpAll cells)) (q cells hcz)⟩
/-- the bag with one of its numbers set -/
def bagSet (p c : Addr) (s0 s1 s2 : Int) (k v : Int) (R : Sd → Prop) : Prop := (k = 0 ∧ R (.opn p c v s1 s2)) ∨ (k = 1 ∧ R (.opn p c s0 v s2)) ∨ (k = 2 ∧ R (.opn p c s0 s1 v))
theorem bag_upd {F H : Hp} {σ : L2.St} {k v : Int} {R : Sd → Prop} (E : EnB B F H σ Γ) (h3 : Γ[i]? = some (.opn p c s0 s1 s2)) (q : bagSet p c s0 s1 s2 k v R) :
    ∃ j ws sd, ixN 4 k = some j ∧ ws = ([V.int s0, .int s1, .int s2, .ref c] : List V).set j (.int v) ∧ R sd ∧ EnB B F (upd H p (.lst ws)) σ (Γ.set i sd) := by
  rcases q with ⟨rfl, q⟩ | ⟨rfl, q⟩ | ⟨rfl, q⟩
  · exact ⟨0, _, _, rfl, rfl, q, E.rewrite h3 rfl rfl fun ov hs => ⟨hs.1, hs.2.1, hs.2.2.1, upd_same⟩⟩
  · exact ⟨1, _, _, rfl, rfl, q, E.rewrite h3 rfl rfl fun ov hs => ⟨hs.1, hs.2.1, hs.2.2.1, upd_same⟩⟩
  · exact ⟨2, _, _, rfl, rfl, q, E.rewrite h3 rfl rfl fun ov hs => ⟨hs.1, hs.2.1, hs.2.2.1, upd_same⟩⟩
theorem e1_bagSet {k : Int} {kx} {pk : Pos} (h1 : X.N = N) (h2 : N[i]? = some x) (h3 : Γ[i]? = some (.opn p c s0 s1 s2)) (hv : Vis X.env.scope x) (h : Nd X e Γ fun d => ∃ v : Int, d = .int v ∧ bagSet p c s0 s1 s2 k v fun sd => O.nx (Γ.set i sd)) (hd : (x == ("__debug__" : Str)) = false := by decide) (hcd : (x == ("__classdict__" : Str)) = false := by decide)
    (hs : swapsWithSole [.Subscript (.Name x px) (.Constant (.int k) kx pk) pos'] e pos.line X.env = pure false := by rfl) (hw : swappedStores [.Subscript (.Name x px) (.Constant (.int k) kx pk) pos'] e X.env = pure none := by rfl)
    (ha : (assignEach [.Subscript (.Name x px) (.Constant (.int k) kx pk) pos'] X.env).map (·.2) = [assign (.Subscript (.Name x px) (.Constant (.int k) kx pk) pos') X.env] := by rfl)
    (hpg : PG X (.Subscript (.Name x px) (.Constant (.int k) kx pk) pos') (gSub (we X (.Name x px)) (we X (.Constant (.int k) kx pk)) rSetL) := by exact pg_sub pe_we pe_we set_list) : E1 X B (.Assign [.Subscript (.Name x px) (.Constant (.int k) kx pk) pos'] e pos) Γ O := fun F H σ E D kk => by
  subst h1
  refine ws_of (ps_asg pe_we hpg hs hw ha) ?_
  refine h F H σ E.en _ fun u F1 H1 d g r ⟨v, ed, q⟩ => ?_
  subst ed
  have E1' := E.grow g
  obtain ⟨j, ws', sd, hj, ews, q, E2⟩ := bag_upd E1' h3 q
  obtain ⟨ov, g1, rfl, nF, _, hH⟩ := E1'.en.at h3
  refine we_of (pe_var h2 hv hd hcd) ⟨.ref p, g1, we_of pe_int ?_⟩
  refine ⟨p, _, k, j, rfl, rfl, hH, hj, ?_⟩
  rw [rp_int r, ← ews]
  exact kk.nx F1 _ σ _ g.sF E2 q
theorem get_listI : PGet X fun x y H Q => ∃ (a : Addr) (xs : List V) (k : Int) (v : V), x = .ref a ∧ y = .int k ∧ SqL X.K H a xs ∧ 0 ≤ k ∧ k < 2 ^ 63 ∧ xs[k.toNat]? = some v ∧ Q v H := by
  intro pins s σ H o i ov iv Q I ro ri h
  obtain ⟨a, xs, k, v, rfl, rfl, hs, k0, k1, hk, q⟩ := h
  cases ro
  obtain ⟨t, rfl⟩ := ri
  obtain ⟨its, r, pl, _⟩ := I.list hs
  obtain ⟨u, hu, ru⟩ := r.get hk
  exact wpAny_getItem_list pl.isList k0 k1 (by rw [List.getElem?_toArray]; exact hu) ⟨v, H, I, ru, q⟩
theorem e1_bagAdd {kx} {pk : Pos} (h1 : X.N = N) (h2 : N[i]? = some x) (h3 : Γ[i]? = some (.opn p c s0 s1 s2)) (hv : Vis X.env.scope x) (h : Nd X e Γ fun d => ∃ v : Int, d = .int v ∧ O.nx (Γ.set i (.opn p c s0 s1 (s2 + v)))) (hd : (x == ("__debug__" : Str)) = false := by decide) (hcd : (x == ("__classdict__" : Str)) = false := by decide)
    (ha : ∀ ov iv new, augStore (.Constant (.int 2) kx pk) ov iv new = (do holding [new, ov, iv] (setItem ov iv new); release [new, ov, iv] []; pure .next) := by intros; rfl) : E1 X B (.AugAssign (.Subscript (.Name x px) (.Constant (.int 2) kx pk) pos') .Add e pos) Γ O := fun F H σ E D kk => by
  subst h1
  refine ws_of (ps_augS pe_we pe_we get_listI pe_we ip_add set_list ha) ?_
  obtain ⟨ov, g1, rfl, nF, hcell, hH⟩ := E.en.at h3
  refine we_of (pe_var h2 hv hd hcd) ⟨.ref p, g1, we_of pe_int ⟨p, _, 2, .int s2, rfl, rfl, .of hH, by decide, by decide, rfl, ?_⟩⟩
  refine h F H σ E.en _ fun u F1 H1 d g r ⟨v, ed, q⟩ => ?_
  subst ed
  have E1' := E.grow g
  obtain ⟨j, ws', sd, hj, ews, q, E2⟩ := bag_upd (k := 2) (v := s2 + v) (R := fun sd => O.nx (Γ.set i sd)) E1' h3 (.inr (.inr ⟨rfl, q⟩))
  obtain ⟨ov', g1', rfl, nF', _, hH'⟩ := E1'.en.at h3
  refine ⟨s2, v, rfl, rp_int r, p, _, 2, j, rfl, rfl, hH', hj, ?_⟩
  rw [← ews]
  exact kk.nx F1 _ σ _ g.sF E2 q
theorem sh_bagAt {k : Int} {kx} {pk : Pos} (h : Nd X (.Subscript (.Name x px) (.Constant (.int k) kx pk) pos) Γ P) : Nd X (.Subscript (.Name x px) (.Constant (.int k) kx pk) pos) Γ P := h
end
end Wm

set_option Elab.async false
set_option linter.all false
set_option maxRecDepth 100000
set_option maxHeartbeats 4000000
/-! Wm.E: a def that gets the bag first and a new list last, and gives that list back. -/
namespace Wm
open PySem PySem.Spec L2
def oSp (S : Spc) : Sp := fun vs H Q _ => ∃ F b c ws ds q us xs P, vs = .ref b :: (ws ++ [.ref q]) ∧ Same F H ∧ F b = none ∧ CellsAt F c ∧ BagAt H b c ∧ RpAll F ws ds ∧ F q = none ∧ q ≠ b ∧ H q = some (.lst us) ∧ RpAll F us xs ∧ S (ds ++ [.list xs]) P ∧
  ∀ v F' H' d, Gr [.bag b c] F (hide H q) F' H' → Rp F' v d → P d → Q v H'
section
variable {P : Program} {w : World} {K : PySem.W.Frag} {mg : Str → Option Value} {base : Heap} {x : Str} {st : Stmt} {N ps : List Str} {k : Nat}
theorem bag_ne {H : Hp} {b c q : Addr} {us : List V} (hq : q ≠ b) (h : BagAt H b c) : BagAt (hide H q) b c := by
  obtain ⟨s0, s1, s2, e, r⟩ := h
  exact ⟨s0, s1, s2, by rw [hide_ne (Ne.symm hq)]; exact e, r⟩
theorem fk_o {sp : Spc} (D : Fd K mg x st) (S : FnScope N ps (defScope st)) (hb : BindN st x ps) (hlen : ∀ ds R, sp ds R → ds.length + 1 = ps.length)
    (hbody : ∀ (f : Addr) (cdv : Value) (A : Around) (outer : List Env) (s : Shared) (H : Hp) (E : XK), Room k (A.deeper (PyProof.Rows.envOfC x (defScope st) s.heap.objs.size f cdv)) → ∀ (F : Hp) (b c q : Addr), H b ≠ none → q ≠ b → ∀ (ds xs : List PyData) (R : PyData → Prop), sp (ds ++ [.list xs]) R →
      Es (Xo P w K mg base N x st f cdv A outer s H E) ⟨F, hide H q, [b]⟩ (defBody st) (ctx0 N (.bag b c :: (ds.map .val ++ [.own q xs]))) ⟨fun Γ => R .none ∧ Sd.bag b c ∈ Γ, fun d Γ => R d ∧ Sd.bag b c ∈ Γ, fun _ => False, fun _ => False⟩) : Fk P w K mg base (k + 1) x (oSp sp) := by
  obtain ⟨f, fd, F0, hm⟩ := D
  refine ⟨f, fd, ps, ?_, hm, F0.kp, F0.binds hb⟩
  refine F0.ok S (fun vs H Q E h => ?_) (fun cdv A outer s H vs Q E hr h => ?_)
  · obtain ⟨F, b, c, ws, ds, q, us, xs, R, rfl, _, _, _, _, r, _, _, _, _, sq, _⟩ := h
    have := hlen _ R sq
    rw [List.length_append, List.length_singleton] at this
    rw [List.length_cons, List.length_append, List.length_singleton, r.length]
    exact this
  · obtain ⟨F, b, c, ws, ds, q, us, xs, R, rfl, sF, nF, hc, bg, r, nq, qb, hq, ru, sq, fin⟩ := h
    refine ⟨wss _ (defBody st), pss_wss, ?_⟩
    have hl0 := hlen _ R sq
    rw [List.length_append, List.length_singleton] at hl0
    have hpl : ps.length ≤ N.length := by
      have := congrArg List.length S.pre
      rw [List.length_take] at this
      omega
    have hv : ∀ s, s ∈ ds.map Sd.val → s.addrs = [] := fun s m => by
      obtain ⟨d, _, rfl⟩ := List.mem_map.mp m
      rfl
    have Ev := vals_en sF r
    have lw : ws.length = ds.length := r.length
    -- the slots of the start, one by one
    have slot : ∀ (i : Nat) s, (Sd.bag b c :: (ds.map Sd.val ++ [Sd.own q xs]))[i]? = some s → (i = 0 ∧ s = .bag b c) ∨ (∃ j, i = j + 1 ∧ j < ds.length ∧ (ds.map Sd.val)[j]? = some s) ∨ (i = ds.length + 1 ∧ s = .own q xs) := fun i s e => by
      cases i with
      | zero => exact .inl ⟨rfl, (Option.some.inj e).symm⟩
      | succ j =>
        have e : (ds.map Sd.val ++ [Sd.own q xs])[j]? = some s := e
        by_cases hj : j < ds.length
        · rw [List.getElem?_append_left (by rw [List.length_map]; exact hj)] at e
          exact .inr (.inl ⟨j, rfl, hj, e⟩)
        · rw [List.getElem?_append_right (by rw [List.length_map]; omega), List.length_map] at e
          have hj2 : j - ds.length = 0 := by
            by_cases z : j - ds.length = 0
            · exact z
            · rw [List.getElem?_eq_none (by simp; omega)] at e
              cases e
          rw [hj2] at e
          exact .inr (.inr ⟨by omega, (Option.some.inj e).symm⟩)
    have En0 : En F H ((V.ref b :: (ws ++ [V.ref q])).map some) (.bag b c :: (ds.map .val ++ [.own q xs])) := by
      refine ⟨by simp [lw], sF, fun i s ov h1 h2 => ?_, fun i j s t a h1 h2 m1 m2 => ?_⟩
      · rcases slot i s h1 with ⟨rfl, rfl⟩ | ⟨j, rfl, hj, e⟩ | ⟨rfl, rfl⟩
        · cases h2
          exact ⟨rfl, nF, hc, bg⟩
        · have h2 : ((ws ++ [V.ref q]).map some)[j]? = some ov := h2
          rw [List.map_append, List.getElem?_append_left (by rw [List.length_map]; omega)] at h2
          exact Ev.sl j s ov e h2
        · have h2 : ((ws ++ [V.ref q]).map some)[ds.length]? = some ov := h2
          rw [List.map_append, List.getElem?_append_right (by rw [List.length_map]; omega), List.length_map, lw, Nat.sub_self] at h2
          cases h2
          exact ⟨rfl, nq, us, hq, ru⟩
      · have cls : ∀ (i : Nat) s, (Sd.bag b c :: (ds.map Sd.val ++ [Sd.own q xs]))[i]? = some s → a ∈ s.addrs → (i = 0 ∧ a = b) ∨ (i = ds.length + 1 ∧ a = q) := fun i s e m => by
          rcases slot i s e with ⟨rfl, rfl⟩ | ⟨j, rfl, hj, e⟩ | ⟨rfl, rfl⟩
          · exact .inl ⟨rfl, by simpa [Sd.addrs] using m⟩
          · rw [hv s (List.mem_of_getElem? e)] at m
            cases m
          · exact .inr ⟨rfl, by simpa [Sd.addrs] using m⟩
        rcases cls i s h1 m1 with ⟨e1, e2⟩ | ⟨e1, e2⟩ <;> rcases cls j t h2 m2 with ⟨e3, e4⟩ | ⟨e3, e4⟩
        · rw [e1, e3]
        · exact absurd (e4.symm.trans e2) qb
        · exact absurd (e2.symm.trans e4) qb
        · rw [e1, e3]
    have hHb : H b ≠ none := bg.some
    have E0 : EnB ⟨F, hide H q, [b]⟩ F H (L2.start N (V.ref b :: (ws ++ [V.ref q]))) (ctx0 N (.bag b c :: (ds.map .val ++ [.own q xs]))) := by
      refine ⟨start_en (by simp [lw]) (by simp; omega) En0, Same.refl F, fun a o e _ => ?_, fun a e _ => e, fun s m a ha => ?_, fun a n => ?_⟩
      · by_cases z : a = q
        · rw [z] at e
          have e : hide H q q = some o := e
          rw [hide_self] at e
          cases e
        · have e : hide H q a = some o := e
          rw [hide_ne z] at e
          exact e
      · rcases List.mem_append.mp m with m | m
        · rcases List.mem_cons.mp m with e | m
          · subst e
            exact .inl ha
          · rcases List.mem_append.mp m with m | m
            · rw [hv s m] at ha
              cases ha
            · rw [List.mem_singleton.mp m] at ha
              have e : a = q := by simpa [Sd.addrs] using ha
              rw [e]
              exact .inr (hide_self _ _)
        · rw [List.eq_of_mem_replicate m] at ha
          cases ha
      · by_cases z : a = q
        · rw [z, hq]
          simp
        · have n : hide H q a ≠ none := n
          rw [hide_ne z] at n
          exact n
    have gr : ∀ {F' H' σ' Γ'}, EnB ⟨F, hide H q, [b]⟩ F' H' σ' Γ' → Sd.bag b c ∈ Γ' → Gr [.bag b c] F (hide H q) F' H' := fun {F' H' σ' Γ'} E' m => ⟨E'.f0, E'.en.ex, fun a o e n => E'.fr a o e fun ha => n c (by rw [List.mem_singleton.mp ha]; exact List.mem_singleton.mpr rfl), E'.nw, fun p c' m' => by
      have e := List.mem_singleton.mp m'
      cases e
      exact (E'.en.bag m).2⟩
    exact hbody f cdv A outer s H E hr F b c q hHb qb ds xs R sq F H _ E0 _ ⟨fun F' H' σ' Γ' _ E' q' => fin .non F' H' .none (gr E' q'.2) .non q'.1, fun F' H' σ' Γ' v d _ E' r' q' => fin v F' H' d (gr E' q'.2) r' q'.1, fun _ _ _ _ _ _ z => z.elim, fun _ _ _ _ _ _ z => z.elim⟩
end
section
variable {X : Cx} {Γ : Ctx} {P : PyData → Prop} {S : Spc} {j k i : Nat} {b c : Addr} {x y : Str} {py p pos : Pos} {e1 e2 e3 : Expr}
/-- f(bag, e1, e2, e3), e3 a new list -/
theorem nd_callO (G : Fk X.prog X.w X.K X.mg X.base j x (oSp S)) (hr : Room k X.A) (hi : Γ[i]? = some (.bag b c)) (h : Nd X e1 Γ fun d1 => Nd X e2 Γ fun d2 => Nl X e3 Γ fun xs => S [d1, d2, .list xs] P) (hk : j ≤ k := by decide) (hN : X.N[i]? = some y := by rfl)
    (hv : Vis X.env.scope y := by first | exact Or.inl rfl | exact Or.inr (Or.inl rfl) | exact Or.inr (Or.inr rfl)) (hd : (y == ("__debug__" : Str)) = false := by decide) (hcd : (y == ("__classdict__" : Str)) = false := by decide)
    (hg : Gl X x := by rfl) (hdb : (x == ("__debug__" : Str)) = false := by decide) (he : starEach (.Name y py :: [e1, e2, e3]) X.env = (false, eval (.Name y py) X.env) :: starEach [e1, e2, e3] X.env := by rfl) (he1 : starEach [e1, e2, e3] X.env = (false, eval e1 X.env) :: starEach [e2, e3] X.env := by rfl) (he2 : starEach [e2, e3] X.env = (false, eval e2 X.env) :: starEach [e3] X.env := by rfl)
    (he3 : starEach [e3] X.env = (false, eval e3 X.env) :: starEach [] X.env := by rfl) (hpl : (backTo pos (starEach [e1, e2, e3] X.env)).any (·.1) = false := by rfl) : Nd X (.Call (.Name x p) [.Name y py, e1, e2, e3] [] pos) Γ P := by
  obtain ⟨f, fd, ps, F0, hm, kp, bd⟩ := G
  intro F H σ E Q kk
  refine we_of (pe_call F0 (hr.mono hk) hg hm kp bd .nil pass0 (pa_cons (pe_var hN hv hd hcd) (pa_cons pe_we (pa_cons pe_we (pa_cons pe_we pa_nil he3) he2) he1) he) hdb he hpl) ?_
  obtain ⟨ov, h1, h2⟩ := E.at hi
  obtain ⟨rfl, nF, hc, bg⟩ := h2
  have hb : Sd.bag b c ∈ Γ := List.mem_of_getElem? hi
  refine ⟨.ref b, h1, ?_⟩
  refine h F H σ E _ fun v1 F1 H1 d1 g1 r1 q1 => ?_
  have E1 := E.grow g1
  refine q1 F1 H1 σ E1 _ fun v2 F2 H2 d2 g2 r2 q2 => ?_
  have E2 := E1.grow g2
  refine q2 F2 H2 σ E2 _ fun q us xs F3 H3 g3 nq nF3 hq ru sq => ?_
  have E3 := E2.grow g3
  have qb : q ≠ b := fun z => by
    rw [z] at nq
    exact (E2.bag hb).2.some nq
  refine ⟨F3, b, c, [v1, v2], [d1, d2], q, us, xs, P, rfl, g3.ex, (E3.bag hb).1, (hc.mono (g1.sF.trans g2.sF)).mono g3.sF, (E3.bag hb).2, .cons ((r1.mono g2.sF _ _).mono g3.sF _ _) (.cons (r2.mono g3.sF _ _) .nil), nF3, qb, hq, ru, sq, fun v F4 H4 d g4 r4 p4 => ?_⟩
  have g : Gr Γ F2 H2 F4 H4 := by
    have ne : ∀ a, H2 a ≠ none → a ≠ q := fun a ha z => by
      rw [z] at ha
      exact ha nq
    refine ⟨g3.sF.trans g4.sF, g4.ex, fun a o e n => ?_, fun a e n => ?_, fun p' c' m => ?_⟩
    · have na : a ≠ q := ne a (by rw [e]; simp)
      have e3' : H3 a = some o := g3.fr a o e n
      refine g4.fr a o (by rw [hide_ne na]; exact e3') fun c' hc' => ?_
      have z := List.mem_singleton.mp hc'
      cases z
      exact n _ hb
    · have na : a ≠ q := ne a n
      exact g4.nw a (g3.nw a e n) (by rw [hide_ne na]; exact g3.kept n)
    · by_cases z : p' = b
      · subst z
        obtain ⟨i1, hi1⟩ := ctx_mem m
        have := E2.sep i1 i _ _ p' hi1 hi (by simp [Sd.addrs]) (by simp [Sd.addrs])
        subst this
        rw [hi1] at hi
        cases hi
        exact g4.bg p' c (List.mem_singleton.mpr rfl)
      · obtain ⟨s0, s1, s2, e, r⟩ := g3.bg p' c' m
        have na : p' ≠ q := ne p' (E2.bag m).2.some
        exact ⟨s0, s1, s2, g4.fr p' _ (by rw [hide_ne na]; exact e) fun c'' hc'' => by
          have y := List.mem_singleton.mp hc''
          cases y
          exact z rfl, r⟩
  exact kk v F4 H4 d ((g1.trans g2).trans g) r4 p4
end
theorem bin_repZ {X : Cx} {Γ : Ctx} {P : PyData → Prop} {xs : List PyData} {n : Int} (h0 : -100000 ≤ n) (hz : xs.length * n.toNat ≤ 100000) (hn : n ≤ 100000) (q : P (.list (List.replicate n.toNat xs).flatten)) : BinOk X Γ .Mult (.list xs) (.int n) P := ⟨_, op_rep, fun F H σ E v u rv ru Q k => by
  obtain ⟨a, vs, rfl, ha, ra⟩ := rp_lst rv
  refine ⟨a, n, vs, rfl, rp_int ru, E.ex _ _ ha, by omega, by omega, ?_, fun p hp => ?_⟩
  · rw [ra.length]
    exact Nat.le_trans hz (by decide)
  · have g := Gr.new E (o := .lst (List.replicate n.toNat vs).flatten) hp
    exact k _ _ _ _ g (.lst upd_same ((rpAll_rep ra _).mono g.sF _ _)) q⟩
end Wm

set_option Elab.async false
set_option linter.all false
set_option maxRecDepth 100000
set_option maxHeartbeats 4000000
/-! Wm.P4: four names told at once. -/
namespace Wm
open PySem PySem.Spec L2
section
variable {X : Cx} {B : Bs} {Γ : Ctx} {O : Po} {N : List Str} {i1 i2 i3 i4 : Nat} {x1 x2 x3 x4 : Str} {e1 e2 e3 e4 : Expr} {pos p1 p2 p3 p4 pt pt2 : Pos} {kt k2 : Nat}
abbrev gQuad (K : PySem.W.Frag) (i j k l : Nat) : TG := gTup K 4 (gCons (gName i) (gCons (gName j) (gCons (gName k) (gCons (gName l) gNil))))
/-- a, b, c, d = list, list, list, value -/
theorem e1_ooov (hc : X.calm = true) (h1 : X.N = N) (hi1 : N[i1]? = some x1) (hi2 : N[i2]? = some x2) (hi3 : N[i3]? = some x3) (hi4 : N[i4]? = some x4) (hN : N.Nodup) (l1 : Loc X.env.scope x1) (l2 : Loc X.env.scope x2) (l3 : Loc X.env.scope x3) (l4 : Loc X.env.scope x4)
    (f1 : X.fn x1 = true ∨ X.env.scope.names.lookup x1 = some .local) (f2 : X.fn x2 = true ∨ X.env.scope.names.lookup x2 = some .local) (f3 : X.fn x3 = true ∨ X.env.scope.names.lookup x3 = some .local) (f4 : X.fn x4 = true ∨ X.env.scope.names.lookup x4 = some .local)
    (hM : ∀ q, q ∈ B.M → B.H0 q ≠ none)
    (h : Nl X e1 Γ fun xs1 => Nl X e2 Γ fun xs2 => Nl X e3 Γ fun xs3 => Nd X e4 Γ fun d => ∀ q1 q2 q3, q1 ∉ B.M → q2 ∉ B.M → q3 ∉ B.M → O.nx ((((Γ.set i1 (.own q1 xs1)).set i2 (.own q2 xs2)).set i3 (.own q3 xs3)).set i4 (.val d)))
    (hs : swapsWithSole [.Tuple [.Name x1 p1, .Name x2 p2, .Name x3 p3, .Name x4 p4] kt pt] (.Tuple [e1, e2, e3, e4] k2 pt2) pos.line X.env = pure false := by rfl) (hw : swappedStores [.Tuple [.Name x1 p1, .Name x2 p2, .Name x3 p3, .Name x4 p4] kt pt] (.Tuple [e1, e2, e3, e4] k2 pt2) X.env = pure none := by rfl)
    (ha : (assignEach [.Tuple [.Name x1 p1, .Name x2 p2, .Name x3 p3, .Name x4 p4] kt pt] X.env).map (·.2) = [assign (.Tuple [.Name x1 p1, .Name x2 p2, .Name x3 p3, .Name x4 p4] kt pt) X.env] := by rfl)
    (s1 : starEach [e1, e2, e3, e4] X.env = (false, eval e1 X.env) :: starEach [e2, e3, e4] X.env := by rfl) (s2 : starEach [e2, e3, e4] X.env = (false, eval e2 X.env) :: starEach [e3, e4] X.env := by rfl) (s3 : starEach [e3, e4] X.env = (false, eval e3 X.env) :: starEach [e4] X.env := by rfl) (s4 : starEach [e4] X.env = (false, eval e4 X.env) :: starEach [] X.env := by rfl) :
    E1 X B (.Assign [.Tuple [.Name x1 p1, .Name x2 p2, .Name x3 p3, .Name x4 p4] kt pt] (.Tuple [e1, e2, e3, e4] k2 pt2) pos) Γ O := fun F H σ E D k => by
  subst h1
  have hpg : PG X (.Tuple [.Name x1 p1, .Name x2 p2, .Name x3 p3, .Name x4 p4] kt pt) (gQuad X.K i1 i2 i3 i4) := pg_tup hc (pgs_cons (pg_name hN hi1 l1 f1) (pgs_cons (pg_name hN hi2 l2 f2) (pgs_cons (pg_name hN hi3 l3 f3) (pgs_cons (pg_name hN hi4 l4 f4) pgs_nil))))
  refine ws_of (ps_asg (pe_tup (pa_cons pe_we (pa_cons pe_we (pa_cons pe_we (pa_cons pe_we pa_nil s4) s3) s2) s1)) hpg hs hw ha) ?_
  refine h F H σ E.en _ fun q1 us1 xs1 F1 H1 g1 n1 nF1 hq1 r1 w1 => ?_
  have E1' := E.grow g1
  refine w1 F1 H1 σ E1'.en _ fun q2 us2 xs2 F2 H2 g2 n2 nF2 hq2 r2 w2 => ?_
  have E2' := E1'.grow g2
  refine w2 F2 H2 σ E2'.en _ fun q3 us3 xs3 F3 H3 g3 n3 nF3 hq3 r3 w3 => ?_
  have E3' := E2'.grow g3
  refine w3 F3 H3 σ E3'.en _ fun v F4 H4 d g4 r4 w4 => ?_
  have E4' := E3'.grow g4
  have out1 : ∀ s, s ∈ Γ → q1 ∉ s.addrs := fun s m hs => E.new_out n1 m hs
  have out2 : ∀ s, s ∈ Γ → q2 ∉ s.addrs := fun s m hs => E1'.new_out n2 m hs
  have out3 : ∀ s, s ∈ Γ → q3 ∉ s.addrs := fun s m hs => E2'.new_out n3 m hs
  have stay : ∀ {q : Addr} {F F' H H' : Hp} {us : List V}, Gr Γ F H F' H' → (∀ s, s ∈ Γ → q ∉ s.addrs) → H q = some (.lst us) → H' q = some (.lst us) := fun g out e => g.fr _ _ e fun c m => out _ m (by simp [Sd.addrs])
  have hq1' := stay g4 out1 (stay g3 out1 (stay g2 out1 hq1))
  have hq2' := stay g4 out2 (stay g3 out2 hq2)
  have hq3' := stay g4 out3 hq3
  have nF1' : F4 q1 = none := g4.nw q1 (g3.nw q1 (g2.nw q1 nF1 (by rw [hq1]; simp)) (by rw [stay g2 out1 hq1]; simp)) (by rw [stay g3 out1 (stay g2 out1 hq1)]; simp)
  have nF2' : F4 q2 = none := g4.nw q2 (g3.nw q2 nF2 (by rw [hq2]; simp)) (by rw [stay g3 out2 hq2]; simp)
  have nF3' : F4 q3 = none := g4.nw q3 nF3 (by rw [hq3]; simp)
  have ne12 : q2 ≠ q1 := fun z => by
    rw [z] at n2
    rw [hq1] at n2
    cases n2
  have ne13 : q3 ≠ q1 := fun z => by
    rw [z, stay g2 out1 hq1] at n3
    cases n3
  have ne23 : q3 ≠ q2 := fun z => by
    rw [z, hq2] at n3
    cases n3
  have s4 := ((g1.sF.trans g2.sF).trans g3.sF).trans g4.sF
  have m1 : q1 ∉ B.M := fun m => E.al q1 (hM q1 m) n1
  have m2 : q2 ∉ B.M := fun m => E1'.al q2 (hM q2 m) n2
  have m3 : q3 ∉ B.M := fun m => E2'.al q3 (hM q3 m) n3
  have w := w4 q1 q2 q3 m1 m2 m3
  have Ea : EnB B F4 H4 (σ.set i1 (some (.ref q1))) (Γ.set i1 (.own q1 xs1)) := own_new E4' out1 (.inr (E.new_no n1)) nF1' hq1' (((r1.mono g2.sF _ _).mono g3.sF _ _).mono g4.sF _ _)
  have in1 : ∀ s, s ∈ Γ.set i1 (.own q1 xs1) → ∀ q, q ≠ q1 → (∀ s, s ∈ Γ → q ∉ s.addrs) → q ∉ s.addrs := fun s m q hq out hs => by
    rcases List.mem_or_eq_of_mem_set m with m | e
    · exact out s m hs
    · rw [e] at hs
      exact hq (by simpa [Sd.addrs] using hs)
  have Eb : EnB B F4 H4 ((σ.set i1 (some (.ref q1))).set i2 (some (.ref q2))) ((Γ.set i1 (.own q1 xs1)).set i2 (.own q2 xs2)) := own_new Ea (fun s m => in1 s m q2 ne12 out2) (.inr (E1'.new_no n2)) nF2' hq2' ((r2.mono g3.sF _ _).mono g4.sF _ _)
  have Ec : EnB B F4 H4 (((σ.set i1 (some (.ref q1))).set i2 (some (.ref q2))).set i3 (some (.ref q3))) (((Γ.set i1 (.own q1 xs1)).set i2 (.own q2 xs2)).set i3 (.own q3 xs3)) := own_new Eb (fun s m hs => by
    rcases List.mem_or_eq_of_mem_set m with m | e
    · exact in1 s m q3 ne13 out3 hs
    · rw [e] at hs
      exact ne23 (by simpa [Sd.addrs] using hs)) (.inr (E2'.new_no n3)) nF3' hq3' (r3.mono g4.sF _ _)
  have Ed := Ec.val i4 r4
  refine ⟨by show 4 ≤ sizeLine; decide, fun z hz => ⟨z, [.ref q1, .ref q2, .ref q3, v], rfl, .of upd_same, rfl, _, _, rfl, _, _, rfl, _, _, rfl, _, _, rfl, rfl, k.nx F4 _ _ _ s4 (Ed.more hz) w⟩⟩
end
end Wm

set_option Elab.async false
set_option linter.all false
set_option maxRecDepth 100000
set_option maxHeartbeats 4000000
/-! Wm.P5: a name and an item told at once. -/
namespace Wm
open PySem PySem.Spec L2
section
variable {X : Cx} {B : Bs} {Γ : Ctx} {O : Po} {N : List Str} {i j : Nat} {x y : Str} {e1 e2 ix : Expr} {pos p1 p2 p3 pt pt2 : Pos} {kt k2 : Nat} {q : Addr} {xs : List PyData}
/-- k, w[ix] = e1, e2, where w is a list of our own -/
theorem e1_nameItem (hc : X.calm = true) (h1 : X.N = N) (hi : N[i]? = some x) (hj : N[j]? = some y) (hN : N.Nodup) (hij : i ≠ j) (l1 : Loc X.env.scope x) (f1 : X.fn x = true ∨ X.env.scope.names.lookup x = some .local) (hv : Vis X.env.scope y) (hq : Γ[j]? = some (.own q xs))
    (h : Nd X e1 Γ fun d1 => Nd X e2 Γ fun d2 => Nd X ix (Γ.set i (.val d1)) fun d => ∃ (n : Int) (k : Nat), d = .int n ∧ ixN xs.length n = some k ∧ O.nx ((Γ.set i (.val d1)).set j (.own q (xs.set k d2))))
    (hd : (y == ("__debug__" : Str)) = false := by decide) (hcd : (y == ("__classdict__" : Str)) = false := by decide)
    (hs : swapsWithSole [.Tuple [.Name x p1, .Subscript (.Name y p2) ix p3] kt pt] (.Tuple [e1, e2] k2 pt2) pos.line X.env = pure false := by rfl) (hw : swappedStores [.Tuple [.Name x p1, .Subscript (.Name y p2) ix p3] kt pt] (.Tuple [e1, e2] k2 pt2) X.env = pure none := by rfl)
    (ha : (assignEach [.Tuple [.Name x p1, .Subscript (.Name y p2) ix p3] kt pt] X.env).map (·.2) = [assign (.Tuple [.Name x p1, .Subscript (.Name y p2) ix p3] kt pt) X.env] := by rfl)
    (hg : PG X (.Subscript (.Name y p2) ix p3) (gSub (we X (.Name y p2)) (we X ix) rSetL) := by exact pg_sub pe_we pe_we set_list)
    (hpg : X.calm = true → ∀ g1 : PG X (.Name x p1) (gName i), PG X (.Tuple [.Name x p1, .Subscript (.Name y p2) ix p3] kt pt) (gTup X.K 2 (gCons (gName i) (gCons (gSub (we X (.Name y p2)) (we X ix) rSetL) gNil))) := by exact fun hc g1 => pg_tup hc (pgs_cons g1 (pgs_cons (pg_sub pe_we pe_we set_list) pgs_nil)))
    (s1 : starEach [e1, e2] X.env = (false, eval e1 X.env) :: starEach [e2] X.env := by rfl) (s2 : starEach [e2] X.env = (false, eval e2 X.env) :: starEach [] X.env := by rfl) :
    E1 X B (.Assign [.Tuple [.Name x p1, .Subscript (.Name y p2) ix p3] kt pt] (.Tuple [e1, e2] k2 pt2) pos) Γ O := fun F H σ E D k => by
  subst h1
  refine ws_of (ps_asg (pe_tup (pa_cons pe_we (pa_cons pe_we pa_nil s2) s1)) (hpg hc (pg_name hN hi l1 f1)) hs hw ha) ?_
  refine h F H σ E.en _ fun v1 F1 H1 d1 g1 r1 w1 => ?_
  refine w1 F1 H1 σ (E.grow g1).en _ fun v2 F2 H2 d2 g2 r2 w2 => ?_
  have E2 := (E.grow g1).grow g2
  refine ⟨by show 2 ≤ sizeLine; decide, fun z hz => ⟨z, [v1, v2], rfl, .of upd_same, rfl, _, _, rfl, _, _, rfl, ?_⟩⟩
  have E3 : EnB B F2 (upd H2 z (.tup [v1, v2])) (σ.set i (some v1)) (Γ.set i (.val d1)) := (E2.more hz).val i (r1.mono g2.sF _ _)
  have hq3 : (Γ.set i (.val d1))[j]? = some (.own q xs) := by
    rw [List.getElem?_set_ne hij]
    exact hq
  obtain ⟨ov, o1, rfl, nF, vs, hH, r0⟩ := E3.en.at hq3
  refine we_of (pe_var hj hv hd hcd) ⟨.ref q, o1, ?_⟩
  refine w2 F2 _ _ E3.en _ fun v3 F3 H3 d g3 r3 ⟨n, kk, ed, hk, w3⟩ => ?_
  subst ed
  have E4 := E3.grow g3
  obtain ⟨ov2, o2, e2', nF2, vs2, hH2, r4⟩ := E4.en.at hq3
  rw [o1] at o2
  cases o2
  exact ⟨q, vs2, n, kk, rfl, rp_int r3, hH2, by rw [r4.length]; exact hk, rfl, k.nx F3 _ _ _ ((g1.sF.trans g2.sF).trans g3.sF) (E4.change hq3 (r4.set (r2.mono g3.sF _ _) kk)) w3⟩
end
end Wm

set_option Elab.async false
set_option linter.all false
set_option maxRecDepth 100000
set_option maxHeartbeats 4000000
/-! Wm.P6: a def in a local name. -/
namespace Wm
open PySem PySem.Spec L2
def Nfn (X : Cx) (e : Expr) (Γ : Ctx) (P : Addr → Prop) : Prop := ∀ F H σ, En F H σ Γ → ∀ Q : VK, (∀ f F' H', Gr Γ F H F' H' → P f → Q (.ref f) H') → we X e σ H Q
section
variable {X : Cx} {B : Bs} {Γ : Ctx} {O : Po} {A : Addr → Prop} {P : PyData → Prop} {N : List Str} {a b c : Expr} {i i' j k : Nat} {x y : Str} {pos pos' p py : Pos} {f q cc : Addr} {es : List Expr} {S : Spc}
theorem nfn_glob (hm : X.mg x = some (.ref f)) (q : A f) (hg : Gl X x := by rfl) (hdb : (x == ("__debug__" : Str)) = false := by decide) : Nfn X (.Name x pos) Γ A := fun F H σ E Q k =>
  we_of (pe_glob (v := .ref f) hg hm rfl hdb) (k f F H (.refl E) q)
theorem nfn_if (h : Nt X c Γ fun t => if t = true then Nfn X a Γ A else Nfn X b Γ A) : Nfn X (.IfExp c a b pos) Γ A := fun F H σ E Q k =>
  we_of (pe_ifExp pt_wt pe_we pe_we) (h F H σ E _ fun t F1 H1 g p => by
    cases t with
    | true => exact iteT ((show Nfn X a Γ A from p) F1 H1 σ (E.grow g) Q fun f F2 H2 g2 p2 => k f F2 H2 (g.trans g2) p2)
    | false => exact iteF ((show Nfn X b Γ A from p) F1 H1 σ (E.grow g) Q fun f F2 H2 g2 p2 => k f F2 H2 (g.trans g2) p2))
theorem Nfn.mono {A' : Addr → Prop} (h : Nfn X a Γ A) (m : ∀ f, A f → A' f) : Nfn X a Γ A' := fun F H σ E Q q => h F H σ E Q fun f F' H' g p => q f F' H' g (m f p)
theorem e1_setFn (h1 : X.N = N) (hi : N[i]? = some x) (hN : N.Nodup) (h : Nfn X a Γ fun f => O.nx (Γ.set i (.fn f))) (hx : Loc X.env.scope x := by first | exact Or.inl rfl | exact Or.inr rfl) (hs : swapsWith a (some (.Name x pos')) pos.line X.env = pure false := by rfl)
    (hf : X.fn x = true ∨ X.env.scope.names.lookup x = some .local := by first | exact .inl rfl | exact .inr rfl) : E1 X B (.Assign [.Name x pos'] a pos) Γ O := fun F H σ E D k => by
  subst h1
  exact ws_of (ps_set hN hi hx pe_we hs hf) (h F H σ E.en _ fun f F2 H2 g q => k.nx F2 H2 _ _ g.sF ((E.grow g).put i (ov := some (.ref f)) (s := .fn f) rfl rfl) q)
/-- f(bag, ..), f in a local name -/
theorem nd_callBagV {fd : FuncData} {ps : List Str} (F0 : FnOk X.prog X.w X.K X.mg X.base CX0 j f fd ps (bSp S)) (kp : PySem.W.keepIn X.K (.ref f) = true) (bd : Binds X.K fd ps []) (hr : Room k X.A) (h1 : X.N = N) (hi2 : N[i']? = some x) (hi : Γ[i']? = some (.fn f)) (hvx : Vis X.env.scope x) (hb2 : N[i]? = some y) (hb : Γ[i]? = some (.bag q cc)) (hv : Vis X.env.scope y) (ha : Na X es Γ fun ds => S ds P) (hk : j ≤ k := by decide)
    (hd : (y == ("__debug__" : Str)) = false := by decide) (hcd : (y == ("__classdict__" : Str)) = false := by decide)
    (he : starEach (.Name y py :: es) X.env = (false, eval (.Name y py) X.env) :: starEach es X.env := by rfl)
    (hdx : (x == ("__debug__" : Str)) = false := by decide) (hcdx : (x == ("__classdict__" : Str)) = false := by decide) (hpl : (backTo pos (starEach es X.env)).any (·.1) = false := by rfl) : Nd X (.Call (.Name x p) (.Name y py :: es) [] pos) Γ P := by
  subst h1
  intro F H σ E Q kk
  refine we_of (pe_callL (i := i') F0 (hr.mono hk) hi2 hvx kp bd .nil pass0 (pa_cons (pe_var hb2 hv hd hcd) pa_wa he) hdx hcdx he hpl) ?_
  obtain ⟨ov, g1, rfl, nF, hc, bg⟩ := E.at hb
  obtain ⟨ov2, g2, rfl⟩ := E.at hi
  refine ⟨g2, .ref q, g1, ?_⟩
  refine ha F H σ E _ fun vs F1 H1 ds g r s => ?_
  have E1 := E.grow g
  have hbm : Sd.bag q cc ∈ Γ := List.mem_of_getElem? hb
  refine ⟨F1, q, cc, vs, ds, P, by rw [List.append_nil], g.ex, (E1.bag hbm).1, hc.mono g.sF, (E1.bag hbm).2, r, s, fun v F2 H2 d g2 r2 p2 => ?_⟩
  exact kk v F2 H2 d (g.trans (Gr.wideB E1 hbm g2)) r2 p2
end
end Wm

set_option Elab.async false
set_option linter.all false
set_option maxRecDepth 100000
set_option maxHeartbeats 4000000
/-! Wm.OA: objects: lent, read. -/
namespace Wm
open PySem PySem.Spec L2

/-! ### an object lent -/
def lendF (F H : Hp) (A : List Addr) : Hp := fun a => if a ∈ A then H a else F a
def hideL (F : Hp) (A : List Addr) : Hp := fun a => if a ∈ A then none else F a
theorem lendF_in {F H : Hp} {A : List Addr} {a : Addr} (h : a ∈ A) : lendF F H A a = H a := if_pos h
theorem lendF_out {F H : Hp} {A : List Addr} {a : Addr} (h : a ∉ A) : lendF F H A a = F a := if_neg h
theorem hideL_in {F : Hp} {A : List Addr} {a : Addr} (h : a ∈ A) : hideL F A a = none := if_pos h
theorem hideL_out {F : Hp} {A : List Addr} {a : Addr} (h : a ∉ A) : hideL F A a = F a := if_neg h
mutual
theorem Rp.hideL {F : Hp} {A : List Addr} (hn : ∀ a o xs, a ∈ A → F a ≠ some (.frz o (.tup xs))) : ∀ (d : PyData) (v : V), lless d = true → Rp F v d → Rp (hideL F A) v d
  | .none, _, _, .non => .non
  | .bool _, _, _, .bl b => .bl b
  | .int _, _, _, .int i => .int i
  | .str _, _, _, .str x => .str x
  | .list ds, _, l, _ => by unfold lless at l; cases l
  | .tuple ds, _, l, .tup h r => by
    refine .tup ?_ (RpAll.hideL hn ds _ (by unfold lless at l; exact l) r)
    obtain ⟨o, ho, h⟩ := h
    exact ⟨o, ho, by rw [hideL_out fun m => hn _ _ _ m h]; exact h⟩
theorem RpAll.hideL {F : Hp} {A : List Addr} (hn : ∀ a o xs, a ∈ A → F a ≠ some (.frz o (.tup xs))) : ∀ (ds : List PyData) (ws : List V), llessAll ds = true → RpAll F ws ds → RpAll (Wm.hideL F A) ws ds
  | [], _, _, .nil => .nil
  | d :: ds, _, l, .cons h t => by
    unfold llessAll at l
    rw [Bool.and_eq_true] at l
    exact .cons (Rp.hideL hn d _ l.1 h) (RpAll.hideL hn ds _ l.2 t)
end
abbrev obA (x dx : Addr) (fs : List Fl) : List Addr := x :: dx :: fAddrs fs
section
variable {X : Cx} {e : Expr} {es : List Expr} {Γ : Ctx} {P : PyData → Prop} {F H : Hp} {σ : L2.St} {i j : Nat} {x dx C : Addr} {fs : List Fl} {d0 : PyData}
theorem lend_same (h : ObOk F H x dx C fs) : Same F (lendF F H (obA x dx fs)) := fun a o e => by
  rw [lendF_out fun m => by
    have := (h.addr m).1
    rw [this] at e
    cases e]
  exact e
theorem ObOk.lent (h : ObOk F H x dx C fs) : RoOk (lendF F H (obA x dx fs)) x dx C fs := by
  obtain ⟨us, h1, h2⟩ := h.sl
  refine ⟨us, slt_keep h1 fun a o ha e => ?_, fun k f q => ?_⟩
  · rw [lendF_in (by rcases ha with rfl | rfl <;> simp)]
    exact e
  · have z := h2 k f q
    cases f with
    | no => trivial
    | val d =>
      obtain ⟨v, e1, r⟩ := z
      exact ⟨v, e1, r.mono (lend_same h) d v⟩
    | own p xs =>
      obtain ⟨e1, n, vs, hp, r⟩ := z
      have hm : p ∈ obA x dx fs := List.mem_cons_of_mem _ (List.mem_cons_of_mem _ (mem_fAddrs.mpr ⟨k, xs, q⟩))
      exact ⟨.ref p, e1, .lst (by rw [lendF_in hm]; exact hp) (r.mono (lend_same h) _ _)⟩
theorem ObOk.notT (h : ObOk F H x dx C fs) (hj : fs[j]? = some (.val d0)) : ∀ a o xs, a ∈ obA x dx fs → H a ≠ some (.frz o (.tup xs)) := fun a o xs ha e => by
  obtain ⟨us, h1, h2⟩ := h.sl
  obtain ⟨v, e1, _⟩ := h2 j _ hj
  rcases h1 with ⟨_, z⟩ | ⟨q1, q2⟩
  · subst z
    simp at e1
  · rcases List.mem_cons.mp ha with e2 | ha
    · subst e2
      rw [q1] at e
      unfold SlX.SlO at e
      cases e
    · rcases List.mem_cons.mp ha with e2 | ha
      · subst e2
        rw [q2] at e
        cases e
      · obtain ⟨k, ys, q⟩ := mem_fAddrs.mp ha
        obtain ⟨_, _, vs, hp, _⟩ := h2 k _ q
        rw [hp] at e
        cases e
theorem En.lendO (E : En F H σ Γ) (hi : Γ[i]? = some (.obj x dx C fs)) : ObOk F H x dx C fs ∧ En (lendF F H (obA x dx fs)) H σ (Γ.set i (.rob x dx C fs)) := by
  obtain ⟨ov, h1, rfl, ob⟩ := E.at hi
  have hil : i < Γ.length := (List.getElem?_eq_some_iff.mp hi).1
  have hs := lend_same ob
  refine ⟨ob, by rw [List.length_set]; exact E.len, fun a o e => ?_, fun k s ov e1 e2 => ?_, fun k l s t a e1 e2 m1 m2 => ?_⟩
  · by_cases ha : a ∈ obA x dx fs
    · rw [lendF_in ha] at e
      exact e
    · rw [lendF_out ha] at e
      exact E.ex a o e
  · by_cases hk : i = k
    · subst hk
      rw [List.getElem?_set_self hil] at e1
      cases e1
      rw [h1] at e2
      cases e2
      exact ⟨rfl, ob.lent⟩
    · rw [List.getElem?_set_ne hk] at e1
      have sep : ∀ a ∈ s.addrs, a ∉ obA x dx fs := fun a ha z => hk (E.sep i k _ _ a hi e1 z ha)
      refine (E.sl k s ov e1 e2).grow hs (fun a o _ e _ => e) (fun a ha => ?_) (fun b c e => ?_)
      · rw [lendF_out (sep a ha)]
        exact (E.addr_no e1 ha).1
      · subst e
        exact (E.bag (List.mem_of_getElem? e1)).2
  · by_cases hk : i = k
    · subst hk
      rw [List.getElem?_set_self hil] at e1
      cases e1
      cases m1
    · by_cases hl : i = l
      · subst hl
        rw [List.getElem?_set_self hil] at e2
        cases e2
        cases m2
      · rw [List.getElem?_set_ne hk] at e1
        rw [List.getElem?_set_ne hl] at e2
        exact E.sep k l s t a e1 e2 m1 m2
theorem bag_setO (hi : Γ[i]? = some (.obj x dx C fs)) {a c : Addr} : Sd.bag a c ∈ Γ.set i (.rob x dx C fs) ↔ Sd.bag a c ∈ Γ := by
  have hil : i < Γ.length := (List.getElem?_eq_some_iff.mp hi).1
  constructor
  · intro h
    rcases List.mem_or_eq_of_mem_set h with h | h
    · exact h
    · cases h
  · intro h
    obtain ⟨k, hk⟩ := ctx_mem h
    have e : i ≠ k := fun z => by
      subst z
      rw [hi] at hk
      cases hk
    exact List.mem_of_getElem? (i := k) (by rw [List.getElem?_set_ne e]; exact hk)
theorem lendO_gr {F' H' : Hp} (ob : ObOk F H x dx C fs) (hi : Γ[i]? = some (.obj x dx C fs)) (g : Gr (Γ.set i (.rob x dx C fs)) (lendF F H (obA x dx fs)) H F' H') : Gr Γ F H (hideL F' (obA x dx fs)) H' ∧ ∀ a ∈ obA x dx fs, F' a = H a := by
  have hin : ∀ a ∈ obA x dx fs, F' a = H a := fun a ha => by
    have h1 := (ob.addr ha).2
    cases e : H a with
    | none => exact absurd e h1
    | some o => exact g.sF a o (by rw [lendF_in ha]; exact e)
  refine ⟨⟨fun a o e => ?_, fun a o e => ?_, fun a o e n => g.fr a o e fun c hc => n c ((bag_setO hi).mp hc), fun a e n => ?_, fun p c m => g.bg p c ((bag_setO hi).mpr m)⟩, hin⟩
  · have ha : a ∉ obA x dx fs := fun m => by
      rw [(ob.addr m).1] at e
      cases e
    rw [hideL_out ha]
    exact g.sF a o (by rw [lendF_out ha]; exact e)
  · by_cases ha : a ∈ obA x dx fs
    · rw [hideL_in ha] at e
      cases e
    · rw [hideL_out ha] at e
      exact g.ex a o e
  · by_cases ha : a ∈ obA x dx fs
    · exact hideL_in ha
    · rw [hideL_out ha]
      exact g.nw a (by rw [lendF_out ha]; exact e) n
theorem nd_lendO (hi : Γ[i]? = some (.obj x dx C fs)) (hj : fs[j]? = some (.val d0)) (h : Nd X e (Γ.set i (.rob x dx C fs)) fun d => lless d = true ∧ P d) : Nd X e Γ P := by
  intro F H σ E Q k
  obtain ⟨ob, E1⟩ := E.lendO hi
  refine h _ H σ E1 Q fun v F' H' d g r ⟨l, pd⟩ => ?_
  obtain ⟨g2, hin⟩ := lendO_gr ob hi g
  exact k v _ H' d g2 (Rp.hideL (fun a o xs ha z => ob.notT hj a o xs ha (by rw [← hin a ha]; exact z)) d v l r) pd
theorem nt_lendO {R : Bool → Prop} (hi : Γ[i]? = some (.obj x dx C fs)) (h : Nt X e (Γ.set i (.rob x dx C fs)) R) : Nt X e Γ R := by
  intro F H σ E Q k
  obtain ⟨ob, E1⟩ := E.lendO hi
  exact h _ H σ E1 Q fun b F' H' g pd => k b _ H' (lendO_gr ob hi g).1 pd

/-! ### the class -/
/-- the variables of a Store, by their places -/
def slIx (f : Str) : Option Nat :=
  if f = ("its_index" : Str) then some 0 else if f = ("its_layouts" : Str) then some 1 else if f = ("its_lost" : Str) then some 2 else if f = ("its_past" : Str) then some 3 else if f = ("its_plan" : Str) then some 4
  else if f = ("its_task" : Str) then some 5 else if f = ("its_told" : Str) then some 6 else if f = ("its_way" : Str) then some 7 else if f = ("its_whole" : Str) then some 8 else none
structure StC (K : PySem.W.Frag) (C : Addr) : Prop where
  cls : SlX.SCls K C
  slot : ∀ f j, slIx f = some j → ∃ p, SlX.Slot1 K C f p j

/-! ### variables read -/
variable {N : List Str} {y f : Str} {py pos : Pos}
/-- what is read of a variable -/
def flD : Fl → Option PyData
  | .val d => some d
  | .own _ xs => some (.list xs)
  | .no => none
theorem nd_fldR {fl : Fl} {d : PyData} (h1 : X.N = N) (h2 : N[i]? = some y) (h3 : Γ[i]? = some (.rob x dx C fs)) (hv : Vis X.env.scope y) (T : StC X.K C) (hf : slIx f = some j) (hj : fs[j]? = some fl) (hd : flD fl = some d) (q : P d)
    (hdb : (y == ("__debug__" : Str)) = false := by decide) (hcd : (y == ("__classdict__" : Str)) = false := by decide) (hb : attributeBase (.Name y py) f X.env (eval (.Name y py) X.env) = eval (.Name y py) X.env := by rfl) : Nd X (.Attribute (.Name y py) f pos) Γ P := by
  subst h1
  intro F H σ E Q k
  obtain ⟨p, t⟩ := T.slot f j hf
  obtain ⟨ov, g1, rfl, us, sl, hfl⟩ := E.at h3
  have z := hfl j _ hj
  have key : ∃ v, us[j]? = some (some v) ∧ Rp F v d := by
    cases fl with
    | no => cases hd
    | val d' => cases hd; exact z
    | own p xs => cases hd; exact z
  obtain ⟨v, e1, r⟩ := key
  exact we_of (SlX.pe_sl (pe_var h2 hv hdb hcd) hb) ⟨.ref x, g1, x, C, dx, p, us, j, v, rfl, slt_keep sl fun a o _ e => E.ex a o e, T.cls, t, e1, k v F H d (.refl E) r q⟩
theorem nd_fldO {d : PyData} (h1 : X.N = N) (h2 : N[i]? = some y) (h3 : Γ[i]? = some (.obj x dx C fs)) (hv : Vis X.env.scope y) (T : StC X.K C) (hf : slIx f = some j) (hj : fs[j]? = some (.val d)) (q : P d)
    (hdb : (y == ("__debug__" : Str)) = false := by decide) (hcd : (y == ("__classdict__" : Str)) = false := by decide) (hb : attributeBase (.Name y py) f X.env (eval (.Name y py) X.env) = eval (.Name y py) X.env := by rfl) : Nd X (.Attribute (.Name y py) f pos) Γ P := by
  subst h1
  intro F H σ E Q k
  obtain ⟨p, t⟩ := T.slot f j hf
  obtain ⟨ov, g1, rfl, ob⟩ := E.at h3
  obtain ⟨us, sl, hfl⟩ := ob.sl
  obtain ⟨v, e1, r⟩ := hfl j _ hj
  exact we_of (SlX.pe_sl (pe_var h2 hv hdb hcd) hb) ⟨.ref x, g1, x, C, dx, p, us, j, v, rfl, sl, T.cls, t, e1, k v F H d (.refl E) r q⟩
theorem sh_fld (h : Nd X (.Attribute (.Name y py) f pos) Γ P) : Nd X (.Attribute (.Name y py) f pos) Γ P := h
end

/-! ### defs that read an object -/
abbrev OSpc := List Fl → List PyData → (PyData → Prop) → Prop
def rSp (C : Addr) (S : OSpc) : Sp := fun vs H Q _ => ∃ F x dx fs ws ds P, vs = .ref x :: ws ∧ Same F H ∧ RoOk F x dx C fs ∧ RpAll F ws ds ∧ S fs ds P ∧ ∀ v F' H' d, Gr [] F H F' H' → Rp F' v d → P d → Q v H'
/-- a method as its callers need it -/
def Mth (P : Program) (w : World) (K : PySem.W.Frag) (mg : Str → Option Value) (base : Heap) (C : Addr) (k : Nat) (m : Str) (sp : Sp) : Prop := ∃ g, Meth K C m g ∧ FnR P w K mg base CX0 k g sp
/-- a method of the text -/
def Md (K : PySem.W.Frag) (C : Addr) (m qual : Str) (st : Stmt) : Prop := ∃ f fd, Fun K m qual st f fd ∧ Meth K C m f
def BindM (st : Stmt) (x q : Str) (ps : List Str) : Prop := ∀ (kV doc pm : Value) (an : Option Addr) (cdv ct : Value) (us : List Value), us.length = ps.length → bindArgs (PySem.W.fnOf x q (defArgs st) (defBody st) (defScope st) .none kV doc pm an cdv ct) ⟨us, []⟩ = pure (ps.zip us)
section
variable {X : Cx} {e : Expr} {es : List Expr} {Γ : Ctx} {P : PyData → Prop} {i j k : Nat} {x dx C : Addr} {fs : List Fl} {N : List Str} {y m f : Str} {py pos apos p : Pos} {S : OSpc}
theorem nd_rmeth0 (G : Mth X.prog X.w X.K X.mg X.base C j m (rSp C S)) (T : StC X.K C) (hr : Room k X.A) (h1 : X.N = N) (h2 : N[i]? = some y) (h3 : Γ[i]? = some (.rob x dx C fs)) (hv : Vis X.env.scope y) (q : S fs [] P) (hk : j ≤ k := by decide)
    (hdb : (y == ("__debug__" : Str)) = false := by decide) (hcd : (y == ("__classdict__" : Str)) = false := by decide) {pl : Sem Bool}
    (ht : eval (.Call (.Attribute (.Name y py) m apos) [] [] pos) X.env = (do
      let ov ← eval (.Name y py) X.env
      standAt apos.atName
      let (f, first) ← holding [ov] (getMethod ov m pl)
      callWith pos f first (backTo pos (starEach [] X.env)) (backToKw pos (keywordEach [] X.env))) := by rfl) : Nd X (.Call (.Attribute (.Name y py) m apos) [] [] pos) Γ P := by
  subst h1
  obtain ⟨g, M, Fn⟩ := G
  intro F H σ E Q kk
  obtain ⟨ov, g1, rfl, ro⟩ := E.at h3
  refine we_of (SlX.pe_methSl0 (E := fun _ _ _ => False) (pe_var h2 hv hdb hcd) T.cls M Fn (hr.mono hk) pass0 ht) ⟨.ref x, g1, x, dx, ?_⟩
  obtain ⟨us, sl, hfl⟩ := id ro
  exact ⟨us, rfl, slt_keep sl fun a o _ e => E.ex a o e, F, x, dx, fs, [], [], P, rfl, E.ex, ro, .nil, q, fun v F2 H2 d g2 r2 p2 => kk v F2 H2 d (Gr.wide E g2) r2 p2⟩
theorem nd_rmeth (G : Mth X.prog X.w X.K X.mg X.base C j m (rSp C S)) (T : StC X.K C) (hr : Room k X.A) (h1 : X.N = N) (h2 : N[i]? = some y) (h3 : Γ[i]? = some (.rob x dx C fs)) (hv : Vis X.env.scope y) (ha : Na X (e :: es) Γ fun ds => S fs ds P) (hk : j ≤ k := by decide)
    (hdb : (y == ("__debug__" : Str)) = false := by decide) (hcd : (y == ("__classdict__" : Str)) = false := by decide) {pl : Sem Bool} (hst : starEach (e :: es) X.env = (false, eval e X.env) :: starEach es X.env := by rfl) (hpl : (backTo pos (starEach es X.env)).any (·.1) = false := by rfl)
    (ht : eval (.Call (.Attribute (.Name y py) m apos) (e :: es) [] pos) X.env = (do
      let ov ← eval (.Name y py) X.env
      standAt apos.atName
      let (f, first) ← holding [ov] (getMethod ov m pl)
      callWith pos f first (backTo pos (starEach (e :: es) X.env)) (backToKw pos (keywordEach [] X.env))) := by rfl) : Nd X (.Call (.Attribute (.Name y py) m apos) (e :: es) [] pos) Γ P := by
  subst h1
  obtain ⟨g, M, Fn⟩ := G
  intro F H σ E Q kk
  obtain ⟨ov, g1, rfl, ro⟩ := E.at h3
  obtain ⟨us, sl, hfl⟩ := id ro
  refine we_of (SlX.pe_methSl (E := fun _ _ _ => False) (pe_var h2 hv hdb hcd) T.cls M Fn (hr.mono hk) pass0 pa_wa hst hpl ht) ⟨.ref x, g1, x, dx, us, rfl, slt_keep sl fun a o _ e => E.ex a o e, ?_⟩
  refine ha F H σ E _ fun vs F1 H1 ds g r s => ?_
  exact ⟨F1, x, dx, fs, vs, ds, P, rfl, g.ex, ro.mono g.sF, r, s, fun v F2 H2 d g2 r2 p2 => kk v F2 H2 d (g.trans (Gr.wide (E.grow g) g2)) r2 p2⟩
/-- f(store, ..) -/
theorem nd_rcall (G : Fk X.prog X.w X.K X.mg X.base j f (rSp C S)) (hr : Room k X.A) (h1 : X.N = N) (h2 : N[i]? = some y) (h3 : Γ[i]? = some (.rob x dx C fs)) (hv : Vis X.env.scope y) (ha : Na X es Γ fun ds => S fs ds P) (hk : j ≤ k := by decide)
    (hd : (y == ("__debug__" : Str)) = false := by decide) (hcd : (y == ("__classdict__" : Str)) = false := by decide)
    (hg : Gl X f := by rfl) (hdb : (f == ("__debug__" : Str)) = false := by decide) (he : starEach (.Name y py :: es) X.env = (false, eval (.Name y py) X.env) :: starEach es X.env := by rfl) (hpl : (backTo pos (starEach es X.env)).any (·.1) = false := by rfl) : Nd X (.Call (.Name f p) (.Name y py :: es) [] pos) Γ P := by
  subst h1
  obtain ⟨g, fd, ps, F0, hm, kp, bd⟩ := G
  intro F H σ E Q q
  refine we_of (pe_call F0 (hr.mono hk) hg hm kp bd .nil pass0 (pa_cons (pe_var h2 hv hd hcd) pa_wa he) hdb he hpl) ?_
  obtain ⟨ov, g1, rfl, ro⟩ := E.at h3
  refine ⟨.ref x, g1, ?_⟩
  refine ha F H σ E _ fun vs F1 H1 ds g r s => ?_
  exact ⟨F1, x, dx, fs, vs, ds, P, by rw [List.append_nil], g.ex, ro.mono g.sF, r, s, fun v F2 H2 d g2 r2 p2 => q v F2 H2 d (g.trans (Gr.wide (E.grow g) g2)) r2 p2⟩
end
section
variable {P : Program} {w : World} {K : PySem.W.Frag} {mg : Str → Option Value} {base : Heap} {x qual : Str} {st : Stmt} {N ps : List Str} {k : Nat} {C : Addr}
theorem rbody {sp : OSpc} {f : Addr} {fd : FuncData} (F0 : Fun K x qual st f fd) (S : FnScope N ps (defScope st)) (hlen : ∀ fs ds R, sp fs ds R → ds.length + 1 = ps.length)
    (hbody : ∀ (f : Addr) (cdv : Value) (A : Around) (outer : List Env) (s : Shared) (H : Hp) (E : XK), Room k (A.deeper (PyProof.Rows.envOfC qual (defScope st) s.heap.objs.size f cdv)) → ∀ (F : Hp) (x dx : Addr) (fs : List Fl) (ds : List PyData) (R : PyData → Prop), sp fs ds R →
      Es (Xo P w K mg base N qual st f cdv A outer s H E) ⟨F, H, []⟩ (defBody st) (ctx0 N (.rob x dx C fs :: ds.map .val)) ⟨fun _ => R .none, fun d _ => R d, fun _ => False, fun _ => False⟩) : FnOk P w K mg base CX0 (k + 1) f fd ps (rSp C sp) := by
  refine F0.ok S (fun vs H Q E h => ?_) (fun cdv A outer s H vs Q E hr h => ?_)
  · obtain ⟨F, x, dx, fs, ws, ds, R, rfl, _, _, r, q, _⟩ := h
    rw [List.length_cons, r.length]
    exact hlen fs ds R q
  · obtain ⟨F, x, dx, fs, ws, ds, R, rfl, sF, ro, r, q, fin⟩ := h
    refine ⟨wss _ (defBody st), pss_wss, ?_⟩
    have hl : (ds.map Sd.val).length + 1 = ps.length := by rw [List.length_map]; exact hlen fs ds R q
    have hpl : ps.length ≤ N.length := by
      have := congrArg List.length S.pre
      rw [List.length_take] at this
      omega
    have hv : ∀ s, s ∈ Sd.rob x dx C fs :: ds.map Sd.val → s.addrs = [] := fun s m => by
      rcases List.mem_cons.mp m with e | m
      · rw [e]; rfl
      · obtain ⟨d, _, rfl⟩ := List.mem_map.mp m
        rfl
    have Ev := vals_en sF r
    have En0 : En F H ((V.ref x :: ws).map some) (.rob x dx C fs :: ds.map .val) := by
      refine ⟨by rw [List.map_cons, List.length_cons, List.length_cons]; exact congrArg (· + 1) Ev.len, sF, fun i s ov h1 h2 => ?_, fun i j s t a h1 h2 m1 m2 => ?_⟩
      · cases i with
        | zero =>
          cases h1
          cases h2
          exact ⟨rfl, ro⟩
        | succ i => exact Ev.sl i s ov h1 h2
      · rw [hv s (List.mem_of_getElem? h1)] at m1
        cases m1
    have E0 : EnB ⟨F, H, []⟩ F H (L2.start N (V.ref x :: ws)) (ctx0 N (.rob x dx C fs :: ds.map .val)) :=
      ⟨start_en (by rw [List.length_cons, List.length_cons, r.length, List.length_map]) (by rw [List.length_cons]; omega) En0, Same.refl F, fun a o e _ => e, fun a e _ => e, fun s m q hq => absurd hq (by rw [no_addr hv s m]; simp), fun a n => n⟩
    have gr : ∀ {F' H' σ' Γ'}, EnB ⟨F, H, []⟩ F' H' σ' Γ' → Gr [] F H F' H' := fun {F' H' σ' Γ'} E' => ⟨E'.f0, E'.en.ex, fun a o e _ => E'.fr a o e (by simp), E'.nw, fun _ _ m => by simp at m⟩
    exact hbody f cdv A outer s H E hr F x dx fs ds R q F H _ E0 _ ⟨fun F' H' σ' Γ' _ E' q' => fin .non F' H' .none (gr E') .non q', fun F' H' σ' Γ' v d _ E' r' q' => fin v F' H' d (gr E') r' q', fun _ _ _ _ _ _ z => z.elim, fun _ _ _ _ _ _ z => z.elim⟩
theorem fk_r {sp : OSpc} (D : Fd K mg x st) (S : FnScope N ps (defScope st)) (hb : BindN st x ps) (hlen : ∀ fs ds R, sp fs ds R → ds.length + 1 = ps.length)
    (hbody : ∀ (f : Addr) (cdv : Value) (A : Around) (outer : List Env) (s : Shared) (H : Hp) (E : XK), Room k (A.deeper (PyProof.Rows.envOfC x (defScope st) s.heap.objs.size f cdv)) → ∀ (F : Hp) (y dx : Addr) (fs : List Fl) (ds : List PyData) (R : PyData → Prop), sp fs ds R →
      Es (Xo P w K mg base N x st f cdv A outer s H E) ⟨F, H, []⟩ (defBody st) (ctx0 N (.rob y dx C fs :: ds.map .val)) ⟨fun _ => R .none, fun d _ => R d, fun _ => False, fun _ => False⟩) : Fk P w K mg base (k + 1) x (rSp C sp) := by
  obtain ⟨f, fd, F0, hm⟩ := D
  exact ⟨f, fd, ps, rbody F0 S hlen hbody, hm, F0.kp, F0.binds hb⟩
theorem mth_of {sp : Sp} {f : Addr} {fd : FuncData} (F0 : Fun K x qual st f fd) (M : Meth K C x f) (hb : BindM st x qual ps) (G : FnOk P w K mg base CX0 k f fd ps sp) : Mth P w K mg base C k x sp :=
  ⟨f, M, (G.raw (F0.binds hb) .nil).imp fun vs H Q E h => by rw [List.append_nil]; exact h⟩
theorem mth_r {sp : OSpc} (D : Md K C x qual st) (S : FnScope N ps (defScope st)) (hb : BindM st x qual ps) (hlen : ∀ fs ds R, sp fs ds R → ds.length + 1 = ps.length)
    (hbody : ∀ (f : Addr) (cdv : Value) (A : Around) (outer : List Env) (s : Shared) (H : Hp) (E : XK), Room k (A.deeper (PyProof.Rows.envOfC qual (defScope st) s.heap.objs.size f cdv)) → ∀ (F : Hp) (y dx : Addr) (fs : List Fl) (ds : List PyData) (R : PyData → Prop), sp fs ds R →
      Es (Xo P w K mg base N qual st f cdv A outer s H E) ⟨F, H, []⟩ (defBody st) (ctx0 N (.rob y dx C fs :: ds.map .val)) ⟨fun _ => R .none, fun d _ => R d, fun _ => False, fun _ => False⟩) : Mth P w K mg base C (k + 1) x (rSp C sp) := by
  obtain ⟨f, fd, F0, M⟩ := D
  exact mth_of F0 M hb (rbody F0 S hlen hbody)
end
end Wm

set_option Elab.async false
set_option linter.all false
set_option maxRecDepth 100000
set_option maxHeartbeats 4000000
/-! Wm.OB: objects changed. -/
namespace Wm
open PySem PySem.Spec L2

/-- what may have happened while the things at M were changed -/
structure GrM (M : List Addr) (F H F' H' : Hp) : Prop where
  sF : Same F F'
  ex : Same F' H'
  fr : ∀ a o, H a = some o → a ∉ M → H' a = some o
  nw : ∀ a, F a = none → H a ≠ none → F' a = none
  al : ∀ a, H a ≠ none → H' a ≠ none
def NewA (H : Hp) (fs fs' : List Fl) : Prop := ∀ p ∈ fAddrs fs', p ∈ fAddrs fs ∨ H p = none
section
variable {B : Bs} {F H F' H' : Hp} {σ : L2.St} {Γ : Ctx} {i j : Nat} {x dx C : Addr} {fs fs' : List Fl}
theorem EnB.objc' (E : EnB B F H σ Γ) (hi : Γ[i]? = some (.obj x dx C fs)) (g : GrM (obA x dx fs) F H F' H') (ob : ObOk F' H' x dx C fs') (na : ∀ p ∈ fAddrs fs', p ∈ fAddrs fs ∨ ((∀ s, s ∈ Γ → p ∉ s.addrs) ∧ B.H0 p = none)) : EnB B F' H' σ (Γ.set i (.obj x dx C fs')) := by
  obtain ⟨ov, h1, rfl, ob0⟩ := E.en.at hi
  have hil : i < Γ.length := (List.getElem?_eq_some_iff.mp hi).1
  have sepi : ∀ (k : Nat) s, i ≠ k → Γ[k]? = some s → ∀ a, a ∈ obA x dx fs → a ∉ s.addrs := fun k s hk e a ha m => hk (E.en.sep i k _ s a hi e ha m)
  have adr : ∀ a, a ∈ obA x dx fs' → a ∈ obA x dx fs ∨ ((∀ s, s ∈ Γ → a ∉ s.addrs) ∧ B.H0 a = none) := fun a ha => by
    rcases List.mem_cons.mp ha with e | ha
    · subst e
      exact .inl List.mem_cons_self
    · rcases List.mem_cons.mp ha with e | ha
      · subst e
        exact .inl (List.mem_cons_of_mem _ List.mem_cons_self)
      · rcases na a ha with h | h
        · exact .inl (List.mem_cons_of_mem _ (List.mem_cons_of_mem _ h))
        · exact .inr h
  have back : ∀ (k : Nat) s, (Γ.set i (.obj x dx C fs'))[k]? = some s → (k = i ∧ s = .obj x dx C fs') ∨ (k ≠ i ∧ Γ[k]? = some s) := fun k s e => by
    by_cases hk : i = k
    · subst hk
      rw [List.getElem?_set_self hil] at e
      exact .inl ⟨rfl, (Option.some.inj e).symm⟩
    · rw [List.getElem?_set_ne hk] at e
      exact .inr ⟨Ne.symm hk, e⟩
  have cross : ∀ (k : Nat) s a, k ≠ i → Γ[k]? = some s → a ∈ s.addrs → a ∉ obA x dx fs' := fun k s a hk e m ha => by
    rcases adr a ha with h | h
    · exact sepi k s (Ne.symm hk) e a h m
    · exact h.1 s (List.mem_of_getElem? e) m
  refine ⟨⟨by rw [List.length_set]; exact E.en.len, g.ex, fun k s ov e1 e2 => ?_, fun k l s t a e1 e2 m1 m2 => ?_⟩, E.f0.trans g.sF, fun a o e n => g.fr a o (E.fr a o e n) fun m => ?_, fun a e n => g.nw a (E.nw a e n) (E.al a n), fun s m q hq => ?_, fun a n => g.al a (E.al a n)⟩
  · rcases back k s e1 with ⟨q1, q2⟩ | ⟨q1, q2⟩
    · subst q1 q2
      rw [h1] at e2
      cases e2
      exact ⟨rfl, ob⟩
    · refine (E.en.sl k s ov q2 e2).grow g.sF (fun a o ha e _ => g.fr a o e fun m => sepi k s (Ne.symm q1) q2 a m ha) (fun a ha => g.nw a (E.en.addr_no q2 ha).1 (E.en.addr_no q2 ha).2) (fun b c e => ?_)
      subst e
      obtain ⟨s0, s1, s2, e, r⟩ := (E.en.bag (List.mem_of_getElem? q2)).2
      exact ⟨s0, s1, s2, g.fr b _ e fun m => sepi k _ (Ne.symm q1) q2 b m (by simp [Sd.addrs]), r⟩
  · rcases back k s e1 with ⟨q1, q2⟩ | ⟨q1, q2⟩ <;> rcases back l t e2 with ⟨q3, q4⟩ | ⟨q3, q4⟩
    · rw [q1, q3]
    · subst q2
      exact absurd m1 (cross l t a q3 q4 m2)
    · subst q4
      exact absurd m2 (cross k s a q1 q2 m1)
    · exact E.en.sep k l s t a q2 q4 m1 m2
  · rcases E.mv _ (List.mem_of_getElem? hi) a m with h | h
    · exact n h
    · rw [h] at e
      cases e
  · rcases List.mem_or_eq_of_mem_set m with m | e
    · exact E.mv s m q hq
    · subst e
      rcases adr q hq with h | h
      · exact E.mv _ (List.mem_of_getElem? hi) q h
      · exact .inr h.2
theorem EnB.objc (E : EnB B F H σ Γ) (hi : Γ[i]? = some (.obj x dx C fs)) (g : GrM (obA x dx fs) F H F' H') (ob : ObOk F' H' x dx C fs') (na : NewA H fs fs') : EnB B F' H' σ (Γ.set i (.obj x dx C fs')) :=
  E.objc' hi g ob fun p hp => (na p hp).imp id fun n => ⟨fun s m hs => E.new_out n m hs, E.new_no n⟩
/-! ### variables set -/
def putF (j : Nat) (f : Fl) (fs : List Fl) : List Fl := (fs ++ List.replicate (j + 1 - fs.length) Fl.no).set j f
theorem putF_get {k : Nat} {f g : Fl} (h : (putF j f fs)[k]? = some g) : (k = j ∧ g = f) ∨ (k ≠ j ∧ (fs[k]? = some g ∨ g = .no)) := by
  unfold putF at h
  by_cases hk : j = k
  · subst hk
    rw [List.getElem?_set_self (by simp only [List.length_append, List.length_replicate]; omega)] at h
    exact .inl ⟨rfl, (Option.some.inj h).symm⟩
  · rw [List.getElem?_set_ne hk] at h
    refine .inr ⟨Ne.symm hk, ?_⟩
    by_cases hl : k < fs.length
    · rw [List.getElem?_append_left hl] at h
      exact .inl h
    · rw [List.getElem?_append_right (by omega), List.getElem?_replicate] at h
      split at h
      · exact .inr (Option.some.inj h).symm
      · cases h
theorem fAddrs_cons (f : Fl) (fs : List Fl) : fAddrs (f :: fs) = f.addrs ++ fAddrs fs := by unfold fAddrs; rw [List.flatMap_cons]
theorem fAddrs_app (a b : List Fl) : fAddrs (a ++ b) = fAddrs a ++ fAddrs b := by unfold fAddrs; rw [List.flatMap_append]
theorem fAddrs_no : ∀ n : Nat, fAddrs (List.replicate n Fl.no) = []
  | 0 => rfl
  | n + 1 => by rw [List.replicate_succ, fAddrs_cons, fAddrs_no n]; rfl
theorem fAddrs_set (f : Fl) : ∀ (fs : List Fl) (j : Nat), (fAddrs (fs.set j f)).Nodup ∨ ¬ (fAddrs fs).Nodup ∨ ∃ a ∈ f.addrs, a ∈ fAddrs fs ∨ ¬ f.addrs.Nodup := by
  intro fs
  induction fs with
  | nil => intro j; left; simp [fAddrs]
  | cons g fs ih =>
    intro j
    cases j with
    | zero =>
      rw [List.set_cons_zero, fAddrs_cons, fAddrs_cons]
      by_cases h1 : (g.addrs ++ fAddrs fs).Nodup
      · by_cases h2 : ∃ a ∈ f.addrs, a ∈ g.addrs ++ fAddrs fs ∨ ¬ f.addrs.Nodup
        · exact .inr (.inr h2)
        · left
          have h3 : ∀ a ∈ f.addrs, a ∉ g.addrs ++ fAddrs fs ∧ f.addrs.Nodup := fun a ha => by
            refine ⟨fun m => h2 ⟨a, ha, .inl m⟩, ?_⟩
            by_cases z : f.addrs.Nodup
            · exact z
            · exact absurd ⟨a, ha, .inr z⟩ h2
          cases hf : f.addrs with
          | nil => rw [List.nil_append]; exact (List.nodup_append.mp h1).2.1
          | cons a L =>
            rw [hf] at h3
            refine List.nodup_append.mpr ⟨(h3 a List.mem_cons_self).2, (List.nodup_append.mp h1).2.1, fun b hb c hc e => ?_⟩
            subst e
            exact (h3 b hb).1 (List.mem_append_right _ hc)
      · exact .inr (.inl h1)
    | succ j =>
      rw [List.set_cons_succ, fAddrs_cons, fAddrs_cons]
      by_cases h1 : (g.addrs ++ fAddrs fs).Nodup
      · rcases ih j with h | h | ⟨a, ha, h⟩
        · by_cases h2 : ∃ a ∈ f.addrs, a ∈ g.addrs
          · obtain ⟨a, ha, hg⟩ := h2
            exact .inr (.inr ⟨a, ha, .inl (List.mem_append_left _ hg)⟩)
          · left
            refine List.nodup_append.mpr ⟨(List.nodup_append.mp h1).1, h, fun b hb c hc e => ?_⟩
            subst e
            obtain ⟨k, xs, hk⟩ := mem_fAddrs.mp hc
            by_cases hkj : j = k
            · subst hkj
              by_cases hl : j < fs.length
              · rw [List.getElem?_set_self hl] at hk
                have e := Option.some.inj hk
                exact h2 ⟨b, by rw [e]; simp [Fl.addrs], hb⟩
              · rw [List.getElem?_eq_none (by rw [List.length_set]; omega)] at hk
                cases hk
            · rw [List.getElem?_set_ne hkj] at hk
              exact (List.nodup_append.mp h1).2.2 b hb b (mem_fAddrs.mpr ⟨k, xs, hk⟩) rfl
        · exact absurd (List.nodup_append.mp h1).2.1 h
        · rcases h with h | h
          · exact .inr (.inr ⟨a, ha, .inl (List.mem_append_right _ h)⟩)
          · exact .inr (.inr ⟨a, ha, .inr h⟩)
      · exact .inr (.inl h1)
theorem putF_nod {f : Fl} (h : (fAddrs fs).Nodup) (h2 : f.addrs.Nodup) (h3 : ∀ a ∈ f.addrs, a ∉ fAddrs fs) : (fAddrs (putF j f fs)).Nodup := by
  unfold putF
  have e : fAddrs (fs ++ List.replicate (j + 1 - fs.length) Fl.no) = fAddrs fs := by rw [fAddrs_app, fAddrs_no, List.append_nil]
  rcases fAddrs_set f (fs ++ List.replicate (j + 1 - fs.length) Fl.no) j with q | q | ⟨a, ha, q⟩
  · exact q
  · rw [e] at q
    exact absurd h q
  · rw [e] at q
    rcases q with q | q
    · exact absurd q (h3 a ha)
    · exact absurd h2 q
theorem putF_mem {f : Fl} {a : Addr} (h : a ∈ fAddrs (putF j f fs)) : a ∈ f.addrs ∨ a ∈ fAddrs fs := by
  obtain ⟨k, xs, hk⟩ := mem_fAddrs.mp h
  rcases putF_get hk with ⟨_, e⟩ | ⟨_, e | e⟩
  · left
    rw [← e]
    simp [Fl.addrs]
  · exact .inr (mem_fAddrs.mpr ⟨k, xs, e⟩)
  · cases e
/-- a variable stored: v known as f says -/
theorem obj_put {v : V} {f : Fl} (ob : ObOk F H x dx C fs) (hs : Same F H) (hv : ∀ H2 : Hp, (∀ a, a ≠ x → a ≠ dx → H2 a = H a) → FlOk F H2 (some (some v)) f) (hn : f.addrs.Nodup) (hd : ∀ a ∈ f.addrs, a ∉ obA x dx fs) (us : List (Option V)) (hsl : SlX.Slt H x C dx us) (hfl : ∀ (i : Nat) f, fs[i]? = some f → FlOk F H us[i]? f) :
    GrM (obA x dx fs) F H F (SlX.slH H x C dx (SlX.putS j v us)) ∧ ObOk F (SlX.slH H x C dx (SlX.putS j v us)) x dx C (putF j f fs) := by
  have off : ∀ a, a ≠ x → a ≠ dx → SlX.slH H x C dx (SlX.putS j v us) a = H a := fun a h1 h2 => SlX.slH_ne h1 h2
  have hx : F x = none := ob.nx
  have hdx : F dx = none := ob.nd
  have sx : SlX.slH H x C dx (SlX.putS j v us) x ≠ none := slt_some (SlX.slH_slt ob.ne)
  have sd : SlX.slH H x C dx (SlX.putS j v us) dx ≠ none := by
    unfold SlX.slH
    rw [upd_ne ob.ne, upd_same]
    simp
  refine ⟨⟨Same.refl F, fun a o e => ?_, fun a o e n => ?_, fun a e _ => e, fun a n => ?_⟩, ⟨hx, hdx, sd, ob.ne, putF_nod ob.nod hn fun a ha m => hd a ha (List.mem_cons_of_mem _ (List.mem_cons_of_mem _ m)), ?_, SlX.putS j v us, SlX.slH_slt ob.ne, fun k g hk => ?_⟩⟩
  · rw [off a (ne_of_none e hx) (ne_of_none e hdx)]
    exact hs a o e
  · rw [off a (fun z => n (by rw [z]; simp)) (fun z => n (by rw [z]; simp))]
    exact e
  · by_cases h1 : a = x
    · rw [h1]; exact sx
    · by_cases h2 : a = dx
      · rw [h2]; exact sd
      · rw [off a h1 h2]; exact n
  · refine ⟨fun m => ?_, fun m => ?_⟩ <;> rcases putF_mem m with h | h
    · exact hd x h List.mem_cons_self
    · exact ob.out.1 h
    · exact hd dx h (List.mem_cons_of_mem _ List.mem_cons_self)
    · exact ob.out.2 h
  · rcases putF_get hk with ⟨e1, e2⟩ | ⟨e1, e2 | e2⟩
    · subst e1 e2
      rw [SlX.putS_get]
      exact hv _ off
    · have z := hfl k g e2
      cases g with
      | no => trivial
      | val d =>
        obtain ⟨u, h1, r⟩ := z
        exact ⟨u, (SlX.putS_ne e1).mpr h1, r⟩
      | own p xs =>
        obtain ⟨h1, n, vs, hp, r⟩ := z
        have hm : p ∈ fAddrs fs := mem_fAddrs.mpr ⟨k, xs, e2⟩
        exact ⟨(SlX.putS_ne e1).mpr h1, n, vs, by rw [off p (fun w => ob.out.1 (w ▸ hm)) (fun w => ob.out.2 (w ▸ hm))]; exact hp, r⟩
    · subst e2
      trivial
theorem putF_new {f : Fl} (h : ∀ a ∈ f.addrs, H a = none) : NewA H fs (putF j f fs) := fun p hp => (putF_mem hp).elim (fun m => .inr (h p m)) .inl
end
section
variable {X : Cx} {B : Bs} {Γ : Ctx} {O : Po} {N : List Str} {i j k : Nat} {x dx C : Addr} {fs : List Fl} {y m f : Str} {e : Expr} {es : List Expr} {pos pos' py apos p : Pos}
/-- self.f = e -/
theorem e1_fset (h1 : X.N = N) (h2 : N[i]? = some y) (h3 : Γ[i]? = some (.obj x dx C fs)) (hv : Vis X.env.scope y) (T : StC X.K C) (hf : slIx f = some j) (h : Nd X e Γ fun d => O.nx (Γ.set i (.obj x dx C (putF j (.val d) fs))))
    (hdb : (y == ("__debug__" : Str)) = false := by decide) (hcd : (y == ("__classdict__" : Str)) = false := by decide) (hs : swapsWith e (some (.Attribute (.Name y py) f pos')) pos.line X.env = pure false := by rfl) : E1 X B (.Assign [.Attribute (.Name y py) f pos'] e pos) Γ O := fun F H σ E D kk => by
  subst h1
  obtain ⟨p, t⟩ := T.slot f j hf
  refine ws_of (SlX.ps_sl (pe_var h2 hv hdb hcd) pe_we hs) ?_
  refine h F H σ E.en _ fun v F1 H1 d g r q => ?_
  have E1' := E.grow g
  obtain ⟨ov, g1, rfl, ob⟩ := E1'.en.at h3
  obtain ⟨us, sl, hfl⟩ := ob.sl
  refine ⟨.ref x, g1, x, C, dx, p, us, j, rfl, sl, T.cls, t, ?_⟩
  obtain ⟨a1, a2⟩ := obj_put (j := j) (v := v) (f := .val d) ob E1'.en.ex (fun H2 _ => ⟨v, rfl, r⟩) (by simp [Fl.addrs]) (by simp [Fl.addrs]) us sl hfl
  exact kk.nx F1 _ σ _ g.sF (E1'.objc h3 a1 a2 (putF_new (by simp [Fl.addrs]))) q
/-- self.f = a new list -/
theorem e1_fsetL (h1 : X.N = N) (h2 : N[i]? = some y) (h3 : Γ[i]? = some (.obj x dx C fs)) (hv : Vis X.env.scope y) (T : StC X.K C) (hf : slIx f = some j) (hM : ∀ q, q ∈ B.M → B.H0 q ≠ none) (h : Nl X e Γ fun xs => ∀ q, q ∉ B.M → O.nx (Γ.set i (.obj x dx C (putF j (.own q xs) fs))))
    (hdb : (y == ("__debug__" : Str)) = false := by decide) (hcd : (y == ("__classdict__" : Str)) = false := by decide) (hs : swapsWith e (some (.Attribute (.Name y py) f pos')) pos.line X.env = pure false := by rfl) : E1 X B (.Assign [.Attribute (.Name y py) f pos'] e pos) Γ O := fun F H σ E D kk => by
  subst h1
  obtain ⟨p, t⟩ := T.slot f j hf
  refine ws_of (SlX.ps_sl (pe_var h2 hv hdb hcd) pe_we hs) ?_
  refine h F H σ E.en _ fun q vs xs F1 H1 g n nF hH r w => ?_
  have E1' := E.grow g
  obtain ⟨ov, g1, rfl, ob⟩ := E1'.en.at h3
  obtain ⟨us, sl, hfl⟩ := ob.sl
  have hnq : ∀ a, a ∈ obA x dx fs → a ≠ q := fun a ha z => E.new_out n (List.mem_of_getElem? h3) (z ▸ ha)
  have hqx : q ≠ x := fun z => hnq x List.mem_cons_self z.symm
  have hqd : q ≠ dx := fun z => hnq dx (List.mem_cons_of_mem _ List.mem_cons_self) z.symm
  refine ⟨.ref x, g1, x, C, dx, p, us, j, rfl, sl, T.cls, t, ?_⟩
  obtain ⟨a1, a2⟩ := obj_put (j := j) (v := .ref q) (f := .own q xs) ob E1'.en.ex (fun H2 e2 => ⟨rfl, nF, vs, by rw [e2 q hqx hqd]; exact hH, r⟩) (by simp [Fl.addrs]) (fun a ha m => hnq a m (by simpa [Fl.addrs] using ha)) us sl hfl
  have E2 : EnB B F1 (SlX.slH H1 x C dx (SlX.putS j (.ref q) us)) σ (Γ.set i (.obj x dx C (putF j (.own q xs) fs))) := E1'.objc' h3 a1 a2 fun p' hp' => (putF_mem hp').elim (fun mm => .inr (by
    have e : p' = q := by simpa [Fl.addrs] using mm
    rw [e]
    exact ⟨fun s m hs => E.new_out n m hs, E.new_no n⟩)) .inl
  exact kk.nx F1 _ σ _ g.sF E2 (w q fun m => E.al q (hM q m) n)
end
end Wm

set_option Elab.async false
set_option linter.all false
set_option maxRecDepth 100000
set_option maxHeartbeats 4000000
/-! Wm.OC: objects changed: tuples of variables, appends, operators; defs that change them. -/
namespace Wm
open PySem PySem.Spec L2
def gFld (K : PySem.W.Frag) (ta : TE) (f : Str) : TG := fun v σ H Q => ta σ H fun o H1 => ∃ a C dx p vs i, o = .ref a ∧ SlX.Slt H1 a C dx vs ∧ SlX.SCls K C ∧ SlX.Slot1 K C f p i ∧ Q σ (SlX.slH H1 a C dx (SlX.putS i v vs))
theorem pg_fld {X : Cx} {o : Expr} {ta : TE} {f : Str} {pos : Pos} (ho : PE X o ta) : PG X (.Attribute o f pos) (gFld X.K ta f) := by
  refine ⟨fun pins s σ H v u Q I r h => ?_⟩
  rw [assign_Attribute]
  refine wpAny_bind (wpAny_holding (thn (ho.run pins s σ H _ I h) fun ov s1 ⟨x, H1, I1, r1, a, C, dx, p, vs, i, ex, hsl, c, t, q1⟩ => ?_))
  subst ex
  obtain rfl : ov = Value.ref a := r1
  refine wpAny_bind (wpAny_standAt (wpAny_bind (wpAny_holding (SlX.setslot_ok I1 hsl c t r fun s2 I2 => ?_))))
  exact wpAny_release ⟨σ, _, I2, q1⟩
section
variable {B : Bs} {F H F' H' : Hp} {σ : L2.St} {Γ : Ctx} {i j : Nat} {x dx C : Addr} {fs fs' : List Fl}
theorem obj_step {v : V} {d : PyData} (E : EnB B F H σ Γ) (hi : Γ[i]? = some (.obj x dx C fs)) (r : Rp F v d) : ∃ us, SlX.Slt H x C dx us ∧ EnB B F (SlX.slH H x C dx (SlX.putS j v us)) σ (Γ.set i (.obj x dx C (putF j (.val d) fs))) := by
  obtain ⟨ov, g1, rfl, ob⟩ := E.en.at hi
  obtain ⟨us, sl, hfl⟩ := ob.sl
  obtain ⟨a1, a2⟩ := obj_put (j := j) (v := v) (f := .val d) ob E.en.ex (fun H2 _ => ⟨v, rfl, r⟩) (by simp [Fl.addrs]) (by simp [Fl.addrs]) us sl hfl
  exact ⟨us, sl, E.objc hi a1 a2 (putF_new (by simp [Fl.addrs]))⟩
theorem obj_var (E : EnB B F H σ Γ) (hi : Γ[i]? = some (.obj x dx C fs)) : σ[i]? = some (some (.ref x)) := by
  obtain ⟨ov, g1, rfl, ob⟩ := E.en.at hi
  exact g1
/-- a list of an object changed -/
theorem EnB.objL {q : Addr} {xs xs' : List PyData} {vs : List V} (E : EnB B F H σ Γ) (hi : Γ[i]? = some (.obj x dx C fs)) (hj : fs[j]? = some (.own q xs)) (r : RpAll F vs xs') : EnB B F (upd H q (.lst vs)) σ (Γ.set i (.obj x dx C (fs.set j (.own q xs')))) := by
  obtain ⟨ov, g1, rfl, ob⟩ := E.en.at hi
  obtain ⟨us, sl, hfl⟩ := ob.sl
  have hjl : j < fs.length := (List.getElem?_eq_some_iff.mp hj).1
  have hm : q ∈ fAddrs fs := mem_fAddrs.mpr ⟨j, xs, hj⟩
  obtain ⟨u1, nF, vs0, hH, r0⟩ := hfl j _ hj
  have hqx : x ≠ q := fun z => ob.out.1 (z ▸ hm)
  have hqd : dx ≠ q := fun z => ob.out.2 (z ▸ hm)
  have same : ∀ a, a ∈ fAddrs (fs.set j (.own q xs')) ↔ a ∈ fAddrs fs := fun a => by
    rw [mem_fAddrs, mem_fAddrs]
    constructor
    · rintro ⟨k, ys, e⟩
      by_cases hk : j = k
      · subst hk
        rw [List.getElem?_set_self hjl] at e
        cases e
        exact ⟨j, xs, hj⟩
      · rw [List.getElem?_set_ne hk] at e
        exact ⟨k, ys, e⟩
    · rintro ⟨k, ys, e⟩
      by_cases hk : j = k
      · subst hk
        rw [hj] at e
        cases e
        exact ⟨j, xs', List.getElem?_set_self hjl⟩
      · exact ⟨k, ys, by rw [List.getElem?_set_ne hk]; exact e⟩
  have eqa : fAddrs (fs.set j (.own q xs')) = fAddrs fs := by
    have : ∀ (L : List Fl) (j : Nat), L[j]? = some (.own q xs) → fAddrs (L.set j (.own q xs')) = fAddrs L := by
      intro L
      induction L with
      | nil => intro j h; simp at h
      | cons g L ih =>
        intro j h
        cases j with
        | zero =>
          have e : g = .own q xs := Option.some.inj h
          rw [List.set_cons_zero, fAddrs_cons, fAddrs_cons, e]
          rfl
        | succ j => rw [List.set_cons_succ, fAddrs_cons, fAddrs_cons, ih j h]
    exact this fs j hj
  -- which other own list is at another place
  have other : ∀ k p ys, k ≠ j → fs[k]? = some (.own p ys) → p ≠ q := fun k p ys hk e z => by
    subst z
    have nd := ob.nod
    have : ∀ (L : List Fl) (j k : Nat) (xs ys : List PyData), (fAddrs L).Nodup → k ≠ j → L[j]? = some (.own p xs) → L[k]? = some (.own p ys) → False := by
      intro L
      induction L with
      | nil => intro j k xs ys _ _ h; simp at h
      | cons g L ih =>
        intro j k xs ys nd hk h1 h2
        rw [fAddrs_cons] at nd
        obtain ⟨n1, n2, n3⟩ := List.nodup_append.mp nd
        cases j with
        | zero =>
          cases k with
          | zero => exact hk rfl
          | succ k =>
            have e : g = .own p xs := Option.some.inj h1
            exact n3 p (by rw [e]; simp [Fl.addrs]) p (mem_fAddrs.mpr ⟨k, ys, h2⟩) rfl
        | succ j =>
          cases k with
          | zero =>
            have e : g = .own p ys := Option.some.inj h2
            exact n3 p (by rw [e]; simp [Fl.addrs]) p (mem_fAddrs.mpr ⟨j, xs, h1⟩) rfl
          | succ k => exact ih j k xs ys n2 (fun z => hk (by rw [z])) h1 h2
    exact this fs j k xs ys nd hk hj e
  refine E.objc hi ⟨Same.refl F, fun a o e => ?_, fun a o e n => ?_, fun a e _ => e, fun a n => ?_⟩ ⟨ob.nx, ob.nd, ?_, ob.ne, by rw [eqa]; exact ob.nod, by rw [eqa]; exact ob.out, us, slt_keep sl fun a o ha e => ?_, fun k f e => ?_⟩ fun p hp => .inl ((same p).mp hp)
  · rw [upd_ne (ne_of_none e nF)]
    exact E.en.ex a o e
  · rw [upd_ne fun z => n (by rw [z]; exact List.mem_cons_of_mem _ (List.mem_cons_of_mem _ hm))]
    exact e
  · by_cases z : a = q
    · rw [z, upd_same]; simp
    · rw [upd_ne z]; exact n
  · rw [upd_ne hqd]
    exact ob.hd
  · rw [upd_ne (by rcases ha with rfl | rfl <;> assumption)]
    exact e
  · by_cases hk : j = k
    · subst hk
      rw [List.getElem?_set_self hjl] at e
      cases e
      exact ⟨u1, nF, vs, upd_same, r⟩
    · rw [List.getElem?_set_ne hk] at e
      have z := hfl k f e
      cases f with
      | no => trivial
      | val d => exact z
      | own p ys =>
        obtain ⟨z1, z2, ws, z3, z4⟩ := z
        exact ⟨z1, z2, ws, by rw [upd_ne (other k p ys (Ne.symm hk) e)]; exact z3, z4⟩
/-- a list of an object that nobody will change any more -/
theorem EnB.freezeF {q : Addr} {xs : List PyData} (E : EnB B F H σ Γ) (hi : Γ[i]? = some (.obj x dx C fs)) (hj : fs[j]? = some (.own q xs)) (h0 : q ∉ B.M) : ∃ vs, F q = none ∧ EnB B (upd F q (.lst vs)) H σ (Γ.set i (.obj x dx C (fs.set j (.val (.list xs))))) := by
  obtain ⟨ov, g1, rfl, ob⟩ := E.en.at hi
  obtain ⟨us, sl, hfl⟩ := ob.sl
  have hil : i < Γ.length := (List.getElem?_eq_some_iff.mp hi).1
  have hjl : j < fs.length := (List.getElem?_eq_some_iff.mp hj).1
  have hm : q ∈ fAddrs fs := mem_fAddrs.mpr ⟨j, xs, hj⟩
  have hmo : q ∈ obA x dx fs := List.mem_cons_of_mem _ (List.mem_cons_of_mem _ hm)
  obtain ⟨u1, nF, vs, hH, r0⟩ := hfl j _ hj
  have hs : Same F (upd F q (.lst vs)) := fun a o e => by
    rw [upd_ne (ne_of_none e nF)]
    exact e
  have hB : B.H0 q = none := (E.mv _ (List.mem_of_getElem? hi) q hmo).resolve_left h0
  have nod : (fAddrs (fs.set j (.val (.list xs)))).Nodup := by
    rcases fAddrs_set (.val (.list xs)) fs j with z | z | ⟨a, ha, _⟩
    · exact z
    · exact absurd ob.nod z
    · simp [Fl.addrs] at ha
  -- what is left, and that q is not of it
  have left : ∀ p, p ∈ fAddrs (fs.set j (.val (.list xs))) → p ∈ fAddrs fs ∧ p ≠ q := fun p hp => by
    obtain ⟨k, ys, e⟩ := mem_fAddrs.mp hp
    by_cases hk : j = k
    · subst hk
      rw [List.getElem?_set_self hjl] at e
      cases e
    · rw [List.getElem?_set_ne hk] at e
      refine ⟨mem_fAddrs.mpr ⟨k, ys, e⟩, fun z => ?_⟩
      subst z
      have : ∀ (L : List Fl) (j k : Nat) (xs ys : List PyData), (fAddrs L).Nodup → j ≠ k → L[j]? = some (.own p xs) → L[k]? = some (.own p ys) → False := by
        intro L
        induction L with
        | nil => intro j k xs ys _ _ h; simp at h
        | cons g L ih =>
          intro j k xs ys nd hk h1 h2
          rw [fAddrs_cons] at nd
          obtain ⟨n1, n2, n3⟩ := List.nodup_append.mp nd
          cases j with
          | zero =>
            cases k with
            | zero => exact hk rfl
            | succ k =>
              have e : g = .own p xs := Option.some.inj h1
              exact n3 p (by rw [e]; simp [Fl.addrs]) p (mem_fAddrs.mpr ⟨k, ys, h2⟩) rfl
          | succ j =>
            cases k with
            | zero =>
              have e : g = .own p ys := Option.some.inj h2
              exact n3 p (by rw [e]; simp [Fl.addrs]) p (mem_fAddrs.mpr ⟨j, xs, h1⟩) rfl
            | succ k => exact ih j k xs ys n2 (fun z => hk (by rw [z])) h1 h2
      exact this fs j k xs ys ob.nod hk hj e
  have ob2 : ObOk (upd F q (.lst vs)) H x dx C (fs.set j (.val (.list xs))) := by
    refine ⟨?_, ?_, ob.hd, ob.ne, nod, ⟨fun m => ob.out.1 (left x m).1, fun m => ob.out.2 (left dx m).1⟩, us, sl, fun k f e => ?_⟩
    · rw [upd_ne (show x ≠ q from fun z => ob.out.1 (z ▸ hm))]; exact ob.nx
    · rw [upd_ne (show dx ≠ q from fun z => ob.out.2 (z ▸ hm))]; exact ob.nd
    · by_cases hk : j = k
      · subst hk
        rw [List.getElem?_set_self hjl] at e
        cases e
        exact ⟨.ref q, u1, .lst upd_same (r0.mono hs _ _)⟩
      · have e' := e
        rw [List.getElem?_set_ne hk] at e
        have z := hfl k f e
        cases f with
        | no => trivial
        | val d =>
          obtain ⟨v, z1, z2⟩ := z
          exact ⟨v, z1, z2.mono hs _ _⟩
        | own p ys =>
          obtain ⟨z1, z2, ws, z3, z4⟩ := z
          have pq := (left p (mem_fAddrs.mpr ⟨k, ys, e'⟩)).2
          exact ⟨z1, by rw [upd_ne pq]; exact z2, ws, z3, z4.mono hs _ _⟩
  have sub : ∀ a, a ∈ obA x dx (fs.set j (.val (.list xs))) → a ∈ obA x dx fs := fun a ha => by
    rcases List.mem_cons.mp ha with e | ha
    · rw [e]; exact List.mem_cons_self
    · rcases List.mem_cons.mp ha with e | ha
      · rw [e]; exact List.mem_cons_of_mem _ List.mem_cons_self
      · exact List.mem_cons_of_mem _ (List.mem_cons_of_mem _ (left a ha).1)
  have back : ∀ (k : Nat) s, (Γ.set i (.obj x dx C (fs.set j (.val (.list xs)))))[k]? = some s → (k = i ∧ s = .obj x dx C (fs.set j (.val (.list xs)))) ∨ (k ≠ i ∧ Γ[k]? = some s) := fun k s e => by
    by_cases hk : i = k
    · subst hk
      rw [List.getElem?_set_self hil] at e
      exact .inl ⟨rfl, (Option.some.inj e).symm⟩
    · rw [List.getElem?_set_ne hk] at e
      exact .inr ⟨Ne.symm hk, e⟩
  refine ⟨vs, nF, ⟨by rw [List.length_set]; exact E.en.len, fun a o e => ?_, fun k s ov e1 e2 => ?_, fun k l s t a e1 e2 m1 m2 => ?_⟩, E.f0.trans hs, E.fr, fun a e n => ?_, fun s m a ha => ?_, E.al⟩
  · by_cases z : a = q
    · rw [z, upd_same] at e
      cases e
      rw [z]
      exact hH
    · rw [upd_ne z] at e
      exact E.en.ex a o e
  · rcases back k s e1 with ⟨q1, q2⟩ | ⟨q1, q2⟩
    · subst q1 q2
      rw [g1] at e2
      cases e2
      exact ⟨rfl, ob2⟩
    · refine (E.en.sl k s ov q2 e2).grow hs (fun a o _ e _ => e) (fun a ha => ?_) (fun b c e => ?_)
      · rw [upd_ne (show a ≠ q from fun z => q1 (E.en.sep k i _ _ q q2 hi (z ▸ ha) hmo))]
        exact (E.en.addr_no q2 ha).1
      · subst e
        exact (E.en.bag (List.mem_of_getElem? q2)).2
  · rcases back k s e1 with ⟨q1, q2⟩ | ⟨q1, q2⟩ <;> rcases back l t e2 with ⟨q3, q4⟩ | ⟨q3, q4⟩
    · rw [q1, q3]
    · subst q2
      exact absurd (E.en.sep i l _ _ a hi q4 (sub a m1) m2) (Ne.symm q3)
    · subst q4
      exact absurd (E.en.sep i k _ _ a hi q2 (sub a m2) m1) (Ne.symm q1)
    · exact E.en.sep k l s t a q2 q4 m1 m2
  · rw [upd_ne (show a ≠ q from fun z => by rw [z] at n; exact n hB)]
    exact E.nw a e n
  · rcases List.mem_or_eq_of_mem_set m with m | e
    · exact E.mv s m a ha
    · subst e
      exact E.mv _ (List.mem_of_getElem? hi) a (sub a ha)
end
def sSlAug (K : PySem.W.Frag) (ta tv : TE) (f : Str) (rd : V → V → Hp → VK → Prop) : TS := fun D σ H => ta σ H fun x H1 => ∃ a C dx p vs i v, x = .ref a ∧ SlX.Slt H1 a C dx vs ∧ SlX.SCls K C ∧ SlX.Slot1 K C f p i ∧ vs[i]? = some (some v) ∧
  tv σ H1 fun y H2 => rd v y H2 fun z H3 => ∃ vs', SlX.Slt H3 a C dx vs' ∧ D.nx σ (SlX.slH H3 a C dx (SlX.putS i z vs'))
theorem ps_slaug {X : Cx} {o value : Expr} {f : Str} {pos tpos : Pos} {ta tv : TE} {op : Operator} {rd : V → V → Hp → VK → Prop} (ha : PE X o ta) (hv : PE X value tv) (hop : InOp X op rd) :
    PS X (.AugAssign (.Attribute o f tpos) op value pos) (sSlAug X.K ta tv f rd) := by
  refine ⟨fun pins s σ H D I h => ?_⟩
  refine wpAny_AugAssign_AttributeAny (thn (ha.run pins s σ H _ I h) fun ov s1 ⟨x, H1, I1, rx, a, C, dx, p, vs, i, v, ex, ea, c, t, l, q⟩ => ?_)
  subst ex
  obtain rfl : ov = Value.ref a := rx
  refine SlX.getslot_ok I1 ea c t l fun u s2 I2 ru => thn (hv.run pins s2 σ H1 _ I2 q) fun w3 s3 ⟨y, H2, I3, ry, q3⟩ => thn (hop pins s3 σ H2 v y u w3 _ I3 ru ry q3) fun w4 s4 ⟨z, H3, I4, rz, vs', ea', q4⟩ => ?_
  exact SlX.setslot_ok I4 ea' c t rz fun s5 I5 => ⟨σ, _, I5, q4⟩
section
variable {X : Cx} {B : Bs} {Γ : Ctx} {O : Po} {N : List Str} {i j j2 j3 k : Nat} {x dx C : Addr} {fs : List Fl} {y m f f2 f3 : Str} {e e2 e3 : Expr} {es : List Expr} {pos pos' py apos p p2 p3 p4 p5 p6 pt pt2 : Pos} {kt k2 : Nat}
/-- self.f, self.f2 = e, e2 -/
theorem e1_fset2 (hc : X.calm = true) (h1 : X.N = N) (h2 : N[i]? = some y) (h3 : Γ[i]? = some (.obj x dx C fs)) (hv : Vis X.env.scope y) (T : StC X.K C) (hf : slIx f = some j) (hf2 : slIx f2 = some j2)
    (h : Nd X e Γ fun d => Nd X e2 Γ fun d2 => O.nx (Γ.set i (.obj x dx C (putF j2 (.val d2) (putF j (.val d) fs)))))
    (hdb : (y == ("__debug__" : Str)) = false := by decide) (hcd : (y == ("__classdict__" : Str)) = false := by decide)
    (hs : swapsWithSole [.Tuple [.Attribute (.Name y p2) f p3, .Attribute (.Name y p4) f2 p5] kt pt] (.Tuple [e, e2] k2 pt2) pos.line X.env = pure false := by rfl) (hw : swappedStores [.Tuple [.Attribute (.Name y p2) f p3, .Attribute (.Name y p4) f2 p5] kt pt] (.Tuple [e, e2] k2 pt2) X.env = pure none := by rfl)
    (ha : (assignEach [.Tuple [.Attribute (.Name y p2) f p3, .Attribute (.Name y p4) f2 p5] kt pt] X.env).map (·.2) = [assign (.Tuple [.Attribute (.Name y p2) f p3, .Attribute (.Name y p4) f2 p5] kt pt) X.env] := by rfl)
    (hpg : X.calm = true → ∀ t1 t2, PG X (.Attribute (.Name y p2) f p3) t1 → PG X (.Attribute (.Name y p4) f2 p5) t2 → PG X (.Tuple [.Attribute (.Name y p2) f p3, .Attribute (.Name y p4) f2 p5] kt pt) (gTup X.K 2 (gCons t1 (gCons t2 gNil))) := by exact fun hc t1 t2 g1 g2 => pg_tup hc (pgs_cons g1 (pgs_cons g2 pgs_nil)))
    (s1 : starEach [e, e2] X.env = (false, eval e X.env) :: starEach [e2] X.env := by rfl) (s2 : starEach [e2] X.env = (false, eval e2 X.env) :: starEach [] X.env := by rfl) :
    E1 X B (.Assign [.Tuple [.Attribute (.Name y p2) f p3, .Attribute (.Name y p4) f2 p5] kt pt] (.Tuple [e, e2] k2 pt2) pos) Γ O := fun F H σ E D kk => by
  subst h1
  obtain ⟨p, t⟩ := T.slot f j hf
  obtain ⟨p', t'⟩ := T.slot f2 j2 hf2
  refine ws_of (ps_asg (pe_tup (pa_cons pe_we (pa_cons pe_we pa_nil s2) s1)) (hpg hc _ _ (pg_fld (pe_var h2 hv hdb hcd)) (pg_fld (pe_var h2 hv hdb hcd))) hs hw ha) ?_
  refine h F H σ E.en _ fun v1 F1 H1 d1 g1 r1 w1 => ?_
  refine w1 F1 H1 σ (E.grow g1).en _ fun v2 F2 H2 d2 g2 r2 w2 => ?_
  have E2 := (E.grow g1).grow g2
  refine ⟨by show 2 ≤ sizeLine; decide, fun z hz => ⟨z, [v1, v2], rfl, .of upd_same, rfl, _, _, rfl, ?_⟩⟩
  have E3 : EnB B F2 (upd H2 z (.tup [v1, v2])) σ Γ := E2.more hz
  obtain ⟨us, sl, E4⟩ := obj_step (j := j) E3 h3 (r1.mono g2.sF _ _)
  refine ⟨.ref x, obj_var E3 h3, x, C, dx, p, us, j, rfl, sl, T.cls, t, _, _, rfl, ?_⟩
  have h4 : (Γ.set i (.obj x dx C (putF j (.val d1) fs)))[i]? = some (.obj x dx C (putF j (.val d1) fs)) := List.getElem?_set_self (List.getElem?_eq_some_iff.mp h3).1
  obtain ⟨us2, sl2, E5⟩ := obj_step (j := j2) E4 h4 r2
  refine ⟨.ref x, obj_var E4 h4, x, C, dx, p', us2, j2, rfl, sl2, T.cls, t', rfl, ?_⟩
  rw [List.set_set] at E5
  exact kk.nx F2 _ σ _ (g1.sF.trans g2.sF) E5 w2
/-- self.f, self.f2, self.f3 = e, e2, e3 -/
theorem e1_fset3 {p7 : Pos} (hc : X.calm = true) (h1 : X.N = N) (h2 : N[i]? = some y) (h3 : Γ[i]? = some (.obj x dx C fs)) (hv : Vis X.env.scope y) (T : StC X.K C) (hf : slIx f = some j) (hf2 : slIx f2 = some j2) (hf3 : slIx f3 = some j3)
    (h : Nd X e Γ fun d => Nd X e2 Γ fun d2 => Nd X e3 Γ fun d3 => O.nx (Γ.set i (.obj x dx C (putF j3 (.val d3) (putF j2 (.val d2) (putF j (.val d) fs))))))
    (hdb : (y == ("__debug__" : Str)) = false := by decide) (hcd : (y == ("__classdict__" : Str)) = false := by decide)
    (hs : swapsWithSole [.Tuple [.Attribute (.Name y p2) f p3, .Attribute (.Name y p4) f2 p5, .Attribute (.Name y p6) f3 p7] kt pt] (.Tuple [e, e2, e3] k2 pt2) pos.line X.env = pure false := by rfl) (hw : swappedStores [.Tuple [.Attribute (.Name y p2) f p3, .Attribute (.Name y p4) f2 p5, .Attribute (.Name y p6) f3 p7] kt pt] (.Tuple [e, e2, e3] k2 pt2) X.env = pure none := by rfl)
    (ha : (assignEach [.Tuple [.Attribute (.Name y p2) f p3, .Attribute (.Name y p4) f2 p5, .Attribute (.Name y p6) f3 p7] kt pt] X.env).map (·.2) = [assign (.Tuple [.Attribute (.Name y p2) f p3, .Attribute (.Name y p4) f2 p5, .Attribute (.Name y p6) f3 p7] kt pt) X.env] := by rfl)
    (hpg : X.calm = true → ∀ t1 t2 t3, PG X (.Attribute (.Name y p2) f p3) t1 → PG X (.Attribute (.Name y p4) f2 p5) t2 → PG X (.Attribute (.Name y p6) f3 p7) t3 → PG X (.Tuple [.Attribute (.Name y p2) f p3, .Attribute (.Name y p4) f2 p5, .Attribute (.Name y p6) f3 p7] kt pt) (gTup X.K 3 (gCons t1 (gCons t2 (gCons t3 gNil)))) := by exact fun hc t1 t2 t3 g1 g2 g3 => pg_tup hc (pgs_cons g1 (pgs_cons g2 (pgs_cons g3 pgs_nil))))
    (s1 : starEach [e, e2, e3] X.env = (false, eval e X.env) :: starEach [e2, e3] X.env := by rfl) (s2 : starEach [e2, e3] X.env = (false, eval e2 X.env) :: starEach [e3] X.env := by rfl) (s3 : starEach [e3] X.env = (false, eval e3 X.env) :: starEach [] X.env := by rfl) :
    E1 X B (.Assign [.Tuple [.Attribute (.Name y p2) f p3, .Attribute (.Name y p4) f2 p5, .Attribute (.Name y p6) f3 p7] kt pt] (.Tuple [e, e2, e3] k2 pt2) pos) Γ O := fun F H σ E D kk => by
  subst h1
  obtain ⟨p, t⟩ := T.slot f j hf
  obtain ⟨p', t'⟩ := T.slot f2 j2 hf2
  obtain ⟨p'', t''⟩ := T.slot f3 j3 hf3
  refine ws_of (ps_asg (pe_tup (pa_cons pe_we (pa_cons pe_we (pa_cons pe_we pa_nil s3) s2) s1)) (hpg hc _ _ _ (pg_fld (pe_var h2 hv hdb hcd)) (pg_fld (pe_var h2 hv hdb hcd)) (pg_fld (pe_var h2 hv hdb hcd))) hs hw ha) ?_
  refine h F H σ E.en _ fun v1 F1 H1 d1 g1 r1 w1 => ?_
  refine w1 F1 H1 σ (E.grow g1).en _ fun v2 F2 H2 d2 g2 r2 w2 => ?_
  refine w2 F2 H2 σ ((E.grow g1).grow g2).en _ fun v3 F3 H3 d3 g3 r3 w3 => ?_
  have E2 := ((E.grow g1).grow g2).grow g3
  refine ⟨by show 3 ≤ sizeLine; decide, fun z hz => ⟨z, [v1, v2, v3], rfl, .of upd_same, rfl, _, _, rfl, ?_⟩⟩
  have E3 : EnB B F3 (upd H3 z (.tup [v1, v2, v3])) σ Γ := E2.more hz
  obtain ⟨us, sl, E4⟩ := obj_step (j := j) E3 h3 ((r1.mono g2.sF _ _).mono g3.sF _ _)
  refine ⟨.ref x, obj_var E3 h3, x, C, dx, p, us, j, rfl, sl, T.cls, t, _, _, rfl, ?_⟩
  have hil := (List.getElem?_eq_some_iff.mp h3).1
  have h4 : (Γ.set i (.obj x dx C (putF j (.val d1) fs)))[i]? = some (.obj x dx C (putF j (.val d1) fs)) := List.getElem?_set_self hil
  obtain ⟨us2, sl2, E5⟩ := obj_step (j := j2) E4 h4 (r2.mono g3.sF _ _)
  refine ⟨.ref x, obj_var E4 h4, x, C, dx, p', us2, j2, rfl, sl2, T.cls, t', _, _, rfl, ?_⟩
  rw [List.set_set] at E5
  have h5 : (Γ.set i (.obj x dx C (putF j2 (.val d2) (putF j (.val d1) fs))))[i]? = some (.obj x dx C (putF j2 (.val d2) (putF j (.val d1) fs))) := List.getElem?_set_self hil
  obtain ⟨us3, sl3, E6⟩ := obj_step (j := j3) E5 h5 r3
  refine ⟨.ref x, obj_var E5 h5, x, C, dx, p'', us3, j3, rfl, sl3, T.cls, t'', rfl, ?_⟩
  rw [List.set_set] at E6
  exact kk.nx F3 _ σ _ ((g1.sF.trans g2.sF).trans g3.sF) E6 w3
/-- self.f.append(e) -/
theorem e1_fapp {q : Addr} {xs : List PyData} (h1 : X.N = N) (h2 : N[i]? = some y) (h3 : Γ[i]? = some (.obj x dx C fs)) (hv : Vis X.env.scope y) (T : StC X.K C) (hf : slIx f = some j) (hj : fs[j]? = some (.own q xs))
    (h : Nd X e Γ fun d => xs.length < 100000 ∧ O.nx (Γ.set i (.obj x dx C (fs.set j (.own q (xs ++ [d]))))))
    (hdb : (y == ("__debug__" : Str)) = false := by decide) (hcd : (y == ("__classdict__" : Str)) = false := by decide)
    (hpe : ∀ t, PE X (.Attribute (.Name y py) f p) t → PE X (.Call (.Attribute (.Attribute (.Name y py) f p) "append" apos) [e] [] pos) (tBM X.K "list" rAppend t (tCons (we X e) tNil)) := by exact fun t ht => pe_bm PySem.F.plainAttrs_list PySem.F.slot_list_append PySem.F.type_list_append mt_append ht (pa_cons pe_we pa_nil))
    (hs : swapsWith (.Call (.Attribute (.Attribute (.Name y py) f p) "append" apos) [e] [] pos) none pos'.line X.env = pure false := by rfl) (hb : attributeBase (.Name y py) f X.env (eval (.Name y py) X.env) = eval (.Name y py) X.env := by rfl) : E1 X B (.Expr (.Call (.Attribute (.Attribute (.Name y py) f p) "append" apos) [e] [] pos) pos') Γ O := fun F H σ E D kk => by
  subst h1
  obtain ⟨pp, t⟩ := T.slot f j hf
  obtain ⟨ov, g1, rfl, ob⟩ := E.en.at h3
  obtain ⟨us, sl, hfl⟩ := ob.sl
  obtain ⟨u1, nF, vs, hH, r0⟩ := hfl j _ hj
  refine ws_of (ps_expr (hpe _ (SlX.pe_sl (pe_var h2 hv hdb hcd) hb)) hs) ⟨.ref x, g1, x, C, dx, pp, us, j, .ref q, rfl, sl, T.cls, t, u1, own_ty hH, ?_⟩
  refine h F H σ E.en _ fun v F2 H2 d g r ⟨hz, w⟩ => ?_
  have E2 := E.grow g
  obtain ⟨ov2, g2, e2, ob2⟩ := E2.en.at h3
  obtain ⟨us2, sl2, hfl2⟩ := ob2.sl
  obtain ⟨_, nF2, vs2, hH2, r2⟩ := hfl2 j _ hj
  exact ⟨q, vs2, v, rfl, rfl, hH2, by rw [r2.length]; exact small' (by omega), kk.nx F2 _ σ _ g.sF (E2.objL h3 hj (r2.snoc r)) w⟩
/-- self.f += e, ints -/
theorem e1_faug {n : Int} (h1 : X.N = N) (h2 : N[i]? = some y) (h3 : Γ[i]? = some (.obj x dx C fs)) (hv : Vis X.env.scope y) (T : StC X.K C) (hf : slIx f = some j) (hj : fs[j]? = some (.val (.int n)))
    (h : Nd X e Γ fun d => ∃ c : Int, d = .int c ∧ O.nx (Γ.set i (.obj x dx C (putF j (.val (.int (n + c))) fs))))
    (hdb : (y == ("__debug__" : Str)) = false := by decide) (hcd : (y == ("__classdict__" : Str)) = false := by decide) : E1 X B (.AugAssign (.Attribute (.Name y py) f p) .Add e pos) Γ O := fun F H σ E D kk => by
  subst h1
  obtain ⟨pp, t⟩ := T.slot f j hf
  obtain ⟨ov, g1, rfl, ob⟩ := E.en.at h3
  obtain ⟨us, sl, hfl⟩ := ob.sl
  obtain ⟨v, u1, r0⟩ := hfl j _ hj
  refine ws_of (ps_slaug (pe_var h2 hv hdb hcd) pe_we ip_add) ⟨.ref x, g1, x, C, dx, pp, us, j, v, rfl, sl, T.cls, t, u1, ?_⟩
  refine h F H σ E.en _ fun u F2 H2 d g r ⟨c, ed, w⟩ => ?_
  subst ed
  have E2 := E.grow g
  rw [rp_int r0, rp_int r]
  obtain ⟨us2, sl2, E4⟩ := obj_step (j := j) (v := .int (n + c)) E2 h3 (.int (n + c))
  exact ⟨n, c, rfl, rfl, us2, sl2, kk.nx F2 _ σ _ g.sF E4 w⟩
theorem es_freezeF {sts : List Stmt} {q : Addr} {xs : List PyData} (hi : Γ[i]? = some (.obj x dx C fs)) (hj : fs[j]? = some (.own q xs)) (h0 : q ∉ B.M) (h : Es X B sts (Γ.set i (.obj x dx C (fs.set j (.val (.list xs))))) O) : Es X B sts Γ O := fun F H σ E D k => by
  obtain ⟨vs, nF, E2⟩ := E.freezeF hi hj h0
  exact h _ H σ E2 D (k.later fun a o e => by
    rw [upd_ne (ne_of_none e nF)]
    exact e)
end
/-! ### defs that change an object -/
abbrev MSpc := List Fl → List PyData → (PyData → List Fl → Prop) → Prop
def mSp (C : Addr) (S : MSpc) : Sp := fun vs H Q _ => ∃ F x dx fs ws ds P, vs = .ref x :: ws ∧ Same F H ∧ ObOk F H x dx C fs ∧ RpAll F ws ds ∧ S fs ds P ∧ ∀ v F' H' d fs', GrM (obA x dx fs) F H F' H' → ObOk F' H' x dx C fs' → NewA H fs fs' → Rp F' v d → P d fs' → Q v H'
section
variable {X : Cx} {B : Bs} {Γ : Ctx} {O : Po} {N : List Str} {i j k : Nat} {x dx C : Addr} {fs : List Fl} {y m f : Str} {e : Expr} {es : List Expr} {pos pos' py apos p : Pos} {S : MSpc}
/-- self.m(..), for what it does -/
theorem e1_meth0 (G : Mth X.prog X.w X.K X.mg X.base C j m (mSp C S)) (T : StC X.K C) (hr : Room k X.A) (h1 : X.N = N) (h2 : N[i]? = some y) (h3 : Γ[i]? = some (.obj x dx C fs)) (hv : Vis X.env.scope y) (q : S fs [] fun _ fs' => O.nx (Γ.set i (.obj x dx C fs'))) (hk : j ≤ k := by decide)
    (hdb : (y == ("__debug__" : Str)) = false := by decide) (hcd : (y == ("__classdict__" : Str)) = false := by decide) {pl : Sem Bool} (hs : swapsWith (.Call (.Attribute (.Name y py) m apos) [] [] pos) none pos'.line X.env = pure false := by rfl)
    (ht : eval (.Call (.Attribute (.Name y py) m apos) [] [] pos) X.env = (do
      let ov ← eval (.Name y py) X.env
      standAt apos.atName
      let (f, first) ← holding [ov] (getMethod ov m pl)
      callWith pos f first (backTo pos (starEach [] X.env)) (backToKw pos (keywordEach [] X.env))) := by rfl) : E1 X B (.Expr (.Call (.Attribute (.Name y py) m apos) [] [] pos) pos') Γ O := fun F H σ E D kk => by
  subst h1
  obtain ⟨g, M, Fn⟩ := G
  obtain ⟨ov, g1, rfl, ob⟩ := E.en.at h3
  obtain ⟨us, sl, hfl⟩ := id ob.sl
  refine ws_of (ps_expr (SlX.pe_methSl0 (E := fun _ _ _ => False) (pe_var h2 hv hdb hcd) T.cls M Fn (hr.mono hk) pass0 ht) hs) ⟨.ref x, g1, x, dx, us, rfl, sl, ?_⟩
  exact ⟨F, x, dx, fs, [], [], _, rfl, E.en.ex, ob, .nil, q, fun v F2 H2 d fs' g2 ob2 na r2 p2 => kk.nx F2 H2 σ _ g2.sF (E.objc h3 g2 ob2 na) p2⟩
theorem e1_meth (G : Mth X.prog X.w X.K X.mg X.base C j m (mSp C S)) (T : StC X.K C) (hr : Room k X.A) (h1 : X.N = N) (h2 : N[i]? = some y) (h3 : Γ[i]? = some (.obj x dx C fs)) (hv : Vis X.env.scope y) (ha : Na X (e :: es) Γ fun ds => S fs ds fun _ fs' => O.nx (Γ.set i (.obj x dx C fs'))) (hk : j ≤ k := by decide)
    (hdb : (y == ("__debug__" : Str)) = false := by decide) (hcd : (y == ("__classdict__" : Str)) = false := by decide) {pl : Sem Bool} (hs : swapsWith (.Call (.Attribute (.Name y py) m apos) (e :: es) [] pos) none pos'.line X.env = pure false := by rfl)
    (hst : starEach (e :: es) X.env = (false, eval e X.env) :: starEach es X.env := by rfl) (hpl : (backTo pos (starEach es X.env)).any (·.1) = false := by rfl)
    (ht : eval (.Call (.Attribute (.Name y py) m apos) (e :: es) [] pos) X.env = (do
      let ov ← eval (.Name y py) X.env
      standAt apos.atName
      let (f, first) ← holding [ov] (getMethod ov m pl)
      callWith pos f first (backTo pos (starEach (e :: es) X.env)) (backToKw pos (keywordEach [] X.env))) := by rfl) : E1 X B (.Expr (.Call (.Attribute (.Name y py) m apos) (e :: es) [] pos) pos') Γ O := fun F H σ E D kk => by
  subst h1
  obtain ⟨g, M, Fn⟩ := G
  obtain ⟨ov, g1, rfl, ob⟩ := E.en.at h3
  obtain ⟨us, sl, hfl⟩ := id ob.sl
  refine ws_of (ps_expr (SlX.pe_methSl (E := fun _ _ _ => False) (pe_var h2 hv hdb hcd) T.cls M Fn (hr.mono hk) pass0 pa_wa hst hpl ht) hs) ⟨.ref x, g1, x, dx, us, rfl, sl, ?_⟩
  refine ha F H σ E.en _ fun vs F1 H1 ds g r s => ?_
  have E1' := E.grow g
  obtain ⟨_, _, _, ob1⟩ := E1'.en.at h3
  exact ⟨F1, x, dx, fs, vs, ds, _, rfl, E1'.en.ex, ob1, r, s, fun v F2 H2 d fs' g2 ob2 na r2 p2 => kk.nx F2 H2 σ _ (g.sF.trans g2.sF) (E1'.objc h3 g2 ob2 na) p2⟩
end
section
variable {P : Program} {w : World} {K : PySem.W.Frag} {mg : Str → Option Value} {base : Heap} {x qual : Str} {st : Stmt} {N ps : List Str} {k : Nat} {C : Addr}
theorem mbody {sp : MSpc} {f : Addr} {fd : FuncData} (F0 : Fun K x qual st f fd) (S : FnScope N ps (defScope st)) (hlen : ∀ fs ds R, sp fs ds R → ds.length + 1 = ps.length)
    (hbody : ∀ (f : Addr) (cdv : Value) (A : Around) (outer : List Env) (s : Shared) (H : Hp) (E : XK), Room k (A.deeper (PyProof.Rows.envOfC qual (defScope st) s.heap.objs.size f cdv)) → ∀ (F : Hp) (y dx : Addr) (fs : List Fl) (ds : List PyData) (R : PyData → List Fl → Prop), (∀ q, q ∈ obA y dx fs → H q ≠ none) → sp fs ds R →
      Es (Xo P w K mg base N qual st f cdv A outer s H E) ⟨F, H, obA y dx fs⟩ (defBody st) (ctx0 N (.obj y dx C fs :: ds.map .val)) ⟨fun Γ => ∃ fs', Γ[0]? = some (.obj y dx C fs') ∧ R .none fs', fun d Γ => ∃ fs', Γ[0]? = some (.obj y dx C fs') ∧ R d fs', fun _ => False, fun _ => False⟩) : FnOk P w K mg base CX0 (k + 1) f fd ps (mSp C sp) := by
  refine F0.ok S (fun vs H Q E h => ?_) (fun cdv A outer s H vs Q E hr h => ?_)
  · obtain ⟨F, y, dx, fs, ws, ds, R, rfl, _, _, r, q, _⟩ := h
    rw [List.length_cons, r.length]
    exact hlen fs ds R q
  · obtain ⟨F, y, dx, fs, ws, ds, R, rfl, sF, ob, r, q, fin⟩ := h
    refine ⟨wss _ (defBody st), pss_wss, ?_⟩
    have hl : (ds.map Sd.val).length + 1 = ps.length := by rw [List.length_map]; exact hlen fs ds R q
    have hpl : ps.length ≤ N.length := by
      have := congrArg List.length S.pre
      rw [List.length_take] at this
      omega
    have hv : ∀ s, s ∈ ds.map Sd.val → s.addrs = [] := fun s m => by
      obtain ⟨d, _, rfl⟩ := List.mem_map.mp m
      rfl
    have Ev := vals_en sF r
    have En0 : En F H ((V.ref y :: ws).map some) (.obj y dx C fs :: ds.map .val) := by
      refine ⟨by rw [List.map_cons, List.length_cons, List.length_cons]; exact congrArg (· + 1) Ev.len, sF, fun i s ov h1 h2 => ?_, fun i j s t a h1 h2 m1 m2 => ?_⟩
      · cases i with
        | zero =>
          cases h1
          cases h2
          exact ⟨rfl, ob⟩
        | succ i => exact Ev.sl i s ov h1 h2
      · have z : ∀ (i : Nat) s, (Sd.obj y dx C fs :: ds.map Sd.val)[i]? = some s → a ∈ s.addrs → i = 0 := fun i s e m => by
          cases i with
          | zero => rfl
          | succ i =>
            rw [hv s (List.mem_of_getElem? (show (ds.map Sd.val)[i]? = some s from e))] at m
            cases m
        rw [z i s h1 m1, z j t h2 m2]
    have E0 : EnB ⟨F, H, obA y dx fs⟩ F H (L2.start N (V.ref y :: ws)) (ctx0 N (.obj y dx C fs :: ds.map .val)) := by
      refine ⟨start_en (by rw [List.length_cons, List.length_cons, r.length, List.length_map]) (by rw [List.length_cons]; omega) En0, Same.refl F, fun a o e _ => e, fun a e _ => e, fun s m q hq => ?_, fun a n => n⟩
      rcases List.mem_append.mp m with m | m
      · rcases List.mem_cons.mp m with e | m
        · subst e
          exact .inl hq
        · rw [hv s m] at hq
          cases hq
      · rw [List.eq_of_mem_replicate m] at hq
        cases hq
    have gr : ∀ {F' H' σ' Γ' fs'}, EnB ⟨F, H, obA y dx fs⟩ F' H' σ' Γ' → Γ'[0]? = some (.obj y dx C fs') → GrM (obA y dx fs) F H F' H' ∧ ObOk F' H' y dx C fs' ∧ NewA H fs fs' := fun {F' H' σ' Γ' fs'} E' m => by
      obtain ⟨_, _, _, ob'⟩ := E'.en.at m
      refine ⟨⟨E'.f0, E'.en.ex, E'.fr, E'.nw, E'.al⟩, ob', fun p hp => ?_⟩
      rcases E'.mv _ (List.mem_of_getElem? m) p (List.mem_cons_of_mem _ (List.mem_cons_of_mem _ hp)) with h | h
      · rcases List.mem_cons.mp h with e | h
        · exact absurd (e ▸ hp) ob'.out.1
        · rcases List.mem_cons.mp h with e | h
          · exact absurd (e ▸ hp) ob'.out.2
          · exact .inl h
      · exact .inr h
    exact hbody f cdv A outer s H E hr F y dx fs ds R (fun q hq => (ob.addr hq).2) q F H _ E0 _ ⟨fun F' H' σ' Γ' _ E' ⟨fs', m, q'⟩ => fin .non F' H' .none fs' (gr E' m).1 (gr E' m).2.1 (gr E' m).2.2 .non q', fun F' H' σ' Γ' v d _ E' r' ⟨fs', m, q'⟩ => fin v F' H' d fs' (gr E' m).1 (gr E' m).2.1 (gr E' m).2.2 r' q', fun _ _ _ _ _ _ z => z.elim, fun _ _ _ _ _ _ z => z.elim⟩
theorem mth_m {sp : MSpc} (D : Md K C x qual st) (S : FnScope N ps (defScope st)) (hb : BindM st x qual ps) (hlen : ∀ fs ds R, sp fs ds R → ds.length + 1 = ps.length)
    (hbody : ∀ (f : Addr) (cdv : Value) (A : Around) (outer : List Env) (s : Shared) (H : Hp) (E : XK), Room k (A.deeper (PyProof.Rows.envOfC qual (defScope st) s.heap.objs.size f cdv)) → ∀ (F : Hp) (y dx : Addr) (fs : List Fl) (ds : List PyData) (R : PyData → List Fl → Prop), (∀ q, q ∈ obA y dx fs → H q ≠ none) → sp fs ds R →
      Es (Xo P w K mg base N qual st f cdv A outer s H E) ⟨F, H, obA y dx fs⟩ (defBody st) (ctx0 N (.obj y dx C fs :: ds.map .val)) ⟨fun Γ => ∃ fs', Γ[0]? = some (.obj y dx C fs') ∧ R .none fs', fun d Γ => ∃ fs', Γ[0]? = some (.obj y dx C fs') ∧ R d fs', fun _ => False, fun _ => False⟩) : Mth P w K mg base C (k + 1) x (mSp C sp) := by
  obtain ⟨f, fd, F0, M⟩ := D
  exact mth_of F0 M hb (mbody F0 S hlen hbody)
end
end Wm

set_option Elab.async false
set_option linter.all false
set_option maxRecDepth 100000
set_option maxHeartbeats 4000000
/-! Wm.OD: objects made; defs with the bag and an object; tests that change things. -/
namespace Wm
open PySem PySem.Spec L2
def Nob (C : Addr) (X : Cx) (e : Expr) (Γ : Ctx) (P : List Fl → Prop) : Prop := ∀ F H σ, En F H σ Γ → ∀ Q : VK,
  (∀ x dx fs F' H', Gr Γ F H F' H' → H x = none → H dx = none → (∀ p, p ∈ fAddrs fs → H p = none) → ObOk F' H' x dx C fs → P fs → Q (.ref x) H') → we X e σ H Q
def InitOk (P : Program) (w : World) (K : PySem.W.Frag) (mg : Str → Option Value) (base : Heap) (C : Addr) (k : Nat) (sp : MSpc) : Prop := ∃ f fd ps, Mk K C f ∧ FnOk P w K mg base CX0 k f fd ps (mSp C sp) ∧ Binds K fd ps []
section
variable {X : Cx} {e : Expr} {es : List Expr} {Γ : Ctx} {j k : Nat} {C : Addr} {x : Str} {p pos : Pos} {S : MSpc} {A : List Fl → Prop}
theorem ob_fresh {F H : Hp} {y dy : Addr} (hF : Same F H) (hx : H y = none) (hd : H dy = none) (ne : dy ≠ y) : ObOk F (upd (upd H dy (.own y)) y (.ins C dy [])) y dy C [] :=
  ⟨hF.free hx, hF.free hd, by rw [upd_ne ne, upd_same]; simp, ne, by simp [fAddrs], by simp [fAddrs], [], .inl ⟨upd_same, rfl⟩, fun i f h => by simp at h⟩
theorem nob_make (G : InitOk X.prog X.w X.K X.mg X.base C j S) (hr : Room (k + 1) X.A) (hm : X.mg x = some (.ref C)) (ha : Na X (e :: es) Γ fun ds => S [] ds fun d fs => d = .none ∧ A fs) (hk : j ≤ k := by decide) (hg : Gl X x := by rfl) (hdb : (x == ("__debug__" : Str)) = false := by decide)
    (he : starEach (e :: es) X.env = (false, eval e X.env) :: starEach es X.env := by rfl) (hpl : (backTo pos (starEach es X.env)).any (·.1) = false := by rfl) : Nob C X (.Call (.Name x p) (e :: es) [] pos) Γ A := by
  obtain ⟨f, fd, ps, M, F0, bd⟩ := G
  intro F H σ E Q q
  refine we_of (pe_make M (F0.mono hk) hr hg hm bd .nil pass0 pa_wa hdb he hpl) ?_
  refine ha F H σ E _ fun vs F1 H1 ds g r s => ?_
  intro y dy ny ndy ne
  have E1 := E.grow g
  have off : ∀ a, H1 a ≠ none → (upd (upd H1 dy (.own y)) y (.ins C dy [])) a = H1 a := fun a ha => by
    rw [upd_ne (show a ≠ y from fun z => ha (by rw [z]; exact ny)), upd_ne (show a ≠ dy from fun z => ha (by rw [z]; exact ndy))]
  have sm : Same F1 (upd (upd H1 dy (.own y)) y (.ins C dy [])) := fun a o e => by
    have h1 := E1.ex a o e
    rw [off a (by rw [h1]; simp)]
    exact h1
  refine ⟨F1, y, dy, [], vs, ds, _, by rw [List.append_nil], sm, ob_fresh E1.ex ny ndy ne, r, s, fun v F2 H2 d fs' g2 ob na r2 ⟨ed, p2⟩ => ?_⟩
  subst ed
  refine ⟨rp_non r2, ?_⟩
  have out : ∀ a, H1 a ≠ none → a ∉ obA y dy [] := fun a ha m => by
    rcases List.mem_cons.mp m with e | m
    · exact ha (e ▸ ny)
    · rcases List.mem_cons.mp m with e | m
      · exact ha (e ▸ ndy)
      · simp [fAddrs] at m
  have keep : ∀ a o, H1 a = some o → H2 a = some o := fun a o e => g2.fr a o ((off a (by rw [e]; simp)).trans e) (out a (by rw [e]; simp))
  refine q y dy fs' F2 H2 (g.trans ⟨g2.sF, g2.ex, fun a o e _ => keep a o e, fun a e n => g2.nw a e (by rw [off a n]; exact n), fun b c m => ?_⟩) (back_none g ny) (back_none g ndy) (fun b hb => ?_) ob p2
  · obtain ⟨s0, s1, s2, e, r⟩ := (E1.bag m).2
    exact ⟨s0, s1, s2, keep b _ e, r⟩
  · rcases na b hb with h | h
    · simp [fAddrs] at h
    · refine back_none g ?_
      cases z : H1 b with
      | none => rfl
      | some o =>
        rw [off b (by rw [z]; simp), z] at h
        cases h
end
section
variable {B : Bs} {F H : Hp} {σ : L2.St} {Γ : Ctx} {j : Nat} {x dx C : Addr} {fs : List Fl}
theorem obj_new (E : EnB B F H σ Γ) (ob : ObOk F H x dx C fs) (hp : ∀ s, s ∈ Γ → ∀ a, a ∈ obA x dx fs → a ∉ s.addrs) (h0 : ∀ a, a ∈ obA x dx fs → B.H0 a = none) : EnB B F H (σ.set j (some (.ref x))) (Γ.set j (.obj x dx C fs)) := by
  have back : ∀ (i : Nat) s', (Γ.set j (.obj x dx C fs))[i]? = some s' → (i = j ∧ s' = .obj x dx C fs) ∨ (i ≠ j ∧ Γ[i]? = some s') := fun i s' e => by
    by_cases hj : j = i
    · subst hj
      have h1 : j < Γ.length := by have := (List.getElem?_eq_some_iff.mp e).1; rw [List.length_set] at this; exact this
      rw [List.getElem?_set_self h1] at e
      cases e
      exact .inl ⟨rfl, rfl⟩
    · rw [List.getElem?_set_ne hj] at e
      exact .inr ⟨Ne.symm hj, e⟩
  refine ⟨⟨by rw [List.length_set, List.length_set]; exact E.en.len, E.en.ex, fun i t ow e1 e2 => ?_, fun i l s1 s2 a e1 e2 m1 m2 => ?_⟩, E.f0, E.fr, E.nw, fun t m q hq => ?_, E.al⟩
  · rcases back i t e1 with ⟨q1, q2⟩ | ⟨q1, q2⟩
    · subst q1 q2
      have h1 : i < σ.length := by have := (List.getElem?_eq_some_iff.mp e2).1; rw [List.length_set] at this; exact this
      rw [List.getElem?_set_self h1] at e2
      cases e2
      exact ⟨rfl, ob⟩
    · rw [List.getElem?_set_ne (Ne.symm q1)] at e2
      exact E.en.sl i t ow q2 e2
  · rcases back i s1 e1 with ⟨q1, q2⟩ | ⟨q1, q2⟩ <;> rcases back l s2 e2 with ⟨q3, q4⟩ | ⟨q3, q4⟩
    · rw [q1, q3]
    · subst q2
      exact absurd m2 (hp s2 (List.mem_of_getElem? q4) a m1)
    · subst q4
      exact absurd m1 (hp s1 (List.mem_of_getElem? q2) a m2)
    · exact E.en.sep i l s1 s2 a q2 q4 m1 m2
  · rcases List.mem_or_eq_of_mem_set m with m | e
    · exact E.mv t m q hq
    · subst e
      exact .inr (h0 q hq)
end
section
variable {X : Cx} {B : Bs} {Γ : Ctx} {O : Po} {i i' : Nat} {C : Addr} {st : Stmt} {e e' : Expr}
/-- two names told by two new objects -/
theorem e1_obob (hm : M2 X st e e' i i') (hii : i ≠ i') (h : Nob C X e Γ fun fs => Nob C X e' Γ fun fs' => ∀ x dx x' dx', O.nx ((Γ.set i (.obj x dx C fs)).set i' (.obj x' dx' C fs'))) (h1 : starEach [e, e'] X.env = (false, eval e X.env) :: starEach [e'] X.env := by rfl) (h2 : starEach [e'] X.env = (false, eval e' X.env) :: starEach [] X.env := by rfl) : E1 X B st Γ O := fun F H σ E D k => by
  refine hm D σ H (wa_of (pa_cons pe_we (pa_cons pe_we pa_nil h2) h1) ?_)
  refine h F H σ E.en _ fun x dx fs F1 H1 g1 nx ndx nfs ob w1 => ?_
  have Ea := E.grow g1
  have new1 : ∀ a, a ∈ obA x dx fs → H a = none := fun a ha => by
    rcases List.mem_cons.mp ha with e | ha
    · rw [e]; exact nx
    · rcases List.mem_cons.mp ha with e | ha
      · rw [e]; exact ndx
      · exact nfs a ha
  refine w1 F1 H1 σ Ea.en _ fun x' dx' fs' F2 H2 g2 nx' ndx' nfs' ob' w2 => ?_
  have new2 : ∀ a, a ∈ obA x' dx' fs' → H1 a = none := fun a ha => by
    rcases List.mem_cons.mp ha with e | ha
    · rw [e]; exact nx'
    · rcases List.mem_cons.mp ha with e | ha
      · rw [e]; exact ndx'
      · exact nfs' a ha
  have Eb := Ea.grow g2
  have s2 := g1.sF.trans g2.sF
  have w := w2 x dx x' dx'
  have ob2 : ObOk F2 H2 x dx C fs := ob.grow g2.sF (fun a o ha e => g2.fr a o e fun c m => E.new_out (new1 a ha) m (by simp [Sd.addrs])) (fun a ha => g2.nw a (ob.addr ha).1 (ob.addr ha).2)
  have Ec : EnB B F2 H2 (σ.set i (some (.ref x))) (Γ.set i (.obj x dx C fs)) := obj_new Eb ob2 (fun s m a ha hs => E.new_out (new1 a ha) m hs) (fun a ha => E.new_no (new1 a ha))
  have Ed : EnB B F2 H2 ((σ.set i (some (.ref x))).set i' (some (.ref x'))) ((Γ.set i (.obj x dx C fs)).set i' (.obj x' dx' C fs')) := obj_new Ec ob' (fun s m a ha hs => by
    rcases List.mem_or_eq_of_mem_set m with m | e
    · exact Ea.new_out (new2 a ha) m hs
    · subst e
      exact (ob.addr hs).2 (new2 a ha)) (fun a ha => Ea.new_no (new2 a ha))
  exact ⟨.ref x, .ref x', rfl, k.nx F2 H2 _ _ s2 Ed w, fun z hz => k.nx F2 _ _ _ s2 (Ed.more hz) w⟩
end
/-! ### defs with the bag and an object -/
def kSp (C : Addr) (S : MSpc) : Sp := fun vs H Q _ => ∃ F b c x dx fs ws ds P, vs = .ref b :: .ref x :: ws ∧ Same F H ∧ F b = none ∧ CellsAt F c ∧ BagAt H b c ∧ ObOk F H x dx C fs ∧ b ∉ obA x dx fs ∧ RpAll F ws ds ∧ S fs ds P ∧
  ∀ v F' H' d fs', GrM (b :: obA x dx fs) F H F' H' → BagAt H' b c → ObOk F' H' x dx C fs' → NewA H fs fs' → Rp F' v d → P d fs' → Q v H'
section
variable {P : Program} {w : World} {K : PySem.W.Frag} {mg : Str → Option Value} {base : Heap} {x : Str} {st : Stmt} {N ps : List Str} {k : Nat} {C : Addr}
theorem fk_k {sp : MSpc} (D : Fd K mg x st) (S : FnScope N ps (defScope st)) (hb : BindN st x ps) (hlen : ∀ fs ds R, sp fs ds R → ds.length + 2 = ps.length)
    (hbody : ∀ (f : Addr) (cdv : Value) (A : Around) (outer : List Env) (s : Shared) (H : Hp) (E : XK), Room k (A.deeper (PyProof.Rows.envOfC x (defScope st) s.heap.objs.size f cdv)) → ∀ (F : Hp) (b c y dx : Addr) (fs : List Fl) (ds : List PyData) (R : PyData → List Fl → Prop), (∀ q, q ∈ b :: obA y dx fs → H q ≠ none) → sp fs ds R →
      Es (Xo P w K mg base N x st f cdv A outer s H E) ⟨F, H, b :: obA y dx fs⟩ (defBody st) (ctx0 N (.bag b c :: .obj y dx C fs :: ds.map .val)) ⟨fun Γ => Sd.bag b c ∈ Γ ∧ ∃ fs', Γ[1]? = some (.obj y dx C fs') ∧ R .none fs', fun d Γ => Sd.bag b c ∈ Γ ∧ ∃ fs', Γ[1]? = some (.obj y dx C fs') ∧ R d fs', fun _ => False, fun _ => False⟩) : Fk P w K mg base (k + 1) x (kSp C sp) := by
  obtain ⟨f, fd, F0, hm⟩ := D
  refine ⟨f, fd, ps, ?_, hm, F0.kp, F0.binds hb⟩
  refine F0.ok S (fun vs H Q E h => ?_) (fun cdv A outer s H vs Q E hr h => ?_)
  · obtain ⟨F, b, c, y, dx, fs, ws, ds, R, rfl, _, _, _, _, _, _, r, q, _⟩ := h
    rw [List.length_cons, List.length_cons, r.length]
    exact hlen fs ds R q
  · obtain ⟨F, b, c, y, dx, fs, ws, ds, R, rfl, sF, nF, hc, bg, ob, hbo, r, q, fin⟩ := h
    refine ⟨wss _ (defBody st), pss_wss, ?_⟩
    have hl : (ds.map Sd.val).length + 2 = ps.length := by rw [List.length_map]; exact hlen fs ds R q
    have hpl : ps.length ≤ N.length := by
      have := congrArg List.length S.pre
      rw [List.length_take] at this
      omega
    have hv : ∀ s, s ∈ ds.map Sd.val → s.addrs = [] := fun s m => by
      obtain ⟨d, _, rfl⟩ := List.mem_map.mp m
      rfl
    have Ev := vals_en sF r
    have En0 : En F H ((V.ref b :: V.ref y :: ws).map some) (.bag b c :: .obj y dx C fs :: ds.map .val) := by
      refine ⟨by rw [List.map_cons, List.map_cons, List.length_cons, List.length_cons, List.length_cons, List.length_cons]; exact congrArg (· + 2) Ev.len, sF, fun i s ov h1 h2 => ?_, fun i j s t a h1 h2 m1 m2 => ?_⟩
      · cases i with
        | zero =>
          cases h1
          cases h2
          exact ⟨rfl, nF, hc, bg⟩
        | succ i =>
          cases i with
          | zero =>
            cases h1
            cases h2
            exact ⟨rfl, ob⟩
          | succ i => exact Ev.sl i s ov h1 h2
      · have z : ∀ (i : Nat) s, (Sd.bag b c :: Sd.obj y dx C fs :: ds.map Sd.val)[i]? = some s → a ∈ s.addrs → (i = 0 ∧ a = b) ∨ (i = 1 ∧ a ∈ obA y dx fs) := fun i s e m => by
          cases i with
          | zero =>
            cases e
            exact .inl ⟨rfl, by simpa [Sd.addrs] using m⟩
          | succ i =>
            cases i with
            | zero =>
              cases e
              exact .inr ⟨rfl, m⟩
            | succ i =>
              rw [hv s (List.mem_of_getElem? (show (ds.map Sd.val)[i]? = some s from e))] at m
              cases m
        rcases z i s h1 m1 with ⟨e1, e2⟩ | ⟨e1, e2⟩ <;> rcases z j t h2 m2 with ⟨e3, e4⟩ | ⟨e3, e4⟩
        · rw [e1, e3]
        · rw [e2] at e4
          exact absurd e4 hbo
        · rw [e4] at e2
          exact absurd e2 hbo
        · rw [e1, e3]
    have hM : ∀ q, q ∈ b :: obA y dx fs → H q ≠ none := fun q hq => by
      rcases List.mem_cons.mp hq with e | hq
      · rw [e]; exact bg.some
      · exact (ob.addr hq).2
    have E0 : EnB ⟨F, H, b :: obA y dx fs⟩ F H (L2.start N (V.ref b :: V.ref y :: ws)) (ctx0 N (.bag b c :: .obj y dx C fs :: ds.map .val)) := by
      refine ⟨start_en (by rw [List.length_cons, List.length_cons, List.length_cons, List.length_cons, r.length, List.length_map]) (by rw [List.length_cons, List.length_cons]; omega) En0, Same.refl F, fun a o e _ => e, fun a e _ => e, fun s m q hq => ?_, fun a n => n⟩
      rcases List.mem_append.mp m with m | m
      · rcases List.mem_cons.mp m with e | m
        · subst e
          have e2 : q = b := by simpa [Sd.addrs] using hq
          rw [e2]
          exact .inl List.mem_cons_self
        · rcases List.mem_cons.mp m with e | m
          · subst e
            exact .inl (List.mem_cons_of_mem _ hq)
          · rw [hv s m] at hq
            cases hq
      · rw [List.eq_of_mem_replicate m] at hq
        cases hq
    have gr : ∀ {F' H' σ' Γ' fs'}, EnB ⟨F, H, b :: obA y dx fs⟩ F' H' σ' Γ' → Sd.bag b c ∈ Γ' → Γ'[1]? = some (.obj y dx C fs') → GrM (b :: obA y dx fs) F H F' H' ∧ BagAt H' b c ∧ ObOk F' H' y dx C fs' ∧ NewA H fs fs' := fun {F' H' σ' Γ' fs'} E' mb m => by
      obtain ⟨_, _, _, ob'⟩ := E'.en.at m
      refine ⟨⟨E'.f0, E'.en.ex, E'.fr, E'.nw, E'.al⟩, (E'.en.bag mb).2, ob', fun p hp => ?_⟩
      rcases E'.mv _ (List.mem_of_getElem? m) p (List.mem_cons_of_mem _ (List.mem_cons_of_mem _ hp)) with h | h
      · rcases List.mem_cons.mp h with e | h
        · exfalso
          obtain ⟨i, hi⟩ := ctx_mem mb
          have := E'.en.sep i 1 _ _ p hi m (by rw [e]; simp [Sd.addrs]) (List.mem_cons_of_mem _ (List.mem_cons_of_mem _ hp))
          subst this
          rw [m] at hi
          cases hi
        · rcases List.mem_cons.mp h with e | h
          · exact absurd (e ▸ hp) ob'.out.1
          · rcases List.mem_cons.mp h with e | h
            · exact absurd (e ▸ hp) ob'.out.2
            · exact .inl h
      · exact .inr h
    exact hbody f cdv A outer s H E hr F b c y dx fs ds R hM q F H _ E0 _ ⟨fun F' H' σ' Γ' _ E' ⟨mb, fs', m, q'⟩ => fin .non F' H' .none fs' (gr E' mb m).1 (gr E' mb m).2.1 (gr E' mb m).2.2.1 (gr E' mb m).2.2.2 .non q', fun F' H' σ' Γ' v d _ E' r' ⟨mb, fs', m, q'⟩ => fin v F' H' d fs' (gr E' mb m).1 (gr E' mb m).2.1 (gr E' mb m).2.2.1 (gr E' mb m).2.2.2 r' q', fun _ _ _ _ _ _ z => z.elim, fun _ _ _ _ _ _ z => z.elim⟩
end
/-! ### tests that change things -/
def Ntm (B : Bs) (X : Cx) (c : Expr) (Γ : Ctx) (P : Bool → Ctx → Prop) : Prop := ∀ F H σ, EnB B F H σ Γ → ∀ Q : Bool → Hp → Prop, (∀ b F' H' Γ', Same F F' → EnB B F' H' σ Γ' → P b Γ' → Q b H') → wt X c σ H Q
def Nwm (B : Bs) (X : Cx) (c : Expr) (Γ : Ctx) (P : Bool → Ctx → Prop) : Prop := ∀ F H σ, EnB B F H σ Γ → ∀ Q : Bool → Hp → Prop, (∀ b F' H' Γ', Same F F' → EnB B F' H' σ Γ' → P b Γ' → Q b H') → ww X c σ H Q
section
variable {X : Cx} {B : Bs} {Γ : Ctx} {O : Po} {N : List Str} {i i' j k : Nat} {b c x dx C : Addr} {fs : List Fl} {y z f : Str} {e a c' : Expr} {es rest : List Expr} {pos pz py p : Pos} {S : MSpc} {R : Bool → Ctx → Prop} {sa sb : List Stmt}
theorem ntm_nt (h : Nt X e Γ fun t => R t Γ) : Ntm B X e Γ R := fun F H σ E Q k => h F H σ E.en Q fun t F' H' g q => k t F' H' Γ g.sF (E.grow g) q
theorem ntm_not (h : Ntm B X a Γ fun t G => R (!t) G) : Ntm B X (.UnaryOp .Not a pos) Γ R := fun F H σ E Q k => wt_of (pt_not pt_wt) (h F H σ E _ fun t F1 H1 G s E1 p => k _ F1 H1 G s E1 p)
theorem ntm_w (h : Nwm B X e Γ R) : Ntm B X e Γ R := fun F H σ E Q k => wt_of (PW.pt pw_ww) (h F H σ E Q k)
theorem nwm_or1 (h : Ntm B X a Γ R) : Nwm B X (.BoolOp .Or [a] pos) Γ R := fun F H σ E Q k => ww_of (pw_or1 pt_wt) (h F H σ E Q k)
theorem nwm_or (h : Ntm B X a Γ fun t G => if t = true then R true G else Nwm B X (.BoolOp .Or (e :: rest) pos) G R) : Nwm B X (.BoolOp .Or (a :: e :: rest) pos) Γ R := fun F H σ E Q k =>
  ww_of (pw_or pt_wt pw_ww) (h F H σ E _ fun t F1 H1 G s E1 p => by
    cases t with
    | true => exact iteT (k true F1 H1 G s E1 p)
    | false => exact iteF ((show Nwm B X (.BoolOp .Or (e :: rest) pos) G R from p) F1 H1 σ E1 Q fun t F2 H2 G2 s2 E2 p2 => k t F2 H2 G2 (s.trans s2) E2 p2))
theorem e1_ifM (h : Ntm B X c' Γ fun t G => if t = true then Es X B sa G O else Es X B sb G O) : E1 X B (.If c' sa sb pos) Γ O := fun F H σ E D k =>
  ws_of (ps_if pt_wt pss_wss pss_wss) (h F H σ E _ fun t F2 H2 G s E2 q => by
    cases t with
    | true => exact iteT ((show Es X B sa G O from q) F2 H2 σ E2 D (k.later s))
    | false => exact iteF ((show Es X B sb G O from q) F2 H2 σ E2 D (k.later s)))
/-- f(bag, store, ..) as a test -/
theorem ntm_callK (G : Fk X.prog X.w X.K X.mg X.base j f (kSp C S)) (hr : Room k X.A) (h1 : X.N = N) (hb2 : N[i]? = some y) (hb3 : Γ[i]? = some (.bag b c)) (hv : Vis X.env.scope y) (ho2 : N[i']? = some z) (ho3 : Γ[i']? = some (.obj x dx C fs)) (hvz : Vis X.env.scope z)
    (ha : Na X es Γ fun ds => S fs ds fun d fs' => ∃ t, d = .bool t ∧ R t (Γ.set i' (.obj x dx C fs'))) (hk : j ≤ k := by decide)
    (hd : (y == ("__debug__" : Str)) = false := by decide) (hcd : (y == ("__classdict__" : Str)) = false := by decide) (hdz : (z == ("__debug__" : Str)) = false := by decide) (hcdz : (z == ("__classdict__" : Str)) = false := by decide)
    (hg : Gl X f := by rfl) (hdb : (f == ("__debug__" : Str)) = false := by decide) (he : starEach (.Name y py :: .Name z pz :: es) X.env = (false, eval (.Name y py) X.env) :: starEach (.Name z pz :: es) X.env := by rfl) (he2 : starEach (.Name z pz :: es) X.env = (false, eval (.Name z pz) X.env) :: starEach es X.env := by rfl) (hpl : (backTo pos (starEach (.Name z pz :: es) X.env)).any (·.1) = false := by rfl)
    (hw : ∀ whole, isTrue (.Call (.Name f p) (.Name y py :: .Name z pz :: es) [] pos) X.env whole = (do let v ← whole; standAt (Expr.Call (.Name f p) (.Name y py :: .Name z pz :: es) [] pos).pos; holding [v] (truthy v)) := by intro _; rfl) : Ntm B X (.Call (.Name f p) (.Name y py :: .Name z pz :: es) [] pos) Γ R := by
  subst h1
  obtain ⟨g, fd, ps, F0, hm, kp, bd⟩ := G
  intro F H σ E Q q
  refine wt_of (pt_val (pe_call F0 (hr.mono hk) hg hm kp bd .nil pass0 (pa_cons (pe_var hb2 hv hd hcd) (pa_cons (pe_var ho2 hvz hdz hcdz) pa_wa he2) he) hdb he hpl) hw) ?_
  obtain ⟨ov, g1, rfl, nF, hc, bg⟩ := E.en.at hb3
  obtain ⟨ov2, g2, rfl, ob⟩ := E.en.at ho3
  refine ⟨.ref b, g1, .ref x, g2, ?_⟩
  refine ha F H σ E.en _ fun vs F1 H1 ds g r s => ?_
  have E1' := E.grow g
  have hbm : Sd.bag b c ∈ Γ := List.mem_of_getElem? hb3
  obtain ⟨_, _, _, ob1⟩ := E1'.en.at ho3
  have hbo : b ∉ obA x dx fs := fun m => by
    have := E1'.en.sep i i' _ _ b hb3 ho3 (by simp [Sd.addrs]) m
    subst this
    rw [hb3] at ho3
    cases ho3
  refine ⟨F1, b, c, x, dx, fs, vs, ds, _, by rw [List.append_nil], E1'.en.ex, (E1'.en.bag hbm).1, hc.mono g.sF, (E1'.en.bag hbm).2, ob1, hbo, r, s, fun v F2 H2 d fs' gk bg2 ob2 na r2 ⟨t, ed, p2⟩ => ?_⟩
  subst ed
  refine ⟨t, rp_bl r2, ?_⟩
  -- first the bag, then the object
  have hil' : i' < Γ.length := (List.getElem?_eq_some_iff.mp ho3).1
  have key : EnB B F2 H2 σ (Γ.set i' (.obj x dx C fs')) := by
    have sepb : ∀ (l : Nat) s, l ≠ i → Γ[l]? = some s → b ∉ s.addrs := fun l s hl e m => hl (E1'.en.sep l i _ _ b e hb3 m (by simp [Sd.addrs]))
    have sepo : ∀ (l : Nat) s, l ≠ i' → Γ[l]? = some s → ∀ a, a ∈ obA x dx fs → a ∉ s.addrs := fun l s hl e a ha m => hl (E1'.en.sep l i' _ _ a e ho3 m ha)
    have adr : ∀ a, a ∈ obA x dx fs' → a ∈ obA x dx fs ∨ H1 a = none := fun a ha => by
      rcases List.mem_cons.mp ha with e | ha
      · subst e
        exact .inl List.mem_cons_self
      · rcases List.mem_cons.mp ha with e | ha
        · subst e
          exact .inl (List.mem_cons_of_mem _ List.mem_cons_self)
        · exact (na a ha).imp (fun h => List.mem_cons_of_mem _ (List.mem_cons_of_mem _ h)) id
    have back : ∀ (l : Nat) s, (Γ.set i' (.obj x dx C fs'))[l]? = some s → (l = i' ∧ s = .obj x dx C fs') ∨ (l ≠ i' ∧ Γ[l]? = some s) := fun l s e => by
      by_cases hl : i' = l
      · subst hl
        rw [List.getElem?_set_self hil'] at e
        exact .inl ⟨rfl, (Option.some.inj e).symm⟩
      · rw [List.getElem?_set_ne hl] at e
        exact .inr ⟨Ne.symm hl, e⟩
    have cross : ∀ (l : Nat) s a, l ≠ i' → Γ[l]? = some s → a ∈ s.addrs → a ∉ obA x dx fs' := fun l s a hl e m ha => by
      rcases adr a ha with h | h
      · exact sepo l s hl e a h m
      · exact (E1'.en.addr_no e m).2 h
    have own : ∀ a, a ∈ b :: obA x dx fs → a ∈ B.M ∨ B.H0 a = none := fun a ha => by
      rcases List.mem_cons.mp ha with e | ha
      · exact E.mv _ hbm a (by rw [e]; simp [Sd.addrs])
      · exact E.mv _ (List.mem_of_getElem? ho3) a ha
    refine ⟨⟨by rw [List.length_set]; exact E.en.len, gk.ex, fun l s ov e1 e2 => ?_, fun l m' s t a e1 e2 m1 m2 => ?_⟩, E1'.f0.trans gk.sF, fun a o e n => gk.fr a o (E1'.fr a o e n) fun m => ?_, fun a e n => gk.nw a (E1'.nw a e n) (E1'.al a n), fun s m q hq => ?_, fun a n => gk.al a (E1'.al a n)⟩
    · rcases back l s e1 with ⟨q1, q2⟩ | ⟨q1, q2⟩
      · subst q1 q2
        rw [g2] at e2
        cases e2
        exact ⟨rfl, ob2⟩
      · by_cases hl : l = i
        · subst hl
          rw [hb3] at q2
          cases q2
          rw [g1] at e2
          cases e2
          exact ⟨rfl, gk.nw b (E1'.en.bag hbm).1 (E1'.en.bag hbm).2.some, (hc.mono g.sF).mono gk.sF, bg2⟩
        · refine (E1'.en.sl l s ov q2 e2).grow gk.sF (fun a o ha e _ => gk.fr a o e fun m => ?_) (fun a ha => gk.nw a (E1'.en.addr_no q2 ha).1 (E1'.en.addr_no q2 ha).2) (fun b' c' e => ?_)
          · rcases List.mem_cons.mp m with e3 | m
            · exact sepb l s hl q2 (e3 ▸ ha)
            · exact sepo l s q1 q2 a m ha
          · subst e
            obtain ⟨s0, s1, s2, e, r⟩ := (E1'.en.bag (List.mem_of_getElem? q2)).2
            refine ⟨s0, s1, s2, gk.fr b' _ e fun m => ?_, r⟩
            rcases List.mem_cons.mp m with e3 | m
            · exact sepb l _ hl q2 (by rw [← e3]; simp [Sd.addrs])
            · exact sepo l _ q1 q2 b' m (by simp [Sd.addrs])
    · rcases back l s e1 with ⟨q1, q2⟩ | ⟨q1, q2⟩ <;> rcases back m' t e2 with ⟨q3, q4⟩ | ⟨q3, q4⟩
      · rw [q1, q3]
      · subst q2
        exact absurd m1 (cross m' t a q3 q4 m2)
      · subst q4
        exact absurd m2 (cross l s a q1 q2 m1)
      · exact E1'.en.sep l m' s t a q2 q4 m1 m2
    · rcases own a m with h | h
      · exact n h
      · rw [h] at e
        cases e
    · rcases List.mem_or_eq_of_mem_set m with m | e
      · exact E.mv s m q hq
      · subst e
        rcases adr q hq with h | h
        · exact own q (List.mem_cons_of_mem _ h)
        · exact .inr (E1'.new_no h)
  exact q t F2 H2 _ (g.sF.trans gk.sF) key p2
end
end Wm

set_option Elab.async false
set_option linter.all false
set_option maxRecDepth 100000
set_option maxHeartbeats 2000000
/-! Wm.T: the text by places (printed by a program of mine). -/
namespace Wm
open PySem PySem.Spec L2
def topS (i : Nat) : Stmt := PySem.Challenge.pw_whilemoved_k22_whole_rows_led_by_stores.main.body.getD i (.Pass ⟨0, 0, 0, 0⟩)
abbrev s_wall : Stmt := topS 0
theorem ns_wall : FnScope ["k"] ["k"] (defScope s_wall) := ⟨rfl, rfl, rfl, by decide +kernel, rfl, by decide +kernel, by decide +kernel⟩
abbrev s_is_integer : Stmt := topS 2
theorem ns_is_integer : FnScope ["thing"] ["thing"] (defScope s_is_integer) := ⟨rfl, rfl, rfl, by decide +kernel, rfl, by decide +kernel, by decide +kernel⟩
abbrev s_is_below : Stmt := topS 3
theorem ns_is_below : FnScope ["many", "thing"] ["many", "thing"] (defScope s_is_below) := ⟨rfl, rfl, rfl, by decide +kernel, rfl, by decide +kernel, by decide +kernel⟩
abbrev s_is_needs : Stmt := topS 4
theorem ns_is_needs : FnScope ["thing", "need"] ["thing"] (defScope s_is_needs) := ⟨rfl, rfl, rfl, by decide +kernel, rfl, by decide +kernel, by decide +kernel⟩
abbrev s_is_layout : Stmt := topS 5
theorem ns_is_layout : FnScope ["needs", "thing", "item"] ["needs", "thing"] (defScope s_is_layout) := ⟨rfl, rfl, rfl, by decide +kernel, rfl, by decide +kernel, by decide +kernel⟩
abbrev s_is_right : Stmt := topS 6
theorem ns_is_right : FnScope ["needs", "thing", "value", "need"] ["needs", "thing"] (defScope s_is_right) := ⟨rfl, rfl, rfl, by decide +kernel, rfl, by decide +kernel, by decide +kernel⟩
abbrev s_is_task : Stmt := topS 7
theorem ns_is_task : FnScope ["thing", "needs", "old", "wish"] ["thing"] (defScope s_is_task) := ⟨rfl, rfl, rfl, by decide +kernel, rfl, by decide +kernel, by decide +kernel⟩
abbrev s_is_lot : Stmt := topS 8
theorem ns_is_lot : FnScope ["many", "thing", "one", "other"] ["many", "thing"] (defScope s_is_lot) := ⟨rfl, rfl, rfl, by decide +kernel, rfl, by decide +kernel, by decide +kernel⟩
abbrev s_is_copy : Stmt := topS 9
theorem ns_is_copy : FnScope ["many", "thing", "place"] ["many", "thing"] (defScope s_is_copy) := ⟨rfl, rfl, rfl, by decide +kernel, rfl, by decide +kernel, by decide +kernel⟩
abbrev s_is_stretch : Stmt := topS 10
theorem ns_is_stretch : FnScope ["many", "thing", "copy", "place", "source", "places"] ["many", "thing"] (defScope s_is_stretch) := ⟨rfl, rfl, rfl, by decide +kernel, rfl, by decide +kernel, by decide +kernel⟩
abbrev s_is_plan : Stmt := topS 11
theorem ns_is_plan : FnScope ["many", "thing", "stretch"] ["many", "thing"] (defScope s_is_plan) := ⟨rfl, rfl, rfl, by decide +kernel, rfl, by decide +kernel, by decide +kernel⟩
abbrev s_CannotDo_init : Stmt := inClass (topS 14) 0
theorem ns_CannotDo_init : FnScope ["self", "index"] ["self", "index"] (defScope s_CannotDo_init) := ⟨rfl, rfl, rfl, by decide +kernel, rfl, by decide +kernel, by decide +kernel⟩
abbrev s_NoPlace_init : Stmt := inClass (topS 15) 0
theorem ns_NoPlace_init : FnScope ["self", "place"] ["self", "place"] (defScope s_NoPlace_init) := ⟨rfl, rfl, rfl, by decide +kernel, rfl, by decide +kernel, by decide +kernel⟩
abbrev s_NoSource_init : Stmt := inClass (topS 16) 0
theorem ns_NoSource_init : FnScope ["self", "place"] ["self", "place"] (defScope s_NoSource_init) := ⟨rfl, rfl, rfl, by decide +kernel, rfl, by decide +kernel, by decide +kernel⟩
abbrev s_NotDone_init : Stmt := inClass (topS 17) 0
theorem ns_NotDone_init : FnScope ["self", "place"] ["self", "place"] (defScope s_NotDone_init) := ⟨rfl, rfl, rfl, by decide +kernel, rfl, by decide +kernel, by decide +kernel⟩
abbrev s_Wrong_init : Stmt := inClass (topS 19) 0
theorem ns_Wrong_init : FnScope ["self", "place"] ["self", "place"] (defScope s_Wrong_init) := ⟨rfl, rfl, rfl, by decide +kernel, rfl, by decide +kernel, by decide +kernel⟩
abbrev s_standings : Stmt := topS 21
theorem ns_standings : FnScope ["needs", "layout", "value"] ["needs", "layout"] (defScope s_standings) := ⟨rfl, rfl, rfl, by decide +kernel, rfl, by decide +kernel, by decide +kernel⟩
abbrev s_places_of : Stmt := topS 22
theorem ns_places_of : FnScope ["stretch", "place", "source"] ["stretch"] (defScope s_places_of) := ⟨rfl, rfl, rfl, by decide +kernel, rfl, by decide +kernel, by decide +kernel⟩
abbrev s_can_be_done : Stmt := topS 23
theorem ns_can_be_done : FnScope ["layout", "stretch", "place", "source"] ["layout", "stretch"] (defScope s_can_be_done) := ⟨rfl, rfl, rfl, by decide +kernel, rfl, by decide +kernel, by decide +kernel⟩
abbrev s_led : Stmt := topS 24
theorem ns_led : FnScope ["layout", "stretch", "found", "place", "source"] ["layout", "stretch"] (defScope s_led) := ⟨rfl, rfl, rfl, by decide +kernel, rfl, by decide +kernel, by decide +kernel⟩
abbrev s_does : Stmt := topS 25
theorem ns_does : FnScope ["task", "plan", "layout", "stretch", "place", "item"] ["task", "plan"] (defScope s_does) := ⟨rfl, rfl, rfl, by decide +kernel, rfl, by decide +kernel, by decide +kernel⟩
abbrev s_outside : Stmt := topS 27
theorem ns_outside : FnScope ["layout", "stretch", "places", "place", "item"] ["layout", "stretch"] (defScope s_outside) := ⟨rfl, rfl, rfl, by decide +kernel, rfl, by decide +kernel, by decide +kernel⟩
abbrev s_left_standings : Stmt := topS 28
theorem ns_left_standings : FnScope ["needs", "layout", "stretch"] ["needs", "layout", "stretch"] (defScope s_left_standings) := ⟨rfl, rfl, rfl, by decide +kernel, rfl, by decide +kernel, by decide +kernel⟩
abbrev s_lacking : Stmt := topS 29
theorem ns_lacking : FnScope ["needs", "layout", "stretch", "value", "number"] ["needs", "layout", "stretch"] (defScope s_lacking) := ⟨rfl, rfl, rfl, by decide +kernel, rfl, by decide +kernel, by decide +kernel⟩
abbrev s_is_safe : Stmt := topS 30
theorem ns_is_safe : FnScope ["needs", "layout", "stretch"] ["needs", "layout", "stretch"] (defScope s_is_safe) := ⟨rfl, rfl, rfl, by decide +kernel, rfl, by decide +kernel, by decide +kernel⟩
abbrev s_layouts_through : Stmt := topS 31
theorem ns_layouts_through : FnScope ["layout", "plan", "found", "index", "stretch"] ["layout", "plan"] (defScope s_layouts_through) := ⟨rfl, rfl, rfl, by decide +kernel, rfl, by decide +kernel, by decide +kernel⟩
abbrev s_first_unsafe : Stmt := topS 32
theorem ns_first_unsafe : FnScope ["task", "plan", "needs", "old", "wish", "index", "layout", "stretch", "value"] ["task", "plan"] (defScope s_first_unsafe) := ⟨rfl, rfl, rfl, by decide +kernel, rfl, by decide +kernel, by decide +kernel⟩
abbrev s_is_safe_plan : Stmt := topS 33
theorem ns_is_safe_plan : FnScope ["task", "thing"] ["task", "thing"] (defScope s_is_safe_plan) := ⟨rfl, rfl, rfl, by decide +kernel, rfl, by decide +kernel, by decide +kernel⟩
abbrev s_borne_losses : Stmt := topS 34
theorem ns_borne_losses : FnScope ["task", "plan", "needs", "old", "wish", "layouts", "layout", "stretch", "left"] ["task", "plan"] (defScope s_borne_losses) := ⟨rfl, rfl, rfl, by decide +kernel, rfl, by decide +kernel, by decide +kernel⟩
abbrev s_can_go_safely : Stmt := topS 36
theorem ns_can_go_safely : FnScope ["needs", "layout", "stretch"] ["needs", "layout", "stretch"] (defScope s_can_go_safely) := ⟨rfl, rfl, rfl, by decide +kernel, rfl, by decide +kernel, by decide +kernel⟩
abbrev s_led_by_copies : Stmt := topS 37
theorem ns_led_by_copies : FnScope ["layout", "copies", "copy"] ["layout", "copies"] (defScope s_led_by_copies) := ⟨rfl, rfl, rfl, by decide +kernel, rfl, by decide +kernel, by decide +kernel⟩
abbrev s_is_row : Stmt := topS 38
theorem ns_is_row : FnScope ["needs", "layout", "thing", "copy"] ["needs", "layout", "thing"] (defScope s_is_row) := ⟨rfl, rfl, rfl, by decide +kernel, rfl, by decide +kernel, by decide +kernel⟩
abbrev s_is_whole_run : Stmt := topS 39
theorem ns_is_whole_run : FnScope ["needs", "layout", "row", "begin", "end", "stretch"] ["needs", "layout", "row", "begin", "end"] (defScope s_is_whole_run) := ⟨rfl, rfl, rfl, by decide +kernel, rfl, by decide +kernel, by decide +kernel⟩
abbrev s_cuts_of : Stmt := topS 40
theorem ns_cuts_of : FnScope ["needs", "layout", "row", "found", "end"] ["needs", "layout", "row"] (defScope s_cuts_of) := ⟨rfl, rfl, rfl, by decide +kernel, rfl, by decide +kernel, by decide +kernel⟩
abbrev s_cut_row : Stmt := topS 41
theorem ns_cut_row : FnScope ["needs", "layout", "row", "cuts", "begin", "end"] ["needs", "layout", "row"] (defScope s_cut_row) := ⟨rfl, rfl, rfl, by decide +kernel, rfl, by decide +kernel, by decide +kernel⟩
abbrev s_row_paper : Stmt := topS 42
theorem ns_row_paper : FnScope ["needs", "layout", "row", "cuts", "begin", "end"] ["needs", "layout", "row"] (defScope s_row_paper) := ⟨rfl, rfl, rfl, by decide +kernel, rfl, by decide +kernel, by decide +kernel⟩
abbrev s_Store_init : Stmt := inClass (topS 44) 1
theorem ns_Store_init : FnScope ["self", "task", "plan", "stretch"] ["self", "task", "plan"] (defScope s_Store_init) := ⟨rfl, rfl, rfl, by decide +kernel, rfl, by decide +kernel, by decide +kernel⟩
abbrev s_Store_eq : Stmt := inClass (topS 44) 2
theorem ns_Store_eq : FnScope ["self", "other"] ["self", "other"] (defScope s_Store_eq) := ⟨rfl, rfl, rfl, by decide +kernel, rfl, by decide +kernel, by decide +kernel⟩
abbrev s_Store_state : Stmt := inClass (topS 44) 3
theorem ns_Store_state : FnScope ["self"] ["self"] (defScope s_Store_state) := ⟨rfl, rfl, rfl, by decide +kernel, rfl, by decide +kernel, by decide +kernel⟩
abbrev s_Store_keep : Stmt := inClass (topS 44) 4
theorem ns_Store_keep : FnScope ["self"] ["self"] (defScope s_Store_keep) := ⟨rfl, rfl, rfl, by decide +kernel, rfl, by decide +kernel, by decide +kernel⟩
abbrev s_Store_places : Stmt := inClass (topS 44) 5
theorem ns_Store_places : FnScope ["self"] ["self"] (defScope s_Store_places) := ⟨rfl, rfl, rfl, by decide +kernel, rfl, by decide +kernel, by decide +kernel⟩
abbrev s_Store_tell : Stmt := inClass (topS 44) 6
theorem ns_Store_tell : FnScope ["self", "place", "told"] ["self", "place", "told"] (defScope s_Store_tell) := ⟨rfl, rfl, rfl, by decide +kernel, rfl, by decide +kernel, by decide +kernel⟩
abbrev s_Store_drop_whole : Stmt := inClass (topS 44) 7
theorem ns_Store_drop_whole : FnScope ["self", "place", "one"] ["self", "place"] (defScope s_Store_drop_whole) := ⟨rfl, rfl, rfl, by decide +kernel, rfl, by decide +kernel, by decide +kernel⟩
abbrev s_Store_check_place : Stmt := inClass (topS 44) 8
theorem ns_Store_check_place : FnScope ["self", "place", "places"] ["self", "place"] (defScope s_Store_check_place) := ⟨rfl, rfl, rfl, by decide +kernel, rfl, by decide +kernel, by decide +kernel⟩
abbrev s_Store_write : Stmt := inClass (topS 44) 9
theorem ns_Store_write : FnScope ["self", "place", "places", "wanted", "one", "told", "sources"] ["self", "place"] (defScope s_Store_write) := ⟨rfl, rfl, rfl, by decide +kernel, rfl, by decide +kernel, by decide +kernel⟩
abbrev s_Store_spoil : Stmt := inClass (topS 44) 10
theorem ns_Store_spoil : FnScope ["self", "place"] ["self", "place"] (defScope s_Store_spoil) := ⟨rfl, rfl, rfl, by decide +kernel, rfl, by decide +kernel, by decide +kernel⟩
abbrev s_Store_cut : Stmt := inClass (topS 44) 11
theorem ns_Store_cut : FnScope ["self", "places", "place"] ["self"] (defScope s_Store_cut) := ⟨rfl, rfl, rfl, by decide +kernel, rfl, by decide +kernel, by decide +kernel⟩
abbrev s_Store_lose : Stmt := inClass (topS 44) 12
theorem ns_Store_lose : FnScope ["self", "place"] ["self", "place"] (defScope s_Store_lose) := ⟨rfl, rfl, rfl, by decide +kernel, rfl, by decide +kernel, by decide +kernel⟩
abbrev s_Store_left : Stmt := inClass (topS 44) 13
theorem ns_Store_left : FnScope ["self", "places", "place"] ["self"] (defScope s_Store_left) := ⟨rfl, rfl, rfl, by decide +kernel, rfl, by decide +kernel, by decide +kernel⟩
abbrev s_Store_mark : Stmt := inClass (topS 44) 14
theorem ns_Store_mark : FnScope ["self", "left"] ["self"] (defScope s_Store_mark) := ⟨rfl, rfl, rfl, by decide +kernel, rfl, by decide +kernel, by decide +kernel⟩
abbrev s_Store_turn : Stmt := inClass (topS 44) 15
theorem ns_Store_turn : FnScope ["self"] ["self"] (defScope s_Store_turn) := ⟨rfl, rfl, rfl, by decide +kernel, rfl, by decide +kernel, by decide +kernel⟩
abbrev s_Store_undo : Stmt := inClass (topS 44) 16
theorem ns_Store_undo : FnScope ["self"] ["self"] (defScope s_Store_undo) := ⟨rfl, rfl, rfl, by decide +kernel, rfl, by decide +kernel, by decide +kernel⟩
abbrev s_Store_twin : Stmt := inClass (topS 44) 17
theorem ns_Store_twin : FnScope ["self"] ["self"] (defScope s_Store_twin) := ⟨rfl, rfl, rfl, by decide +kernel, rfl, by decide +kernel, by decide +kernel⟩
abbrev s_shown : Stmt := topS 46
theorem ns_shown : FnScope ["store"] ["store"] (defScope s_shown) := ⟨rfl, rfl, rfl, by decide +kernel, rfl, by decide +kernel, by decide +kernel⟩
abbrev s_readers : Stmt := topS 47
theorem ns_readers : FnScope ["store", "value", "place", "told"] ["store", "value"] (defScope s_readers) := ⟨rfl, rfl, rfl, by decide +kernel, rfl, by decide +kernel, by decide +kernel⟩
abbrev s_left_to_write : Stmt := topS 48
theorem ns_left_to_write : FnScope ["store"] ["store"] (defScope s_left_to_write) := ⟨rfl, rfl, rfl, by decide +kernel, rfl, by decide +kernel, by decide +kernel⟩
abbrev s_law_bag : Stmt := topS 50
theorem ns_law_bag : FnScope ["_law_script", "_law_cell"] ["_law_script"] (defScope s_law_bag) := ⟨rfl, rfl, rfl, by decide +kernel, rfl, by decide +kernel, by decide +kernel⟩
abbrev s_law_take : Stmt := topS 51
theorem ns_law_take : FnScope ["_law_bag_here", "_law_many", "_law_cell", "_law_stirred", "_law_value", "_law_begin", "_law_second"] ["_law_bag_here", "_law_many"] (defScope s_law_take) := ⟨rfl, rfl, rfl, by decide +kernel, rfl, by decide +kernel, by decide +kernel⟩
abbrev s_law_some : Stmt := topS 52
theorem ns_law_some : FnScope ["_law_bag_here", "_law_things"] ["_law_bag_here", "_law_things"] (defScope s_law_some) := ⟨rfl, rfl, rfl, by decide +kernel, rfl, by decide +kernel, by decide +kernel⟩
abbrev s_law_mixed : Stmt := topS 53
theorem ns_law_mixed : FnScope ["_law_bag_here", "_law_things", "_law_found", "_law_thing"] ["_law_bag_here", "_law_things"] (defScope s_law_mixed) := ⟨rfl, rfl, rfl, by decide +kernel, rfl, by decide +kernel, by decide +kernel⟩
abbrev s_law_alike : Stmt := topS 54
theorem ns_law_alike : FnScope ["_law_found", "_law_due"] ["_law_found", "_law_due"] (defScope s_law_alike) := ⟨rfl, rfl, rfl, by decide +kernel, rfl, by decide +kernel, by decide +kernel⟩
abbrev s_law_is_int : Stmt := topS 55
theorem ns_law_is_int : FnScope ["_law_thing"] ["_law_thing"] (defScope s_law_is_int) := ⟨rfl, rfl, rfl, by decide +kernel, rfl, by decide +kernel, by decide +kernel⟩
abbrev s_law_standings : Stmt := topS 56
theorem ns_law_standings : FnScope ["_law_needs_here", "_law_layout", "_law_item", "_law_value"] ["_law_needs_here", "_law_layout"] (defScope s_law_standings) := ⟨rfl, rfl, rfl, by decide +kernel, rfl, by decide +kernel, by decide +kernel⟩
abbrev s_law_rooms : Stmt := topS 57
theorem ns_law_rooms : FnScope ["_law_needs_here", "_law_layout", "_law_many", "_law_need"] ["_law_needs_here", "_law_layout"] (defScope s_law_rooms) := ⟨rfl, rfl, rfl, by decide +kernel, rfl, by decide +kernel, by decide +kernel⟩
abbrev s_law_is_right : Stmt := topS 58
theorem ns_law_is_right : FnScope ["_law_needs_here", "_law_layout", "_law_item", "_law_room"] ["_law_needs_here", "_law_layout"] (defScope s_law_is_right) := ⟨rfl, rfl, rfl, by decide +kernel, rfl, by decide +kernel, by decide +kernel⟩
abbrev s_law_with_room : Stmt := topS 59
theorem ns_law_with_room : FnScope ["_law_needs_here", "_law_layout", "_law_left", "_law_at", "_law_item"] ["_law_needs_here", "_law_layout"] (defScope s_law_with_room) := ⟨rfl, rfl, rfl, by decide +kernel, rfl, by decide +kernel, by decide +kernel⟩
abbrev s_law_can_be_done : Stmt := topS 60
theorem ns_law_can_be_done : FnScope ["_law_layout", "_law_stretch", "_law_place", "_law_source"] ["_law_layout", "_law_stretch"] (defScope s_law_can_be_done) := ⟨rfl, rfl, rfl, by decide +kernel, rfl, by decide +kernel, by decide +kernel⟩
abbrev s_law_led : Stmt := topS 61
theorem ns_law_led : FnScope ["_law_layout", "_law_stretch", "_law_found", "_law_place", "_law_source"] ["_law_layout", "_law_stretch"] (defScope s_law_led) := ⟨rfl, rfl, rfl, by decide +kernel, rfl, by decide +kernel, by decide +kernel⟩
abbrev s_law_is_safe : Stmt := topS 62
theorem ns_law_is_safe : FnScope ["_law_needs_here", "_law_layout", "_law_stretch", "_law_place", "_law_source", "_law_places", "_law_at", "_law_item", "_law_outside", "_law_room"] ["_law_needs_here", "_law_layout", "_law_stretch"] (defScope s_law_is_safe) := ⟨rfl, rfl, rfl, by decide +kernel, rfl, by decide +kernel, by decide +kernel⟩
abbrev s_law_led_by : Stmt := topS 63
theorem ns_law_led_by : FnScope ["_law_layout", "_law_plan", "_law_stretch"] ["_law_layout", "_law_plan"] (defScope s_law_led_by) := ⟨rfl, rfl, rfl, by decide +kernel, rfl, by decide +kernel, by decide +kernel⟩
abbrev s_law_is_wanted : Stmt := topS 64
theorem ns_law_is_wanted : FnScope ["_law_wish", "_law_layout", "_law_at", "_law_item"] ["_law_wish", "_law_layout"] (defScope s_law_is_wanted) := ⟨rfl, rfl, rfl, by decide +kernel, rfl, by decide +kernel, by decide +kernel⟩
abbrev s_law_is_safe_plan : Stmt := topS 65
theorem ns_law_is_safe_plan : FnScope ["_law_task_here", "_law_plan", "_law_layout", "_law_stretch"] ["_law_task_here", "_law_plan"] (defScope s_law_is_safe_plan) := ⟨rfl, rfl, rfl, by decide +kernel, rfl, by decide +kernel, by decide +kernel⟩
abbrev s_law_writes : Stmt := topS 66
theorem ns_law_writes : FnScope ["_law_plan", "_law_stretch"] ["_law_plan"] (defScope s_law_writes) := ⟨rfl, rfl, rfl, by decide +kernel, rfl, by decide +kernel, by decide +kernel⟩
abbrev s_law_needs : Stmt := topS 67
theorem ns_law_needs : FnScope ["_law_bag_here", "_law_many", "_law_most", "_law_value"] ["_law_bag_here", "_law_many", "_law_most"] (defScope s_law_needs) := ⟨rfl, rfl, rfl, by decide +kernel, rfl, by decide +kernel, by decide +kernel⟩
abbrev s_law_spread : Stmt := topS 68
theorem ns_law_spread : FnScope ["_law_bag_here", "_law_needs_here", "_law_size", "_law_found", "_law_value", "_law_need", "_law_more"] ["_law_bag_here", "_law_needs_here", "_law_size"] (defScope s_law_spread) := ⟨rfl, rfl, rfl, by decide +kernel, rfl, by decide +kernel, by decide +kernel⟩
abbrev s_law_fit_needs : Stmt := topS 69
theorem ns_law_fit_needs : FnScope ["_law_bag_here", "_law_size", "_law_most", "_law_needs_here"] ["_law_bag_here", "_law_size", "_law_most"] (defScope s_law_fit_needs) := ⟨rfl, rfl, rfl, by decide +kernel, rfl, by decide +kernel, by decide +kernel⟩
abbrev s_law_any_task : Stmt := topS 70
theorem ns_law_any_task : FnScope ["_law_bag_here", "_law_size", "_law_most", "_law_needs_here", "_law_old", "_law_wish", "_law_turn", "_law_at", "_law_kept"] ["_law_bag_here", "_law_size", "_law_most"] (defScope s_law_any_task) := ⟨rfl, rfl, rfl, by decide +kernel, rfl, by decide +kernel, by decide +kernel⟩
abbrev s_law_rings : Stmt := topS 71
theorem ns_law_rings : FnScope ["_law_bag_here", "_law_places", "_law_old", "_law_wish", "_law_left", "_law_ring", "_law_at", "_law_place"] ["_law_bag_here", "_law_places", "_law_old", "_law_wish"] (defScope s_law_rings) := ⟨rfl, rfl, rfl, by decide +kernel, rfl, by decide +kernel, by decide +kernel⟩
abbrev s_law_even_task : Stmt := topS 72
theorem ns_law_even_task : FnScope ["_law_bag_here", "_law_size", "_law_most", "_law_needs_here", "_law_held", "_law_old", "_law_spare", "_law_order", "_law_at", "_law_item", "_law_places", "_law_gone", "_law_wish"] ["_law_bag_here", "_law_size", "_law_most"] (defScope s_law_even_task) := ⟨rfl, rfl, rfl, by decide +kernel, rfl, by decide +kernel, by decide +kernel⟩
abbrev s_law_parted_task : Stmt := topS 73
theorem ns_law_parted_task : FnScope ["_law_bag_here", "_law_size", "_law_most", "_law_needs_here", "_law_old", "_law_wish", "_law_is_more", "_law_need", "_law_many", "_law_first", "_law_at", "_law_spare", "_law_order"] ["_law_bag_here", "_law_size", "_law_most"] (defScope s_law_parted_task) := ⟨rfl, rfl, rfl, by decide +kernel, rfl, by decide +kernel, by decide +kernel⟩
abbrev s_law_stayed_task : Stmt := topS 74
theorem ns_law_stayed_task : FnScope ["_law_bag_here", "_law_size", "_law_most", "_law_base", "_law_needs_here", "_law_old", "_law_wish", "_law_at", "_law_item", "_law_full", "_law_value", "_law_more", "_law_order"] ["_law_bag_here", "_law_size", "_law_most"] (defScope s_law_stayed_task) := ⟨rfl, rfl, rfl, by decide +kernel, rfl, by decide +kernel, by decide +kernel⟩
abbrev s_law_any_stretch : Stmt := topS 75
theorem ns_law_any_stretch : FnScope ["_law_bag_here", "_law_needs_here", "_law_layout", "_law_most", "_law_found", "_law_size", "_law_turn", "_law_place", "_law_source", "_law_one", "_law_is_new"] ["_law_bag_here", "_law_needs_here", "_law_layout", "_law_most"] (defScope s_law_any_stretch) := ⟨rfl, rfl, rfl, by decide +kernel, rfl, by decide +kernel, by decide +kernel⟩
abbrev s_law_met : Stmt := topS 76
theorem ns_law_met : FnScope ["_law_copies", "_law_found", "_law_place", "_law_source"] ["_law_copies"] (defScope s_law_met) := ⟨rfl, rfl, rfl, by decide +kernel, rfl, by decide +kernel, by decide +kernel⟩
abbrev s_law_led_task : Stmt := topS 77
theorem ns_law_led_task : FnScope ["_law_bag_here", "_law_size", "_law_most", "_law_turns", "_law_needs_here", "_law_old", "_law_layout", "_law_plan", "_law_turn", "_law_stretch", "_law_wish", "_law_at", "_law_kept"] ["_law_bag_here", "_law_size", "_law_most", "_law_turns"] (defScope s_law_led_task) := ⟨rfl, rfl, rfl, by decide +kernel, rfl, by decide +kernel, by decide +kernel⟩
abbrev s_law_beside : Stmt := topS 78
theorem ns_law_beside : FnScope ["_law_one", "_law_other", "_law_many", "_law_item", "_law_row", "_law_moved"] ["_law_one", "_law_other"] (defScope s_law_beside) := ⟨rfl, rfl, rfl, by decide +kernel, rfl, by decide +kernel, by decide +kernel⟩
abbrev s_law_task : Stmt := topS 79
theorem ns_law_task : FnScope ["_law_bag_here", "_law_size", "_law_most", "_law_way", "_law_half"] ["_law_bag_here", "_law_size", "_law_most"] (defScope s_law_task) := ⟨rfl, rfl, rfl, by decide +kernel, rfl, by decide +kernel, by decide +kernel⟩
abbrev s_law_source_of : Stmt := topS 80
theorem ns_law_source_of : FnScope ["_law_layout", "_law_place", "_law_item", "_law_at", "_law_one"] ["_law_layout", "_law_place", "_law_item"] (defScope s_law_source_of) := ⟨rfl, rfl, rfl, by decide +kernel, rfl, by decide +kernel, by decide +kernel⟩
abbrev s_law_next_copies : Stmt := topS 81
theorem ns_law_next_copies : FnScope ["_law_bag_here", "_law_task_here", "_law_layout", "_law_needs_here", "_law_old", "_law_wish", "_law_room", "_law_at", "_law_item", "_law_wrong", "_law_good", "_law_place", "_law_aside", "_law_behind"] ["_law_bag_here", "_law_task_here", "_law_layout"] (defScope s_law_next_copies) := ⟨rfl, rfl, rfl, by decide +kernel, rfl, by decide +kernel, by decide +kernel⟩
abbrev s_law_made_plan : Stmt := topS 82
theorem ns_law_made_plan : FnScope ["_law_bag_here", "_law_task_here", "_law_layout", "_law_plan", "_law_copies", "_law_copy"] ["_law_bag_here", "_law_task_here"] (defScope s_law_made_plan) := ⟨rfl, rfl, rfl, by decide +kernel, rfl, by decide +kernel, by decide +kernel⟩
abbrev s_law_is_stretch : Stmt := topS 83
theorem ns_law_is_stretch : FnScope ["_law_many", "_law_thing", "_law_copy", "_law_one", "_law_place", "_law_source", "_law_places", "_law_at"] ["_law_many", "_law_thing"] (defScope s_law_is_stretch) := ⟨rfl, rfl, rfl, by decide +kernel, rfl, by decide +kernel, by decide +kernel⟩
abbrev s_law_is_plan : Stmt := topS 84
theorem ns_law_is_plan : FnScope ["_law_many", "_law_thing", "_law_one"] ["_law_many", "_law_thing"] (defScope s_law_is_plan) := ⟨rfl, rfl, rfl, by decide +kernel, rfl, by decide +kernel, by decide +kernel⟩
abbrev s_law_is_led_whole : Stmt := topS 85
theorem ns_law_is_led_whole : FnScope ["_law_bag_here", "_law_store", "_law_needs_here", "_law_many", "_law_turn", "_law_place", "_law_value", "_law_need"] ["_law_bag_here", "_law_store", "_law_needs_here", "_law_many"] (defScope s_law_is_led_whole) := ⟨rfl, rfl, rfl, by decide +kernel, rfl, by decide +kernel, by decide +kernel⟩
abbrev s_law_losses : Stmt := topS 86
theorem ns_law_losses : FnScope ["_law_task_here", "_law_plan", "_law_layout", "_law_least", "_law_stretch", "_law_place", "_law_source", "_law_places", "_law_at", "_law_item"] ["_law_task_here", "_law_plan"] (defScope s_law_losses) := ⟨rfl, rfl, rfl, by decide +kernel, rfl, by decide +kernel, by decide +kernel⟩
abbrev s_law : Stmt := topS 87
theorem ns_law : FnScope ["_law_script", "_law_bag_here", "_law_turn", "_law_task_here", "_law_made", "_law_stretch", "_law_row", "_law_plan", "_law_paper", "_law_due", "_law_one", "_law_other"] ["_law_script"] (defScope s_law) := ⟨rfl, rfl, rfl, by decide +kernel, rfl, by decide +kernel, by decide +kernel⟩
end Wm

set_option Elab.async false
set_option linter.all false
set_option maxRecDepth 100000
set_option maxHeartbeats 0
/-! Wm.HD: the head (printed by a program of mine). -/
namespace Wm
open PySem PySem.Spec PyProof.Rows L2
def dd (x : Str) (st : Stmt) : He.DefD := ⟨(x, none), x, x, defArgs st, defBody st, defScope st, [], []⟩
def dm (x q : Str) (st : Stmt) : He.DefD := ⟨("Store", some x), x, q, defArgs st, defBody st, defScope st, [], []⟩
def fnH0 : List He.DefD := [dd "is_integer" s_is_integer, dd "is_below" s_is_below, dd "is_needs" s_is_needs, dd "is_layout" s_is_layout, dd "is_right" s_is_right, dd "is_task" s_is_task, dd "is_lot" s_is_lot, dd "is_copy" s_is_copy, dd "is_stretch" s_is_stretch, dd "is_plan" s_is_plan, dd "standings" s_standings, dd "places_of" s_places_of, dd "can_be_done" s_can_be_done, dd "led" s_led, dd "does" s_does, dd "outside" s_outside, dd "left_standings" s_left_standings, dd "lacking" s_lacking, dd "is_safe" s_is_safe, dd "layouts_through" s_layouts_through, dd "first_unsafe" s_first_unsafe, dd "is_safe_plan" s_is_safe_plan, dd "borne_losses" s_borne_losses, dd "can_go_safely" s_can_go_safely, dd "led_by_copies" s_led_by_copies, dd "is_row" s_is_row, dd "is_whole_run" s_is_whole_run, dd "cuts_of" s_cuts_of, dd "cut_row" s_cut_row, dd "row_paper" s_row_paper]
def fnH1 : List He.DefD := [dd "shown" s_shown, dd "readers" s_readers, dd "left_to_write" s_left_to_write, dd "_law_bag" s_law_bag, dd "_law_take" s_law_take, dd "_law_some" s_law_some, dd "_law_mixed" s_law_mixed, dd "_law_alike" s_law_alike, dd "_law_is_int" s_law_is_int, dd "_law_standings" s_law_standings, dd "_law_rooms" s_law_rooms, dd "_law_is_right" s_law_is_right, dd "_law_with_room" s_law_with_room, dd "_law_can_be_done" s_law_can_be_done, dd "_law_led" s_law_led, dd "_law_is_safe" s_law_is_safe, dd "_law_led_by" s_law_led_by, dd "_law_is_wanted" s_law_is_wanted, dd "_law_is_safe_plan" s_law_is_safe_plan, dd "_law_writes" s_law_writes, dd "_law_needs" s_law_needs, dd "_law_spread" s_law_spread, dd "_law_fit_needs" s_law_fit_needs, dd "_law_any_task" s_law_any_task, dd "_law_rings" s_law_rings, dd "_law_even_task" s_law_even_task, dd "_law_parted_task" s_law_parted_task, dd "_law_stayed_task" s_law_stayed_task, dd "_law_any_stretch" s_law_any_stretch, dd "_law_met" s_law_met]
def fnH2 : List He.DefD := [dd "_law_led_task" s_law_led_task, dd "_law_beside" s_law_beside, dd "_law_task" s_law_task, dd "_law_source_of" s_law_source_of, dd "_law_next_copies" s_law_next_copies, dd "_law_made_plan" s_law_made_plan, dd "_law_is_stretch" s_law_is_stretch, dd "_law_is_plan" s_law_is_plan, dd "_law_is_led_whole" s_law_is_led_whole, dd "_law_losses" s_law_losses, dd "law" s_law, dm "__init__" "Store.__init__" s_Store_init, dm "state" "Store.state" s_Store_state, dm "keep" "Store.keep" s_Store_keep, dm "places" "Store.places" s_Store_places, dm "tell" "Store.tell" s_Store_tell, dm "drop_whole" "Store.drop_whole" s_Store_drop_whole, dm "check_place" "Store.check_place" s_Store_check_place, dm "write" "Store.write" s_Store_write, dm "cut" "Store.cut" s_Store_cut, dm "left" "Store.left" s_Store_left, dm "mark" "Store.mark" s_Store_mark, dm "turn" "Store.turn" s_Store_turn]
def fnH : List He.DefD := fnH0 ++ (fnH1 ++ (fnH2))
def faH0 : List He.Fa := [.glo "is_integer", .glo "is_below", .glo "is_needs", .glo "is_layout", .glo "is_right", .glo "is_task", .glo "is_lot", .glo "is_copy", .glo "is_stretch", .glo "is_plan", .glo "standings", .glo "places_of", .glo "can_be_done", .glo "led", .glo "does", .glo "outside", .glo "left_standings", .glo "lacking", .glo "is_safe", .glo "layouts_through", .glo "first_unsafe", .glo "is_safe_plan", .glo "borne_losses", .glo "can_go_safely", .glo "led_by_copies", .glo "is_row", .glo "is_whole_run", .glo "cuts_of", .glo "cut_row", .glo "row_paper"]
def faH1 : List He.Fa := [.glo "shown", .glo "readers", .glo "left_to_write", .glo "_law_bag", .glo "_law_take", .glo "_law_some", .glo "_law_mixed", .glo "_law_alike", .glo "_law_is_int", .glo "_law_standings", .glo "_law_rooms", .glo "_law_is_right", .glo "_law_with_room", .glo "_law_can_be_done", .glo "_law_led", .glo "_law_is_safe", .glo "_law_led_by", .glo "_law_is_wanted", .glo "_law_is_safe_plan", .glo "_law_writes", .glo "_law_needs", .glo "_law_spread", .glo "_law_fit_needs", .glo "_law_any_task", .glo "_law_rings", .glo "_law_even_task", .glo "_law_parted_task", .glo "_law_stayed_task", .glo "_law_any_stretch", .glo "_law_met"]
def faH2 : List He.Fa := [.glo "_law_led_task", .glo "_law_beside", .glo "_law_task", .glo "_law_source_of", .glo "_law_next_copies", .glo "_law_made_plan", .glo "_law_is_stretch", .glo "_law_is_plan", .glo "_law_is_led_whole", .glo "_law_losses", .glo "law", .free "len", .free "all", .free "abs", .free "min", .free "max", .free "sum", .free "sorted", .free "repr", .free "isinstance", .free "int", .free "bool", .free "list", .free "tuple", .free "range", .free "enumerate", .free "zip", .glo "Store", .mkr "Store", .meth "Store" "state"]
def faH3 : List He.Fa := [.meth "Store" "keep", .meth "Store" "places", .meth "Store" "tell", .meth "Store" "drop_whole", .meth "Store" "check_place", .meth "Store" "write", .meth "Store" "cut", .meth "Store" "left", .meth "Store" "mark", .meth "Store" "turn"]
def faH : List He.Fa := faH0 ++ (faH1 ++ (faH2 ++ (faH3)))
def namesH0 : List Str := ["is_integer", "is_below", "is_needs", "is_layout", "is_right", "is_task", "is_lot", "is_copy", "is_stretch", "is_plan", "standings", "places_of", "can_be_done", "led", "does", "outside", "left_standings", "lacking", "is_safe", "layouts_through", "first_unsafe", "is_safe_plan", "borne_losses", "can_go_safely", "led_by_copies", "is_row", "is_whole_run", "cuts_of", "cut_row", "row_paper"]
def namesH1 : List Str := ["shown", "readers", "left_to_write", "_law_bag", "_law_take", "_law_some", "_law_mixed", "_law_alike", "_law_is_int", "_law_standings", "_law_rooms", "_law_is_right", "_law_with_room", "_law_can_be_done", "_law_led", "_law_is_safe", "_law_led_by", "_law_is_wanted", "_law_is_safe_plan", "_law_writes", "_law_needs", "_law_spread", "_law_fit_needs", "_law_any_task", "_law_rings", "_law_even_task", "_law_parted_task", "_law_stayed_task", "_law_any_stretch", "_law_met"]
def namesH2 : List Str := ["_law_led_task", "_law_beside", "_law_task", "_law_source_of", "_law_next_copies", "_law_made_plan", "_law_is_stretch", "_law_is_plan", "_law_is_led_whole", "_law_losses", "law", "Store"]
def namesH : List Str := namesH0 ++ (namesH1 ++ (namesH2))
def looseH0 : List Str := ["_wall", "__name__", "is_integer", "is_below", "is_needs", "is_layout", "is_right", "is_task", "is_lot", "is_copy", "is_stretch", "is_plan", "MoveError", "CannotDo", "NoPlace", "NoSource", "NotDone", "Nothing", "Wrong", "standings", "places_of", "can_be_done", "led", "does", "outside", "left_standings", "lacking", "is_safe", "layouts_through", "first_unsafe"]
def looseH1 : List Str := ["is_safe_plan", "borne_losses", "can_go_safely", "led_by_copies", "is_row", "is_whole_run", "cuts_of", "cut_row", "row_paper", "Store", "shown", "readers", "left_to_write", "_law_bag", "_law_take", "_law_some", "_law_mixed", "_law_alike", "_law_is_int", "_law_standings", "_law_rooms", "_law_is_right", "_law_with_room", "_law_can_be_done", "_law_led", "_law_is_safe", "_law_led_by", "_law_is_wanted", "_law_is_safe_plan", "_law_writes"]
def looseH2 : List Str := ["_law_needs", "_law_spread", "_law_fit_needs", "_law_any_task", "_law_rings", "_law_even_task", "_law_parted_task", "_law_stayed_task", "_law_any_stretch", "_law_met", "_law_led_task", "_law_beside", "_law_task", "_law_source_of", "_law_next_copies", "_law_made_plan", "_law_is_stretch", "_law_is_plan", "_law_is_led_whole", "_law_losses"]
def looseH : List Str := looseH0 ++ (looseH1 ++ (looseH2))
def refOf : Option Value → List Addr
  | some (.ref a) => [a]
  | _ => []
def gAt (g : Addr → Option Obj) (d : Addr) (x : Str) : Option Value := match g d with
  | some ⟨_, _, .dict es _, _⟩ => (es.toList.find? fun e => e.key.isStr x).map (·.val)
  | _ => none
def refs1 (g : Addr → Option Obj) (a : Addr) : List Addr := match g a with
  | some o => He.refsO o
  | none => []
def fnRefs (g : Addr → Option Obj) (a : Addr) : List Addr := match g a with
  | some ⟨_, _, .func fd, _⟩ => He.refV fd.code
  | _ => []
def clsNs (g : Addr → Option Obj) (a : Addr) : List Addr := match g a with
  | some ⟨_, _, .cls cd, _⟩ => [cd.ns]
  | _ => []
/-- the objects that are looked at: by paths -/
def asW (g : Addr → Option Obj) : List Addr :=
  let A := namesH.flatMap fun x => refOf (gAt g mainGlobals x)
  let S := refOf (gAt g mainGlobals "Store")
  let D := S.flatMap fun a => (clsNs g a).flatMap (refs1 g)
  mainGlobals :: (A ++ (A.flatMap (fnRefs g) ++ (S.flatMap (clsNs g) ++ (D ++ D.flatMap (fnRefs g)))))
def slotsH : List (Str × Nat) := [("its_index", 0), ("its_layouts", 1), ("its_lost", 2), ("its_past", 3), ("its_plan", 4), ("its_task", 5), ("its_told", 6), ("its_way", 7), ("its_whole", 8)]
def slotB (K : PySem.W.Frag) (C : Addr) (q : Str × Nat) : Bool :=
  He.eqO (PySem.W.findIn K (.ref C) q.1) (some (some (.ref (He.ma K C q.1)))) && (He.eqO (PySem.W.specialIn K (.ref (He.ma K C q.1)) "__get__") (some (some (.builtin "member_descriptor.__get__"))) && (decide (PySem.W.takesIn K (.ref (He.ma K C q.1)) = some true) &&
    (decide (PySem.W.slotIn K (He.ma K C q.1) C = some q.2) && decide (PySem.W.typeIn K (.ref (He.ma K C q.1)) = some (.type "member_descriptor")))))
def exH (K : PySem.W.Frag) : Bool := PySem.W.plainGet K (He.ga K "Store") Str.empty && (PySem.W.isClsIn K (He.ga K "Store") && (PySem.W.plainOver K (He.ga K "Store") && (He.eqO (PySem.W.findIn K (.ref (He.ga K "Store")) "__setattr__") (some (some (.builtin "object.__setattr__"))) && slotsH.all (slotB K (He.ga K "Store")))))
abbrev AlW : Type := He.AlD × Bool
def obsW (g : Addr → Option Obj) : AlW := (He.obsD faH fnH (He.frG g (asW g)), exH (He.frG g (asW g)))
def hookW : PySem.W.Hook where
  α := AlW
  obs := fun s => obsW s.heap.get?
  val := fun _ => (He.valD fnH, true)
  says := fun _ h => ∃ K : PySem.W.Frag, K.In h ∧ He.SaysD faH fnH K ∧ exH K = true
  of := fun _ _ e => ⟨_, He.frG_in, congrArg (fun z : AlW => z.1) e, congrArg (fun z : AlW => z.2) e⟩
  keeps := fun _ _ _ ⟨K, hK, c⟩ k => ⟨K, PySem.W.Frag.In.keeps hK k, c⟩
abbrev RH : PySem.W.OpenRow := PySem.W.OpenLaw.row PySem.Challenge.rw_whilemoved_k22_whole_rows_led_by_stores
def obH (s : PySem.W.SharedT) : AlW := obsW (HandSHeadRun.getT s)
theorem obH_eq (s : PySem.W.SharedT) : obH s = hookW.obs s.abs := by
  have e : HandSHeadRun.getT s = s.abs.heap.get? := funext (HandSHeadRun.getT_eq s)
  unfold obH
  rw [e] <;> rfl
abbrev viewAt : Nat := 87
theorem runH (w : World) : HandSHeadRun.RunEq RH (PySem.W.view RH.prog [viewAt]) hookW obH 8000 looseH w := by
  intro os
  kernel_rfl
end Wm

set_option Elab.async false
set_option linter.all false
set_option maxRecDepth 100000
set_option maxHeartbeats 4000000
/-! Wm.HE: from the law's call to the statement. -/
namespace Wm
open PySem PySem.W PySem.Calls PyProof.Rows
theorem holds_of (call : WalkO (view RH.prog [viewAt]) looseH (XL (view RH.prog [viewAt]) []) hookW.says RH.toRowW (HandSHeadRun.topDef RH.prog viewAt) [] fun f vs => PySem.call f vs) : PySem.Challenge.rw_whilemoved_k22_whole_rows_led_by_stores.Holds := by
  w_on; o_law
  refine HandSHeadRun.head_any (r := Wm.RH) (q := view Wm.RH.prog [Wm.viewAt]) (H := Wm.hookW) (ob := Wm.obH) (M := 8000) (loose := Wm.looseH) (d := HandSHeadRun.topDef Wm.RH.prog Wm.viewAt) (kwd := []) Wm.obH_eq
    (by kernel_rfl) (fun s => by kernel_rfl) Wm.runH (by kernel_rfl) (by kernel_rfl) (by kernel_rfl) (by rfl) (by first | assumption | decide +kernel) (by decide +kernel) ⟨rfl, rfl, rfl, rfl, rfl, by decide +kernel⟩ ?hw call
  w_witness2
end Wm

namespace Wm
open PySem PySem.Spec L2
set_option Elab.async false
set_option linter.all false
set_option maxRecDepth 100000
set_option maxHeartbeats 2000000
/-! Wm.M: encodings, the forms. -/


local macro_rules | `(tactic| wtm_at "look") => `(tactic| first
  | with_reducible exact look_miss (by decide) (by wtm_at "look")
  | with_reducible exact look_hit (by decide) (by wtm_at "look")
  | with_unfolding_all exact rfl)
local macro_rules | `(tactic| wtm_at "XN") => `(tactic| first | exact xo_N | exact blk_N xo_N | exact blk_N (blk_N xo_N))
local macro_rules | `(tactic| wtm_at "XS") => `(tactic| first | exact xo_S | exact blk_S xo_S | exact blk_S (blk_S xo_S))
local macro_rules | `(tactic| wtm_at "idx") => `(tactic| with_reducible (first | exact nidx_0 | exact nidx_s (by wtm_at "idx")))
local macro_rules | `(tactic| wtm_at "vis") => `(tactic| first | exact Or.inl rfl | exact Or.inr (Or.inl rfl) | exact Or.inr (Or.inr rfl))
local macro_rules | `(tactic| wtm_at "loc") => `(tactic| first | exact Or.inl rfl | exact Or.inr rfl)
local macro_rules | `(tactic| wtm_at "var") => `(tactic| refine nd_v (by wtm_at "XN") (by wtm_at "idx") (by wtm_at "look") (by wtm_at "vis") ?_)
local macro_rules | `(tactic| wtm_at "calm") => `(tactic| first | exact rfl | assumption)
local macro_rules | `(tactic| wtm_at "g") => `(tactic| first
  | (refine ⟨_, rfl, ?_⟩)
  | (refine ⟨_, _, rfl, ?_⟩)
  | (refine ⟨_, _, _, rfl, ?_⟩)
  | (refine ⟨_, _, _, _, rfl, ?_⟩)
  | (refine ⟨_, _, _, _, _, rfl, ?_⟩)
  | ((with_reducible refine sh_sz ?_); refine ⟨by first | decide | (simp; done) | fail, ?_⟩)
  | (refine Or.inl ⟨_, rfl, ?_⟩)
  | (refine Or.inr ⟨_, rfl, ?_⟩)
  | (refine ⟨_, Or.inl rfl, ?_⟩)
  | (refine ⟨_, Or.inr rfl, ?_⟩))
local macro_rules | `(tactic| wtm_at "b") => `(tactic| with_reducible (first | refine bin_add ?_ | refine bin_sub ?_ | refine cmp_lt ?_ | refine cmp_le ?_ | refine cmp_gt ?_ | refine cmp_ge ?_ | refine cmp_isN ?_ | refine cmp_notN ?_ | refine cmp_notB ?_ ))

local macro_rules | `(tactic| wtm_at "b") => `(tactic| first
  | ((with_reducible refine sh_eqI ?_); refine cmp_eqI (by assumption) ?_)
  | ((with_reducible refine sh_neI ?_); refine cmp_neI (by assumption) ?_))
local macro_rules | `(tactic| wtm_at "side") => `(tactic| first | assumption | omega | decide | exact Or.inl (by omega) | exact Or.inr (by omega) | exact ⟨by decide, by decide⟩ | exact ⟨by decide, by decide, by decide⟩ | fail)
local macro_rules | `(tactic| wtm_at "b") => `(tactic| first
  | ((with_reducible refine sh_bmod ?_); refine bin_mod (by wtm_at "side") ?_)
  | ((with_reducible refine sh_bmul ?_); refine bin_mul (by wtm_at "side") ?_)
  | ((with_reducible refine sh_bfdiv ?_); refine bin_fdiv (by wtm_at "side") ?_)
  | ((with_reducible refine sh_bpow ?_); refine bin_pow (by wtm_at "side") ?_))
local macro_rules | `(tactic| wtm_at "c") => `(tactic| first
  | ((with_reducible refine sh_lenN ?_); refine nd_lenOwn (by assumption) (by wtm_at "XN") (by wtm_at "idx") (by wtm_at "look") (by wtm_at "vis") ?_)
  | ((with_reducible refine sh_len ?_); refine nd_len (by assumption) ?_)
  | ((with_reducible refine sh_is_int ?_); refine nd_isInt (by assumption) ?_)
  | ((with_reducible refine sh_is_bool ?_); refine nd_isBool (by assumption) ?_)
  | ((with_reducible refine sh_is_tuple ?_); refine nd_isTup (by assumption) ?_)
  | ((with_reducible refine sh_all ?_); refine nd_allF (by assumption) (by wtm_at "calm") ?_)
  | ((with_reducible refine sh_tuple ?_); refine nd_tupc (by assumption) ?_)
  | ((with_reducible refine sh_listRg ?_); refine nd_listRg (by assumption) (by wtm_at "calm") ?_)
  | ((with_reducible refine sh_list ?_); refine nd_listc (by assumption) ?_)
  | ((with_reducible refine sh_min ?_); refine nd_min2 (by assumption) (by wtm_at "calm") ?_)
  | ((with_reducible refine sh_max ?_); refine nd_max2 (by assumption) (by wtm_at "calm") ?_)
  | ((with_reducible refine sh_abs ?_); refine nd_abs (by assumption) ?_)
  | ((with_reducible refine sh_int ?_); refine nd_intA (by assumption) ?_))
local macro_rules | `(tactic| wtm_at "e") => `(tactic| first
  | ((with_reducible refine sh_name ?_); wtm_at "var")
  | with_reducible (first | refine nd_int ?_ | refine nd_bool ?_ | refine nd_none ?_ | refine nd_str ?_ | refine nd_and ?_ | refine nd_or ?_ | refine nd_and1 ?_ | refine nd_not ?_ | refine nd_if ?_ | refine nd_bin ?_ | refine nd_neg ?_ | refine nd_tup ?_ | refine nd_lst ?_ | refine na_nil ?_ | refine np_none ?_ | refine np_some ?_ | refine nt_not ?_ | refine nt_and ?_ | refine nt_or ?_ | refine nw_and ?_ | refine nw_or ?_ | refine nw_and1 ?_ | refine nw_or1 ?_)
  | ((with_reducible refine sh_cmp ?_); refine nd_cmp ?_)
  | ((with_reducible refine sh_chain ?_); refine nd_chain ?_)
  | ((with_reducible refine sh_outR ?_); refine nt_outR (by assumption) ?_)
  | ((with_reducible refine sh_tcmp ?_); refine nt_cmp ?_)
  | ((with_reducible refine sh_tchain ?_); refine nt_chain ?_)
  | ((with_reducible refine sh_tcall ?_); refine nt_val ?_)
  | ((with_reducible refine sh_tname ?_); refine nt_val ?_)
  | ((with_reducible refine sh_slice ?_); (first | (refine nd_sliceT ?_; wtm_at "var"; refine ⟨_, rfl, ?_⟩) | (refine nd_slice ?_; wtm_at "var"; refine ⟨_, rfl, ?_⟩)))
  | ((with_reducible refine sh_bagAt ?_); refine nd_bagAt (by wtm_at "XN") (by wtm_at "idx") (by wtm_at "look") (by wtm_at "vis") ?_; (first | refine Or.inl ⟨rfl, ?_⟩ | refine Or.inr (Or.inl ⟨rfl, ?_⟩) | refine Or.inr (Or.inr (Or.inl ⟨rfl, ?_⟩))))
  | ((with_reducible refine sh_subN ?_); refine nd_subOwn (by wtm_at "XN") (by wtm_at "idx") (by wtm_at "look") ?_)
  | ((with_reducible refine sh_sub ?_); refine nd_sub ?_)
  | ((with_reducible refine sh_cons ?_); (first | refine na_cons ?_ | refine na_star ?_))
  | ((with_reducible refine sh_count ?_); refine nd_count (u65 (by assumption)) ?_)
  | ((with_reducible refine sh_call ?_); wtm_at "c")
  | ((with_reducible refine sh_lc1 ?_); refine nd_lc1 (by wtm_at "XN") (by wtm_at "idx") (by wtm_at "calm") (by decide +kernel) ?_ (by wtm_at "XS"))
  | ((with_reducible refine sh_lc2 ?_); refine nd_lc2 (by wtm_at "XN") (by wtm_at "idx") (by wtm_at "idx") (by wtm_at "calm") (by decide +kernel) ?_ (by wtm_at "XS") (hpg := by wtm_at "pg")))
local macro_rules | `(tactic| wtm_at "pg") => `(tactic| first
  | exact pg_pair (by wtm_at "calm") (by wtm_at "XN") (by wtm_at "idx") (by wtm_at "idx") (by decide +kernel) (by wtm_at "loc") (by wtm_at "loc") (by wtm_at "loc") (by wtm_at "loc")
  | exact fun _ _ _ _ _ => pg_pair (by wtm_at "calm") (by wtm_at "XN") (by wtm_at "idx") (by wtm_at "idx") (by decide +kernel) (by wtm_at "loc") (by wtm_at "loc") (by wtm_at "loc") (by wtm_at "loc"))
local macro_rules | `(tactic| wtm_at "i") => `(tactic| ((with_reducible refine sh_ite ?_); (first | refine iteT ?_ | refine iteF ?_)))
local macro_rules | `(tactic| wtm_at "Brange") => `(tactic| exact Bi.range (by assumption))
local macro_rules | `(tactic| wtm_at "Bzip") => `(tactic| exact Bi.zip (by assumption))
local macro_rules | `(tactic| wtm_at "Ben") => `(tactic| exact Bi.enumerate (by assumption))
local macro_rules | `(tactic| wtm_at "s") => `(tactic| first
  | with_reducible (first | refine es_nil ?_ | refine es_one ?_ | refine es_cons ?_ | refine e1_if ?_ | refine e1_ret ?_ | refine e1_pass ?_ | refine e1_cont ?_)
  | ((with_reducible refine sh_tri ?_); refine e1_tri (by wtm_at "calm") (by wtm_at "XN") (by wtm_at "idx") (by wtm_at "idx") (by wtm_at "idx") (by decide +kernel) (by wtm_at "loc") (by wtm_at "loc") (by wtm_at "loc") (by wtm_at "loc") (by wtm_at "loc") (by wtm_at "loc") ?_))
local macro_rules | `(tactic| wtm_at "seq") => `(tactic| first | (refine ni_list ?_; wtm_at "var"; refine ⟨_, rfl, ?_⟩) | (refine ni_tup ?_; wtm_at "var"; refine ⟨_, rfl, ?_⟩))
local macro_rules | `(tactic| wtm_at "slc1") => `(tactic| refine e1_slc1 (by wtm_at "XN") (by wtm_at "idx") (by wtm_at "idx") (by wtm_at "calm") (by decide +kernel) (by wtm_at "XS") (by exact rfl) ?_)
local macro_rules | `(tactic| wtm_at "slc2") => `(tactic| refine e1_slc2 (by wtm_at "XN") (by wtm_at "idx") (by wtm_at "idx") (by wtm_at "idx") (by wtm_at "calm") (by decide +kernel) (by wtm_at "XS") (by exact rfl) ?_ (by wtm_at "pg"))
local macro_rules | `(tactic| wtm_at "bset") => `(tactic| refine e1_bagSet (by wtm_at "XN") (by wtm_at "idx") (by wtm_at "look") (by wtm_at "vis") ?_)
local macro_rules | `(tactic| wtm_at "badd") => `(tactic| refine e1_bagAdd (by wtm_at "XN") (by wtm_at "idx") (by wtm_at "look") (by wtm_at "vis") ?_)
local macro_rules | `(tactic| wtm_at "M") => `(tactic| first | exact fun _ h => absurd h List.not_mem_nil | (intro q h; rw [List.mem_singleton.mp h]; assumption))
local macro_rules | `(tactic| wtm_at "set") => `(tactic| refine e1_v (by wtm_at "XN") (by wtm_at "idx") (by decide +kernel) ?_ (by wtm_at "loc") (by wtm_at "loc"))
local macro_rules | `(tactic| wtm_at "own") => `(tactic| refine e1_vL (by wtm_at "XN") (by wtm_at "idx") (by decide +kernel) (by wtm_at "M") ?_ (by wtm_at "loc") (by wtm_at "loc"))
local macro_rules | `(tactic| wtm_at "for2") => `(tactic| refine e1_for2 (by wtm_at "XN") (by wtm_at "idx") (by wtm_at "idx") (by decide +kernel) (by wtm_at "calm") PassesOwn.never (by wtm_at "pg") ?_)
local macro_rules | `(tactic| wtm_at "for1") => `(tactic| refine e1_for1 (by wtm_at "XN") (by wtm_at "idx") (by decide +kernel) (by wtm_at "calm") PassesOwn.never (by wtm_at "loc") (by wtm_at "loc") ?_)
local macro_rules | `(tactic| wtm_at "w") => `(tactic| first | wtm_at "e" | wtm_at "b" | wtm_at "i" | wtm_at "s" | wtm_at "g")
local macro_rules | `(tactic| wtm_at "x") => `(tactic| first | wtm_at "e" | wtm_at "b" | wtm_at "i" | wtm_at "g")
local macro_rules | `(tactic| wtm_at "bm") => `(tactic| exact List.mem_of_getElem? (i := 0) (by wtm_at "look"))
local macro_rules | `(tactic| wtm_at "m2") => `(tactic| first
  | exact m2_parN (st := .Pass ⟨0, 0, 0, 0⟩) (by wtm_at "calm") (by wtm_at "XN") (by wtm_at "idx") (by wtm_at "idx") (by decide +kernel) (by decide)
  | exact m2_tupN (st := .Pass ⟨0, 0, 0, 0⟩) (by wtm_at "calm") (by wtm_at "XN") (by wtm_at "idx") (by wtm_at "idx") (by decide +kernel) (by wtm_at "loc") (by wtm_at "loc") (by wtm_at "loc") (by wtm_at "loc"))
local macro_rules | `(tactic| wtm_at "ooov") => `(tactic| refine e1_ooov (by wtm_at "calm") (by wtm_at "XN") (by wtm_at "idx") (by wtm_at "idx") (by wtm_at "idx") (by wtm_at "idx") (by decide +kernel) (by wtm_at "loc") (by wtm_at "loc") (by wtm_at "loc") (by wtm_at "loc") (by wtm_at "loc") (by wtm_at "loc") (by wtm_at "loc") (by wtm_at "loc") (by wtm_at "M") ?_)

/-! ### encodings -/
abbrev Ly := List (Option Nat)
abbrev St1 := List (Nat × Nat)
def oD : Option Nat → PyData
  | none => .none
  | some v => .int (v : Nat)
def nsD (ns : List Nat) : PyData := .tuple (ns.map iD)
def lyD (l : Ly) : PyData := .tuple (l.map oD)
def cpD (c : Nat × Nat) : PyData := .tuple [iD c.1, iD c.2]
def stD (s : St1) : PyData := .tuple (s.map cpD)
def plD (p : List St1) : PyData := .tuple (p.map stD)
def tkD (n : List Nat) (o w : Ly) : PyData := .tuple [nsD n, lyD o, lyD w]
def isIntD : PyData → Bool
  | .int _ => true
  | _ => false
theorem flat_iD (ns : List Nat) : (ns.map iD).all flatD = true := by
  rw [List.all_map, List.all_eq_true]
  intro _ _
  rfl
theorem flat_o (o : Option Nat) : flatD (oD o) = true := by cases o <;> rfl
theorem flat_oD (l : Ly) : (l.map oD).all flatD = true := by
  rw [List.all_map, List.all_eq_true]
  intro o _
  exact flat_o o
theorem eqv_ii (a b : Nat) : PyData.eqv (iD a) (iD b) = decide (a = b) := by
  by_cases h : a = b
  · subst h
    simp [PyData.eqv]
  · have h2 : (a : Int) ≠ b := by omega
    simp [PyData.eqv, h, h2]
theorem eqv_oo (a b : Option Nat) : PyData.eqv (oD a) (oD b) = decide (a = b) := by
  cases a <;> cases b <;> first | rfl | simp only [Option.some.injEq]; exact eqv_ii _ _
theorem isN_o (o : Option Nat) : isN (oD o) = o.isNone := by cases o <;> rfl
/-- how often v stands in l -/
def cnt (l : Ly) (v : Nat) : Nat := l.countP fun o => decide (o = some v)
theorem cnt_eqv (l : Ly) (v : Nat) : (l.map oD).countP (fun z => PyData.eqv z (iD v)) = cnt l v := by
  rw [List.countP_map]
  unfold cnt
  congr 1
  funext o
  exact eqv_oo o (some v)
theorem all_true {α : Type} (L : List α) : (L.all fun _ => true) = true := List.all_eq_true.mpr fun _ _ => rfl
section
variable {P : Program} {w : World} {K : PySem.W.Frag} {mg : Str → Option Value} {base : Heap}
def S_is_integer : Spc := fun ds R => ∃ d, ds = [d] ∧ R (.bool (isIntD d))
theorem k_is_integer (D : Fd K mg "is_integer" s_is_integer) (T : Bi mg) : Fk P w K mg base 1 "is_integer" (pSp S_is_integer) := by
  refine fk_p D ns_is_integer (fun _ _ _ _ _ _ us hl => match us, hl with | [_], _ => rfl) (fun ds R h => ?_) (fun f cdv A outer s H E hr F ds R h => ?_)
  · obtain ⟨d, rfl, q⟩ := h
    rfl
  obtain ⟨d, rfl, q⟩ := h
  refine es_one (e1_ret ?_)
  repeat wtm_at "w"
  cases d <;> first
    | (refine iteF ?_; exact q)
    | (refine iteT ?_; (repeat wtm_at "w"); exact q)
/-- is_below(many, thing) -/
def S_is_below : Spc := fun ds R => ∃ (m v : Nat), ds = [iD m, iD v] ∧ R (.bool (decide (v < m)))
theorem k_is_below (D : Fd K mg "is_below" s_is_below) (T : Bi mg) (G_is_integer : Fk P w K mg base 1 "is_integer" (pSp S_is_integer)) : Fk P w K mg base 2 "is_below" (pSp S_is_below) := by
  refine fk_p D ns_is_below (fun _ _ _ _ _ _ us hl => match us, hl with | [_, _], _ => rfl) (fun ds R h => ?_) (fun f cdv A outer s H E hr F ds R h => ?_)
  · obtain ⟨m, v, rfl, q⟩ := h
    rfl
  obtain ⟨m, v, rfl, q⟩ := h
  refine es_one (e1_ret ?_)
  repeat wtm_at "w"
  refine nd_call (k := 1) G_is_integer hr ?_
  repeat wtm_at "w"
  show R _
  have e2 : decide ((v : Int) < (m : Nat)) = decide (v < m) := by simp
  rw [e2]
  exact q
/-- is_needs(thing): of needs -/
def S_is_needs : Spc := fun ds R => ∃ ns : List Nat, ds = [nsD ns] ∧ (∀ n ∈ ns, 1 ≤ n) ∧ ns.length ≤ 100000 ∧ R (.bool true)
theorem k_is_needs (D : Fd K mg "is_needs" s_is_needs) (T : Bi mg) (G_is_integer : Fk P w K mg base 1 "is_integer" (pSp S_is_integer)) : Fk P w K mg base 2 "is_needs" (pSp S_is_needs) := by
  refine fk_p D ns_is_needs (fun _ _ _ _ _ _ us hl => match us, hl with | [_], _ => rfl) (fun ds R h => ?_) (fun f cdv A outer s H E hr F ds R h => ?_)
  · obtain ⟨ns, rfl, h1, hz, q⟩ := h
    rfl
  obtain ⟨ns, rfl, h1, hz, q⟩ := h
  refine es_one (e1_ret ?_)
  repeat wtm_at "w"
  refine ni_tup ?_
  repeat wtm_at "w"
  refine lc_all (f := fun _ => .bool true) hz (fun a ha => tgn_name fun s0 H0 C cl fp => ?_) ?_
  · repeat wtm_at "w"
    refine nd_call (k := 1) G_is_integer hr ?_
    repeat wtm_at "w"
    show PyData.bool _ = _
    have := h1 a ha
    simp
    omega
  refine ⟨_, _, _, rfl, ?_⟩
  show R _
  rw [all_true]
  exact q
/-- is_layout(needs, thing): of a layout or wish -/
def S_is_layout : Spc := fun ds R => ∃ (ns : List Nat) (l : Ly), ds = [nsD ns, lyD l] ∧ (∀ v, some v ∈ l → v < ns.length) ∧ l.length ≤ 100000 ∧ R (.bool true)
theorem k_is_layout (D : Fd K mg "is_layout" s_is_layout) (T : Bi mg) (G_is_below : Fk P w K mg base 2 "is_below" (pSp S_is_below)) : Fk P w K mg base 3 "is_layout" (pSp S_is_layout) := by
  refine fk_p D ns_is_layout (fun _ _ _ _ _ _ us hl => match us, hl with | [_, _], _ => rfl) (fun ds R h => ?_) (fun f cdv A outer s H E hr F ds R h => ?_)
  · obtain ⟨ns, l, rfl, h1, hz, q⟩ := h
    rfl
  obtain ⟨ns, l, rfl, h1, hz, q⟩ := h
  refine es_one (e1_ret ?_)
  repeat wtm_at "w"
  refine ni_tup ?_
  repeat wtm_at "w"
  refine lc_all (enc := oD) (f := fun _ => .bool true) hz (fun a ha => tgn_name fun s0 H0 C cl fp => ?_) ?_
  · repeat wtm_at "w"
    cases a with
    | none =>
      repeat wtm_at "w"
      rfl
    | some v =>
      repeat wtm_at "w"
      refine nd_call (k := 2) G_is_below hr ?_
      repeat wtm_at "w"
      show PyData.bool _ = _
      have := h1 v ha
      simp
      omega
  refine ⟨_, _, _, rfl, ?_⟩
  show R _
  rw [all_true]
  exact q
/-- right layouts, wishes -/
structure Rt (ns : List Nat) (l : Ly) : Prop where
  lt : ∀ v, some v ∈ l → v < ns.length
  ge : ∀ i n, ns[i]? = some n → n ≤ cnt l i
def S_is_right : Spc := fun ds R => ∃ (ns : List Nat) (l : Ly), ds = [nsD ns, lyD l] ∧ Rt ns l ∧ l.length ≤ 100000 ∧ ns.length ≤ 100000 ∧ R (.bool true)
theorem k_is_right (D : Fd K mg "is_right" s_is_right) (T : Bi mg) (G_is_layout : Fk P w K mg base 3 "is_layout" (pSp S_is_layout)) : Fk P w K mg base 4 "is_right" (pSp S_is_right) := by
  refine fk_p D ns_is_right (fun _ _ _ _ _ _ us hl => match us, hl with | [_, _], _ => rfl) (fun ds R h => ?_) (fun f cdv A outer s H E hr F ds R h => ?_)
  · obtain ⟨ns, l, rfl, h1, hz, hz2, q⟩ := h
    rfl
  obtain ⟨ns, l, rfl, h1, hz, hz2, q⟩ := h
  refine es_one (e1_ret ?_)
  repeat wtm_at "w"
  refine nd_call (k := 3) G_is_layout hr ?_
  repeat wtm_at "w"
  refine ⟨h1.lt, hz, ?_⟩
  repeat wtm_at "w"
  refine ni_enumT (by wtm_at "Ben") ?_
  repeat wtm_at "w"
  rw [enumD_map]
  refine lc_all (f := fun _ => .bool true) (by rw [List.length_zipIdx]; exact hz2) (fun a ha => tgn_pair fun s0 H0 C cl fp => ?_) ?_
  · repeat wtm_at "w"
    refine ⟨flat_oD l, ?_⟩
    repeat wtm_at "w"
    refine ⟨rfl, ?_⟩
    rw [cnt_eqv]
    repeat wtm_at "w"
    show PyData.bool _ = _
    have h2 := h1.ge a.2 a.1 (by have := List.mem_zipIdx_iff_getElem?.mp ha; exact this)
    simp
    omega
  refine ⟨_, _, _, rfl, ?_⟩
  show R _
  rw [all_true]
  exact q
/-- a task -/
structure Tk (ns : List Nat) (o w : Ly) : Prop where
  n1 : ∀ n ∈ ns, 1 ≤ n
  old : Rt ns o
  wish : Rt ns w
  len : w.length = o.length
  sz : o.length ≤ 100000
  szn : ns.length ≤ 100000
def S_is_task : Spc := fun ds R => ∃ (ns : List Nat) (o w : Ly), ds = [tkD ns o w] ∧ Tk ns o w ∧ R (.bool true)
theorem k_is_task (D : Fd K mg "is_task" s_is_task) (T : Bi mg) (G_is_needs : Fk P w K mg base 2 "is_needs" (pSp S_is_needs)) (G_is_right : Fk P w K mg base 4 "is_right" (pSp S_is_right)) : Fk P w K mg base 5 "is_task" (pSp S_is_task) := by
  refine fk_p D ns_is_task (fun _ _ _ _ _ _ us hl => match us, hl with | [_], _ => rfl) (fun ds R h => ?_) (fun f cdv A outer s H E hr F ds R h => ?_)
  · obtain ⟨ns, o, w', rfl, h1, q⟩ := h
    rfl
  obtain ⟨ns, o, w', rfl, h1, q⟩ := h
  refine es_cons ?_
  repeat wtm_at "w"
  refine nd_call (k := 4) G_is_needs hr ?_
  repeat wtm_at "w"
  refine ⟨h1.n1, h1.szn, ?_⟩
  repeat wtm_at "w"
  refine nd_call (k := 4) G_is_right hr ?_
  repeat wtm_at "w"
  refine ⟨h1.old, h1.sz, h1.szn, ?_⟩
  repeat wtm_at "w"
  refine nd_call (k := 4) G_is_right hr ?_
  repeat wtm_at "w"
  refine ⟨h1.wish, by rw [h1.len]; exact h1.sz, h1.szn, ?_⟩
  repeat wtm_at "w"
  show R (.bool (decide _))
  rw [List.length_map, List.length_map, h1.len, decide_eq_true rfl]
  exact q
end
section
variable {P : Program} {w : World} {K : PySem.W.Frag} {mg : Str → Option Value} {base : Heap}
/-- ascending -/
def asc (xs : List Nat) : Bool := (xs.zip (xs.drop 1)).all fun p => decide (p.1 < p.2)
def S_is_lot : Spc := fun ds R => ∃ (m : Nat) (xs : List Nat), ds = [iD m, nsD xs] ∧ (∀ x ∈ xs, x < m) ∧ xs.length ≤ 100000 ∧ R (.bool (asc xs))
theorem k_is_lot (D : Fd K mg "is_lot" s_is_lot) (T : Bi mg) (G_is_below : Fk P w K mg base 2 "is_below" (pSp S_is_below)) : Fk P w K mg base 3 "is_lot" (pSp S_is_lot) := by
  refine fk_p D ns_is_lot (fun _ _ _ _ _ _ us hl => match us, hl with | [_, _], _ => rfl) (fun ds R h => ?_) (fun f cdv A outer s H E hr F ds R h => ?_)
  · obtain ⟨m, xs, rfl, h1, hz, q⟩ := h
    rfl
  obtain ⟨m, xs, rfl, h1, hz, q⟩ := h
  refine es_cons ?_
  repeat wtm_at "w"
  refine ni_tup ?_
  repeat wtm_at "w"
  refine lc_all (enc := iD) (f := fun _ => .bool true) hz (fun a ha => tgn_name fun s0 H0 C cl fp => ?_) ?_
  · repeat wtm_at "w"
    refine nd_call (k := 2) G_is_below hr ?_
    repeat wtm_at "w"
    show PyData.bool _ = _
    rw [decide_eq_true (h1 a ha)]
  refine ⟨_, _, _, rfl, ?_⟩
  rw [all_true]
  repeat wtm_at "w"
  refine ni_zipTT (by wtm_at "Bzip") ?_
  repeat wtm_at "w"
  rw [show (cutD (List.map iD xs) (some 1) none) = (xs.drop 1).map iD from (cutD_from _ 1).trans List.map_drop.symm, zipD_map]
  refine lc_all (f := fun p => .bool (decide (p.1 < p.2))) (by rw [List.length_zip]; omega) (fun a ha => tgn_pair fun s0 H0 C cl fp => ?_) ?_
  · repeat wtm_at "w"
    show PyData.bool _ = _
    have e2 : decide ((a.1 : Int) < (a.2 : Nat)) = decide (a.1 < a.2) := by simp
    rw [e2]
  exact ⟨_, _, _, rfl, q⟩
def S_is_copy : Spc := fun ds R => ∃ (m : Nat) (c : Nat × Nat), ds = [iD m, cpD c] ∧ c.1 < m ∧ c.2 < m ∧ c.1 ≠ c.2 ∧ R (.bool true)
theorem k_is_copy (D : Fd K mg "is_copy" s_is_copy) (T : Bi mg) (G_is_below : Fk P w K mg base 2 "is_below" (pSp S_is_below)) : Fk P w K mg base 3 "is_copy" (pSp S_is_copy) := by
  refine fk_p D ns_is_copy (fun _ _ _ _ _ _ us hl => match us, hl with | [_, _], _ => rfl) (fun ds R h => ?_) (fun f cdv A outer s H E hr F ds R h => ?_)
  · obtain ⟨m, c, rfl, h1, h2, h3, q⟩ := h
    rfl
  obtain ⟨m, c, rfl, h1, h2, h3, q⟩ := h
  refine es_cons ?_
  repeat wtm_at "w"
  refine ni_tup ?_
  repeat wtm_at "w"
  refine lc_all (L := [c.1, c.2]) (enc := iD) (f := fun _ => .bool true) (show 2 ≤ 100000 by decide) (fun a ha => tgn_name fun s0 H0 C cl fp => ?_) ?_
  · repeat wtm_at "w"
    refine nd_call (k := 2) G_is_below hr ?_
    repeat wtm_at "w"
    show PyData.bool _ = _
    have : a < m := by
      rcases List.mem_cons.mp ha with e | ha
      · rw [e]; exact h1
      · rw [List.mem_singleton.mp ha]; exact h2
    rw [decide_eq_true this]
  refine ⟨_, _, _, rfl, ?_⟩
  rw [all_true]
  repeat wtm_at "w"
  have e : decide ((c.1 : Int) = (c.2 : Nat)) = false := decide_eq_false (by omega)
  show R _
  rw [e]
  exact q
end


set_option Elab.async false
set_option linter.all false
set_option maxRecDepth 100000
set_option maxHeartbeats 2000000
/-! Wm.N: stretches, plans, layouts. -/



def pls (s : St1) : List Nat := s.map (·.1)
def okSt (s : St1) : Bool := asc (pls s) && s.all fun c => !decide (c.2 ∈ pls s)
theorem any_iD (ns : List Nat) (v : Nat) : ((ns.map iD).any fun z => PyData.eqv z (iD v)) = decide (v ∈ ns) := by
  rw [List.any_map]
  induction ns with
  | nil => rfl
  | cons n ns ih =>
    rw [List.any_cons, ih]
    show (PyData.eqv (iD n) (iD v) || _) = _
    rw [eqv_ii]
    by_cases h : v = n
    · subst h
      simp
    · have : ¬ n = v := fun e => h e.symm
      simp [h, this]
section
variable {P : Program} {w : World} {K : PySem.W.Frag} {mg : Str → Option Value} {base : Heap}
def S_is_stretch : Spc := fun ds R => ∃ (m : Nat) (s : St1), ds = [iD m, stD s] ∧ s ≠ [] ∧ (∀ c ∈ s, c.1 < m ∧ c.2 < m ∧ c.1 ≠ c.2) ∧ s.length ≤ 100000 ∧ R (.bool (okSt s))
theorem k_is_stretch (D : Fd K mg "is_stretch" s_is_stretch) (T : Bi mg) (G_is_copy : Fk P w K mg base 3 "is_copy" (pSp S_is_copy)) (G_is_lot : Fk P w K mg base 3 "is_lot" (pSp S_is_lot)) : Fk P w K mg base 4 "is_stretch" (pSp S_is_stretch) := by
  refine fk_p D ns_is_stretch (fun _ _ _ _ _ _ us hl => match us, hl with | [_, _], _ => rfl) (fun ds R h => ?_) (fun f cdv A outer s H E hr F ds R h => ?_)
  · obtain ⟨m, s', rfl, h0, h1, hz, q⟩ := h
    rfl
  obtain ⟨m, s', rfl, h0, h1, hz, q⟩ := h
  refine es_cons ?_
  repeat wtm_at "w"
  have e0 : decide ((((s'.map cpD).length : Nat) : Int) = 0) = false := by
    cases s' with
    | nil => exact absurd rfl h0
    | cons c cs => exact decide_eq_false (by rw [List.length_map, List.length_cons]; omega)
  rw [e0]
  repeat wtm_at "w"
  refine ni_tup ?_
  repeat wtm_at "w"
  refine lc_all (enc := cpD) (f := fun _ => .bool true) hz (fun a ha => tgn_name fun s0 H0 C cl fp => ?_) ?_
  · repeat wtm_at "w"
    refine nd_call (k := 3) G_is_copy hr ?_
    repeat wtm_at "w"
    obtain ⟨q1, q2, q3⟩ := h1 a ha
    exact ⟨q1, q2, q3, rfl⟩
  refine ⟨_, _, _, rfl, ?_⟩
  rw [all_true]
  repeat wtm_at "w"
  wtm_at "set"
  repeat wtm_at "w"
  refine ni_tup ?_
  repeat wtm_at "w"
  refine lc_all (enc := cpD) (f := fun c => iD c.1) hz (fun a ha => tgn_pair fun s0 H0 C cl fp => ?_) ?_
  · repeat wtm_at "w"
    rfl
  repeat wtm_at "w"
  refine nd_call (k := 3) G_is_lot hr ?_
  repeat wtm_at "w"
  refine ⟨m, pls s', by show [iD m, PyData.tuple _] = _; unfold nsD pls; rw [List.map_map]; rfl, ?_⟩
  refine ⟨fun x hx => ?_, by unfold pls; rw [List.length_map]; exact hz, ?_⟩
  · obtain ⟨c, hc, rfl⟩ := List.mem_map.mp hx
    exact (h1 c hc).1
  refine ⟨_, rfl, ?_⟩
  unfold okSt at q
  cases ha : asc (pls s') with
  | false =>
    rw [ha] at q
    exact iteF q
  | true =>
    rw [ha] at q
    refine iteT ?_
    repeat wtm_at "w"
    refine ni_tup ?_
    repeat wtm_at "w"
    refine lc_all (enc := cpD) (f := fun c => .bool (!decide (c.2 ∈ pls s'))) hz (fun a ha => tgn_pair fun s0 H0 C cl fp => ?_) ?_
    · repeat wtm_at "w"
      refine cmp_notIn (.inr rfl) rfl (by rw [List.all_map, List.all_eq_true]; intro _ _; rfl) ?_
      show PyData.bool _ = _
      have := any_iD (pls s') a.2
      unfold pls at this
      rw [List.map_map] at this
      exact congrArg (fun z => PyData.bool (!z)) this
    exact ⟨_, _, _, rfl, q⟩
/-- a plan whose stretches are stretches of m places -/
structure PlOk (m : Nat) (p : List St1) : Prop where
  ne : ∀ s ∈ p, s ≠ []
  cp : ∀ s ∈ p, ∀ c ∈ s, c.1 < m ∧ c.2 < m ∧ c.1 ≠ c.2
  ok : ∀ s ∈ p, okSt s = true
  sz : ∀ s ∈ p, s.length ≤ 100000
  szp : p.length ≤ 100000
def S_is_plan : Spc := fun ds R => ∃ (m : Nat) (p : List St1), ds = [iD m, plD p] ∧ PlOk m p ∧ R (.bool true)
theorem k_is_plan (D : Fd K mg "is_plan" s_is_plan) (T : Bi mg) (G_is_stretch : Fk P w K mg base 4 "is_stretch" (pSp S_is_stretch)) : Fk P w K mg base 5 "is_plan" (pSp S_is_plan) := by
  refine fk_p D ns_is_plan (fun _ _ _ _ _ _ us hl => match us, hl with | [_, _], _ => rfl) (fun ds R h => ?_) (fun f cdv A outer s H E hr F ds R h => ?_)
  · obtain ⟨m, p, rfl, h1, q⟩ := h
    rfl
  obtain ⟨m, p, rfl, h1, q⟩ := h
  refine es_one ?_
  repeat wtm_at "w"
  refine ni_tup ?_
  repeat wtm_at "w"
  refine lc_all (enc := stD) (f := fun _ => .bool true) h1.szp (fun a ha => tgn_name fun s0 H0 C cl fp => ?_) ?_
  · repeat wtm_at "w"
    refine nd_call (k := 4) G_is_stretch hr ?_
    repeat wtm_at "w"
    refine ⟨h1.ne a ha, h1.cp a ha, h1.sz a ha, ?_⟩
    show PyData.bool _ = _
    rw [h1.ok a ha]
  refine ⟨_, _, _, rfl, ?_⟩
  show R _
  rw [all_true]
  exact q
/-! ### layouts -/
def S_standings : Spc := fun ds R => ∃ (ns : List Nat) (l : Ly), ds = [nsD ns, lyD l] ∧ ns.length ≤ 100000 ∧ R (nsD ((List.range ns.length).map (cnt l)))
theorem rangeD_nat (n : Nat) : rangeD 0 n = (List.range n).map iD := by
  unfold rangeD
  apply List.map_congr_left
  intro i _
  show PyData.int _ = PyData.int _
  rw [Int.zero_add]
theorem k_standings (D : Fd K mg "standings" s_standings) (T : Bi mg) : Fk P w K mg base 1 "standings" (pSp S_standings) := by
  refine fk_p D ns_standings (fun _ _ _ _ _ _ us hl => match us, hl with | [_, _], _ => rfl) (fun ds R h => ?_) (fun f cdv A outer s H E hr F ds R h => ?_)
  · obtain ⟨ns, l, rfl, hz, q⟩ := h
    rfl
  obtain ⟨ns, l, rfl, hz, q⟩ := h
  refine es_one ?_
  repeat wtm_at "w"
  refine ni_range1 (by wtm_at "Brange") ?_
  repeat wtm_at "w"
  refine ⟨by rw [List.length_map]; omega, ?_⟩
  rw [List.length_map, Int.toNat_natCast, rangeD_nat]
  refine lc_all (enc := iD) (f := fun v => iD (cnt l v)) (by rw [List.length_range]; exact hz) (fun a ha => tgn_name fun s0 H0 C cl fp => ?_) ?_
  · repeat wtm_at "w"
    refine ⟨flat_oD l, ?_⟩
    repeat wtm_at "w"
    refine ⟨rfl, ?_⟩
    rw [cnt_eqv]
  repeat wtm_at "w"
  show R _
  unfold nsD at q
  rw [List.map_map] at q
  exact q
end


set_option Elab.async false
set_option linter.all false
set_option maxRecDepth 100000
set_option maxHeartbeats 2000000
/-! Wm.O: layouts led, judged. -/



def gt (l : Ly) (i : Nat) : Option Nat := (l[i]?).getD none
def cbd (l : Ly) (s : St1) : Bool := s.all fun c => (gt l c.2).isSome
def ledm (l : Ly) (s : St1) : Ly := s.foldl (fun f c => f.set c.1 (gt l c.2)) l
def outs (l : Ly) (pl : List Nat) : Ly := l.zipIdx.map fun p => if p.2 ∈ pl then none else p.1
def stands (n : Nat) (l : Ly) : List Nat := (List.range n).map (cnt l)
def safeB (ns : List Nat) (l : Ly) (s : St1) : Bool := ns.zipIdx.all fun p => decide (p.1 ≤ cnt (outs l (pls s)) p.2)
theorem gt_get {l : Ly} {i : Nat} (h : i < l.length) : l[i]? = some (gt l i) := by
  unfold gt
  rw [List.getElem?_eq_getElem h]
  rfl
theorem ledm_foldl_len (l : Ly) : ∀ (s : St1) (f : Ly), (s.foldl (fun f c => f.set c.1 (gt l c.2)) f).length = f.length
  | [], f => rfl
  | c :: s, f => by
    rw [List.foldl_cons, ledm_foldl_len l s, List.length_set]
theorem ledm_len (l : Ly) (s : St1) : (ledm l s).length = l.length := ledm_foldl_len l s l
theorem outs_len (l : Ly) (pl : List Nat) : (outs l pl).length = l.length := by
  unfold outs
  rw [List.length_map, List.length_zipIdx]
/-- places and sources are places of m -/
def Bd (m : Nat) (s : St1) : Prop := ∀ c ∈ s, c.1 < m ∧ c.2 < m
section
variable {P : Program} {w : World} {K : PySem.W.Frag} {mg : Str → Option Value} {base : Heap}
def S_places_of : Spc := fun ds R => ∃ s : St1, ds = [stD s] ∧ s.length ≤ 100000 ∧ R (nsD (pls s))
theorem k_places_of (D : Fd K mg "places_of" s_places_of) (T : Bi mg) : Fk P w K mg base 1 "places_of" (pSp S_places_of) := by
  refine fk_p D ns_places_of (fun _ _ _ _ _ _ us hl => match us, hl with | [_], _ => rfl) (fun ds R h => ?_) (fun f cdv A outer s H E hr F ds R h => ?_)
  · obtain ⟨s', rfl, hz, q⟩ := h
    rfl
  obtain ⟨s', rfl, hz, q⟩ := h
  refine es_one ?_
  repeat wtm_at "w"
  refine ni_tup ?_
  repeat wtm_at "w"
  refine lc_all (enc := cpD) (f := fun c => iD c.1) hz (fun a ha => tgn_pair fun s0 H0 C cl fp => ?_) ?_
  · repeat wtm_at "w"
    rfl
  repeat wtm_at "w"
  show R _
  unfold nsD pls at q
  rw [List.map_map] at q
  exact q
def S_can_be_done : Spc := fun ds R => ∃ (l : Ly) (s : St1), ds = [lyD l, stD s] ∧ (∀ c ∈ s, c.2 < l.length) ∧ s.length ≤ 100000 ∧ R (.bool (cbd l s))
theorem k_can_be_done (D : Fd K mg "can_be_done" s_can_be_done) (T : Bi mg) : Fk P w K mg base 1 "can_be_done" (pSp S_can_be_done) := by
  refine fk_p D ns_can_be_done (fun _ _ _ _ _ _ us hl => match us, hl with | [_, _], _ => rfl) (fun ds R h => ?_) (fun f cdv A outer s H E hr F ds R h => ?_)
  · obtain ⟨l, s', rfl, hb, hz, q⟩ := h
    rfl
  obtain ⟨l, s', rfl, hb, hz, q⟩ := h
  refine es_one ?_
  repeat wtm_at "w"
  refine ni_tup ?_
  repeat wtm_at "w"
  refine lc_all (enc := cpD) (f := fun c => .bool (gt l c.2).isSome) hz (fun a ha => tgn_pair fun s0 H0 C cl fp => ?_) ?_
  · repeat wtm_at "w"
    refine ⟨_, atI_map (gt_get (hb a ha)), ?_⟩
    repeat wtm_at "w"
    show PyData.bool _ = _
    rw [isN_o]
    cases gt l a.2 <;> rfl
  exact ⟨_, _, _, rfl, q⟩
def S_led : Spc := fun ds R => ∃ (l : Ly) (s : St1), ds = [lyD l, stD s] ∧ Bd l.length s ∧ s.length ≤ 100000 ∧ R (lyD (ledm l s))
theorem k_led (D : Fd K mg "led" s_led) (T : Bi mg) : Fk P w K mg base 1 "led" (pSp S_led) := by
  refine fk_p D ns_led (fun _ _ _ _ _ _ us hl => match us, hl with | [_, _], _ => rfl) (fun ds R h => ?_) (fun f cdv A outer s H E hr F ds R h => ?_)
  · obtain ⟨l, s', rfl, hb, hz, q⟩ := h
    rfl
  obtain ⟨l, s', rfl, hb, hz, q⟩ := h
  refine es_cons ?_
  wtm_at "own"
  refine nl_listc (by assumption) ?_
  repeat wtm_at "w"
  intro qa hq
  repeat wtm_at "w"
  wtm_at "for2"
  refine ni_tup ?_
  repeat wtm_at "w"
  refine ⟨fun n Γ2 => ∃ s3 s4, Γ2 = [.val (lyD l), .val (stD s'), .own qa (((s'.take n).foldl (fun f c => f.set c.1 (gt l c.2)) l).map oD), s3, s4] ∧ s3.addrs = [] ∧ s4.addrs = [], ⟨.no, .no, rfl, rfl, rfl⟩, ?_, ?_⟩
  · rintro n d Γ2 hd ⟨s3, s4, rfl, _, _⟩
    rw [List.getElem?_map] at hd
    cases hc : s'[n]? with
    | none => rw [hc] at hd; cases hd
    | some c =>
      rw [hc] at hd
      cases hd
      have hm : c ∈ s' := List.mem_of_getElem? hc
      refine ⟨_, _, rfl, ?_⟩
      repeat wtm_at "w"
      refine e1_item (i := 2) rfl ?_
      repeat wtm_at "w"
      refine ⟨_, atI_map (gt_get (hb c hm).2), ?_⟩
      repeat wtm_at "w"
      refine ⟨_, c.1, rfl, ixN_nat (by rw [List.length_map, ledm_foldl_len]; exact (hb c hm).1), ?_⟩
      refine ⟨.val (iD c.1), .val (iD c.2), ?_, rfl, rfl⟩
      rw [set_map, List.take_add_one, hc]
      simp only [Option.toList_some, List.foldl_append, List.foldl_cons, List.foldl_nil]
      rfl
  · rintro Γ2 ⟨s3, s4, rfl, _, _⟩
    rw [List.length_map, List.take_length]
    refine es_freeze (i := 2) (by wtm_at "look") hq ?_
    repeat wtm_at "w"
    exact q
def S_outside : Spc := fun ds R => ∃ (l : Ly) (s : St1), ds = [lyD l, stD s] ∧ l.length ≤ 100000 ∧ s.length ≤ 100000 ∧ R (lyD (outs l (pls s)))
theorem k_outside (D : Fd K mg "outside" s_outside) (T : Bi mg) (G_places_of : Fk P w K mg base 1 "places_of" (pSp S_places_of)) : Fk P w K mg base 2 "outside" (pSp S_outside) := by
  refine fk_p D ns_outside (fun _ _ _ _ _ _ us hl => match us, hl with | [_, _], _ => rfl) (fun ds R h => ?_) (fun f cdv A outer s H E hr F ds R h => ?_)
  · obtain ⟨l, s', rfl, hz, hz2, q⟩ := h
    rfl
  obtain ⟨l, s', rfl, hz, hz2, q⟩ := h
  refine es_cons ?_
  wtm_at "set"
  refine nd_call (k := 1) G_places_of hr ?_
  repeat wtm_at "w"
  refine ⟨hz2, ?_⟩
  repeat wtm_at "w"
  refine ni_enumT (by wtm_at "Ben") ?_
  repeat wtm_at "w"
  rw [enumD_map]
  refine lc_all (f := fun p => oD (if p.2 ∈ pls s' then none else p.1)) (by rw [List.length_zipIdx]; exact hz) (fun a ha => tgn_pair fun s0 H0 C cl fp => ?_) ?_
  · repeat wtm_at "w"
    refine cmp_in (.inr rfl) rfl (flat_iD _) ?_
    rw [any_iD]
    refine ⟨_, rfl, ifB (fun hc => ?_) (fun hc => ?_)⟩
    · repeat wtm_at "w"
      rw [if_pos (of_decide_eq_true hc)]
      rfl
    · repeat wtm_at "w"
      rw [if_neg (of_decide_eq_false hc)]
  repeat wtm_at "w"
  show R _
  unfold lyD outs at q
  rw [List.map_map] at q
  exact q
def S_left_standings : Spc := fun ds R => ∃ (ns : List Nat) (l : Ly) (s : St1), ds = [nsD ns, lyD l, stD s] ∧ l.length ≤ 100000 ∧ s.length ≤ 100000 ∧ ns.length ≤ 100000 ∧ R (nsD (stands ns.length (outs l (pls s))))
theorem k_left_standings (D : Fd K mg "left_standings" s_left_standings) (T : Bi mg) (G_standings : Fk P w K mg base 1 "standings" (pSp S_standings)) (G_outside : Fk P w K mg base 2 "outside" (pSp S_outside)) : Fk P w K mg base 3 "left_standings" (pSp S_left_standings) := by
  refine fk_p D ns_left_standings (fun _ _ _ _ _ _ us hl => match us, hl with | [_, _, _], _ => rfl) (fun ds R h => ?_) (fun f cdv A outer s H E hr F ds R h => ?_)
  · obtain ⟨ns, l, s', rfl, hz, hz2, hz3, q⟩ := h
    rfl
  obtain ⟨ns, l, s', rfl, hz, hz2, hz3, q⟩ := h
  refine es_one ?_
  repeat wtm_at "w"
  refine nd_call (k := 2) G_standings hr ?_
  repeat wtm_at "w"
  refine nd_call (k := 2) G_outside hr ?_
  repeat wtm_at "w"
  refine ⟨hz, hz2, ?_⟩
  repeat wtm_at "w"
  exact ⟨hz3, q⟩
def S_lacking : Spc := fun ds R => ∃ (ns : List Nat) (l : Ly) (s : St1), ds = [nsD ns, lyD l, stD s] ∧ l.length ≤ 100000 ∧ s.length ≤ 100000 ∧ ns.length ≤ 100000 ∧ (safeB ns l s = true → R .none) ∧ (safeB ns l s = false → ∀ v : Nat, R (iD v))
theorem k_lacking (D : Fd K mg "lacking" s_lacking) (T : Bi mg) (G_left_standings : Fk P w K mg base 3 "left_standings" (pSp S_left_standings)) : Fk P w K mg base 4 "lacking" (pSp S_lacking) := by
  refine fk_p D ns_lacking (fun _ _ _ _ _ _ us hl => match us, hl with | [_, _, _], _ => rfl) (fun ds R h => ?_) (fun f cdv A outer s H E hr F ds R h => ?_)
  · obtain ⟨ns, l, s', rfl, hz, hz2, hz3, q1, q2⟩ := h
    rfl
  obtain ⟨ns, l, s', rfl, hz, hz2, hz3, q1, q2⟩ := h
  refine es_cons ?_
  wtm_at "for2"
  refine ni_enumT (by wtm_at "Ben") ?_
  refine nd_call (k := 3) G_left_standings hr ?_
  repeat wtm_at "w"
  refine ⟨hz, hz2, hz3, ?_⟩
  repeat wtm_at "w"
  rw [enumD_map]
  refine ⟨fun n Γ2 => (∃ s3 s4, Γ2 = [.val (nsD ns), .val (lyD l), .val (stD s'), s3, s4]) ∧ ∀ p ∈ ns.zipIdx.take n, p.1 ≤ cnt (outs l (pls s')) p.2, ⟨⟨.no, .no, rfl⟩, by simp⟩, ?_, ?_⟩
  · rintro n d Γ2 hd ⟨⟨s3, s4, rfl⟩, hn⟩
    rw [List.getElem?_map] at hd
    cases hc : (stands ns.length (outs l (pls s'))).zipIdx[n]? with
    | none => rw [hc] at hd; cases hd
    | some c =>
      rw [hc] at hd
      cases hd
      refine ⟨_, _, rfl, ?_⟩
      have hc1 : n < ns.length ∧ c = (cnt (outs l (pls s')) n, n) := by
        rw [List.getElem?_zipIdx] at hc
        unfold stands at hc
        rw [List.getElem?_map] at hc
        by_cases hlt : n < ns.length
        · rw [List.getElem?_range hlt] at hc
          refine ⟨hlt, ?_⟩
          have := Option.some.inj hc
          rw [← this]
          simp
        · rw [List.getElem?_eq_none (by rw [List.length_range]; omega)] at hc
          cases hc
      obtain ⟨hlt, rfl⟩ := hc1
      have hns : ns[n]? = some ns[n] := List.getElem?_eq_getElem hlt
      have hzi : ns.zipIdx[n]? = some (ns[n], n) := by rw [List.getElem?_zipIdx, hns]; simp
      repeat wtm_at "w"
      refine ⟨_, atI_map hns, ?_⟩
      repeat wtm_at "w"
      refine ifB (fun hb => ?_) (fun hb => ?_)
      · repeat wtm_at "w"
        show R (iD n)
        refine q2 ?_ n
        cases hs : safeB ns l s' with
        | false => rfl
        | true =>
          have z := List.all_eq_true.mp hs _ (List.mem_of_getElem? hzi)
          have z1 := of_decide_eq_true z
          have z2 := of_decide_eq_true hb
          simp at z1
          omega
      · repeat wtm_at "w"
        refine ⟨⟨_, _, rfl⟩, fun p hp => ?_⟩
        rw [List.take_add_one, hzi] at hp
        rcases List.mem_append.mp hp with hp | hp
        · exact hn p hp
        · have e : p = (ns[n], n) := by simpa using hp
          rw [e]
          have z2 := of_decide_eq_false hb
          show ns[n] ≤ cnt _ n
          omega
  · rintro Γ2 ⟨⟨s3, s4, rfl⟩, hn⟩
    repeat wtm_at "w"
    show R .none
    refine q1 (List.all_eq_true.mpr fun p hp => decide_eq_true (hn p ?_))
    rw [List.length_map, List.length_zipIdx]
    unfold stands
    rw [List.length_map, List.length_range, List.take_of_length_le (by rw [List.length_zipIdx]; exact Nat.le_refl _)]
    exact hp
def S_is_safe : Spc := fun ds R => ∃ (ns : List Nat) (l : Ly) (s : St1), ds = [nsD ns, lyD l, stD s] ∧ l.length ≤ 100000 ∧ s.length ≤ 100000 ∧ ns.length ≤ 100000 ∧ R (.bool (safeB ns l s))
theorem k_is_safe (D : Fd K mg "is_safe" s_is_safe) (T : Bi mg) (G_lacking : Fk P w K mg base 4 "lacking" (pSp S_lacking)) : Fk P w K mg base 5 "is_safe" (pSp S_is_safe) := by
  refine fk_p D ns_is_safe (fun _ _ _ _ _ _ us hl => match us, hl with | [_, _, _], _ => rfl) (fun ds R h => ?_) (fun f cdv A outer s H E hr F ds R h => ?_)
  · obtain ⟨ns, l, s', rfl, hz, hz2, hz3, q⟩ := h
    rfl
  obtain ⟨ns, l, s', rfl, hz, hz2, hz3, q⟩ := h
  refine es_one ?_
  repeat wtm_at "w"
  refine nd_call (k := 4) G_lacking hr ?_
  repeat wtm_at "w"
  refine ⟨hz, hz2, hz3, fun hs => ?_, fun hs v => ?_⟩
  · repeat wtm_at "w"
    rw [hs] at q
    exact q
  · repeat wtm_at "w"
    rw [hs] at q
    exact q
end


set_option Elab.async false
set_option linter.all false
set_option maxRecDepth 100000
set_option maxHeartbeats 2000000
/-! Wm.Q: plans and rows. -/



def ledP (l : Ly) (p : List St1) : Ly := p.foldl ledm l
def ledC (l : Ly) (cs : St1) : Ly := cs.foldl (fun l c => ledm l [c]) l
def lts (l : Ly) (p : List St1) : List Ly := (List.range (p.length + 1)).map fun i => ledP l (p.take i)
def canP (l : Ly) (p : List St1) : Prop := ∀ i s, p[i]? = some s → cbd (ledP l (p.take i)) s = true
def bdP (m : Nat) (p : List St1) : Prop := ∀ s ∈ p, Bd m s ∧ s.length ≤ 100000
def wantedB (w l : Ly) : Bool := w.zipIdx.all fun p => p.1.isNone || decide (p.1 = gt l p.2)
theorem ledP_len (l : Ly) : ∀ p : List St1, (ledP l p).length = l.length
  | [] => rfl
  | s :: p => by
    show (ledP (ledm l s) p).length = _
    rw [ledP_len _ p, ledm_len]
theorem ledC_len (l : Ly) : ∀ p : St1, (ledC l p).length = l.length
  | [] => rfl
  | s :: p => by
    show (ledC (ledm l [s]) p).length = _
    rw [ledC_len _ p, ledm_len]
theorem ledP_snoc (l : Ly) (p : List St1) (s : St1) : ledP l (p ++ [s]) = ledm (ledP l p) s := by
  unfold ledP
  rw [List.foldl_append]
  rfl
theorem ledC_snoc (l : Ly) (p : St1) (s : Nat × Nat) : ledC l (p ++ [s]) = ledm (ledC l p) [s] := by
  unfold ledC
  rw [List.foldl_append]
  rfl
theorem lts_len (l : Ly) (p : List St1) : (lts l p).length = p.length + 1 := by
  unfold lts
  rw [List.length_map, List.length_range]
theorem lts_snoc (l : Ly) (p : List St1) (s : St1) : lts l (p ++ [s]) = lts l p ++ [ledP l (p ++ [s])] := by
  unfold lts
  rw [List.length_append, List.length_singleton, List.range_succ (n := p.length + 1), List.map_append]
  congr 1
  · apply List.map_congr_left
    intro i hi
    rw [List.take_append_of_le_length (by have := List.mem_range.mp hi; omega)]
  · rw [List.map_singleton, List.take_of_length_le (by rw [List.length_append, List.length_singleton]; exact Nat.le_refl _)]
theorem lts_at (l : Ly) (p : List St1) {i : Nat} (h : i ≤ p.length) : (lts l p)[i]? = some (ledP l (p.take i)) := by
  unfold lts
  rw [List.getElem?_map, List.getElem?_range (by omega)]
  rfl
theorem take_snoc {α : Type} {p : List α} {n : Nat} {s : α} (h : p[n]? = some s) : p.take (n + 1) = p.take n ++ [s] := by
  rw [List.take_add_one, h]
  rfl
theorem atI_last {α : Type} {xs : List α} {d : α} (h : xs[xs.length - 1]? = some d) : atI xs (-1) = some d := by
  have hl : xs.length - 1 < xs.length := (List.getElem?_eq_some_iff.mp h).1
  unfold atI ixN
  rw [if_neg (by omega), if_pos (by omega)]
  show xs[((-1 : Int) + (xs.length : Nat)).toNat]? = _
  rw [show ((-1 : Int) + (xs.length : Nat)).toNat = xs.length - 1 by omega]
  exact h
theorem lless_o : ∀ l : Ly, llessAll (l.map oD) = true
  | [] => by rw [List.map_nil]; unfold llessAll; rfl
  | o :: l => by
    rw [List.map_cons]
    unfold llessAll
    rw [lless_o l]
    cases o <;> (unfold oD lless; rfl)
theorem lless_ly (l : Ly) : lless (lyD l) = true := by unfold lyD lless; exact lless_o l
theorem lless_i : ∀ l : List Nat, llessAll (l.map iD) = true
  | [] => by rw [List.map_nil]; unfold llessAll; rfl
  | o :: l => by
    rw [List.map_cons]
    unfold llessAll
    rw [lless_i l]
    unfold iD lless
    rfl
theorem lless_ns (l : List Nat) : lless (nsD l) = true := by unfold nsD lless; exact lless_i l
theorem lless_cp (c : Nat × Nat) : lless (cpD c) = true := by
  unfold cpD lless
  exact lless_i [c.1, c.2]
theorem lless_cs : ∀ l : St1, llessAll (l.map cpD) = true
  | [] => by rw [List.map_nil]; unfold llessAll; rfl
  | o :: l => by
    rw [List.map_cons]
    unfold llessAll
    rw [lless_cs l, lless_cp]
    rfl
theorem lless_st (l : St1) : lless (stD l) = true := by unfold stD lless; exact lless_cs l
theorem lless_sts : ∀ l : List St1, llessAll (l.map stD) = true
  | [] => by rw [List.map_nil]; unfold llessAll; rfl
  | o :: l => by
    rw [List.map_cons]
    unfold llessAll
    rw [lless_sts l, lless_st]
    rfl
theorem lless_pl (l : List St1) : lless (plD l) = true := by unfold plD lless; exact lless_sts l
theorem enum_get {α : Type} {L : List α} {f : α → PyData} {n : Nat} {d : PyData} (h : (L.zipIdx.map fun p => PyData.tuple [.int (p.2 : Nat), f p.1])[n]? = some d) : ∃ a, L[n]? = some a ∧ d = .tuple [.int (n : Nat), f a] := by
  rw [List.getElem?_map, List.getElem?_zipIdx] at h
  cases hc : L[n]? with
  | none => rw [hc] at h; cases h
  | some a =>
    rw [hc] at h
    refine ⟨a, rfl, ?_⟩
    have := Option.some.inj h
    simp at this
    exact this.symm
section
variable {P : Program} {w : World} {K : PySem.W.Frag} {mg : Str → Option Value} {base : Heap}
def S_layouts_through : Spc := fun ds R => ∃ (l : Ly) (p : List St1), ds = [lyD l, plD p] ∧ bdP l.length p ∧ p.length ≤ 90000 ∧ canP l p ∧ R (.list ((lts l p).map lyD))
theorem k_layouts_through (D : Fd K mg "layouts_through" s_layouts_through) (T : Bi mg) (G_can_be_done : Fk P w K mg base 1 "can_be_done" (pSp S_can_be_done)) (G_led : Fk P w K mg base 1 "led" (pSp S_led)) : Fk P w K mg base 2 "layouts_through" (pSp S_layouts_through) := by
  refine fk_p D ns_layouts_through (fun _ _ _ _ _ _ us hl => match us, hl with | [_, _], _ => rfl) (fun ds R h => ?_) (fun f cdv A outer s H E hr F ds R h => ?_)
  · obtain ⟨l, p, rfl, hb, hz, hcan, q⟩ := h
    rfl
  obtain ⟨l, p, rfl, hb, hz, hcan, q⟩ := h
  refine es_cons ?_
  wtm_at "own"
  refine nl_lst ?_
  repeat wtm_at "w"
  intro qa hq
  repeat wtm_at "w"
  wtm_at "for2"
  refine ni_enumT (by wtm_at "Ben") ?_
  repeat wtm_at "w"
  rw [enumD_map]
  refine ⟨fun n Γ2 => ∃ s3 s4, Γ2 = [.val (lyD l), .val (plD p), .own qa ((lts l (p.take n)).map lyD), s3, s4], ⟨.no, .no, rfl⟩, ?_, ?_⟩
  · rintro n d Γ2 hd ⟨s3, s4, rfl⟩
    obtain ⟨s', hs, rfl⟩ := enum_get hd
    have hlt : n < p.length := (List.getElem?_eq_some_iff.mp hs).1
    have hm := List.mem_of_getElem? hs
    have hlast : atI ((lts l (p.take n)).map lyD) (-1) = some (lyD (ledP l (p.take n))) := by
      refine atI_last ?_
      rw [List.length_map, lts_len, List.length_take, List.getElem?_map, Nat.add_sub_cancel, lts_at _ _ (by rw [List.length_take]; exact Nat.le_refl _), List.take_of_length_le (by rw [List.length_take]; exact Nat.le_refl _)]
      rfl
    refine ⟨_, _, rfl, ?_⟩
    repeat wtm_at "w"
    refine nd_call (k := 1) G_can_be_done hr ?_
    refine na_cons ?_
    refine nd_lend (i := 2) (by wtm_at "look") ?_
    repeat wtm_at "w"
    refine ⟨_, hlast, lless_ly _, ?_⟩
    repeat wtm_at "w"
    refine ⟨fun c hc => by rw [ledP_len]; exact ((hb s' hm).1 c hc).2, (hb s' hm).2, _, rfl, ?_⟩
    rw [hcan n s' hs]
    repeat wtm_at "w"
    refine e1_append (i := 2) (by wtm_at "look") ?_
    refine nd_call (k := 1) G_led hr ?_
    refine na_cons ?_
    refine nd_lend (i := 2) (by wtm_at "look") ?_
    repeat wtm_at "w"
    refine ⟨_, hlast, lless_ly _, ?_⟩
    repeat wtm_at "w"
    refine ⟨fun c hc => by rw [ledP_len]; exact (hb s' hm).1 c hc, (hb s' hm).2, by rw [List.length_map, lts_len, List.length_take]; omega, ?_⟩
    refine ⟨.val (iD n), .val (stD s'), ?_⟩
    rw [take_snoc hs, lts_snoc, List.map_append, ledP_snoc]
    rfl
  · rintro Γ2 ⟨s3, s4, rfl⟩
    rw [List.length_map, List.length_zipIdx, List.take_length]
    refine es_freeze (i := 2) (by wtm_at "look") hq ?_
    repeat wtm_at "w"
    exact q
def S_does : Spc := fun ds R => ∃ (ns : List Nat) (o w : Ly) (p : List St1), ds = [tkD ns o w, plD p] ∧ bdP o.length p ∧ canP o p ∧ w.length ≤ o.length ∧ o.length ≤ 90000 ∧ R (.bool (wantedB w (ledP o p)))
theorem k_does (D : Fd K mg "does" s_does) (T : Bi mg) (G_can_be_done : Fk P w K mg base 1 "can_be_done" (pSp S_can_be_done)) (G_led : Fk P w K mg base 1 "led" (pSp S_led)) : Fk P w K mg base 2 "does" (pSp S_does) := by
  refine fk_p D ns_does (fun _ _ _ _ _ _ us hl => match us, hl with | [_, _], _ => rfl) (fun ds R h => ?_) (fun f cdv A outer s H E hr F ds R h => ?_)
  · obtain ⟨ns, o, w', p, rfl, hb, hcan, hw, hz, q⟩ := h
    rfl
  obtain ⟨ns, o, w', p, rfl, hb, hcan, hw, hz, q⟩ := h
  refine es_cons ?_
  wtm_at "set"
  repeat wtm_at "w"
  wtm_at "for1"
  refine ni_tup ?_
  repeat wtm_at "w"
  refine ⟨fun n Γ2 => ∃ s3 s4 s5, Γ2 = [.val (tkD ns o w'), .val (plD p), .val (lyD (ledP o (p.take n))), s3, s4, s5], ⟨.no, .no, .no, rfl⟩, ?_, ?_⟩
  · rintro n d Γ2 hd ⟨s3, s4, s5, rfl⟩
    rw [List.getElem?_map] at hd
    cases hs : p[n]? with
    | none => rw [hs] at hd; cases hd
    | some s' =>
      rw [hs] at hd
      cases hd
      have hm := List.mem_of_getElem? hs
      repeat wtm_at "w"
      refine nd_call (k := 1) G_can_be_done hr ?_
      repeat wtm_at "w"
      refine ⟨fun c hc => by rw [ledP_len]; exact ((hb s' hm).1 c hc).2, (hb s' hm).2, _, rfl, ?_⟩
      rw [hcan n s' hs]
      repeat wtm_at "w"
      wtm_at "set"
      refine nd_call (k := 1) G_led hr ?_
      repeat wtm_at "w"
      refine ⟨fun c hc => by rw [ledP_len]; exact (hb s' hm).1 c hc, (hb s' hm).2, .val (stD s'), s4, s5, ?_⟩
      rw [take_snoc hs, ledP_snoc]
      rfl
  · rintro Γ2 ⟨s3, s4, s5, rfl⟩
    rw [List.length_map, List.take_length]
    repeat wtm_at "w"
    refine ni_enumT (by wtm_at "Ben") ?_
    repeat wtm_at "w"
    rw [enumD_map]
    refine lc_all (f := fun a => .bool (a.1.isNone || decide (a.1 = gt (ledP o p) a.2))) (by rw [List.length_zipIdx]; omega) (fun a ha => tgn_pair fun s0 H0 C cl fp => ?_) ?_
    · obtain ⟨x, i⟩ := a
      have hi : i < o.length := by
        have z := List.mem_zipIdx_iff_getElem?.mp ha
        have := (List.getElem?_eq_some_iff.mp z).1
        simp at this
        omega
      repeat wtm_at "w"
      rw [isN_o]
      cases x with
      | none =>
        repeat wtm_at "w"
        rfl
      | some v =>
        repeat wtm_at "w"
        refine ⟨_, atI_map (gt_get (by rw [ledP_len]; exact hi)), ?_⟩
        refine cmp_eq hr.units (shF (flat_o (some v))) (shF (flat_o _)) ?_
        rw [eqv_oo]
        rfl
    exact ⟨_, _, _, rfl, q⟩
def S_can_go_safely : Spc := fun ds R => ∃ (ns : List Nat) (l : Ly) (s : St1), ds = [nsD ns, lyD l, stD s] ∧ Bd l.length s ∧ l.length ≤ 100000 ∧ s.length ≤ 100000 ∧ ns.length ≤ 100000 ∧ R (.bool (cbd l s && safeB ns l s))
theorem k_can_go_safely (D : Fd K mg "can_go_safely" s_can_go_safely) (T : Bi mg) (G_can_be_done : Fk P w K mg base 1 "can_be_done" (pSp S_can_be_done)) (G_is_safe : Fk P w K mg base 5 "is_safe" (pSp S_is_safe)) : Fk P w K mg base 6 "can_go_safely" (pSp S_can_go_safely) := by
  refine fk_p D ns_can_go_safely (fun _ _ _ _ _ _ us hl => match us, hl with | [_, _, _], _ => rfl) (fun ds R h => ?_) (fun f cdv A outer s H E hr F ds R h => ?_)
  · obtain ⟨ns, l, s', rfl, hb, hz, hz2, hz3, q⟩ := h
    rfl
  obtain ⟨ns, l, s', rfl, hb, hz, hz2, hz3, q⟩ := h
  refine es_one ?_
  repeat wtm_at "w"
  refine nd_call (k := 5) G_can_be_done hr ?_
  repeat wtm_at "w"
  refine ⟨fun c hc => (hb c hc).2, hz2, _, rfl, ?_⟩
  cases hc : cbd l s' with
  | false =>
    rw [hc] at q
    repeat wtm_at "w"
    exact q
  | true =>
    rw [hc] at q
    repeat wtm_at "w"
    refine nd_call (k := 5) G_is_safe hr ?_
    repeat wtm_at "w"
    exact ⟨hz, hz2, hz3, q⟩
def S_led_by_copies : Spc := fun ds R => ∃ (l : Ly) (cs : St1), ds = [lyD l, stD cs] ∧ Bd l.length cs ∧ R (lyD (ledC l cs))
theorem k_led_by_copies (D : Fd K mg "led_by_copies" s_led_by_copies) (T : Bi mg) (G_led : Fk P w K mg base 1 "led" (pSp S_led)) : Fk P w K mg base 2 "led_by_copies" (pSp S_led_by_copies) := by
  refine fk_p D ns_led_by_copies (fun _ _ _ _ _ _ us hl => match us, hl with | [_, _], _ => rfl) (fun ds R h => ?_) (fun f cdv A outer s H E hr F ds R h => ?_)
  · obtain ⟨l, cs, rfl, hb, q⟩ := h
    rfl
  obtain ⟨l, cs, rfl, hb, q⟩ := h
  refine es_cons ?_
  wtm_at "for1"
  refine ni_tup ?_
  repeat wtm_at "w"
  refine ⟨fun n Γ2 => ∃ s3, Γ2 = [.val (lyD (ledC l (cs.take n))), .val (stD cs), s3], ⟨.no, rfl⟩, ?_, ?_⟩
  · rintro n d Γ2 hd ⟨s3, rfl⟩
    rw [List.getElem?_map] at hd
    cases hs : cs[n]? with
    | none => rw [hs] at hd; cases hd
    | some c =>
      rw [hs] at hd
      cases hd
      have hm := List.mem_of_getElem? hs
      refine es_one ?_
      wtm_at "set"
      refine nd_call (k := 1) G_led hr ?_
      repeat wtm_at "w"
      refine ⟨_, [c], rfl, fun c' hc => ?_, by simp, .val (cpD c), ?_⟩
      · rw [List.mem_singleton.mp hc, ledC_len]
        exact hb c hm
      · rw [take_snoc hs, ledC_snoc]
        rfl
  · rintro Γ2 ⟨s3, rfl⟩
    rw [List.length_map, List.take_length]
    repeat wtm_at "w"
    exact q
end


set_option Elab.async false
set_option linter.all false
set_option maxRecDepth 100000
set_option maxHeartbeats 2000000
/-! Wm.R: rows cut. -/



def leC (a b : Nat × Nat) : Bool := decide (a.1 < b.1) || (decide (a.1 = b.1) && decide (a.2 ≤ b.2))
theorem leC_iff {a b : Nat × Nat} : leC a b = true ↔ a.1 < b.1 ∨ (a.1 = b.1 ∧ a.2 ≤ b.2) := by
  unfold leC
  simp
def srt (s : St1) : St1 := s.mergeSort leC
theorem srt_perm (s : St1) : (srt s).Perm s := List.mergeSort_perm s leC
theorem srt_sorted (s : St1) : (srt s).Pairwise fun a b => leC a b = true := List.pairwise_mergeSort (fun a b c h1 h2 => by
    rw [leC_iff] at *
    omega) (fun a b => by
    rw [Bool.or_eq_true, leC_iff, leC_iff]
    omega) s
def toI (c : Nat × Nat) : Int × Int := ((c.1 : Int), (c.2 : Int))
theorem cpD_toI (cs : St1) : cs.map cpD = (cs.map toI).map pD := by
  rw [List.map_map]
  rfl
theorem lexLe_iff {c d : Int × Int} : LexLe c d ↔ ¬ (d.1 < c.1 ∨ (d.1 = c.1 ∧ d.2 < c.2)) := SrtO.lexB_no
theorem srt_uniq {cs : St1} {cs' : List (Int × Int)} (h1 : cs'.Perm (cs.map toI)) (h2 : cs'.Pairwise LexLe) : cs' = (srt cs).map toI := by
  refine List.Perm.eq_of_pairwise (le := LexLe) (fun a b _ _ h h' => ?_) h2 ?_ (h1.trans ((srt_perm cs).map toI).symm)
  · rw [lexLe_iff] at h h'
    exact Prod.ext (by omega) (by omega)
  · refine List.pairwise_map.mpr ((srt_sorted cs).imp fun {a b} h => ?_)
    rw [leC_iff] at h
    rw [lexLe_iff]
    show ¬ ((b.1 : Int) < (a.1 : Int) ∨ ((b.1 : Int) = (a.1 : Int) ∧ (b.2 : Int) < (a.2 : Int)))
    omega
theorem nd_sortC {X : Cx} {e : Expr} {Γ : Ctx} {P : PyData → Prop} {pos p : Pos} (T : Bi X.mg) (h : Nd X e Γ fun d => ∃ cs : St1, seqD d = some (cs.map cpD) ∧ P (.list ((srt cs).map cpD))) (hg : Gl X "sorted" := by rfl) (he : starEach [e] X.env = (false, eval e X.env) :: starEach [] X.env := by rfl) (hpl : (backTo pos (starEach [] X.env)).any (·.1) = false := by rfl) : Nd X (.Call (.Name "sorted" p) [e] [] pos) Γ P :=
  nd_sortP T (h.mono fun d ⟨cs, hx, q⟩ => ⟨cs.map toI, by rw [← cpD_toI]; exact hx, fun cs' h1 h2 => by rw [srt_uniq h1 h2, ← cpD_toI]; exact q⟩) hg he hpl
/-- copies one by one can go safely -/
structure RowOk (ns : List Nat) (l : Ly) (cs : St1) : Prop where
  bd : ∀ c ∈ cs, c.1 < l.length ∧ c.2 < l.length ∧ c.1 ≠ c.2
  go : ∀ i c, cs[i]? = some c → cbd (ledC l (cs.take i)) [c] = true ∧ safeB ns (ledC l (cs.take i)) [c] = true
  sz : cs.length ≤ 90000
  szl : l.length ≤ 100000
  szn : ns.length ≤ 100000
theorem okSt1 {c : Nat × Nat} (h : c.1 ≠ c.2) : okSt [c] = true := by
  have : ¬ c.2 = c.1 := fun e => h e.symm
  simp [okSt, asc, pls, this]
abbrev runOf (cs : St1) (b e : Nat) : St1 := srt ((cs.drop b).take (e - b))
def wholeB (ns : List Nat) (l : Ly) (cs : St1) (b e : Nat) : Bool := okSt (runOf cs b e) && (cbd (ledC l (cs.take b)) (runOf cs b e) && safeB ns (ledC l (cs.take b)) (runOf cs b e))
def cutsA (ns : List Nat) (l : Ly) (cs : St1) : Nat → List Nat
  | 0 => [0]
  | n + 1 => let f := cutsA ns l cs n; if wholeB ns l cs (f.getLastD 0) (n + 1) = true then f else f ++ [n]
def cutsF (ns : List Nat) (l : Ly) (cs : St1) : List Nat := if cs = [] then [0] else cutsA ns l cs cs.length ++ [cs.length]
theorem cutsA_ne (ns l cs) : ∀ n, cutsA ns l cs n ≠ []
  | 0 => by simp [cutsA]
  | n + 1 => by
    unfold cutsA
    dsimp only
    split
    · exact cutsA_ne ns l cs n
    · simp
theorem cutsA_last (ns l cs) : ∀ n, (cutsA ns l cs n).getLastD 0 ≤ n
  | 0 => by simp [cutsA]
  | n + 1 => by
    have ih := cutsA_last ns l cs n
    unfold cutsA
    dsimp only
    split
    · omega
    · rw [List.getLastD_concat]
      omega
theorem cutsA_len (ns l cs) : ∀ n, (cutsA ns l cs n).length ≤ n + 1
  | 0 => by simp [cutsA]
  | n + 1 => by
    have ih := cutsA_len ns l cs n
    unfold cutsA
    dsimp only
    split
    · omega
    · rw [List.length_append, List.length_singleton]
      omega
theorem last_at {xs : List Nat} (h : xs ≠ []) : xs[xs.length - 1]? = some (xs.getLastD 0) := by
  rw [← List.getLast?_eq_getElem?]
  cases xs with
  | nil => exact absurd rfl h
  | cons x xs => simp [List.getLast?_cons, List.getLastD_cons]
theorem mem_run {cs : St1} {b e : Nat} {c : Nat × Nat} (h : c ∈ runOf cs b e) : c ∈ cs := List.mem_of_mem_drop (List.mem_of_mem_take ((srt_perm _).mem_iff.mp h))
theorem run_len (cs : St1) (b e : Nat) : (runOf cs b e).length ≤ cs.length := by
  rw [(srt_perm _).length_eq, List.length_take, List.length_drop]
  omega
theorem run_ne {cs : St1} {b e : Nat} (h : b < e) (he : e ≤ cs.length) : runOf cs b e ≠ [] := fun z => by
  have := congrArg List.length z
  rw [(srt_perm _).length_eq, List.length_take, List.length_drop, List.length_nil] at this
  omega
theorem cut_map {α : Type} (L : List α) (f : α → PyData) (j k : Nat) : cutD (L.map f) (some (j : Int)) (some (k : Int)) = ((L.drop j).take (k - j)).map f := by
  rw [cutD_mid, List.map_take, List.map_drop]
theorem cut_map0 {α : Type} (L : List α) (f : α → PyData) (k : Nat) : cutD (L.map f) none (some (k : Int)) = (L.take k).map f := by
  rw [cutD_to, List.map_take]
theorem eqv_nilT {α : Type} (L : List α) (f : α → PyData) : PyData.eqv (.tuple (L.map f)) (.tuple []) = L.isEmpty := by
  cases L <;> simp [PyData.eqv, PyData.eqvAll]
theorem canI_all : ∀ L : List Nat, PyData.canLayAll0 (L.map iD) = true
  | [] => by simp [PyData.canLayAll0]
  | n :: L => by simp [PyData.canLayAll0, PyData.canLay0, canI_all L]
theorem canC (c : Nat × Nat) : PyData.canLay0 (cpD c) = true := by simp [cpD, PyData.canLay0, PyData.canLayAll0]
theorem canC_all : ∀ L : St1, PyData.canLayAll0 (L.map cpD) = true
  | [] => by simp [PyData.canLayAll0]
  | n :: L => by simp [PyData.canLayAll0, canC, canC_all L]
theorem depC (c : Nat × Nat) : PyData.depth (cpD c) ≤ 1 := by simp [cpD, PyData.depth, PyData.depthAll]
theorem depC_all : ∀ L : St1, PyData.depthAll (L.map cpD) ≤ 1
  | [] => by simp [PyData.depthAll]
  | n :: L => by
    have h1 := depC n
    have h2 := depC_all L
    simp only [List.map_cons, PyData.depthAll]
    omega
theorem sh_stD (s : St1) : SeqAt.shaped (stD s) = true := by
  have h := depC_all s
  show ((stD s).canLay0 && decide ((stD s).depth ≤ 64)) = true
  rw [Bool.and_eq_true]
  refine ⟨by unfold stD; simp only [PyData.canLay0]; exact canC_all s, decide_eq_true ?_⟩
  unfold stD
  simp only [PyData.depth]
  omega
section
variable {P : Program} {w : World} {K : PySem.W.Frag} {mg : Str → Option Value} {base : Heap}
def S_is_row : Spc := fun ds R => ∃ (ns : List Nat) (l : Ly) (cs : St1), ds = [nsD ns, lyD l, stD cs] ∧ RowOk ns l cs ∧ R (.bool true)
theorem k_is_row (D : Fd K mg "is_row" s_is_row) (T : Bi mg) (G_is_stretch : Fk P w K mg base 4 "is_stretch" (pSp S_is_stretch)) (G_can_go_safely : Fk P w K mg base 6 "can_go_safely" (pSp S_can_go_safely)) (G_led : Fk P w K mg base 1 "led" (pSp S_led)) : Fk P w K mg base 7 "is_row" (pSp S_is_row) := by
  refine fk_p D ns_is_row (fun _ _ _ _ _ _ us hl => match us, hl with | [_, _, _], _ => rfl) (fun ds R h => ?_) (fun f cdv A outer s H E hr F ds R h => ?_)
  · obtain ⟨ns, l, cs, rfl, hk, q⟩ := h
    rfl
  obtain ⟨ns, l, cs, rfl, hk, q⟩ := h
  refine es_cons ?_
  repeat wtm_at "w"
  wtm_at "for1"
  refine ni_tup ?_
  repeat wtm_at "w"
  refine ⟨fun n Γ2 => ∃ s3, Γ2 = [.val (nsD ns), .val (lyD (ledC l (cs.take n))), .val (stD cs), s3], ⟨.no, rfl⟩, ?_, ?_⟩
  · rintro n d Γ2 hd ⟨s3, rfl⟩
    rw [List.getElem?_map] at hd
    cases hs : cs[n]? with
    | none => rw [hs] at hd; cases hd
    | some c =>
      rw [hs] at hd
      cases hd
      have hm := List.mem_of_getElem? hs
      have bl : Bd (ledC l (cs.take n)).length [c] := fun c' hc => by
        rw [List.mem_singleton.mp hc, ledC_len]
        exact ⟨(hk.bd c hm).1, (hk.bd c hm).2.1⟩
      repeat wtm_at "w"
      refine nd_call (k := 6) G_is_stretch hr ?_
      repeat wtm_at "w"
      refine ⟨_, [c], rfl, by simp, fun c' hc => by rw [List.mem_singleton.mp hc, List.length_map, ledC_len]; exact hk.bd c hm, by simp, _, rfl, ?_⟩
      rw [okSt1 (hk.bd c hm).2.2]
      repeat wtm_at "w"
      refine nd_call (k := 6) G_can_go_safely hr ?_
      repeat wtm_at "w"
      refine ⟨_, _, [c], rfl, bl, by rw [ledC_len]; exact hk.szl, by simp, hk.szn, _, rfl, ?_⟩
      rw [(hk.go n c hs).1, (hk.go n c hs).2]
      repeat wtm_at "w"
      wtm_at "set"
      refine nd_call (k := 6) G_led hr ?_
      repeat wtm_at "w"
      refine ⟨_, [c], rfl, bl, by simp, .val (cpD c), ?_⟩
      rw [take_snoc hs, ledC_snoc]
      rfl
  · rintro Γ2 ⟨s3, rfl⟩
    repeat wtm_at "w"
    exact q
def S_is_whole_run : Spc := fun ds R => ∃ (ns : List Nat) (l : Ly) (cs : St1) (b e : Nat), ds = [nsD ns, lyD l, stD cs, iD b, iD e] ∧ RowOk ns l cs ∧ b < e ∧ e ≤ cs.length ∧ R (.bool (wholeB ns l cs b e))
theorem k_is_whole_run (D : Fd K mg "is_whole_run" s_is_whole_run) (T : Bi mg) (G_is_stretch : Fk P w K mg base 4 "is_stretch" (pSp S_is_stretch)) (G_can_go_safely : Fk P w K mg base 6 "can_go_safely" (pSp S_can_go_safely)) (G_led_by_copies : Fk P w K mg base 2 "led_by_copies" (pSp S_led_by_copies)) : Fk P w K mg base 7 "is_whole_run" (pSp S_is_whole_run) := by
  refine fk_p D ns_is_whole_run (fun _ _ _ _ _ _ us hl => match us, hl with | [_, _, _, _, _], _ => rfl) (fun ds R h => ?_) (fun f cdv A outer s H E hr F ds R h => ?_)
  · obtain ⟨ns, l, cs, b, e, rfl, hk, hbe, he, q⟩ := h
    rfl
  obtain ⟨ns, l, cs, b, e, rfl, hk, hbe, he, q⟩ := h
  refine es_cons ?_
  wtm_at "set"
  refine nd_tupc (by assumption) ?_
  refine nd_sortC (by assumption) ?_
  repeat wtm_at "w"
  rw [cut_map]
  repeat wtm_at "w"
  refine nd_call (k := 6) G_is_stretch hr ?_
  repeat wtm_at "w"
  refine ⟨run_ne hbe he, fun c hc => by rw [List.length_map]; exact hk.bd c (mem_run hc), Nat.le_trans (run_len cs b e) (by have := hk.sz; omega), _, rfl, ?_⟩
  unfold wholeB at q
  cases ho : okSt (runOf cs b e) with
  | false =>
    rw [ho] at q
    repeat wtm_at "w"
    exact q
  | true =>
    rw [ho] at q
    repeat wtm_at "w"
    refine nd_call (k := 6) G_can_go_safely hr ?_
    repeat wtm_at "w"
    refine nd_call (k := 6) G_led_by_copies hr ?_
    repeat wtm_at "w"
    rw [cut_map0]
    repeat wtm_at "w"
    refine ⟨fun c hc => ⟨(hk.bd c (List.mem_of_mem_take hc)).1, (hk.bd c (List.mem_of_mem_take hc)).2.1⟩, ?_⟩
    repeat wtm_at "w"
    refine ⟨fun c hc => ?_, by rw [ledC_len]; exact hk.szl, Nat.le_trans (run_len cs b e) (by have := hk.sz; omega), hk.szn, q⟩
    rw [ledC_len]
    exact ⟨(hk.bd c (mem_run hc)).1, (hk.bd c (mem_run hc)).2.1⟩
def S_cuts_of : Spc := fun ds R => ∃ (ns : List Nat) (l : Ly) (cs : St1), ds = [nsD ns, lyD l, stD cs] ∧ RowOk ns l cs ∧ R (.list ((cutsF ns l cs).map iD))
theorem k_cuts_of (D : Fd K mg "cuts_of" s_cuts_of) (T : Bi mg) (G_is_whole_run : Fk P w K mg base 7 "is_whole_run" (pSp S_is_whole_run)) : Fk P w K mg base 8 "cuts_of" (pSp S_cuts_of) := by
  refine fk_p D ns_cuts_of (fun _ _ _ _ _ _ us hl => match us, hl with | [_, _, _], _ => rfl) (fun ds R h => ?_) (fun f cdv A outer s H E hr F ds R h => ?_)
  · obtain ⟨ns, l, cs, rfl, hk, q⟩ := h
    rfl
  obtain ⟨ns, l, cs, rfl, hk, q⟩ := h
  refine es_cons ?_
  wtm_at "own"
  refine nl_lst ?_
  repeat wtm_at "w"
  intro qa hq
  repeat wtm_at "w"
  wtm_at "for1"
  refine ni_range2 (by wtm_at "Brange") ?_
  repeat wtm_at "w"
  rw [List.length_map]
  have hsz := hk.sz
  refine ⟨by omega, ?_⟩
  have er : rangeD 1 (((cs.length : Nat) : Int) + 1 - 1).toNat = (List.range cs.length).map fun i => iD (i + 1) := by
    unfold rangeD
    rw [show (((cs.length : Nat) : Int) + 1 - 1).toNat = cs.length by omega]
    apply List.map_congr_left
    intro i _
    show PyData.int _ = PyData.int _
    rw [show (1 : Int) + (i : Nat) = ((i + 1 : Nat) : Int) by omega]
  rw [er]
  refine ⟨fun n Γ2 => ∃ s3, Γ2 = [.val (nsD ns), .val (lyD l), .val (stD cs), .own qa ((cutsA ns l cs n).map iD), s3], ⟨.no, rfl⟩, ?_, ?_⟩
  · rintro n d Γ2 hd ⟨s3, rfl⟩
    rw [List.getElem?_map] at hd
    have hlt : n < cs.length := by
      by_cases h : n < cs.length
      · exact h
      · rw [List.getElem?_eq_none (by rw [List.length_range]; omega)] at hd
        cases hd
    rw [List.getElem?_range hlt] at hd
    cases hd
    have hl := cutsA_last ns l cs n
    have hlast : atI ((cutsA ns l cs n).map iD) (-1) = some (iD ((cutsA ns l cs n).getLastD 0)) := by
      refine atI_last ?_
      rw [List.length_map, List.getElem?_map, last_at (cutsA_ne ns l cs n)]
      rfl
    refine es_one ?_
    refine e1_if ?_
    refine nt_not ?_
    refine nt_val ?_
    refine nd_call (k := 7) G_is_whole_run hr ?_
    repeat wtm_at "w"
    refine ⟨_, hlast, ?_⟩
    refine ⟨by unfold lless; rfl, ?_⟩
    repeat wtm_at "w"
    refine ⟨hk, by omega, by omega, ?_⟩
    repeat wtm_at "w"
    refine ifB (fun hc => ?_) (fun hc => ?_)
    · have hw : wholeB ns l cs ((cutsA ns l cs n).getLastD 0) (n + 1) = false := by
        cases h : wholeB ns l cs ((cutsA ns l cs n).getLastD 0) (n + 1) with
        | false => rfl
        | true => rw [h] at hc; cases hc
      refine es_one ?_
      refine e1_append (i := 3) (by wtm_at "look") ?_
      repeat wtm_at "w"
      refine ⟨by rw [List.length_map]; have := cutsA_len ns l cs n; omega, .val (iD (n + 1)), ?_⟩
      have e : cutsA ns l cs (n + 1) = cutsA ns l cs n ++ [n] := by
        rw [cutsA]
        rw [if_neg (by rw [hw]; decide)]
      rw [e, List.map_append]
      have e2 : PyData.int (((n + 1 : Nat) : Int) - 1) = iD n := by
        show PyData.int _ = PyData.int _
        rw [show ((n + 1 : Nat) : Int) - 1 = (n : Int) by omega]
      rw [e2]
      rfl
    · have hw : wholeB ns l cs ((cutsA ns l cs n).getLastD 0) (n + 1) = true := by
        cases h : wholeB ns l cs ((cutsA ns l cs n).getLastD 0) (n + 1) with
        | true => rfl
        | false => rw [h] at hc; cases hc
      repeat wtm_at "w"
      refine ⟨.val (iD (n + 1)), ?_⟩
      have e : cutsA ns l cs (n + 1) = cutsA ns l cs n := by
        rw [cutsA]
        rw [if_pos hw]
      rw [e]
      rfl
  · rintro Γ2 ⟨s3, rfl⟩
    rw [List.length_map, List.length_range]
    refine es_freeze (i := 3) (by wtm_at "look") hq ?_
    refine es_one ?_
    refine e1_ret ?_
    refine nd_if ?_
    refine nt_cmp ?_
    repeat wtm_at "w"
    refine cmp_ne hr.units (sh_stD cs) (by rfl) ?_
    unfold stD
    rw [eqv_nilT]
    unfold cutsF at q
    cases cs with
    | nil =>
      rw [if_pos rfl] at q
      refine ⟨_, rfl, ?_⟩
      refine iteF ?_
      repeat wtm_at "w"
      exact q
    | cons c cs' =>
      rw [if_neg (by simp)] at q
      refine ⟨_, rfl, ?_⟩
      refine iteT ?_
      refine nd_lst ?_
      repeat wtm_at "w"
      have hcl := cutsA_len ns l (c :: cs') (c :: cs').length
      refine ⟨by rw [List.length_append, List.length_map]; show _ + 1 ≤ 100000; omega, ?_⟩
      show R _
      rw [List.map_append] at q
      rw [List.length_map]
      exact q
theorem cutsF_len {ns l cs} (hk : RowOk ns l cs) : (cutsF ns l cs).length ≤ 90002 := by
  have h1 := cutsA_len ns l cs cs.length
  have h2 := hk.sz
  unfold cutsF
  split
  · simp
  · rw [List.length_append, List.length_singleton]
    omega
def cutP (ns : List Nat) (l : Ly) (cs : St1) : List St1 := ((cutsF ns l cs).zip ((cutsF ns l cs).drop 1)).map fun p => runOf cs p.1 p.2
def S_cut_row : Spc := fun ds R => ∃ (ns : List Nat) (l : Ly) (cs : St1), ds = [nsD ns, lyD l, stD cs] ∧ RowOk ns l cs ∧ R (plD (cutP ns l cs))
theorem k_cut_row (D : Fd K mg "cut_row" s_cut_row) (T : Bi mg) (G_cuts_of : Fk P w K mg base 8 "cuts_of" (pSp S_cuts_of)) : Fk P w K mg base 9 "cut_row" (pSp S_cut_row) := by
  refine fk_p D ns_cut_row (fun _ _ _ _ _ _ us hl => match us, hl with | [_, _, _], _ => rfl) (fun ds R h => ?_) (fun f cdv A outer s H E hr F ds R h => ?_)
  · obtain ⟨ns, l, cs, rfl, hk, q⟩ := h
    rfl
  obtain ⟨ns, l, cs, rfl, hk, q⟩ := h
  refine es_cons ?_
  wtm_at "set"
  refine nd_call (k := 8) G_cuts_of hr ?_
  repeat wtm_at "w"
  refine ⟨hk, ?_⟩
  have hcl := cutsF_len hk
  repeat wtm_at "w"
  refine ni_zipLL (by wtm_at "Bzip") ?_
  repeat wtm_at "w"
  rw [show cutD ((cutsF ns l cs).map iD) (some 1) none = ((cutsF ns l cs).drop 1).map iD from (cutD_from _ 1).trans List.map_drop.symm]
  repeat wtm_at "w"
  rw [zipD_map]
  refine lc_all (f := fun p => stD (runOf cs p.1 p.2)) (by rw [List.length_zip]; omega) (fun a ha => tgn_pair fun s0 H0 C cl fp => ?_) ?_
  · refine nd_tupc (by assumption) ?_
    refine nd_sortC (by assumption) ?_
    repeat wtm_at "w"
    rw [cut_map]
    refine ⟨_, rfl, ?_⟩
    repeat wtm_at "w"
    rfl
  repeat wtm_at "w"
  show R _
  unfold plD cutP at q
  rw [List.map_map] at q
  exact q
def S_row_paper : Spc := fun ds R => ∃ (ns : List Nat) (l : Ly) (cs : St1), ds = [nsD ns, lyD l, stD cs] ∧ RowOk ns l cs ∧ ∀ p : St1, p.length = (cutsF ns l cs).length - 2 → R (stD p)
theorem k_row_paper (D : Fd K mg "row_paper" s_row_paper) (T : Bi mg) (G_cuts_of : Fk P w K mg base 8 "cuts_of" (pSp S_cuts_of)) : Fk P w K mg base 9 "row_paper" (pSp S_row_paper) := by
  refine fk_p D ns_row_paper (fun _ _ _ _ _ _ us hl => match us, hl with | [_, _, _], _ => rfl) (fun ds R h => ?_) (fun f cdv A outer s H E hr F ds R h => ?_)
  · obtain ⟨ns, l, cs, rfl, hk, q⟩ := h
    rfl
  obtain ⟨ns, l, cs, rfl, hk, q⟩ := h
  refine es_cons ?_
  wtm_at "set"
  refine nd_call (k := 8) G_cuts_of hr ?_
  repeat wtm_at "w"
  refine ⟨hk, ?_⟩
  have hcl := cutsF_len hk
  repeat wtm_at "w"
  refine ni_zipLL (by wtm_at "Bzip") ?_
  repeat wtm_at "w"
  rw [show cutD ((cutsF ns l cs).map iD) (some 1) (some (-1)) = (((cutsF ns l cs).drop 1).take ((cutsF ns l cs).length - 1 - 1)).map iD from (cutD_mid1 _ 1 1 (by decide)).trans (by rw [List.map_take, List.map_drop, List.length_map])]
  repeat wtm_at "w"
  rw [zipD_map]
  refine lc_all (f := fun p => cpD (p.1, p.2 + 1)) (by rw [List.length_zip]; omega) (fun a ha => tgn_pair fun s0 H0 C cl fp => ?_) ?_
  · repeat wtm_at "w"
    rfl
  repeat wtm_at "w"
  show R _
  have := q (((cutsF ns l cs).zip (((cutsF ns l cs).drop 1).take ((cutsF ns l cs).length - 1 - 1))).map fun p => (p.1, p.2 + 1)) (by rw [List.length_map, List.length_zip, List.length_take, List.length_drop]; omega)
  unfold stD at this
  rw [List.map_map] at this
  exact this
end


set_option Elab.async false
set_option linter.all false
set_option maxRecDepth 100000
set_option maxHeartbeats 2000000
/-! Wm.V: the law's own judges. -/



/-- a list or tuple of a layout's items -/
def LyS (d : PyData) (l : Ly) : Prop := d = .list (l.map oD) ∨ d = .tuple (l.map oD)
def rms (ns : List Nat) (l : Ly) : List Int := ns.zipIdx.map fun p => (cnt l p.2 : Int) - (p.1 : Int)
theorem cnt_filter (l : Ly) (v : Nat) : (l.filter fun o => decide (o = some v)).length = cnt l v := by
  unfold cnt
  rw [List.countP_eq_length_filter]
section
variable {P : Program} {w : World} {K : PySem.W.Frag} {mg : Str → Option Value} {base : Heap}
def S_law_is_int : Spc := fun ds R => ∃ d, ds = [d] ∧ R (.bool (isIntD d))
theorem k_law_is_int (D : Fd K mg "_law_is_int" s_law_is_int) (T : Bi mg) : Fk P w K mg base 1 "_law_is_int" (pSp S_law_is_int) := by
  refine fk_p D ns_law_is_int (fun _ _ _ _ _ _ us hl => match us, hl with | [_], _ => rfl) (fun ds R h => ?_) (fun f cdv A outer s H E hr F ds R h => ?_)
  · obtain ⟨d, rfl, q⟩ := h
    rfl
  obtain ⟨d, rfl, q⟩ := h
  refine es_one (e1_ret ?_)
  repeat wtm_at "w"
  cases d <;> first
    | (refine iteF ?_; exact q)
    | (refine iteT ?_; (repeat wtm_at "w"); exact q)
def S_law_standings : Spc := fun ds R => ∃ (ns : List Nat) (d : PyData) (l : Ly), ds = [nsD ns, d] ∧ LyS d l ∧ ns.length ≤ 100000 ∧ l.length ≤ 100000 ∧ R (.list ((stands ns.length l).map iD))
theorem k_law_standings (D : Fd K mg "_law_standings" s_law_standings) (T : Bi mg) : Fk P w K mg base 1 "_law_standings" (pSp S_law_standings) := by
  refine fk_p D ns_law_standings (fun _ _ _ _ _ _ us hl => match us, hl with | [_, _], _ => rfl) (fun ds R h => ?_) (fun f cdv A outer s H E hr F ds R h => ?_)
  · obtain ⟨ns, d, l, rfl, hd, hz, hz2, q⟩ := h
    rfl
  obtain ⟨ns, d, l, rfl, hd, hz, hz2, q⟩ := h
  refine es_one (e1_ret ?_)
  repeat wtm_at "w"
  refine ni_range1 (by wtm_at "Brange") ?_
  repeat wtm_at "w"
  refine ⟨by rw [List.length_map]; omega, ?_⟩
  rw [List.length_map, Int.toNat_natCast, rangeD_nat]
  refine lc_all (enc := iD) (f := fun v => iD (cnt l v)) (by rw [List.length_range]; exact hz) (fun a ha => tgn_name fun s0 H0 C cl fp => ?_) ?_
  · refine nd_len (by assumption) ?_
    rcases hd with rfl | rfl <;>
    · repeat wtm_at "w"
      wtm_at "seq"
      refine lc_map (enc := oD) (t := fun o => decide (o = some a)) (f := oD) hz2 (fun o ho => tgn_name fun s1 H1 C1 cl1 fp1 => ?_) ?_
      · refine nts_one ?_
        refine nt_cmp ?_
        repeat wtm_at "w"
        refine cmp_eq hr.units (shF (flat_o _)) rfl ?_
        refine ⟨_, rfl, eqv_oo o (some a), fun _ => ?_⟩
        intro s2 H2 C2 cl2 fp2
        repeat wtm_at "w"
        rfl
      refine ⟨_, rfl, ?_⟩
      rw [List.length_map, cnt_filter]
  show R _
  unfold stands at q
  rw [List.map_map] at q
  exact q
def S_law_rooms : Spc := fun ds R => ∃ (ns : List Nat) (d : PyData) (l : Ly), ds = [nsD ns, d] ∧ LyS d l ∧ ns.length ≤ 100000 ∧ l.length ≤ 100000 ∧ R (.list ((rms ns l).map .int))
theorem rms_zip (ns : List Nat) (l : Ly) : ((stands ns.length l).zip ns).map (fun p => (p.1 : Int) - (p.2 : Int)) = rms ns l := by
  unfold rms stands
  apply List.ext_getElem
  · simp
  · intro i h1 h2
    simp
theorem k_law_rooms (D : Fd K mg "_law_rooms" s_law_rooms) (T : Bi mg) (G_law_standings : Fk P w K mg base 1 "_law_standings" (pSp S_law_standings)) : Fk P w K mg base 2 "_law_rooms" (pSp S_law_rooms) := by
  refine fk_p D ns_law_rooms (fun _ _ _ _ _ _ us hl => match us, hl with | [_, _], _ => rfl) (fun ds R h => ?_) (fun f cdv A outer s H E hr F ds R h => ?_)
  · obtain ⟨ns, d, l, rfl, hd, hz, hz2, q⟩ := h
    rfl
  obtain ⟨ns, d, l, rfl, hd, hz, hz2, q⟩ := h
  refine es_one (e1_ret ?_)
  repeat wtm_at "w"
  refine ni_zipLT (by wtm_at "Bzip") ?_
  refine nd_call (k := 1) G_law_standings hr ?_
  repeat wtm_at "w"
  refine ⟨_, _, l, rfl, hd, hz, hz2, ?_⟩
  repeat wtm_at "w"
  rw [zipD_map]
  refine lc_all (f := fun p => .int ((p.1 : Int) - (p.2 : Int))) (by rw [List.length_zip]; omega) (fun a ha => tgn_pair fun s0 H0 C cl fp => ?_) ?_
  · repeat wtm_at "w"
    rfl
  show R _
  rw [← rms_zip, List.map_map] at q
  exact q
def rightB (ns : List Nat) (l : Ly) : Bool := (l.all fun o => match o with | none => true | some v => decide (v < ns.length)) && (rms ns l).all fun r => decide (0 ≤ r)
theorem rms_len (ns l) : (rms ns l).length = ns.length := by
  unfold rms
  rw [List.length_map, List.length_zipIdx]
theorem flat_ints (L : List Int) : (L.map PyData.int).all flatD = true := by
  rw [List.all_map, List.all_eq_true]
  intro _ _
  rfl
theorem filt_all {α : Type} (L : List α) (t : α → Bool) : (L.filter t).isEmpty = L.all fun a => !t a := by
  induction L with
  | nil => rfl
  | cons a L ih =>
    cases h : t a with
    | true => simp [List.filter_cons, h]
    | false => simp [List.filter_cons, h, ← ih]
def S_law_is_right : Spc := fun ds R => ∃ (ns : List Nat) (d : PyData) (l : Ly), ds = [nsD ns, d] ∧ LyS d l ∧ ns.length ≤ 100000 ∧ l.length ≤ 100000 ∧ R (.bool (rightB ns l))
theorem k_law_is_right (D : Fd K mg "_law_is_right" s_law_is_right) (T : Bi mg) (G_law_rooms : Fk P w K mg base 2 "_law_rooms" (pSp S_law_rooms)) : Fk P w K mg base 3 "_law_is_right" (pSp S_law_is_right) := by
  refine fk_p D ns_law_is_right (fun _ _ _ _ _ _ us hl => match us, hl with | [_, _], _ => rfl) (fun ds R h => ?_) (fun f cdv A outer s H E hr F ds R h => ?_)
  · obtain ⟨ns, d, l, rfl, hd, hz, hz2, q⟩ := h
    rfl
  obtain ⟨ns, d, l, rfl, hd, hz, hz2, q⟩ := h
  refine es_cons ?_
  refine e1_if ?_
  refine nt_cmp ?_
  have hd' := hd
  refine Nd.mono (P := fun d => d = .list ((l.filter fun o => match o with | none => false | some v => !decide (v < ns.length)).map oD)) ?_ (fun x hx => ?_)
  · rcases hd with rfl | rfl <;>
    · repeat wtm_at "w"
      wtm_at "seq"
      refine lc_map (enc := oD) (t := fun o => match o with | none => false | some v => !decide (v < ns.length)) (f := oD) hz2 (fun o ho => tgn_name fun s1 H1 C1 cl1 fp1 => ?_) ?_
      · refine nts_one ?_
        cases o with
        | none =>
          repeat wtm_at "w"
          exact ⟨rfl, fun h => by cases h⟩
        | some v =>
          repeat wtm_at "w"
          rw [List.length_map]
          refine ⟨?_, fun _ => ?_⟩
          · have : (0 ≤ (v : Int) ∧ (v : Int) < (ns.length : Nat)) ↔ v < ns.length := by omega
            simp [this]
          · intro s2 H2 C2 cl2 fp2
            repeat wtm_at "w"
            rfl
      rfl
  · subst hx
    repeat wtm_at "w"
    refine cmp_neNil hr (sh_flat (flat_oD _)) ?_
    rw [List.isEmpty_map, filt_all]
    unfold rightB at q
    have e : (l.all fun o => !(match o with | none => false | some v => !decide (v < ns.length))) = l.all fun o => match o with | none => true | some v => decide (v < ns.length) := by
      congr 1
      funext o
      cases o <;> simp
    rw [e]
    refine ⟨_, rfl, ?_⟩
    cases ha : (l.all fun o => match o with | none => true | some v => decide (v < ns.length)) with
    | false =>
      rw [ha] at q
      repeat wtm_at "w"
      exact q
    | true =>
      rw [ha] at q
      repeat wtm_at "w"
      refine ni_list ?_
      refine nd_call (k := 2) G_law_rooms hr ?_
      repeat wtm_at "w"
      refine ⟨_, _, l, rfl, hd', hz, hz2, ?_⟩
      repeat wtm_at "w"
      refine lc_map (enc := PyData.int) (t := fun r => decide (r < 0)) (f := PyData.int) (by rw [rms_len]; exact hz) (fun o ho => tgn_name fun s1 H1 C1 cl1 fp1 => ?_) ?_
      · refine nts_one ?_
        repeat wtm_at "w"
        refine ⟨rfl, fun _ => ?_⟩
        intro s2 H2 C2 cl2 fp2
        repeat wtm_at "w"
        rfl
      repeat wtm_at "w"
      refine cmp_eqNil hr (sh_flat (flat_ints _)) ?_
      rw [List.isEmpty_map, filt_all]
      have e : ((rms ns l).all fun r => !decide (r < 0)) = (rms ns l).all fun r => decide (0 ≤ r) := by
        congr 1
        funext r
        by_cases h : r < 0
        · have h2 : ¬ 0 ≤ r := by omega
          simp [h, h2]
        · have h2 : 0 ≤ r := by omega
          simp [h, h2]
      rw [e]
      exact q
/-- the places that have room -/
def roomB (ns : List Nat) (l : Ly) (i : Nat) : Bool := match gt l i with
  | none => true
  | some v => decide (0 < (rms ns l)[v]?.getD 0)
def withRoom (ns : List Nat) (l : Ly) : List Nat := (List.range l.length).filter (roomB ns l)
theorem zipIdx_filter {α : Type} (L : List α) (t : Nat → Bool) : (L.zipIdx.filter fun p => t p.2).map (·.2) = (List.range L.length).filter t := by
  rw [show (fun p : α × Nat => t p.2) = t ∘ Prod.snd from rfl, ← List.filter_map, List.zipIdx_map_snd, List.range_eq_range']
def S_law_with_room : Spc := fun ds R => ∃ (ns : List Nat) (l : Ly), ds = [nsD ns, lyD l] ∧ (∀ v, some v ∈ l → v < ns.length) ∧ ns.length ≤ 100000 ∧ l.length ≤ 100000 ∧ R (.list ((withRoom ns l).map iD))
theorem k_law_with_room (D : Fd K mg "_law_with_room" s_law_with_room) (T : Bi mg) (G_law_rooms : Fk P w K mg base 2 "_law_rooms" (pSp S_law_rooms)) : Fk P w K mg base 3 "_law_with_room" (pSp S_law_with_room) := by
  refine fk_p D ns_law_with_room (fun _ _ _ _ _ _ us hl => match us, hl with | [_, _], _ => rfl) (fun ds R h => ?_) (fun f cdv A outer s H E hr F ds R h => ?_)
  · obtain ⟨ns, l, rfl, hv, hz, hz2, q⟩ := h
    rfl
  obtain ⟨ns, l, rfl, hv, hz, hz2, q⟩ := h
  refine es_cons ?_
  wtm_at "set"
  refine nd_call (k := 2) G_law_rooms hr ?_
  repeat wtm_at "w"
  refine ⟨_, _, l, rfl, .inr rfl, hz, hz2, ?_⟩
  repeat wtm_at "w"
  refine ni_enumT (by wtm_at "Ben") ?_
  repeat wtm_at "w"
  rw [enumD_map]
  refine lc_map (t := fun p => roomB ns l p.2) (f := fun p => iD p.2) (by rw [List.length_zipIdx]; exact hz2) (fun a ha => tgn_pair fun s1 H1 C1 cl1 fp1 => ?_) ?_
  · obtain ⟨o, i⟩ := a
    have z := List.mem_zipIdx_iff_getElem?.mp ha
    have z : l[i]? = some o := by simpa using z
    have hg : gt l i = o := by unfold gt; rw [z]; rfl
    refine nts_one ?_
    show Nt _ _ _ fun b => b = roomB ns l i ∧ (roomB ns l i = true → _)
    unfold roomB
    rw [hg]
    cases o with
    | none =>
      repeat wtm_at "w"
      refine ⟨rfl, fun _ => ?_⟩
      intro s2 H2 C2 cl2 fp2
      repeat wtm_at "w"
      rfl
    | some v =>
      have hvl : v < (rms ns l).length := by rw [rms_len]; exact hv v (List.mem_of_getElem? z)
      have hr2 : (rms ns l)[v]? = some (rms ns l)[v] := List.getElem?_eq_getElem hvl
      repeat wtm_at "w"
      refine ⟨_, atI_map hr2, ?_⟩
      repeat wtm_at "w"
      refine ⟨by show decide (0 < (rms ns l)[v]) = decide (0 < (rms ns l)[v]?.getD 0); rw [hr2]; rfl, fun _ => ?_⟩
      intro s2 H2 C2 cl2 fp2
      repeat wtm_at "w"
      rfl
  show R _
  have e := zipIdx_filter l (roomB ns l)
  unfold withRoom at q
  rw [← e, List.map_map] at q
  exact q
end


set_option Elab.async false
set_option linter.all false
set_option maxRecDepth 100000
set_option maxHeartbeats 2000000
/-! Wm.W: the law's judges of plans. -/



/-- a list or tuple of copies -/
def CpS (d : PyData) (s : St1) : Prop := d = .list (s.map cpD) ∨ d = .tuple (s.map cpD)
section
variable {P : Program} {w : World} {K : PySem.W.Frag} {mg : Str → Option Value} {base : Heap}
def S_law_can_be_done : Spc := fun ds R => ∃ (l : Ly) (s : St1), ds = [lyD l, stD s] ∧ (∀ c ∈ s, c.2 < l.length) ∧ s.length ≤ 100000 ∧ R (.bool (cbd l s))
theorem k_law_can_be_done (D : Fd K mg "_law_can_be_done" s_law_can_be_done) (T : Bi mg) : Fk P w K mg base 1 "_law_can_be_done" (pSp S_law_can_be_done) := by
  refine fk_p D ns_law_can_be_done (fun _ _ _ _ _ _ us hl => match us, hl with | [_, _], _ => rfl) (fun ds R h => ?_) (fun f cdv A outer s H E hr F ds R h => ?_)
  · obtain ⟨l, s', rfl, hb, hz, q⟩ := h
    rfl
  obtain ⟨l, s', rfl, hb, hz, q⟩ := h
  refine es_one (e1_ret ?_)
  repeat wtm_at "w"
  refine ni_tup ?_
  repeat wtm_at "w"
  refine lc_map (enc := cpD) (t := fun c => (gt l c.2).isNone) (f := fun c => iD c.2) hz (fun a ha => tgn_pair fun s0 H0 C cl fp => ?_) ?_
  · refine nts_one ?_
    repeat wtm_at "w"
    refine ⟨_, atI_map (gt_get (hb a ha)), ?_⟩
    repeat wtm_at "w"
    refine ⟨isN_o _, fun _ => ?_⟩
    intro s2 H2 C2 cl2 fp2
    repeat wtm_at "w"
    rfl
  repeat wtm_at "w"
  refine cmp_eqNil hr (sh_flat (by rw [List.all_map, List.all_eq_true]; intro _ _; rfl)) ?_
  rw [List.isEmpty_map, filt_all]
  have e : (s'.all fun c => !(gt l c.2).isNone) = cbd l s' := by
    unfold cbd
    congr 1
    funext c
    cases gt l c.2 <;> rfl
  rw [e]
  exact q
def S_law_led : Spc := fun ds R => ∃ (l : Ly) (s : St1), ds = [lyD l, stD s] ∧ Bd l.length s ∧ s.length ≤ 100000 ∧ R (lyD (ledm l s))
theorem k_law_led (D : Fd K mg "_law_led" s_law_led) (T : Bi mg) : Fk P w K mg base 1 "_law_led" (pSp S_law_led) := by
  refine fk_p D ns_law_led (fun _ _ _ _ _ _ us hl => match us, hl with | [_, _], _ => rfl) (fun ds R h => ?_) (fun f cdv A outer s H E hr F ds R h => ?_)
  · obtain ⟨l, s', rfl, hb, hz, q⟩ := h
    rfl
  obtain ⟨l, s', rfl, hb, hz, q⟩ := h
  refine es_cons ?_
  wtm_at "own"
  refine nl_listc (by assumption) ?_
  repeat wtm_at "w"
  intro qa hq
  repeat wtm_at "w"
  wtm_at "for2"
  refine ni_tup ?_
  repeat wtm_at "w"
  refine ⟨fun n Γ2 => ∃ s3 s4, Γ2 = [.val (lyD l), .val (stD s'), .own qa (((s'.take n).foldl (fun f c => f.set c.1 (gt l c.2)) l).map oD), s3, s4], ⟨.no, .no, rfl⟩, ?_, ?_⟩
  · rintro n d Γ2 hd ⟨s3, s4, rfl⟩
    rw [List.getElem?_map] at hd
    cases hc : s'[n]? with
    | none => rw [hc] at hd; cases hd
    | some c =>
      rw [hc] at hd
      cases hd
      have hm : c ∈ s' := List.mem_of_getElem? hc
      refine ⟨_, _, rfl, ?_⟩
      repeat wtm_at "w"
      refine e1_item (i := 2) rfl ?_
      repeat wtm_at "w"
      refine ⟨_, atI_map (gt_get (hb c hm).2), ?_⟩
      repeat wtm_at "w"
      refine ⟨_, c.1, rfl, ixN_nat (by rw [List.length_map, ledm_foldl_len]; exact (hb c hm).1), ?_⟩
      refine ⟨.val (iD c.1), .val (iD c.2), ?_⟩
      rw [set_map, List.take_add_one, hc]
      simp only [Option.toList_some, List.foldl_append, List.foldl_cons, List.foldl_nil]
      rfl
  · rintro Γ2 ⟨s3, s4, rfl⟩
    rw [List.length_map, List.take_length]
    refine es_freeze (i := 2) (by wtm_at "look") hq ?_
    repeat wtm_at "w"
    exact q
/-- what stands outside some places -/
def outl (l : Ly) (pl : List Nat) : Ly := (l.zipIdx.filter fun p => !decide (p.2 ∈ pl)).map (·.1)
theorem cnt_outl (l : Ly) (pl : List Nat) (v : Nat) : cnt (outl l pl) v = cnt (outs l pl) v := by
  unfold outl outs cnt
  generalize l.zipIdx = L
  induction L with
  | nil => rfl
  | cons a L ih =>
    by_cases h : a.2 ∈ pl
    · simp [List.filter_cons, h, ih]
    · simp [List.filter_cons, h, ih, List.countP_cons]
theorem outl_len (l : Ly) (pl : List Nat) : (outl l pl).length ≤ l.length := by
  unfold outl
  rw [List.length_map]
  exact Nat.le_trans (List.length_filter_le _ _) (by rw [List.length_zipIdx]; exact Nat.le_refl _)
theorem rms_safe (ns : List Nat) (l : Ly) (s : St1) : ((rms ns (outl l (pls s))).all fun r => !decide (r < 0)) = safeB ns l s := by
  unfold rms safeB
  rw [List.all_map]
  congr 1
  funext p
  show (!decide ((cnt (outl l (pls s)) p.2 : Int) - (p.1 : Int) < 0)) = _
  rw [cnt_outl]
  by_cases h : p.1 ≤ cnt (outs l (pls s)) p.2
  · rw [decide_eq_true h, decide_eq_false (by omega)]
    rfl
  · rw [decide_eq_false h, decide_eq_true (by omega)]
    rfl
def S_law_is_safe : Spc := fun ds R => ∃ (ns : List Nat) (l : Ly) (d : PyData) (s : St1), ds = [nsD ns, lyD l, d] ∧ CpS d s ∧ l.length ≤ 100000 ∧ s.length ≤ 100000 ∧ ns.length ≤ 100000 ∧ R (.bool (safeB ns l s))
theorem k_law_is_safe (D : Fd K mg "_law_is_safe" s_law_is_safe) (T : Bi mg) (G_law_rooms : Fk P w K mg base 2 "_law_rooms" (pSp S_law_rooms)) : Fk P w K mg base 3 "_law_is_safe" (pSp S_law_is_safe) := by
  refine fk_p D ns_law_is_safe (fun _ _ _ _ _ _ us hl => match us, hl with | [_, _, _], _ => rfl) (fun ds R h => ?_) (fun f cdv A outer s H E hr F ds R h => ?_)
  · obtain ⟨ns, l, d, s', rfl, hd, hz, hz2, hz3, q⟩ := h
    rfl
  obtain ⟨ns, l, d, s', rfl, hd, hz, hz2, hz3, q⟩ := h
  refine es_cons ?_
  wtm_at "set"
  refine Nd.mono (P := fun d => d = .list ((pls s').map iD)) ?_ (fun x hx => ?_)
  · rcases hd with rfl | rfl <;>
    · refine nd_lc2 (by wtm_at "XN") (by wtm_at "idx") (by wtm_at "idx") (by wtm_at "calm") (by decide +kernel) ?_ (by wtm_at "XS") (hpg := by wtm_at "pg")
      wtm_at "seq"
      refine lc_all (enc := cpD) (f := fun c => iD c.1) hz2 (fun a ha => tgn_pair fun s0 H0 C cl fp => ?_) ?_
      · repeat wtm_at "w"
        rfl
      unfold pls
      rw [List.map_map]
      rfl
  subst hx
  refine es_cons ?_
  wtm_at "slc2"
  refine ni_enumT (by wtm_at "Ben") ?_
  repeat wtm_at "w"
  rw [enumD_map]
  refine lc_map (t := fun p => !decide (p.2 ∈ pls s')) (f := fun p => oD p.1) (by rw [List.length_zipIdx]; exact hz) (fun a ha => tgn_pair fun s0 H0 C cl fp => ?_) ?_
  · refine nts_one ?_
    repeat wtm_at "w"
    refine cmp_notIn (.inl rfl) rfl (flat_iD _) ?_
    rw [any_iD]
    refine ⟨_, rfl, rfl, fun _ => ?_⟩
    intro s2 H2 C2 cl2 fp2
    repeat wtm_at "w"
    rfl
  refine es_one (e1_ret ?_)
  have e : ((l.zipIdx.filter fun p => !decide (p.2 ∈ pls s')).map fun p => oD p.1) = (outl l (pls s')).map oD := by
    unfold outl
    rw [List.map_map]
    rfl
  rw [e]
  repeat wtm_at "w"
  refine ni_list ?_
  refine nd_call (k := 2) G_law_rooms hr ?_
  repeat wtm_at "w"
  refine ⟨_, _, outl l (pls s'), rfl, .inl rfl, hz3, Nat.le_trans (outl_len _ _) hz, ?_⟩
  repeat wtm_at "w"
  refine lc_map (enc := PyData.int) (t := fun r => decide (r < 0)) (f := PyData.int) (by rw [rms_len]; exact hz3) (fun o ho => tgn_name fun s1 H1 C1 cl1 fp1 => ?_) ?_
  · refine nts_one ?_
    repeat wtm_at "w"
    refine ⟨rfl, fun _ => ?_⟩
    intro s2 H2 C2 cl2 fp2
    repeat wtm_at "w"
    rfl
  repeat wtm_at "w"
  refine cmp_eqNil hr (sh_flat (flat_ints _)) ?_
  rw [List.isEmpty_map, filt_all, rms_safe]
  exact q
def S_law_led_by : Spc := fun ds R => ∃ (l : Ly) (p : List St1), ds = [lyD l, plD p] ∧ bdP l.length p ∧ canP l p ∧ R (lyD (ledP l p))
theorem k_law_led_by (D : Fd K mg "_law_led_by" s_law_led_by) (T : Bi mg) (G_law_can_be_done : Fk P w K mg base 1 "_law_can_be_done" (pSp S_law_can_be_done)) (G_law_led : Fk P w K mg base 1 "_law_led" (pSp S_law_led)) : Fk P w K mg base 2 "_law_led_by" (pSp S_law_led_by) := by
  refine fk_p D ns_law_led_by (fun _ _ _ _ _ _ us hl => match us, hl with | [_, _], _ => rfl) (fun ds R h => ?_) (fun f cdv A outer s H E hr F ds R h => ?_)
  · obtain ⟨l, p, rfl, hb, hcan, q⟩ := h
    rfl
  obtain ⟨l, p, rfl, hb, hcan, q⟩ := h
  refine es_cons ?_
  wtm_at "for1"
  refine ni_tup ?_
  repeat wtm_at "w"
  refine ⟨fun n Γ2 => ∃ s3, Γ2 = [.val (lyD (ledP l (p.take n))), .val (plD p), s3], ⟨.no, rfl⟩, ?_, ?_⟩
  · rintro n d Γ2 hd ⟨s3, rfl⟩
    rw [List.getElem?_map] at hd
    cases hs : p[n]? with
    | none => rw [hs] at hd; cases hd
    | some s' =>
      rw [hs] at hd
      cases hd
      have hm := List.mem_of_getElem? hs
      repeat wtm_at "w"
      refine nd_call (k := 1) G_law_can_be_done hr ?_
      repeat wtm_at "w"
      refine ⟨fun c hc => by rw [ledP_len]; exact ((hb s' hm).1 c hc).2, (hb s' hm).2, _, rfl, ?_⟩
      rw [hcan n s' hs]
      repeat wtm_at "w"
      wtm_at "set"
      refine nd_call (k := 1) G_law_led hr ?_
      repeat wtm_at "w"
      refine ⟨fun c hc => by rw [ledP_len]; exact (hb s' hm).1 c hc, (hb s' hm).2, .val (stD s'), ?_⟩
      rw [take_snoc hs, ledP_snoc]
      rfl
  · rintro Γ2 ⟨s3, rfl⟩
    rw [List.length_map, List.take_length]
    repeat wtm_at "w"
    exact q
def S_law_is_wanted : Spc := fun ds R => ∃ (w l : Ly), ds = [lyD w, lyD l] ∧ w.length ≤ l.length ∧ l.length ≤ 100000 ∧ R (.bool (wantedB w l))
theorem k_law_is_wanted (D : Fd K mg "_law_is_wanted" s_law_is_wanted) (T : Bi mg) : Fk P w K mg base 1 "_law_is_wanted" (pSp S_law_is_wanted) := by
  refine fk_p D ns_law_is_wanted (fun _ _ _ _ _ _ us hl => match us, hl with | [_, _], _ => rfl) (fun ds R h => ?_) (fun f cdv A outer s H E hr F ds R h => ?_)
  · obtain ⟨w', l, rfl, hl, hz, q⟩ := h
    rfl
  obtain ⟨w', l, rfl, hl, hz, q⟩ := h
  refine es_one (e1_ret ?_)
  repeat wtm_at "w"
  refine ni_enumT (by wtm_at "Ben") ?_
  repeat wtm_at "w"
  rw [enumD_map]
  refine lc_map (t := fun p => !(p.1.isNone || decide (p.1 = gt l p.2))) (f := fun p => iD p.2) (by rw [List.length_zipIdx]; omega) (fun a ha => tgn_pair fun s0 H0 C cl fp => ?_) ?_
  · obtain ⟨x, i⟩ := a
    have hi : i < l.length := by
      have z := List.mem_zipIdx_iff_getElem?.mp ha
      have := (List.getElem?_eq_some_iff.mp z).1
      simp at this
      omega
    refine nts_one ?_
    repeat wtm_at "w"
    cases x with
    | none =>
      repeat wtm_at "w"
      exact ⟨rfl, fun h => by cases h⟩
    | some v =>
      repeat wtm_at "w"
      refine ⟨_, atI_map (gt_get hi), ?_⟩
      refine cmp_ne hr.units (shF (flat_o (some v))) (shF (flat_o _)) ?_
      rw [eqv_oo]
      refine ⟨_, rfl, rfl, fun _ => ?_⟩
      intro s2 H2 C2 cl2 fp2
      repeat wtm_at "w"
      rfl
  repeat wtm_at "w"
  refine cmp_eqNil hr (sh_flat (by rw [List.all_map, List.all_eq_true]; intro _ _; rfl)) ?_
  rw [List.isEmpty_map, filt_all]
  have e : (w'.zipIdx.all fun p => !!(p.1.isNone || decide (p.1 = gt l p.2))) = wantedB w' l := by
    unfold wantedB
    congr 1
    funext p
    rw [Bool.not_not]
  rw [e]
  exact q
end


set_option Elab.async false
set_option linter.all false
set_option maxRecDepth 100000
set_option maxHeartbeats 2000000
/-! Wm.H: the law's judges of plans, further. -/



/-- a safe plan that does the task -/
structure SafePl (ns : List Nat) (o w : Ly) (p : List St1) : Prop where
  bd : bdP o.length p
  can : canP o p
  safe : ∀ i s, p[i]? = some s → safeB ns (ledP o (p.take i)) s = true
  want : wantedB w (ledP o p) = true
  szp : p.length ≤ 90000
def writes (p : List St1) : Nat := (p.map (·.length)).sum
def met (cs : St1) : List Nat := cs.flatMap fun c => [c.1, c.2]
def srcs (l : Ly) (pl v : Nat) : List Nat := (List.range l.length).filter fun i => decide (gt l i = some v) && decide (i ≠ pl)
theorem sumI (L : List Nat) : (L.map fun n : Nat => (n : Int)).sum = ((L.sum : Nat) : Int) := by
  induction L with
  | nil => rfl
  | cons a L ih =>
    rw [List.map_cons, List.sum_cons, List.sum_cons, ih]
    omega
section
variable {P : Program} {w : World} {K : PySem.W.Frag} {mg : Str → Option Value} {base : Heap}
def S_law_is_safe_plan : Spc := fun ds R => ∃ (ns : List Nat) (o w : Ly) (p : List St1), ds = [tkD ns o w, plD p] ∧ SafePl ns o w p ∧ w.length ≤ o.length ∧ o.length ≤ 100000 ∧ ns.length ≤ 100000 ∧ R (.bool true)
theorem k_law_is_safe_plan (D : Fd K mg "_law_is_safe_plan" s_law_is_safe_plan) (T : Bi mg) (G_law_can_be_done : Fk P w K mg base 1 "_law_can_be_done" (pSp S_law_can_be_done)) (G_law_is_safe : Fk P w K mg base 3 "_law_is_safe" (pSp S_law_is_safe)) (G_law_led : Fk P w K mg base 1 "_law_led" (pSp S_law_led)) (G_law_is_wanted : Fk P w K mg base 1 "_law_is_wanted" (pSp S_law_is_wanted)) : Fk P w K mg base 4 "_law_is_safe_plan" (pSp S_law_is_safe_plan) := by
  refine fk_p D ns_law_is_safe_plan (fun _ _ _ _ _ _ us hl => match us, hl with | [_, _], _ => rfl) (fun ds R h => ?_) (fun f cdv A outer s H E hr F ds R h => ?_)
  · obtain ⟨ns, o, w', p, rfl, hk, hw, hz, hz2, q⟩ := h
    rfl
  obtain ⟨ns, o, w', p, rfl, hk, hw, hz, hz2, q⟩ := h
  refine es_cons ?_
  wtm_at "set"
  repeat wtm_at "w"
  wtm_at "for1"
  refine ni_tup ?_
  repeat wtm_at "w"
  refine ⟨fun n Γ2 => ∃ s3, Γ2 = [.val (tkD ns o w'), .val (plD p), .val (lyD (ledP o (p.take n))), s3], ⟨.no, rfl⟩, ?_, ?_⟩
  · rintro n d Γ2 hd ⟨s3, rfl⟩
    rw [List.getElem?_map] at hd
    cases hs : p[n]? with
    | none => rw [hs] at hd; cases hd
    | some s' =>
      rw [hs] at hd
      cases hd
      have hm := List.mem_of_getElem? hs
      have hb := hk.bd
      repeat wtm_at "w"
      refine nd_call (k := 3) G_law_can_be_done hr ?_
      repeat wtm_at "w"
      refine ⟨fun c hc => by rw [ledP_len]; exact ((hb s' hm).1 c hc).2, (hb s' hm).2, _, rfl, ?_⟩
      rw [hk.can n s' hs]
      repeat wtm_at "w"
      refine nd_call (k := 3) G_law_is_safe hr ?_
      repeat wtm_at "w"
      refine ⟨_, _, _, s', rfl, .inr rfl, by rw [ledP_len]; exact hz, (hb s' hm).2, hz2, _, rfl, ?_⟩
      rw [hk.safe n s' hs]
      repeat wtm_at "w"
      wtm_at "set"
      refine nd_call (k := 3) G_law_led hr ?_
      repeat wtm_at "w"
      refine ⟨fun c hc => by rw [ledP_len]; exact (hb s' hm).1 c hc, (hb s' hm).2, .val (stD s'), ?_⟩
      rw [take_snoc hs, ledP_snoc]
      rfl
  · rintro Γ2 ⟨s3, rfl⟩
    rw [List.length_map, List.take_length]
    repeat wtm_at "w"
    refine nd_call (k := 3) G_law_is_wanted hr ?_
    repeat wtm_at "w"
    refine ⟨by rw [ledP_len]; exact hw, by rw [ledP_len]; exact hz, ?_⟩
    rw [hk.want]
    exact q
def S_law_writes : Spc := fun ds R => ∃ p : List St1, ds = [plD p] ∧ p.length ≤ 100000 ∧ R (iD (writes p))
theorem k_law_writes (D : Fd K mg "_law_writes" s_law_writes) (T : Bi mg) : Fk P w K mg base 1 "_law_writes" (pSp S_law_writes) := by
  refine fk_p D ns_law_writes (fun _ _ _ _ _ _ us hl => match us, hl with | [_], _ => rfl) (fun ds R h => ?_) (fun f cdv A outer s H E hr F ds R h => ?_)
  · obtain ⟨p, rfl, hz, q⟩ := h
    rfl
  obtain ⟨p, rfl, hz, q⟩ := h
  refine es_one (e1_ret ?_)
  refine nd_sumL (by assumption) (by wtm_at "calm") ?_
  repeat wtm_at "w"
  refine ni_tup ?_
  repeat wtm_at "w"
  refine lc_all (enc := stD) (f := fun s => iD s.length) hz (fun a ha => tgn_name fun s0 H0 C cl fp => ?_) ?_
  · repeat wtm_at "w"
    rw [List.length_map]
  refine ⟨(p.map (·.length)).map fun n : Nat => (n : Int), by rw [List.map_map, List.map_map]; rfl, ?_⟩
  rw [sumI]
  exact q
def S_law_met : Spc := fun ds R => ∃ cs : St1, ds = [.list (cs.map cpD)] ∧ cs.length ≤ 10000 ∧ R (.list ((met cs).map iD))
theorem met_len (cs : St1) : (met cs).length = 2 * cs.length := by
  induction cs with
  | nil => rfl
  | cons c cs ih =>
    unfold met at *
    rw [List.flatMap_cons, List.length_append, ih, List.length_cons]
    simp only [List.length_cons, List.length_nil]
    omega
theorem k_law_met (D : Fd K mg "_law_met" s_law_met) (T : Bi mg) : Fk P w K mg base 1 "_law_met" (pSp S_law_met) := by
  refine fk_p D ns_law_met (fun _ _ _ _ _ _ us hl => match us, hl with | [_], _ => rfl) (fun ds R h => ?_) (fun f cdv A outer s H E hr F ds R h => ?_)
  · obtain ⟨cs, rfl, hz, q⟩ := h
    rfl
  obtain ⟨cs, rfl, hz, q⟩ := h
  refine es_cons ?_
  wtm_at "own"
  refine nl_lst ?_
  repeat wtm_at "w"
  intro qa hq
  repeat wtm_at "w"
  wtm_at "for2"
  refine ni_list ?_
  repeat wtm_at "w"
  refine ⟨fun n Γ2 => ∃ s3 s4, Γ2 = [.val (.list (cs.map cpD)), .own qa ((met (cs.take n)).map iD), s3, s4], ⟨.no, .no, rfl⟩, ?_, ?_⟩
  · rintro n d Γ2 hd ⟨s3, s4, rfl⟩
    rw [List.getElem?_map] at hd
    cases hs : cs[n]? with
    | none => rw [hs] at hd; cases hd
    | some c =>
      rw [hs] at hd
      cases hd
      have hlt := (List.getElem?_eq_some_iff.mp hs).1
      refine ⟨_, _, rfl, ?_⟩
      repeat wtm_at "w"
      refine e1_extend (i := 1) (by wtm_at "look") ?_
      repeat wtm_at "w"
      refine ⟨by rw [List.length_map, met_len, List.length_take]; simp only [List.length_cons, List.length_nil]; omega, ?_⟩
      refine ⟨.val (iD c.1), .val (iD c.2), ?_⟩
      rw [take_snoc hs]
      unfold met
      rw [List.flatMap_append, List.map_append]
      rfl
  · rintro Γ2 ⟨s3, s4, rfl⟩
    rw [List.length_map, List.take_length]
    refine es_freeze (i := 1) (by wtm_at "look") hq ?_
    repeat wtm_at "w"
    exact q
def S_law_source_of : Spc := fun ds R => ∃ (l : Ly) (pl v : Nat), ds = [lyD l, iD pl, iD v] ∧ l.length ≤ 100000 ∧ srcs l pl v ≠ [] ∧ R (iD ((srcs l pl v).headD 0))
theorem k_law_source_of (D : Fd K mg "_law_source_of" s_law_source_of) (T : Bi mg) : Fk P w K mg base 1 "_law_source_of" (pSp S_law_source_of) := by
  refine fk_p D ns_law_source_of (fun _ _ _ _ _ _ us hl => match us, hl with | [_, _, _], _ => rfl) (fun ds R h => ?_) (fun f cdv A outer s H E hr F ds R h => ?_)
  · obtain ⟨l, pl, v, rfl, hz, hne, q⟩ := h
    rfl
  obtain ⟨l, pl, v, rfl, hz, hne, q⟩ := h
  refine es_one (e1_ret ?_)
  refine nd_sub ?_
  refine Nd.mono (P := fun d => d = .list ((srcs l pl v).map iD)) ?_ (fun x hx => ?_)
  · repeat wtm_at "w"
    refine ni_enumT (by wtm_at "Ben") ?_
    repeat wtm_at "w"
    rw [enumD_map]
    refine lc_map (t := fun p => decide (gt l p.2 = some v) && decide (p.2 ≠ pl)) (f := fun p => iD p.2) (by rw [List.length_zipIdx]; exact hz) (fun a ha => tgn_pair fun s0 H0 C cl fp => ?_) ?_
    · obtain ⟨o, i⟩ := a
      have z := List.mem_zipIdx_iff_getElem?.mp ha
      have z : l[i]? = some o := by simpa using z
      have hg : gt l i = o := by unfold gt; rw [z]; rfl
      refine nts_one ?_
      show Nt _ _ _ fun b => b = (decide (gt l i = some v) && decide (i ≠ pl)) ∧ _
      rw [hg]
      repeat wtm_at "w"
      refine cmp_eq hr.units (shF (flat_o _)) rfl ?_
      rw [show PyData.eqv (oD o) (PyData.int (v : Nat)) = decide (o = some v) from eqv_oo o (some v)]
      refine ⟨_, rfl, ifB (fun hc => ?_) (fun hc => ?_)⟩
      · rw [hc]
        repeat wtm_at "w"
        refine ⟨?_, fun _ => ?_⟩
        · have : ((i : Int) = (pl : Nat)) ↔ i = pl := by omega
          simp [this]
        · intro s2 H2 C2 cl2 fp2
          repeat wtm_at "w"
          rfl
      · rw [hc]
        exact ⟨rfl, fun h => by cases h⟩
    have e := zipIdx_filter l (fun i => decide (gt l i = some v) && decide (i ≠ pl))
    unfold srcs
    rw [← e, List.map_map]
    rfl
  · subst hx
    repeat wtm_at "w"
    refine ⟨iD ((srcs l pl v).headD 0), ?_, q⟩
    cases h : srcs l pl v with
    | nil => exact absurd h hne
    | cons a L => exact atI_nat (i := 0) rfl
def S_law_is_stretch : Spc := fun ds R => ∃ (m : Nat) (s : St1), ds = [iD m, stD s] ∧ s ≠ [] ∧ (∀ c ∈ s, c.1 < m ∧ c.2 < m ∧ c.1 ≠ c.2) ∧ s.length ≤ 100000 ∧ okSt s = true ∧ R (.bool true)
theorem asc_at {xs : List Nat} (h : asc xs = true) {i : Nat} {a b : Nat} (ha : xs[i]? = some a) (hb : xs[i + 1]? = some b) : a < b := by
  unfold asc at h
  have hm : (a, b) ∈ xs.zip (xs.drop 1) := by
    refine List.mem_of_getElem? (i := i) ?_
    rw [List.getElem?_zip_eq_some]
    exact ⟨ha, by rw [List.getElem?_drop, Nat.add_comm]; exact hb⟩
  exact of_decide_eq_true (List.all_eq_true.mp h _ hm)
theorem k_law_is_stretch (D : Fd K mg "_law_is_stretch" s_law_is_stretch) (T : Bi mg) (G_law_is_int : Fk P w K mg base 1 "_law_is_int" (pSp S_law_is_int)) : Fk P w K mg base 2 "_law_is_stretch" (pSp S_law_is_stretch) := by
  refine fk_p D ns_law_is_stretch (fun _ _ _ _ _ _ us hl => match us, hl with | [_, _], _ => rfl) (fun ds R h => ?_) (fun f cdv A outer s H E hr F ds R h => ?_)
  · obtain ⟨m, s', rfl, h0, h1, hz, hok, q⟩ := h
    rfl
  obtain ⟨m, s', rfl, h0, h1, hz, hok, q⟩ := h
  obtain ⟨hasc, hsrc⟩ := Bool.and_eq_true_iff.mp (show (asc (pls s') && s'.all fun c => !decide (c.2 ∈ pls s')) = true from hok)
  refine es_cons ?_
  repeat wtm_at "w"
  refine cmp_eq hr.units (sh_stD s') rfl ?_
  unfold stD
  rw [eqv_nilT]
  have e0 : s'.isEmpty = false := by
    cases s' with
    | nil => exact absurd rfl h0
    | cons c cs => rfl
  rw [e0]
  repeat wtm_at "w"
  wtm_at "for1"
  refine ni_tup ?_
  repeat wtm_at "w"
  refine ⟨fun n Γ2 => ∃ s3 s4 s5 s6 s7 s8, Γ2 = [.val (iD m), .val (stD s'), s3, s4, s5, s6, s7, s8], ⟨.no, .no, .no, .no, .no, .no, rfl⟩, ?_, ?_⟩
  · rintro n d Γ2 hd ⟨s3, s4, s5, s6, s7, s8, rfl⟩
    rw [List.getElem?_map] at hd
    cases hs : s'[n]? with
    | none => rw [hs] at hd; cases hd
    | some c =>
      rw [hs] at hd
      cases hd
      have hc := h1 c (List.mem_of_getElem? hs)
      repeat wtm_at "w"
      refine ni_tup ?_
      repeat wtm_at "w"
      refine lc_map (L := [c.1, c.2]) (enc := iD) (t := fun _ => false) (f := fun _ => iD 1) (show 2 ≤ 100000 by decide) (fun a ha => tgn_name fun s0 H0 C cl fp => ?_) ?_
      · refine nts_one ?_
        repeat wtm_at "w"
        refine nd_call (k := 1) G_law_is_int hr ?_
        repeat wtm_at "w"
        exact ⟨rfl, fun h => by cases h⟩
      rw [show ([c.1, c.2].filter fun _ => false) = [] from by simp]
      repeat wtm_at "w"
      refine cmp_neNil hr rfl ?_
      repeat wtm_at "w"
      have e1 : decide ((c.1 : Int) < (m : Nat)) = true := decide_eq_true (by omega)
      have e2 : decide ((c.2 : Int) < (m : Nat)) = true := decide_eq_true (by omega)
      rw [e1]
      repeat wtm_at "w"
      rw [e2]
      repeat wtm_at "w"
      exact ⟨_, _, _, _, _, _, rfl⟩
  · rintro Γ2 ⟨s3, s4, s5, s6, s7, s8, rfl⟩
    repeat wtm_at "w"
    wtm_at "set"
    repeat wtm_at "w"
    refine ni_tup ?_
    repeat wtm_at "w"
    refine lc_all (enc := cpD) (f := fun c => iD c.1) hz (fun a ha => tgn_pair fun s0 H0 C cl fp => ?_) ?_
    · repeat wtm_at "w"
      rfl
    have e : (s'.map fun c => iD c.1) = (pls s').map iD := by
      unfold pls
      rw [List.map_map]
      rfl
    rw [e]
    have hpl : (pls s').length = s'.length := by unfold pls; rw [List.length_map]
    repeat wtm_at "w"
    refine ni_range1 (by wtm_at "Brange") ?_
    repeat wtm_at "w"
    rw [List.length_map]
    refine ⟨by omega, ?_⟩
    rw [show ((((pls s').length : Nat) : Int) - 1).toNat = (pls s').length - 1 by omega, rangeD_nat]
    refine lc_map (enc := iD) (t := fun _ => false) (f := iD) (by rw [List.length_range]; omega) (fun a ha => tgn_name fun s0 H0 C cl fp => ?_) ?_
    · have hlt := List.mem_range.mp ha
      have hx : (pls s')[a]? = some (pls s')[a] := List.getElem?_eq_getElem (by omega)
      have hy : (pls s')[a + 1]? = some (pls s')[a + 1] := List.getElem?_eq_getElem (by omega)
      have hl := asc_at hasc hx hy
      refine nts_one ?_
      repeat wtm_at "w"
      refine ⟨_, atI_map hx, ?_⟩
      repeat wtm_at "w"
      refine ⟨_, atI_map hy, ?_⟩
      repeat wtm_at "w"
      refine ⟨decide_eq_false (by omega), fun h => by cases h⟩
    rw [show ((List.range ((pls s').length - 1)).filter fun _ => false) = [] from by simp]
    repeat wtm_at "w"
    refine cmp_neNil hr rfl ?_
    repeat wtm_at "w"
    refine ni_tup ?_
    repeat wtm_at "w"
    refine lc_map (enc := cpD) (t := fun _ => false) (f := fun c => iD c.2) hz (fun a ha => tgn_pair fun s0 H0 C cl fp => ?_) ?_
    · refine nts_one ?_
      repeat wtm_at "w"
      refine cmp_in (.inl rfl) rfl (flat_iD _) ?_
      rw [any_iD]
      have z := List.all_eq_true.mp hsrc a ha
      refine ⟨_, rfl, by simpa using z, fun h => by cases h⟩
    rw [show (s'.filter fun _ => false) = [] from by simp]
    repeat wtm_at "w"
    refine cmp_eqNil hr rfl ?_
    exact q
def S_law_is_plan : Spc := fun ds R => ∃ (m : Nat) (p : List St1), ds = [iD m, plD p] ∧ PlOk m p ∧ R (.bool true)
theorem k_law_is_plan (D : Fd K mg "_law_is_plan" s_law_is_plan) (T : Bi mg) (G_law_is_stretch : Fk P w K mg base 2 "_law_is_stretch" (pSp S_law_is_stretch)) : Fk P w K mg base 3 "_law_is_plan" (pSp S_law_is_plan) := by
  refine fk_p D ns_law_is_plan (fun _ _ _ _ _ _ us hl => match us, hl with | [_, _], _ => rfl) (fun ds R h => ?_) (fun f cdv A outer s H E hr F ds R h => ?_)
  · obtain ⟨m, p, rfl, hk, q⟩ := h
    rfl
  obtain ⟨m, p, rfl, hk, q⟩ := h
  refine es_one (e1_ret ?_)
  repeat wtm_at "w"
  refine ni_tup ?_
  repeat wtm_at "w"
  refine lc_map (enc := stD) (t := fun _ => false) (f := stD) hk.szp (fun a ha => tgn_name fun s0 H0 C cl fp => ?_) ?_
  · refine nts_one ?_
    repeat wtm_at "w"
    refine nd_call (k := 2) G_law_is_stretch hr ?_
    repeat wtm_at "w"
    refine ⟨hk.ne a ha, hk.cp a ha, hk.sz a ha, hk.ok a ha, ?_⟩
    repeat wtm_at "w"
    exact ⟨rfl, fun h => by cases h⟩
  rw [show (p.filter fun _ => false) = [] from by simp]
  repeat wtm_at "w"
  refine cmp_eqNil hr rfl ?_
  exact q
end


set_option Elab.async false
set_option linter.all false
set_option maxRecDepth 100000
set_option maxHeartbeats 2000000
/-! Wm.Y: draws. -/



section
variable {P : Program} {w : World} {K : PySem.W.Frag} {mg : Str → Option Value} {base : Heap}
def S_law_take : Spc := fun ds R => ∃ m : Nat, ds = [iD m] ∧ 1 ≤ m ∧ m ≤ 1000000 ∧ ∀ k : Nat, k < m → R (iD k)
theorem mod_nat {x : Int} {m : Nat} (hm : 1 ≤ m) : ∃ k : Nat, k < m ∧ PyData.int (x % (m : Nat)) = iD k := by
  have h1 : 0 ≤ x % (m : Int) := Int.emod_nonneg _ (by omega)
  have h2 : x % (m : Int) < m := Int.emod_lt_of_pos _ (by omega)
  refine ⟨(x % (m : Int)).toNat, by omega, ?_⟩
  show PyData.int _ = PyData.int _
  rw [Int.toNat_of_nonneg h1]
theorem cutD_from2 (xs : List PyData) {k : Int} (h : 0 ≤ k) : cutD xs (some k) none = xs.drop k.toNat := by
  have e := cutD_from xs k.toNat
  rw [Int.toNat_of_nonneg h] at e
  exact e
theorem first_int (cells : List Int) (n : Nat) : ∃ v : Int, atI ((cells.map PyData.int).drop n ++ [PyData.int 0]) 0 = some (.int v) := by
  cases h : (cells.map PyData.int).drop n with
  | nil => exact ⟨0, atI_nat (i := 0) rfl⟩
  | cons d ds =>
    have hm : d ∈ cells.map PyData.int := List.mem_of_mem_drop (by rw [h]; exact List.mem_cons_self)
    obtain ⟨v, _, rfl⟩ := List.mem_map.mp hm
    exact ⟨v, atI_nat (i := 0) rfl⟩
theorem k_law_take (D : Fd K mg "_law_take" s_law_take) (T : Bi mg) : Fk P w K mg base 1 "_law_take" (bSp S_law_take) := by
  refine fk_b D ns_law_take (fun _ _ _ _ _ _ us hl => match us, hl with | [_, _], _ => rfl) (fun ds R h => ?_) (fun f cdv A outer s H E hr F b c hb0 ds R h => ?_)
  · obtain ⟨m, rfl, h1, h2, q⟩ := h
    rfl
  obtain ⟨m, rfl, h1, h2, q⟩ := h
  have hm0 : (0 : Int) < (m : Nat) := by omega
  refine es_open (i := 0) (by wtm_at "look") ?_
  intro s0 s1 s2 b0 b1 b1' b2
  refine es_cons ?_
  refine E1.mono (O := ⟨fun Γ2 => ∃ s0 s1 s2 x2 x3 x4 x5 x6, Γ2 = [.opn b c s0 s1 s2, .val (iD m), x2, x3, x4, x5, x6] ∧ 0 ≤ s0 ∧ 0 ≤ s1 ∧ s1 < 2147483647 ∧ 0 ≤ s2, fun _ _ => False, fun _ => False, fun _ => False⟩) ?_ ?_ (fun _ _ h => h.elim) (fun _ h => h.elim) (fun _ h => h.elim)
  · refine e1_if ?_
    repeat wtm_at "w"
    refine ifB (fun hc => ?_) (fun hc => ?_)
    · refine es_cons ?_
      wtm_at "set"
      refine nd_sub ?_
      refine nd_bin ?_
      refine nd_slice ?_
      refine nd_bagAt (by wtm_at "XN") (by wtm_at "idx") (by wtm_at "look") (by wtm_at "vis") ?_
      refine .inr (.inr (.inr ⟨rfl, fun cells hz => ?_⟩))
      refine ⟨_, rfl, ?_⟩
      repeat wtm_at "w"
      refine bin_cat ?_ ?_
      · rw [cutD_from2 _ b2]
        simp only [List.length_append, List.length_drop, List.length_map, List.length_cons, List.length_nil]
        omega
      repeat wtm_at "w"
      rw [cutD_from2 _ b2]
      obtain ⟨v, hv⟩ := first_int cells s2.toNat
      refine ⟨_, hv, ?_⟩
      refine es_cons ?_
      wtm_at "badd"
      repeat wtm_at "x"
      refine es_cons ?_
      refine E1.mono (O := ⟨fun Γ2 => ∃ s0 s1 s2 x4 x5 x6, Γ2 = [.opn b c s0 s1 s2, .val (iD m), .val (.int v), .no, x4, x5, x6] ∧ 0 ≤ s0 ∧ 0 ≤ s1 ∧ s1 < 2147483647 ∧ 0 ≤ s2, fun _ _ => False, fun _ => False, fun _ => False⟩) ?_ ?_ (fun _ _ h => h.elim) (fun _ h => h.elim) (fun _ h => h.elim)
      · refine e1_if ?_
        repeat wtm_at "w"
        refine ifB (fun hc2 => ?_) (fun hc2 => ?_)
        · refine es_one ?_
          wtm_at "bset"
          repeat wtm_at "w"
          have hv0 : (0 : Int) ≤ v := by
            have := of_decide_eq_true hc2
            have e : ((10 : Int) ^ (18 : Int).toNat) = 1000000000000000000 := by decide
            omega
          refine .inl ⟨rfl, ?_⟩
          exact ⟨_, _, _, _, _, _, rfl, hv0, b1, b1', by omega⟩
        · repeat wtm_at "w"
          exact ⟨_, _, _, _, _, _, rfl, b0, b1, b1', by omega⟩
      · rintro Γ2 ⟨t0, t1, t2, x4, x5, x6, rfl, a0, a1, a1', a2⟩
        refine es_cons ?_
        wtm_at "set"
        repeat wtm_at "w"
        wtm_at "bset"
        repeat wtm_at "w"
        refine .inr (.inl ⟨rfl, ?_⟩)
        exact ⟨_, _, _, _, _, _, _, _, rfl, a0, Int.emod_nonneg _ (by decide), Int.emod_lt_of_pos _ (by decide), a2⟩
    · repeat wtm_at "w"
      exact ⟨_, _, _, _, _, _, _, _, rfl, b0, b1, b1', b2⟩
  · rintro Γ2 ⟨t0, t1, t2, x2, x3, x4, x5, x6, rfl, a0, a1, a1', a2⟩
    refine es_cons ?_
    repeat wtm_at "w"
    refine ifB (fun hc => ?_) (fun hc => ?_)
    · obtain ⟨k, hk, ek⟩ := mod_nat (x := t0) h1
      refine es_cons ?_
      wtm_at "set"
      repeat wtm_at "x"
      rw [ek]
      refine es_cons ?_
      wtm_at "bset"
      repeat wtm_at "w"
      have hlg : (((m : Nat) : Int).natAbs).log2 < 9000 := by
        rw [Int.natAbs_natCast]
        have := (Nat.log2_lt (n := m) (k := 20) (by omega)).mpr (by omega)
        omega
      refine bin_fdiv ⟨hm0, hlg⟩ ?_
      repeat wtm_at "x"
      refine .inl ⟨rfl, ?_⟩
      refine es_close (i := 0) (by wtm_at "look") ⟨Int.ediv_nonneg a0 (by omega), a1, a1', a2⟩ ?_
      refine es_one ?_
      repeat wtm_at "w"
      exact ⟨q k hk, by simp⟩
    · repeat wtm_at "w"
      wtm_at "set"
      repeat wtm_at "x"
      obtain ⟨g, hg, eg⟩ := mod_nat (x := (t1 + 1) * 39373) (m := 1000000007) (by decide)
      rw [show PyData.int ((t1 + 1) * 39373 % 1000000007) = iD g from eg]
      refine es_cons ?_
      wtm_at "set"
      repeat wtm_at "x"
      refine es_close (i := 0) (by wtm_at "look") ⟨a0, a1, a1', a2⟩ ?_
      refine es_one ?_
      repeat wtm_at "w"
      obtain ⟨k, hk, ek⟩ := mod_nat (x := (((g : Int) * (g : Int) % 998244353 * 30011) % 998244353) / 7) h1
      show R _ ∧ _
      rw [show PyData.int _ = iD k from ek]
      exact ⟨q k hk, by simp⟩
end


set_option Elab.async false
set_option linter.all false
set_option maxRecDepth 100000
set_option maxHeartbeats 2000000
/-! Wm.AA: drawn things. -/



section
variable {P : Program} {w : World} {K : PySem.W.Frag} {mg : Str → Option Value} {base : Heap}
def S_law_some : Spc := fun ds R => ∃ (d : PyData) (xs : List PyData), ds = [d] ∧ seqD d = some xs ∧ xs ≠ [] ∧ xs.length ≤ 1000000 ∧ ∀ x ∈ xs, R x
theorem k_law_some (D : Fd K mg "_law_some" s_law_some) (T : Bi mg) (G_law_take : Fk P w K mg base 1 "_law_take" (bSp S_law_take)) : Fk P w K mg base 2 "_law_some" (bSp S_law_some) := by
  refine fk_b D ns_law_some (fun _ _ _ _ _ _ us hl => match us, hl with | [_, _], _ => rfl) (fun ds R h => ?_) (fun f cdv A outer s H E hr F b c hb0 ds R h => ?_)
  · obtain ⟨d, xs, rfl, hd, hne, hz, q⟩ := h
    rfl
  obtain ⟨d, xs, rfl, hd, hne, hz, q⟩ := h
  refine es_one (e1_ret ?_)
  refine nd_sub ?_
  wtm_at "var"
  refine ⟨xs, hd, ?_⟩
  refine nd_callBag (k := 1) (i := 0) G_law_take hr (by wtm_at "look") ?_
  repeat wtm_at "x"
  refine ⟨xs, hd, ?_⟩
  repeat wtm_at "x"
  have hp : 1 ≤ xs.length := by
    cases xs with
    | nil => exact absurd rfl hne
    | cons x xs => simp
  refine ⟨hp, hz, fun k hk => ?_⟩
  refine ⟨_, rfl, _, atI_nat (List.getElem?_eq_getElem hk), q _ (List.getElem_mem hk), by wtm_at "bm"⟩
def S_law_mixed : Spc := fun ds R => ∃ (d : PyData) (xs : List PyData), ds = [d] ∧ (d = .list xs ∨ d = .tuple xs) ∧ xs.length ≤ 90000 ∧ ∀ ys, ys.Perm xs → R (.list ys)
theorem k_law_mixed (D : Fd K mg "_law_mixed" s_law_mixed) (T : Bi mg) (G_law_take : Fk P w K mg base 1 "_law_take" (bSp S_law_take)) : Fk P w K mg base 2 "_law_mixed" (bSp S_law_mixed) := by
  refine fk_b D ns_law_mixed (fun _ _ _ _ _ _ us hl => match us, hl with | [_, _], _ => rfl) (fun ds R h => ?_) (fun f cdv A outer s H E hr F b c hb0 ds R h => ?_)
  · obtain ⟨d, xs, rfl, hd, hz, q⟩ := h
    rfl
  obtain ⟨d, xs, rfl, hd, hz, q⟩ := h
  refine es_cons ?_
  wtm_at "own"
  refine nl_lst ?_
  repeat wtm_at "w"
  intro qa hq
  repeat wtm_at "w"
  wtm_at "for1"
  rcases hd with rfl | rfl <;>
  · wtm_at "seq"
    refine ⟨fun n Γ2 => ∃ ys s3, Γ2 = [.bag b c, .val _, .own qa ys, s3] ∧ ys.Perm (xs.take n), ⟨[], .no, rfl, by simp⟩, ?_, ?_⟩
    · rintro n d Γ2 hd ⟨ys, s3, rfl, hp⟩
      have hlt := (List.getElem?_eq_some_iff.mp hd).1
      have hl : ys.length = n := by rw [hp.length_eq, List.length_take]; omega
      refine es_one ?_
      refine e1_insert (i := 2) (by wtm_at "look") ?_
      refine na_cons ?_
      refine nd_callBag (k := 1) (i := 0) G_law_take hr (by wtm_at "look") ?_
      repeat wtm_at "x"
      refine ⟨by show 1 ≤ ys.length + 1; omega, by show ys.length + 1 ≤ _; omega, fun k hk => ?_⟩
      have hk : k < ys.length + 1 := hk
      repeat wtm_at "x"
      refine ⟨⟨by omega, by omega⟩, by omega, ?_⟩
      refine ⟨_, .val d, rfl, ?_⟩
      rw [List.take_add_one, hd, Int.toNat_natCast]
      show (ys.take k ++ [d] ++ ys.drop k).Perm (xs.take n ++ [d])
      have e1 : (ys.take k ++ [d] ++ ys.drop k).Perm (ys.take k ++ ys.drop k ++ [d]) := by
        rw [List.append_assoc, List.append_assoc]
        exact List.Perm.append_left _ List.perm_append_comm
      rw [List.take_append_drop] at e1
      exact e1.trans (hp.append_right _)
    · rintro Γ2 ⟨ys, s3, rfl, hp⟩
      rw [List.take_length] at hp
      refine es_freeze (i := 2) (by wtm_at "look") hq ?_
      repeat wtm_at "w"
      exact ⟨q ys hp, by wtm_at "bm"⟩
end


set_option Elab.async false
set_option linter.all false
set_option maxRecDepth 100000
set_option maxHeartbeats 2000000
/-! Wm.AB: drawn needs, layouts. -/



section
variable {X : Cx} {Γ : Ctx} {P : PyData → Prop} {A : List PyData → Prop} {e elt : Expr} {pos p p2 : Pos} {ifs : List Expr} {scope : Scope} {no : Prop} {yes : PyData → Prop}
theorem lcT_nil (h : Blk X scope fun Z => Nd Z elt Γ yes) : LcT X scope [] elt Γ no yes := fun s H C cl fp => nts_nil (iteT h)
end
theorem perm_map_inv {α β : Type} (f : α → β) : ∀ {l : List α} {ys : List β}, ys.Perm (l.map f) → ∃ l' : List α, l'.Perm l ∧ ys = l'.map f := by
  intro l ys h
  generalize hm : l.map f = m at h
  induction h generalizing l with
  | nil =>
    have : l = [] := List.map_eq_nil_iff.mp hm
    exact ⟨[], by rw [this], rfl⟩
  | cons x h ih =>
    cases l with
    | nil => cases hm
    | cons a l =>
      injection hm with h1 h2
      obtain ⟨l', p, rfl⟩ := ih h2
      exact ⟨a :: l', p.cons a, by rw [List.map_cons, h1]⟩
  | swap x y l2 =>
    cases l with
    | nil => cases hm
    | cons a l =>
      cases l with
      | nil => injection hm with _ h2; cases h2
      | cons b l =>
        injection hm with h1 h2
        injection h2 with h2 h3
        exact ⟨b :: a :: l, List.Perm.swap a b l, by rw [List.map_cons, List.map_cons, h1, h2, h3]⟩
  | trans h1 h2 ih1 ih2 =>
    obtain ⟨l2, p2, e2⟩ := ih2 hm
    obtain ⟨l1, p1, e1⟩ := ih1 e2.symm
    exact ⟨l1, p1.trans p2, e1⟩
theorem cnt_perm {l l' : Ly} (h : l'.Perm l) (v : Nat) : cnt l' v = cnt l v := h.countP_eq _
theorem cnt_app (l l' : Ly) (v : Nat) : cnt (l ++ l') v = cnt l v + cnt l' v := List.countP_append ..
theorem Rt.perm {ns : List Nat} {l l' : Ly} (r : Rt ns l) (h : l'.Perm l) : Rt ns l' := ⟨fun v m => r.lt v (h.mem_iff.mp m), fun i n e => by rw [cnt_perm h]; exact r.ge i n e⟩
section
variable {P : Program} {w : World} {K : PySem.W.Frag} {mg : Str → Option Value} {base : Heap}
def S_law_needs : Spc := fun ds R => ∃ (m t : Nat), ds = [iD m, iD t] ∧ m ≤ 10000 ∧ 1 ≤ t ∧ t ≤ 10000 ∧ ∀ ns : List Nat, ns.length = m → (∀ n ∈ ns, 1 ≤ n) → R (nsD ns)
theorem k_law_needs (D : Fd K mg "_law_needs" s_law_needs) (T : Bi mg) (G_law_take : Fk P w K mg base 1 "_law_take" (bSp S_law_take)) (G_law_some : Fk P w K mg base 2 "_law_some" (bSp S_law_some)) : Fk P w K mg base 3 "_law_needs" (bSp S_law_needs) := by
  refine fk_b D ns_law_needs (fun _ _ _ _ _ _ us hl => match us, hl with | [_, _, _], _ => rfl) (fun ds R h => ?_) (fun f cdv A outer s H E hr F b c hb0 ds R h => ?_)
  · obtain ⟨m, t, rfl, hm, ht, ht2, q⟩ := h
    rfl
  obtain ⟨m, t, rfl, hm, ht, ht2, q⟩ := h
  refine es_one (e1_ret ?_)
  refine nd_tupc (by assumption) ?_
  repeat wtm_at "x"
  refine ni_range1 (by wtm_at "Brange") ?_
  repeat wtm_at "x"
  refine ⟨by omega, ?_⟩
  rw [Int.toNat_natCast, rangeD_nat]
  refine ⟨by rw [List.length_map, List.length_range]; omega, fun i acc => ∃ ns : List Nat, acc = ns.map iD ∧ ns.length = i ∧ ∀ n ∈ ns, 1 ≤ n, ⟨[], rfl, rfl, by simp⟩, ?_, ?_⟩
  · rintro i d acc hd ⟨ns, rfl, hl, hn⟩
    refine tgn_name (lcT_nil fun s0 H0 C cl fp => ?_)
    repeat wtm_at "x"
    refine nd_callBag (k := 2) (i := 0) G_law_take hr (by wtm_at "look") ?_
    refine na_cons ?_
    refine nd_callBag (k := 2) (i := 0) G_law_some hr (by wtm_at "look") ?_
    repeat wtm_at "x"
    refine ⟨_, _, rfl, rfl, by simp, by simp, fun x hx => ?_⟩
    have : ∃ u : Nat, x = iD u ∧ 1 ≤ u ∧ u ≤ 10000 := by
      simp only [List.mem_cons, List.not_mem_nil, or_false] at hx
      rcases hx with rfl | rfl | rfl | rfl
      · exact ⟨1, rfl, by omega, by omega⟩
      · exact ⟨2, rfl, by omega, by omega⟩
      · exact ⟨t, rfl, ht, ht2⟩
      · exact ⟨1, rfl, by omega, by omega⟩
    obtain ⟨u, rfl, u1, u2⟩ := this
    repeat wtm_at "x"
    refine ⟨u1, by omega, fun k hk => ?_⟩
    repeat wtm_at "x"
    refine ⟨ns ++ [1 + k], ?_, by rw [List.length_append, hl]; rfl, fun n hn' => ?_⟩
    · rw [List.map_append]
      show _ ++ [PyData.int _] = _ ++ [PyData.int _]
      rw [show ((1 + k : Nat) : Int) = 1 + (k : Int) by omega]
    · rcases List.mem_append.mp hn' with h | h
      · exact hn n h
      · rw [List.mem_singleton.mp h]
        omega
  · rintro acc ⟨ns, rfl, hl, hn⟩
    rw [List.length_map, List.length_range] at hl
    refine ⟨_, rfl, q ns hl hn, by wtm_at "bm"⟩
def S_law_fit_needs : Spc := fun ds R => ∃ (z t : Nat), ds = [iD z, iD t] ∧ t ≤ 1000 ∧ ∀ ns : List Nat, (∀ n ∈ ns, 1 ≤ n) → ns.sum ≤ z → ns.length ≤ t → R (nsD ns)
theorem k_law_fit_needs (D : Fd K mg "_law_fit_needs" s_law_fit_needs) (T : Bi mg) (G_law_take : Fk P w K mg base 1 "_law_take" (bSp S_law_take)) (G_law_some : Fk P w K mg base 2 "_law_some" (bSp S_law_some)) (G_law_needs : Fk P w K mg base 3 "_law_needs" (bSp S_law_needs)) : Fk P w K mg base 4 "_law_fit_needs" (bSp S_law_fit_needs) := by
  refine fk_b D ns_law_fit_needs (fun _ _ _ _ _ _ us hl => match us, hl with | [_, _, _], _ => rfl) (fun ds R h => ?_) (fun f cdv A outer s H E hr F b c hb0 ds R h => ?_)
  · obtain ⟨z, t, rfl, ht, q⟩ := h
    rfl
  obtain ⟨z, t, rfl, ht, q⟩ := h
  refine es_cons ?_
  wtm_at "set"
  refine nd_callBag (k := 3) (i := 0) G_law_needs hr (by wtm_at "look") ?_
  repeat wtm_at "x"
  refine nd_callBag (k := 3) (i := 0) G_law_take hr (by wtm_at "look") ?_
  repeat wtm_at "x"
  refine ⟨by show 1 ≤ t + 1; omega, by show t + 1 ≤ _; omega, fun k1 hk1 => ?_⟩
  have hk1 : k1 < t + 1 := hk1
  repeat wtm_at "x"
  refine nd_callBag (k := 3) (i := 0) G_law_take hr (by wtm_at "look") ?_
  repeat wtm_at "x"
  refine ⟨by show 1 ≤ t + 1; omega, by show t + 1 ≤ _; omega, fun k2 hk2 => ?_⟩
  have hk2 : k2 < t + 1 := hk2
  repeat wtm_at "x"
  refine nd_callBag (k := 3) (i := 0) G_law_some hr (by wtm_at "look") ?_
  repeat wtm_at "x"
  refine ⟨_, _, rfl, rfl, by simp, by simp, fun x hx => ?_⟩
  have : ∃ u : Nat, x = iD u ∧ 1 ≤ u ∧ u ≤ 10000 := by
    simp only [List.mem_cons, List.not_mem_nil, or_false] at hx
    rcases hx with rfl | rfl | rfl | rfl
    · exact ⟨4, rfl, by omega, by omega⟩
    · exact ⟨2, rfl, by omega, by omega⟩
    · exact ⟨1, rfl, by omega, by omega⟩
    · exact ⟨2, rfl, by omega, by omega⟩
  obtain ⟨u, rfl, u1, u2⟩ := this
  have hmx : ∃ m : Nat, m ≤ t ∧ PyData.int (if (k2 : Int) > (k1 : Int) then (k2 : Int) else (k1 : Int)) = iD m := by
    by_cases h : (k2 : Int) > (k1 : Int)
    · exact ⟨k2, by omega, by rw [if_pos h]⟩
    · exact ⟨k1, by omega, by rw [if_neg h]⟩
  obtain ⟨m, hm, em⟩ := hmx
  rw [em]
  repeat wtm_at "x"
  refine ⟨by omega, u1, u2, fun ns hl hn => ?_⟩
  refine es_cons ?_
  refine e1_while PassesOwn.never (fun i Γ2 => ∃ ns : List Nat, Γ2 = [.bag b c, .val (iD z), .val (iD t), .val (nsD ns)] ∧ ns.length = i ∧ i ≤ t ∧ ∀ n ∈ ns, 1 ≤ n) m ⟨ns, rfl, hl, hm, hn⟩ ?_
  rintro i Γ2 ⟨ns, rfl, hl, hm, hn⟩
  refine nt_cmp ?_
  refine nd_sumT (by assumption) (by wtm_at "calm") ?_
  repeat wtm_at "x"
  refine ⟨ns.map fun n : Nat => (n : Int), by show PyData.tuple _ = PyData.tuple _; rw [List.map_map]; rfl, ?_⟩
  rw [sumI]
  repeat wtm_at "x"
  refine ifB (fun hc => ?_) (fun hc => ?_)
  · have hlt : z < ns.sum := by have := of_decide_eq_true hc; omega
    refine es_one ?_
    wtm_at "set"
    repeat wtm_at "x"
    rw [show cutD (ns.map iD) none (some (-1)) = (ns.take (ns.length - 1)).map iD from (cutD_butlast _ 1 (by decide)).trans (by rw [List.map_take, List.length_map])]
    have hpos : 0 < ns.length := by
      cases ns with
      | nil => simp at hlt
      | cons a L => simp
    refine ⟨i - 1, by omega, ns.take (ns.length - 1), rfl, by rw [List.length_take]; omega, by omega, fun n h => hn n (List.mem_of_mem_take h)⟩
  · have hle : ns.sum ≤ z := by have := of_decide_eq_false hc; omega
    repeat wtm_at "w"
    exact ⟨q ns hn hle (by omega), by wtm_at "bm"⟩
end


set_option Elab.async false
set_option linter.all false
set_option maxRecDepth 100000
set_option maxHeartbeats 2000000
/-! Wm.AC: drawn layouts, tasks. -/



/-- what generators give -/
structure TkOk (z : Nat) (ns : List Nat) (o w : Ly) : Prop where
  n1 : ∀ n ∈ ns, 1 ≤ n
  old : Rt ns o
  wish : Rt ns w
  len : w.length = o.length
  sz : o.length ≤ z
def GoodV (n : Nat) (o : Option Nat) : Prop := ∀ v, o = some v → v < n
theorem sum_take_le (ns : List Nat) (i : Nat) : (ns.take i).sum ≤ ns.sum := by
  have := congrArg List.sum (List.take_append_drop i ns)
  rw [List.sum_append] at this
  omega
theorem rightB_iff {ns : List Nat} {l : Ly} (h : rightB ns l = true) : Rt ns l := by
  unfold rightB at h
  rw [Bool.and_eq_true] at h
  refine ⟨fun v m => ?_, fun i n e => ?_⟩
  · exact of_decide_eq_true (List.all_eq_true.mp h.1 _ m)
  · have hz : ns.zipIdx[i]? = some (n, i) := by rw [List.getElem?_zipIdx, e]; simp
    have hm : ((cnt l i : Int) - (n : Int)) ∈ rms ns l := by
      unfold rms
      exact List.mem_map.mpr ⟨(n, i), List.mem_of_getElem? hz, rfl⟩
    have := of_decide_eq_true (List.all_eq_true.mp h.2 _ hm)
    omega
theorem cnt_repl (k v u : Nat) : cnt (List.replicate k (some v)) u = if v = u then k else 0 := by
  unfold cnt
  rw [List.countP_replicate]
  by_cases h : v = u
  · subst h; simp
  · simp [h]
section
variable {P : Program} {w : World} {K : PySem.W.Frag} {mg : Str → Option Value} {base : Heap}
def S_law_spread : Spc := fun ds R => ∃ (ns : List Nat) (z : Nat), ds = [nsD ns, iD z] ∧ ns.sum ≤ z ∧ z ≤ 1000 ∧ ns.length ≤ 1000 ∧ ∀ l : Ly, l.length = z → Rt ns l → R (lyD l)
theorem rep_flat {α : Type} (a : α) (n : Nat) : (List.replicate n [a]).flatten = List.replicate n a := by
  induction n with
  | zero => rfl
  | succ n ih => rw [List.replicate_succ, List.flatten_cons, ih, List.replicate_succ]; rfl
theorem k_law_spread (D : Fd K mg "_law_spread" s_law_spread) (T : Bi mg) (G_law_some : Fk P w K mg base 2 "_law_some" (bSp S_law_some)) (G_law_mixed : Fk P w K mg base 2 "_law_mixed" (bSp S_law_mixed)) : Fk P w K mg base 3 "_law_spread" (bSp S_law_spread) := by
  refine fk_b D ns_law_spread (fun _ _ _ _ _ _ us hl => match us, hl with | [_, _, _], _ => rfl) (fun ds R h => ?_) (fun f cdv A outer s H E hr F b c hb0 ds R h => ?_)
  · obtain ⟨ns, z, rfl, hs, hz, hnl, q⟩ := h
    rfl
  obtain ⟨ns, z, rfl, hs, hz, hnl, q⟩ := h
  refine es_cons ?_
  wtm_at "own"
  refine nl_lst ?_
  repeat wtm_at "w"
  intro qa hq
  refine es_cons ?_
  wtm_at "for2"
  refine ni_enumT (by wtm_at "Ben") ?_
  repeat wtm_at "x"
  rw [enumD_map]
  refine ⟨fun i Γ2 => ∃ (l : Ly) (s4 s5 : Sd), Γ2 = [.bag b c, .val (nsD ns), .val (iD z), .own qa (l.map oD), s4, s5, .no] ∧ l.length = (ns.take i).sum ∧ (∀ o ∈ l, GoodV ns.length o) ∧ (∀ j n, j < i → ns[j]? = some n → n ≤ cnt l j), ⟨[], .no, .no, rfl, by simp, by simp, by intro j n h; omega⟩, ?_, ?_⟩
  · rintro i d Γ2 hd ⟨l, s4, s5, rfl, hl, hg, hc⟩
    obtain ⟨n, hn, rfl⟩ := enum_get hd
    have hlt : i < ns.length := (List.getElem?_eq_some_iff.mp hn).1
    have hst := sum_take_le ns (i + 1)
    have e1 : (ns.take (i + 1)).sum = (ns.take i).sum + n := by rw [take_snoc hn, List.sum_append]; simp
    refine ⟨_, _, rfl, ?_⟩
    refine es_one ?_
    refine e1_extend (i := 3) (by wtm_at "look") ?_
    refine nd_bin ?_
    repeat wtm_at "x"
    refine bin_rep (by omega) ?_ (by omega) ?_
    · show 1 * _ ≤ _
      rw [Int.toNat_natCast]
      omega
    rw [Int.toNat_natCast, rep_flat]
    refine ⟨_, rfl, by rw [List.length_map, List.length_replicate]; omega, ?_⟩
    refine ⟨l ++ List.replicate n (some i), .val (iD i), .val (iD n), ?_, by rw [List.length_append, List.length_replicate, e1, hl], fun o ho => ?_, fun j m hj hm => ?_⟩
    · rw [List.map_append, List.map_replicate]
      rfl
    · rcases List.mem_append.mp ho with h | h
      · exact hg o h
      · rw [List.eq_of_mem_replicate h]
        intro v hv
        cases hv
        exact hlt
    · rw [cnt_app, cnt_repl]
      by_cases e : j = i
      · subst e
        rw [hn] at hm
        cases hm
        simp
      · have := hc j m (by omega) hm
        omega
  · rintro Γ2 ⟨l, s4, s5, rfl, hl, hg, hc⟩
    rw [List.length_map, List.length_zipIdx, List.take_length] at hl
    rw [List.length_map, List.length_zipIdx] at hc
    refine es_cons ?_
    wtm_at "set"
    refine nd_callBag (k := 2) (i := 0) G_law_some hr (by wtm_at "look") ?_
    repeat wtm_at "x"
    rw [List.length_map]
    refine ⟨by omega, ?_⟩
    repeat wtm_at "x"
    refine bin_cat (by simp only [List.length_map, List.length_range, List.length_cons, List.length_nil]; omega) ?_
    repeat wtm_at "x"
    rw [List.length_map]
    refine ⟨by omega, ?_⟩
    repeat wtm_at "x"
    refine bin_cat (by simp only [List.length_map, List.length_range, List.length_cons, List.length_nil]; omega) ?_
    repeat wtm_at "x"
    refine ⟨_, _, rfl, rfl, by simp, by simp, fun x hx => ?_⟩
    have hms : ∃ ms : Ly, x = .list (ms.map oD) ∧ ms ≠ [] ∧ ms.length ≤ 2000 ∧ ∀ o ∈ ms, GoodV ns.length o := by
      have er : (List.range ns.length).map iD = ((List.range ns.length).map some).map oD := by rw [List.map_map]; rfl
      have good : ∀ o ∈ (List.range ns.length).map some, GoodV ns.length o := fun o ho v hv => by
        obtain ⟨u, hu, rfl⟩ := List.mem_map.mp ho
        cases hv
        exact List.mem_range.mp hu
      simp only [List.mem_cons, List.not_mem_nil, or_false] at hx
      rcases hx with rfl | rfl | rfl
      · exact ⟨[none], rfl, by simp, by simp, by simp [GoodV]⟩
      · refine ⟨none :: (List.range ns.length).map some, by rw [er]; rfl, by simp, by simp; omega, fun o ho => ?_⟩
        rcases List.mem_cons.mp ho with e | h
        · rw [e]; intro v hv; cases hv
        · exact good o h
      · refine ⟨(List.range ns.length).map some ++ [none], by rw [er, List.map_append]; rfl, by simp, by simp; omega, fun o ho => ?_⟩
        rcases List.mem_append.mp ho with h | h
        · exact good o h
        · rw [List.mem_singleton.mp h]; intro v hv; cases hv
    obtain ⟨ms, rfl, hm0, hm1, hm2⟩ := hms
    refine es_cons ?_
    refine e1_while PassesOwn.never (fun k Γ2 => ∃ (l : Ly), Γ2 = [.bag b c, .val (nsD ns), .val (iD z), .own qa (l.map oD), s4, s5, .val (.list (ms.map oD))] ∧ k + l.length = z ∧ (∀ o ∈ l, GoodV ns.length o) ∧ (∀ j n, j < ns.length → ns[j]? = some n → n ≤ cnt l j)) (z - l.length) ⟨l, rfl, by omega, hg, hc⟩ ?_
    rintro k Γ2 ⟨l, rfl, hk, hg, hc⟩
    repeat wtm_at "w"
    rw [List.length_map]
    refine ifB (fun hb => ?_) (fun hb => ?_)
    · have hlt := of_decide_eq_true hb
      refine es_one ?_
      refine e1_append (i := 3) (by wtm_at "look") ?_
      refine nd_callBag (k := 2) (i := 0) G_law_some hr (by wtm_at "look") ?_
      repeat wtm_at "x"
      refine ⟨_, _, rfl, rfl, by simpa using hm0, by rw [List.length_map]; omega, fun x hx => ?_⟩
      obtain ⟨o, ho, rfl⟩ := List.mem_map.mp hx
      refine ⟨by rw [List.length_map]; omega, k - 1, by omega, l ++ [o], by rw [List.map_append]; rfl, by rw [List.length_append]; simp; omega, fun o' ho' => ?_, fun j n hj hn => ?_⟩
      · rcases List.mem_append.mp ho' with h | h
        · exact hg o' h
        · rw [List.mem_singleton.mp h]; exact hm2 o ho
      · rw [cnt_app]
        have := hc j n hj hn
        omega
    · have hge := of_decide_eq_false hb
      refine es_freeze (i := 3) (by wtm_at "look") (fun h => hq h) ?_
      refine es_one (e1_ret ?_)
      refine nd_tupc (by assumption) ?_
      refine nd_callBag (k := 2) (i := 0) G_law_mixed hr (by wtm_at "look") ?_
      repeat wtm_at "x"
      refine ⟨_, _, rfl, .inl rfl, by rw [List.length_map]; omega, fun ys hp => ?_⟩
      obtain ⟨l', hp', rfl⟩ := perm_map_inv oD hp
      refine ⟨_, rfl, q l' (by rw [hp'.length_eq]; omega) (Rt.perm ⟨fun v hv => hg _ hv v rfl, fun i n hn => hc i n (List.getElem?_eq_some_iff.mp hn).1 hn⟩ hp'), by wtm_at "bm"⟩
end


set_option Elab.async false
set_option linter.all false
set_option maxRecDepth 100000
set_option maxHeartbeats 2000000
/-! Wm.AD: any task, rings. -/



section
variable {P : Program} {w : World} {K : PySem.W.Frag} {mg : Str → Option Value} {base : Heap}
theorem lless_o1 (o : Option Nat) : lless (oD o) = true := by cases o <;> (unfold oD lless; rfl)
def S_law_any_task : Spc := fun ds R => ∃ (z t : Nat), ds = [iD z, iD t] ∧ z ≤ 1000 ∧ t ≤ 1000 ∧ ∀ ns o w, TkOk z ns o w → R (tkD ns o w)
theorem k_law_any_task (D : Fd K mg "_law_any_task" s_law_any_task) (T : Bi mg) (G_law_take : Fk P w K mg base 1 "_law_take" (bSp S_law_take)) (G_law_some : Fk P w K mg base 2 "_law_some" (bSp S_law_some)) (G_law_fit_needs : Fk P w K mg base 4 "_law_fit_needs" (bSp S_law_fit_needs)) (G_law_spread : Fk P w K mg base 3 "_law_spread" (bSp S_law_spread)) (G_law_is_right : Fk P w K mg base 3 "_law_is_right" (pSp S_law_is_right)) : Fk P w K mg base 5 "_law_any_task" (bSp S_law_any_task) := by
  refine fk_b D ns_law_any_task (fun _ _ _ _ _ _ us hl => match us, hl with | [_, _, _], _ => rfl) (fun ds R h => ?_) (fun f cdv A outer s H E hr F b c hb0 ds R h => ?_)
  · obtain ⟨z, t, rfl, hz, ht, q⟩ := h
    rfl
  obtain ⟨z, t, rfl, hz, ht, q⟩ := h
  refine es_cons ?_
  wtm_at "set"
  refine nd_callBag (k := 4) (i := 0) G_law_fit_needs hr (by wtm_at "look") ?_
  repeat wtm_at "x"
  refine ⟨ht, fun ns hn hs hl => ?_⟩
  refine es_cons ?_
  refine e1_vo (by wtm_at "m2") (by wtm_at "M") ?_
  refine nd_callBag (k := 4) (i := 0) G_law_spread hr (by wtm_at "look") ?_
  repeat wtm_at "x"
  refine ⟨hs, hz, by omega, fun o ho hr1 => ?_⟩
  refine nl_listc (by assumption) ?_
  refine nd_callBag (k := 4) (i := 0) G_law_spread hr (by wtm_at "look") ?_
  repeat wtm_at "x"
  refine ⟨hs, hz, by omega, fun w1 hw1 hr2 => ?_⟩
  refine ⟨_, rfl, fun qa hq => ?_⟩
  refine es_cons ?_
  wtm_at "for1"
  refine ni_range1 (by wtm_at "Brange") ?_
  refine Nd.mono (P := fun d => ∃ k : Nat, k ≤ 1000 ∧ (z = 0 → k = 0) ∧ d = iD k) ?_ (fun d hd => ?_)
  · repeat wtm_at "x"
    refine ifB (fun hc => ?_) (fun hc => ?_)
    · have hp := of_decide_eq_true hc
      refine nd_callBag (k := 4) (i := 0) G_law_take hr (by wtm_at "look") ?_
      refine na_cons ?_
      refine nd_bin ?_
      refine nd_bin ?_
      repeat wtm_at "x"
      refine ⟨by show 1 ≤ z / 2 + 1; omega, by show z / 2 + 1 ≤ _; omega, fun k hk => ?_⟩
      have hk : k < z / 2 + 1 := hk
      exact ⟨k, by omega, by omega, rfl⟩
    · repeat wtm_at "x"
      exact ⟨0, by omega, by omega, rfl⟩
  obtain ⟨k, hk, hkz, rfl⟩ := hd
  refine ⟨_, rfl, by omega, ?_⟩
  refine ⟨fun n Γ2 => ∃ (w2 : Ly) (s6 s7 s8 : Sd), Γ2 = [.bag b c, .val (iD z), .val (iD t), .val (nsD ns), .val (lyD o), .own qa (w2.map oD), s6, s7, s8] ∧ w2.length = z ∧ Rt ns w2, ⟨w1, .no, .no, .no, rfl, hw1, hr2⟩, ?_, ?_⟩
  · rintro n d Γ2 hd ⟨w2, s6, s7, s8, rfl, hl2, hr3⟩
    have hz1 : 1 ≤ z := by
      have h1 := (List.getElem?_eq_some_iff.mp hd).1
      rw [rangeD_len, Int.toNat_natCast] at h1
      omega
    refine es_cons ?_
    wtm_at "set"
    refine nd_callBag (k := 4) (i := 0) G_law_take hr (by wtm_at "look") ?_
    repeat wtm_at "x"
    refine ⟨hz1, by omega, fun at' hat => ?_⟩
    have g1 : w2[at']? = some (gt w2 at') := gt_get (by omega)
    have g2 : o[at']? = some (gt o at') := gt_get (by omega)
    refine es_cons ?_
    wtm_at "set"
    repeat wtm_at "x"
    refine ⟨_, atI_map g1, lless_o1 _, ?_⟩
    refine es_cons ?_
    refine e1_item (i := 5) (by wtm_at "look") ?_
    refine Nd.mono (P := fun d => ∃ x : Option Nat, d = oD x ∧ GoodV ns.length x) ?_ (fun d hd => ?_)
    · refine nd_callBag (k := 4) (i := 0) G_law_some hr (by wtm_at "look") ?_
      repeat wtm_at "x"
      refine ⟨_, atI_map g2, ?_⟩
      repeat wtm_at "x"
      refine ⟨_, atI_map g2, ?_⟩
      repeat wtm_at "x"
      refine ⟨_, _, rfl, rfl, by simp, by simp, fun x hx => ?_⟩
      simp only [List.mem_cons, List.not_mem_nil, or_false] at hx
      rcases hx with rfl | rfl | rfl
      · exact ⟨none, rfl, fun v hv => by cases hv⟩
      · exact ⟨_, rfl, fun v hv => hr1.lt v (List.mem_of_getElem? (by rw [g2, hv]))⟩
      · exact ⟨_, rfl, fun v hv => hr1.lt v (List.mem_of_getElem? (by rw [g2, hv]))⟩
    obtain ⟨x, rfl, hx⟩ := hd
    repeat wtm_at "x"
    refine ⟨_, at', rfl, ixN_nat (by rw [List.length_map]; omega), ?_⟩
    rw [set_map]
    refine es_one ?_
    refine e1_if (nt_not (nt_val ?_))
    refine nd_lend (i := 5) (by wtm_at "look") ?_
    refine nd_call (k := 4) G_law_is_right hr ?_
    repeat wtm_at "x"
    refine ⟨_, _, w2.set at' x, rfl, .inl rfl, by omega, by rw [List.length_set]; omega, rfl, ?_⟩
    repeat wtm_at "x"
    refine ifB (fun hb => ?_) (fun hb => ?_)
    · refine es_one ?_
      refine e1_item (i := 5) (by wtm_at "look") ?_
      repeat wtm_at "x"
      refine ⟨_, at', rfl, ixN_nat (by rw [List.length_map, List.length_set]; omega), ?_⟩
      refine ⟨w2, .val d, .val (iD at'), .val (oD (gt w2 at')), ?_, hl2, hr3⟩
      have e : (w2.set at' x).set at' (gt w2 at') = w2 := by
        rw [List.set_set]
        apply List.ext_getElem?
        intro i
        by_cases h : at' = i
        · subst h
          rw [List.getElem?_set_self (by omega), g1]
        · rw [List.getElem?_set_ne h]
      rw [set_map, e]
      rfl
    · have hrt : rightB ns (w2.set at' x) = true := by
        cases h : rightB ns (w2.set at' x) with
        | true => rfl
        | false => rw [h] at hb; cases hb
      repeat wtm_at "w"
      exact ⟨by rw [List.length_set]; exact hl2, rightB_iff hrt⟩
  · rintro Γ2 ⟨w2, s6, s7, s8, rfl, hl2, hr3⟩
    refine es_freeze (i := 5) (by wtm_at "look") (fun h => hq h) ?_
    repeat wtm_at "w"
    exact ⟨q ns o w2 ⟨hn, hr1, hr3, by omega, by omega⟩, by wtm_at "bm"⟩
end


set_option Elab.async false
set_option linter.all false
set_option maxRecDepth 100000
set_option maxHeartbeats 2000000
/-! Wm.AE: rings, even tasks. -/



theorem snoc2 {α : Type} {ds : List α} {x a b c : α} (h : ds ++ [x] = [a, b, c]) : ds = [a, b] ∧ x = c := by
  have h' : ds ++ [x] = [a, b] ++ [c] := h
  have := List.append_inj' h' rfl
  exact ⟨this.1, by simpa using this.2⟩
def hit (v : Nat) (o : Option Nat) : Nat := if o = some v then 1 else 0
theorem cnt_cons (a : Option Nat) (l : Ly) (v : Nat) : cnt (a :: l) v = cnt l v + hit v a := by
  unfold cnt hit
  rw [List.countP_cons]
  by_cases h : a = some v <;> simp [h]
theorem cnt_set (v : Nat) (x : Option Nat) : ∀ (l : Ly) (i : Nat) (a : Option Nat), l[i]? = some a → cnt (l.set i x) v + hit v a = cnt l v + hit v x
  | [], i, a, h => by simp at h
  | b :: l, 0, a, h => by
    have e : b = a := Option.some.inj h
    subst e
    rw [List.set_cons_zero, cnt_cons, cnt_cons]
    omega
  | b :: l, i + 1, a, h => by
    have ih := cnt_set v x l i a h
    rw [List.set_cons_succ, cnt_cons, cnt_cons]
    omega
theorem gt_set_ne {l : Ly} {i j : Nat} {x : Option Nat} (h : i ≠ j) : gt (l.set i x) j = gt l j := by
  unfold gt
  rw [List.getElem?_set_ne h]
/-- a place that is open ahead is free -/
def Sm (o w : Ly) : Prop := ∀ i, gt o i = none → gt w i = none
def rot (r : List Nat) : List Nat := r.getLastD 0 :: r.dropLast
theorem rot_perm {r : List Nat} (h : r ≠ []) : (rot r).Perm r := by
  have e : r.dropLast ++ [r.getLastD 0] = r := by
    have := List.dropLast_concat_getLast h
    rw [List.getLastD_eq_getLast?, List.getLast?_eq_some_getLast h]
    exact this
  have p : (rot r).Perm (r.dropLast ++ [r.getLastD 0]) := by
    unfold rot
    exact (List.perm_append_comm (l₁ := [r.getLastD 0]) (l₂ := r.dropLast))
  rw [e] at p
  exact p
theorem rot_at {r : List Nat} (h : r ≠ []) {n : Nat} (hn : n < r.length) : ∃ p, (rot r)[n]? = some p ∧ p ∈ r ∧ atI (r.map iD) ((n : Int) - 1) = some (iD p) := by
  cases n with
  | zero =>
    refine ⟨r.getLastD 0, rfl, ?_, ?_⟩
    · have := last_at h
      exact List.mem_of_getElem? this
    · refine atI_last ?_
      rw [List.length_map, List.getElem?_map, last_at h]
      rfl
  | succ n =>
    have hx : r[n]? = some r[n] := List.getElem?_eq_getElem (by omega)
    refine ⟨r[n], ?_, List.getElem_mem _, ?_⟩
    · show r.dropLast[n]? = _
      rw [List.getElem?_dropLast, if_pos (by omega), hx]
    · rw [show (((n + 1 : Nat) : Int) - 1) = (n : Int) by omega]
      exact atI_map hx
def sumHit (v : Nat) (o : Ly) (r : List Nat) : Nat := (r.map fun p => hit v (gt o p)).sum
theorem sumHit_perm {v : Nat} {o : Ly} {r r' : List Nat} (h : r.Perm r') : sumHit v o r = sumHit v o r' := (h.map _).sum_nat
theorem sumHit_snoc (v : Nat) (o : Ly) (r : List Nat) (p : Nat) : sumHit v o (r ++ [p]) = sumHit v o r + hit v (gt o p) := by
  unfold sumHit
  rw [List.map_append, List.sum_append]
  simp
section
variable {P : Program} {w : World} {K : PySem.W.Frag} {mg : Str → Option Value} {base : Heap}
def S_law_rings : Spc := fun ds R => ∃ (ps : List Nat) (o : Ly), ds = [.list (ps.map iD), .list (o.map oD), .list (o.map oD)] ∧ ps.Nodup ∧ (∀ p ∈ ps, p < o.length) ∧ ps.length ≤ 1000 ∧ o.length ≤ 1000 ∧ ∀ w : Ly, w.length = o.length → (∀ v, cnt w v = cnt o v) → (∀ x ∈ w, x ∈ o) → (∀ i, i ∉ ps → gt w i = gt o i) → R (.list (w.map oD))
theorem k_law_rings (D : Fd K mg "_law_rings" s_law_rings) (T : Bi mg) (G_law_some : Fk P w K mg base 2 "_law_some" (bSp S_law_some)) (G_law_mixed : Fk P w K mg base 2 "_law_mixed" (bSp S_law_mixed)) : Fk P w K mg base 3 "_law_rings" (oSp S_law_rings) := by
  refine fk_o D ns_law_rings (fun _ _ _ _ _ _ us hl => match us, hl with | [_, _, _, _], _ => rfl) (fun ds R h => ?_) (fun f cdv A outer s H E hr F b c qa hb0 hqb ds xs R h => ?_)
  · obtain ⟨ps, o, rfl, _⟩ := h
    rfl
  obtain ⟨ps, o, e, hnd, hlt, hz, hz2, q⟩ := h
  obtain ⟨rfl, ex⟩ := snoc2 e
  have ex : xs = o.map oD := by injection ex
  subst ex
  have hq : qa ∉ ([b] : List Addr) := fun m => hqb (List.mem_singleton.mp m)
  refine es_cons ?_
  wtm_at "set"
  refine nd_callBag (k := 2) (i := 0) G_law_mixed hr (by wtm_at "look") ?_
  repeat wtm_at "x"
  refine ⟨_, _, rfl, .inl rfl, by rw [List.length_map]; omega, fun ys hp => ?_⟩
  obtain ⟨l0, hp0, rfl⟩ := perm_map_inv iD hp
  refine es_cons ?_
  refine e1_while PassesOwn.never (fun m Γ2 => ∃ (lf : List Nat) (w : Ly) (s5 s6 s7 : Sd), Γ2 = [.bag b c, .val (.list (ps.map iD)), .val (.list (o.map oD)), .own qa (w.map oD), .val (.list (lf.map iD)), s5, s6, s7] ∧ lf.length = m ∧ lf.length ≤ 1000 ∧ lf.Nodup ∧ (∀ p ∈ lf, p < o.length ∧ gt w p = gt o p) ∧ w.length = o.length ∧ (∀ v, cnt w v = cnt o v) ∧ (∀ x ∈ w, x ∈ o) ∧ (∀ p ∈ lf, p ∈ ps) ∧ ∀ i, i ∉ ps → gt w i = gt o i) l0.length ⟨l0, o, .no, .no, .no, rfl, rfl, by rw [hp0.length_eq]; exact hz, hp0.nodup_iff.mpr hnd, fun p m => ⟨hlt p (hp0.mem_iff.mp m), rfl⟩, rfl, fun _ => rfl, fun _ h => h, fun p m => hp0.mem_iff.mp m, fun _ _ => rfl⟩ ?_
  rintro m Γ2 ⟨lf, w, s5, s6, s7, rfl, hm, hlz, hnl, hlf, hwl, hcnt, hmem, hlps, hwo⟩
  repeat wtm_at "w"
  rw [List.length_map]
  refine ifB (fun hb => ?_) (fun hb => ?_)
  · have hgt := of_decide_eq_true hb
    refine es_cons ?_
    wtm_at "set"
    refine nd_slice ?_
    repeat wtm_at "x"
    refine nd_callBag (k := 2) (i := 0) G_law_some hr (by wtm_at "look") ?_
    repeat wtm_at "x"
    refine ⟨_, _, rfl, rfl, by simp, by simp, fun x hx => ?_⟩
    rw [List.length_map] at hx
    have : ∃ u : Nat, x = iD u ∧ 2 ≤ u := by
      simp only [List.mem_cons, List.not_mem_nil, or_false] at hx
      rcases hx with rfl | rfl | rfl | rfl | rfl
      · exact ⟨2, rfl, by omega⟩
      · exact ⟨2, rfl, by omega⟩
      · exact ⟨3, rfl, by omega⟩
      · exact ⟨4, rfl, by omega⟩
      · exact ⟨lf.length, rfl, by omega⟩
    obtain ⟨u, rfl, hu⟩ := this
    refine ⟨_, rfl, ?_⟩
    rw [cut_map0]
    have hrn : lf.take u ≠ [] := by
      intro z
      have z2 : (lf.take u).length = 0 := by rw [z]; rfl
      rw [List.length_take] at z2
      omega
    have hrl : (lf.take u).length ≤ lf.length := by rw [List.length_take]; omega
    have hrp : 0 < (lf.take u).length := List.length_pos_iff.mpr hrn
    generalize hring : lf.take u = ring at hrn hrl hrp
    refine es_cons ?_
    wtm_at "set"
    repeat wtm_at "x"
    rw [List.length_map, show cutD (lf.map iD) (some ((ring.length : Nat) : Int)) none = (lf.drop ring.length).map iD from (cutD_from _ _).trans List.map_drop.symm]
    refine es_one ?_
    wtm_at "for2"
    refine ni_enumL (by wtm_at "Ben") ?_
    repeat wtm_at "x"
    rw [enumD_map]
    have hsplit : ring ++ lf.drop ring.length = lf := by
      have : ring = lf.take ring.length := by
        rw [← hring, List.length_take]
        by_cases h : u ≤ lf.length
        · rw [Nat.min_eq_left h]
        · rw [Nat.min_eq_right (by omega), List.take_of_length_le (by omega), List.take_of_length_le (Nat.le_refl _)]
      rw [this]
      have l2 : (lf.take ring.length).length = ring.length := by rw [← this]
      rw [l2]
      exact List.take_append_drop _ _
    have hnd2 : (ring ++ lf.drop ring.length).Nodup := by rw [hsplit]; exact hnl
    obtain ⟨hn1, hn2, hdis⟩ := List.nodup_append.mp hnd2
    have hall : ∀ p ∈ ring, p < o.length ∧ gt w p = gt o p := fun p m => hlf p (by rw [← hsplit]; exact List.mem_append_left _ m)
    refine ⟨fun n Γ2 => ∃ (w2 : Ly) (s6 s7 : Sd), Γ2 = [.bag b c, .val (.list (ps.map iD)), .val (.list (o.map oD)), .own qa (w2.map oD), .val (.list ((lf.drop ring.length).map iD)), .val (.list (ring.map iD)), s6, s7] ∧ w2.length = o.length ∧ (∀ x ∈ w2, x ∈ o) ∧ (∀ p ∈ lf.drop ring.length, gt w2 p = gt o p) ∧ (∀ i p, n ≤ i → ring[i]? = some p → gt w2 p = gt o p) ∧ (∀ v, cnt w2 v + sumHit v o (ring.take n) = cnt o v + sumHit v o ((rot ring).take n)) ∧ ∀ i, i ∉ ps → gt w2 i = gt o i, ⟨w, s6, s7, rfl, hwl, hmem, fun p m => (hlf p (List.mem_of_mem_drop m)).2, fun i p _ h => (hall p (List.mem_of_getElem? h)).2, fun v => by rw [hcnt]; simp [sumHit], hwo⟩, ?_, ?_⟩
    · rintro n d Γ2 hd ⟨w2, s6, s7, rfl, hl2, hm2, hr2, hi2, hc2, ho2⟩
      obtain ⟨p, hp, rfl⟩ := enum_get hd
      have hnlt := (List.getElem?_eq_some_iff.mp hp).1
      obtain ⟨r, hr1, hrm, hrat⟩ := rot_at hrn hnlt
      have hpl := (hall p (List.mem_of_getElem? hp)).1
      have hrlt := (hall r hrm).1
      refine ⟨_, _, rfl, ?_⟩
      refine es_one ?_
      refine e1_item (i := 3) (by wtm_at "look") ?_
      repeat wtm_at "x"
      refine ⟨_, hrat, ?_⟩
      repeat wtm_at "x"
      refine ⟨_, atI_map (gt_get hrlt), ?_⟩
      repeat wtm_at "x"
      refine ⟨_, p, rfl, ixN_nat (by rw [List.length_map]; omega), ?_⟩
      rw [set_map]
      refine ⟨w2.set p (gt o r), _, _, rfl, by rw [List.length_set]; exact hl2, fun x hx => ?_, fun p' m => ?_, fun i p' hi hp' => ?_, fun v => ?_, fun i hi => ?_⟩
      · rcases List.mem_or_eq_of_mem_set hx with h | h
        · exact hm2 x h
        · rw [h]
          exact List.mem_of_getElem? (gt_get hrlt)
      · rw [gt_set_ne (fun e => hdis p (List.mem_of_getElem? hp) p' m e)]
        exact hr2 p' m
      · have hne : p ≠ p' := fun e => by
          rw [← e] at hp'
          have := (List.getElem?_inj hnlt hn1).mp (hp.trans hp'.symm)
          omega
        rw [gt_set_ne hne]
        exact hi2 i p' (by omega) hp'
      · have e1 := cnt_set v (gt o r) w2 p (gt w2 p) (gt_get (by omega))
        rw [hi2 n p (Nat.le_refl _) hp] at e1
        rw [take_snoc hp, take_snoc hr1, sumHit_snoc, sumHit_snoc]
        have := hc2 v
        omega
      · rw [gt_set_ne (show p ≠ i from fun e => hi (e ▸ hlps p (by rw [← hsplit]; exact List.mem_append_left _ (List.mem_of_getElem? hp))))]
        exact ho2 i hi
    · rintro Γ2 ⟨w2, s6, s7, rfl, hl2, hm2, hr2, hi2, hc2, ho2⟩
      refine ⟨lf.length - ring.length, by omega, lf.drop ring.length, w2, _, s6, s7, rfl, by rw [List.length_drop], by rw [List.length_drop]; omega, hn2, fun p m => ⟨(hlf p (List.mem_of_mem_drop m)).1, hr2 p m⟩, hl2, fun v => ?_, hm2, fun p m => hlps p (List.mem_of_mem_drop m), ho2⟩
      have := hc2 v
      rw [List.length_map, List.length_zipIdx, List.take_length, List.take_of_length_le (by rw [(rot_perm hrn).length_eq]; exact Nat.le_refl _), sumHit_perm (rot_perm hrn)] at this
      omega
  · refine es_freeze (i := 3) (by wtm_at "look") hq ?_
    repeat wtm_at "w"
    exact ⟨q w hwl hcnt hmem hwo, by wtm_at "bm"⟩
end


set_option Elab.async false
set_option linter.all false
set_option maxRecDepth 100000
set_option maxHeartbeats 2000000
/-! Wm.AF: even tasks. -/



theorem range_gt (l : Ly) : (List.range l.length).map (gt l) = l := by
  apply List.ext_getElem
  · simp
  · intro i h1 h2
    rw [List.getElem_map, List.getElem_range]
    have := gt_get (l := l) (i := i) h2
    rw [List.getElem?_eq_getElem h2] at this
    exact (Option.some.inj this).symm
theorem pick_perm {l : Ly} {ord : List Nat} (h : ord.Perm (List.range l.length)) : (ord.map (gt l)).Perm l := by
  have := h.map (gt l)
  rw [range_gt] at this
  exact this
theorem Rt.none {ns : List Nat} {l : Ly} (r : Rt ns l) (k : Nat) : Rt ns (l ++ List.replicate k none) := by
  refine ⟨fun v m => ?_, fun i n e => ?_⟩
  · rcases List.mem_append.mp m with h | h
    · exact r.lt v h
    · cases List.eq_of_mem_replicate h
  · rw [cnt_app]
    have := r.ge i n e
    omega
section
variable {P : Program} {w : World} {K : PySem.W.Frag} {mg : Str → Option Value} {base : Heap}
def S_law_even_task : Spc := fun ds R => ∃ (z t : Nat), ds = [iD z, iD t] ∧ z ≤ 900 ∧ t ≤ 900 ∧ ∀ ns o w, TkOk (z + 1) ns o w → Sm o w → R (tkD ns o w)
theorem k_law_even_task (D : Fd K mg "_law_even_task" s_law_even_task) (T : Bi mg) (G_law_take : Fk P w K mg base 1 "_law_take" (bSp S_law_take)) (G_law_some : Fk P w K mg base 2 "_law_some" (bSp S_law_some)) (G_law_fit_needs : Fk P w K mg base 4 "_law_fit_needs" (bSp S_law_fit_needs)) (G_law_spread : Fk P w K mg base 3 "_law_spread" (bSp S_law_spread)) (G_law_mixed : Fk P w K mg base 2 "_law_mixed" (bSp S_law_mixed)) (G_law_rings : Fk P w K mg base 3 "_law_rings" (oSp S_law_rings)) : Fk P w K mg base 5 "_law_even_task" (bSp S_law_even_task) := by
  refine fk_b D ns_law_even_task (fun _ _ _ _ _ _ us hl => match us, hl with | [_, _, _], _ => rfl) (fun ds R h => ?_) (fun f cdv A outer s H E hr F b c hb0 ds R h => ?_)
  · obtain ⟨z, t, rfl, hz, ht, q⟩ := h
    rfl
  obtain ⟨z, t, rfl, hz, ht, q⟩ := h
  refine es_cons ?_
  wtm_at "set"
  refine nd_callBag (k := 4) (i := 0) G_law_fit_needs hr (by wtm_at "look") ?_
  repeat wtm_at "x"
  refine nd_callBag (k := 4) (i := 0) G_law_take hr (by wtm_at "look") ?_
  repeat wtm_at "x"
  refine ⟨by decide, by decide, fun k hk => ?_⟩
  have hk : k < 4 := hk
  repeat wtm_at "x"
  have hm : ∃ m : Nat, m ≤ z + 1 ∧ PyData.int (if (z : Int) - (k : Nat) > 1 then (z : Int) - (k : Nat) else 1) = iD m := by
    by_cases h : (z : Int) - (k : Nat) > 1
    · refine ⟨z - k, by omega, ?_⟩
      rw [if_pos h]
      show PyData.int _ = PyData.int _
      rw [show ((z - k : Nat) : Int) = (z : Int) - (k : Nat) by omega]
    · exact ⟨1, by omega, by rw [if_neg h]; rfl⟩
  obtain ⟨m, hmz, em⟩ := hm
  rw [em]
  repeat wtm_at "x"
  refine ⟨by omega, fun ns hn hs hl => ?_⟩
  refine es_cons ?_
  wtm_at "set"
  refine nd_sumT (by assumption) (by wtm_at "calm") ?_
  repeat wtm_at "x"
  refine ⟨ns.map fun n : Nat => (n : Int), by show PyData.tuple _ = PyData.tuple _; rw [List.map_map]; rfl, ?_⟩
  rw [sumI]
  refine es_cons ?_
  wtm_at "set"
  refine nd_callBag (k := 4) (i := 0) G_law_spread hr (by wtm_at "look") ?_
  repeat wtm_at "x"
  refine ⟨Nat.le_refl _, by omega, by omega, fun o ho hr1 => ?_⟩
  refine es_cons ?_
  wtm_at "set"
  refine Nd.mono (P := fun d => ∃ u : Nat, u ≤ 3 ∧ d = iD u) ?_ (fun d hd => ?_)
  · repeat wtm_at "x"
    refine ifB (fun hc => ?_) (fun hc => ?_)
    · refine nd_callBag (k := 4) (i := 0) G_law_some hr (by wtm_at "look") ?_
      repeat wtm_at "x"
      refine ⟨_, _, rfl, rfl, by simp, by simp, fun x hx => ?_⟩
      simp only [List.mem_cons, List.not_mem_nil, or_false] at hx
      rcases hx with rfl | rfl | rfl | rfl | rfl
      · exact ⟨0, by omega, rfl⟩
      · exact ⟨1, by omega, rfl⟩
      · exact ⟨1, by omega, rfl⟩
      · exact ⟨2, by omega, rfl⟩
      · exact ⟨3, by omega, rfl⟩
    · repeat wtm_at "x"
      exact ⟨0, by omega, rfl⟩
  obtain ⟨u, hu, rfl⟩ := hd
  refine es_cons ?_
  wtm_at "set"
  repeat wtm_at "x"
  generalize hsp : (if (z : Int) - ((ns.sum : Nat) : Int) < (u : Nat) then (z : Int) - ((ns.sum : Nat) : Int) else (u : Nat)) = sp
  have hsp1 : -1000 ≤ sp ∧ sp ≤ 3 ∧ sp.toNat + ns.sum ≤ z + 1 := by
    by_cases h : (z : Int) - ((ns.sum : Nat) : Int) < (u : Nat)
    · rw [if_pos h] at hsp
      omega
    · rw [if_neg h] at hsp
      omega
  refine es_cons ?_
  wtm_at "set"
  repeat wtm_at "x"
  refine bin_repZ (by omega) (by show 1 * _ ≤ _; omega) (by omega) ?_
  rw [rep_flat]
  refine bin_cat (by rw [List.length_map, List.length_replicate]; omega) ?_
  have e0 : o.map oD ++ List.replicate sp.toNat PyData.none = (o ++ List.replicate sp.toNat none).map oD := by
    rw [List.map_append, List.map_replicate]
    rfl
  rw [e0]
  have hr2 := hr1.none sp.toNat
  have hl2 : (o ++ List.replicate sp.toNat none).length ≤ z + 1 := by rw [List.length_append, List.length_replicate]; omega
  generalize o ++ List.replicate sp.toNat none = o2 at hr2 hl2
  refine es_cons ?_
  wtm_at "set"
  refine nd_callBag (k := 4) (i := 0) G_law_mixed hr (by wtm_at "look") ?_
  repeat wtm_at "x"
  rw [List.length_map]
  refine ⟨by omega, ?_⟩
  repeat wtm_at "x"
  refine ⟨_, _, rfl, .inl rfl, by rw [List.length_map, List.length_range]; omega, fun ys hp => ?_⟩
  obtain ⟨ord, hpo, rfl⟩ := perm_map_inv iD hp
  refine es_cons ?_
  wtm_at "set"
  repeat wtm_at "x"
  refine ni_list ?_
  repeat wtm_at "x"
  refine lc_all (enc := iD) (f := fun a => oD (gt o2 a)) (by rw [hpo.length_eq, List.length_range]; omega) (fun a ha => tgn_name fun s0 H0 C cl fp => ?_) ?_
  · repeat wtm_at "x"
    refine ⟨_, atI_map (gt_get (List.mem_range.mp (hpo.mem_iff.mp ha))), rfl⟩
  have e1 : ord.map (fun a => oD (gt o2 a)) = (ord.map (gt o2)).map oD := by rw [List.map_map]; rfl
  rw [e1]
  have hpp := pick_perm hpo
  have hr3 := hr2.perm hpp
  have hl3 : (ord.map (gt o2)).length ≤ z + 1 := by rw [hpp.length_eq]; exact hl2
  generalize ord.map (gt o2) = o3 at hr3 hl3
  refine es_cons ?_
  wtm_at "slc2"
  refine ni_enumL (by wtm_at "Ben") ?_
  repeat wtm_at "x"
  rw [enumD_map]
  refine lc_map (t := fun p => p.1.isSome) (f := fun p => iD p.2) (by rw [List.length_zipIdx]; omega) (fun a ha => tgn_pair fun s0 H0 C cl fp => ?_) ?_
  · refine nts_one ?_
    repeat wtm_at "x"
    refine ⟨by rw [isN_o]; cases a.1 <;> rfl, fun _ => ?_⟩
    intro s2 H2 C2 cl2 fp2
    repeat wtm_at "x"
    rfl
  have e2 : (o3.zipIdx.filter fun p => p.1.isSome).map (fun p => iD p.2) = ((o3.zipIdx.filter fun p => p.1.isSome).map (·.2)).map iD := by rw [List.map_map]; rfl
  rw [e2]
  have hpl1 : ((o3.zipIdx.filter fun p => p.1.isSome).map (·.2)).Nodup := by
    have : (o3.zipIdx.map (·.2)).Nodup := by rw [List.zipIdx_map_snd]; exact List.nodup_range'
    exact List.Nodup.sublist (List.Sublist.map _ List.filter_sublist) this
  have hpl2 : ∀ p ∈ (o3.zipIdx.filter fun p => p.1.isSome).map (·.2), p < o3.length := fun p m => by
    obtain ⟨x, hx, rfl⟩ := List.mem_map.mp m
    have := List.mem_zipIdx_iff_getElem?.mp (List.mem_filter.mp hx).1
    exact (List.getElem?_eq_some_iff.mp this).1
  have hpl3 : ((o3.zipIdx.filter fun p => p.1.isSome).map (·.2)).length ≤ o3.length := by
    rw [List.length_map]
    exact Nat.le_trans (List.length_filter_le _ _) (by rw [List.length_zipIdx]; exact Nat.le_refl _)
  have hpl4 : ∀ i, gt o3 i = none → i ∉ (o3.zipIdx.filter fun p => p.1.isSome).map (·.2) := fun i hi m => by
    obtain ⟨⟨x, k⟩, hx, rfl⟩ := List.mem_map.mp m
    obtain ⟨m1, m2⟩ := List.mem_filter.mp hx
    have := List.mem_zipIdx_iff_getElem?.mp m1
    have hi : gt o3 k = none := hi
    unfold gt at hi
    rw [show o3[k]? = some x from this] at hi
    have hi : x = none := hi
    subst hi
    cases m2
  generalize (o3.zipIdx.filter fun p => p.1.isSome).map (·.2) = pl at hpl1 hpl2 hpl3 hpl4
  refine es_cons ?_
  wtm_at "set"
  refine nd_callBag (k := 4) (i := 0) G_law_some hr (by wtm_at "look") ?_
  repeat wtm_at "x"
  rw [List.length_map]
  refine ⟨_, _, rfl, rfl, by simp, by simp, fun x hx => ?_⟩
  have hg : ∃ g : Nat, x = iD g := by
    simp only [List.mem_cons, List.not_mem_nil, or_false] at hx
    rcases hx with rfl | rfl | rfl | rfl | rfl
    · exact ⟨0, rfl⟩
    · exact ⟨0, rfl⟩
    · exact ⟨1, rfl⟩
    · exact ⟨2, rfl⟩
    · exact ⟨pl.length, rfl⟩
  obtain ⟨g, rfl⟩ := hg
  refine es_cons ?_
  wtm_at "set"
  refine nd_callO (k := 4) (i := 0) G_law_rings hr (by wtm_at "look") ?_
  refine nd_slice ?_
  refine nd_callBag (k := 4) (i := 0) G_law_mixed hr (by wtm_at "look") ?_
  repeat wtm_at "x"
  refine ⟨_, _, rfl, .inl rfl, by rw [List.length_map]; omega, fun ys hp2 => ?_⟩
  obtain ⟨pl2, hq2, rfl⟩ := perm_map_inv iD hp2
  repeat wtm_at "x"
  rw [show cutD (pl2.map iD) (some (g : Int)) none = (pl2.drop g).map iD from (cutD_from _ _).trans List.map_drop.symm]
  repeat wtm_at "x"
  refine nl_listc (by assumption) ?_
  repeat wtm_at "x"
  refine ⟨(hq2.nodup_iff.mpr hpl1).sublist (List.drop_sublist _ _), fun p m => hpl2 p (hq2.mem_iff.mp (List.mem_of_mem_drop m)), by rw [List.length_drop, hq2.length_eq]; omega, by omega, fun w' hw1 hw2 hw3 hw4 => ?_⟩
  refine es_one ?_
  repeat wtm_at "w"
  refine ⟨q ns o3 w' ⟨hn, hr3, ⟨fun v m => hr3.lt v (hw3 _ m), fun i n e => by rw [hw2]; exact hr3.ge i n e⟩, hw1, hl3⟩ (fun i hi => by rw [hw4 i fun m => hpl4 i hi (hq2.mem_iff.mp (List.mem_of_mem_drop m))]; exact hi), by wtm_at "bm"⟩
end


set_option Elab.async false
set_option linter.all false
set_option maxRecDepth 100000
set_option maxHeartbeats 2000000
/-! Wm.AG: tasks of parts. -/



/-- the state of the parts planted so far -/
structure PtOk (z t : Nat) (ns : List Nat) (o w : Ly) : Prop where
  n1 : ∀ n ∈ ns, 1 ≤ n
  old : Rt ns o
  wish : Rt ns w
  len : w.length = o.length
  sz : o.length ≤ z
  szn : ns.length ≤ t
  full : ∀ x ∈ o, x ≠ none
theorem sm_pick {o w : Ly} (h : Sm o w) (ord : List Nat) : Sm (ord.map (gt o)) (ord.map (gt w)) := fun i hi => by
  unfold gt at hi ⊢
  rw [List.getElem?_map] at hi ⊢
  cases e : ord[i]? with
  | none => rfl
  | some k =>
    rw [e] at hi
    exact h k hi
theorem succ_mod {m a : Nat} (h : a < m) : (((a : Int) + 1) % (m : Int)) = (((a + 1) % m : Nat) : Int) := by
  have e := Int.natCast_emod (a + 1) m
  rw [e]
  rfl
section
variable {P : Program} {w : World} {K : PySem.W.Frag} {mg : Str → Option Value} {base : Heap}
def S_law_parted_task : Spc := fun ds R => ∃ (z t : Nat), ds = [iD z, iD t] ∧ z ≤ 900 ∧ t ≤ 900 ∧ ∀ ns o w, TkOk z ns o w → Sm o w → R (tkD ns o w)
theorem k_law_parted_task (D : Fd K mg "_law_parted_task" s_law_parted_task) (T : Bi mg) (G_law_take : Fk P w K mg base 1 "_law_take" (bSp S_law_take)) (G_law_some : Fk P w K mg base 2 "_law_some" (bSp S_law_some)) (G_law_mixed : Fk P w K mg base 2 "_law_mixed" (bSp S_law_mixed)) : Fk P w K mg base 3 "_law_parted_task" (bSp S_law_parted_task) := by
  refine fk_b D ns_law_parted_task (fun _ _ _ _ _ _ us hl => match us, hl with | [_, _, _], _ => rfl) (fun ds R h => ?_) (fun f cdv A outer s H E hr F b c hb0 ds R h => ?_)
  · obtain ⟨z, t, rfl, hz, ht, q⟩ := h
    rfl
  obtain ⟨z, t, rfl, hz, ht, q⟩ := h
  refine es_cons ?_
  wtm_at "ooov"
  refine nl_lst ?_
  repeat wtm_at "x"
  refine nl_lst ?_
  repeat wtm_at "x"
  refine nl_lst ?_
  repeat wtm_at "x"
  intro q1 q2 q3 hq1 hq2 hq3
  refine es_cons ?_
  refine e1_while PassesOwn.never (fun m Γ2 => ∃ (ns : List Nat) (o w1 : Ly) (more : Bool) (s7 s8 s9 s10 : Sd), Γ2 = [.bag b c, .val (iD z), .val (iD t), .own q1 (ns.map iD), .own q2 (o.map oD), .own q3 (w1.map oD), .val (.bool more), s7, s8, s9, s10, .no, .no] ∧ PtOk z t ns o w1 ∧ m = 2 * (z - o.length) + (if more then 1 else 0)) (2 * z + 1) ⟨[], [], [], true, .no, .no, .no, .no, rfl, ⟨by simp, ⟨by simp, by simp⟩, ⟨by simp, by simp⟩, rfl, by simp, by simp, by simp⟩, by simp⟩ ?_
  rintro m Γ2 ⟨ns, o, w1, more, s7, s8, s9, s10, rfl, hp, hm⟩
  refine nt_val ?_
  repeat wtm_at "x"
  refine ifB (fun hb => ?_) (fun hb => ?_)
  · subst hb
    refine es_cons ?_
    refine e1_vv (by wtm_at "m2") ?_
    refine Nd.mono (P := fun d => ∃ u : Nat, 1 ≤ u ∧ u ≤ 2 ∧ d = iD u) ?_ (fun d hd => ?_)
    · refine nd_callBag (k := 2) (i := 0) G_law_some hr (by wtm_at "look") ?_
      repeat wtm_at "x"
      refine ⟨_, _, rfl, rfl, by simp, by simp, fun x hx => ?_⟩
      simp only [List.mem_cons, List.not_mem_nil, or_false] at hx
      rcases hx with rfl | rfl | rfl | rfl
      · exact ⟨1, by omega, by omega, rfl⟩
      · exact ⟨1, by omega, by omega, rfl⟩
      · exact ⟨1, by omega, by omega, rfl⟩
      · exact ⟨2, by omega, by omega, rfl⟩
    obtain ⟨nd, hnd1, hnd2, rfl⟩ := hd
    refine Nd.mono (P := fun d => ∃ u : Nat, 2 ≤ u ∧ u ≤ 4 ∧ d = iD u) ?_ (fun d hd => ?_)
    · refine nd_callBag (k := 2) (i := 0) G_law_some hr (by wtm_at "look") ?_
      repeat wtm_at "x"
      refine ⟨_, _, rfl, rfl, by simp, by simp, fun x hx => ?_⟩
      simp only [List.mem_cons, List.not_mem_nil, or_false] at hx
      rcases hx with rfl | rfl | rfl | rfl
      · exact ⟨2, by omega, by omega, rfl⟩
      · exact ⟨2, by omega, by omega, rfl⟩
      · exact ⟨3, by omega, by omega, rfl⟩
      · exact ⟨4, by omega, by omega, rfl⟩
    obtain ⟨mn, hmn1, hmn2, rfl⟩ := hd
    refine es_cons ?_
    wtm_at "set"
    refine Nd.mono (P := fun d => ∃ k : Bool, d = .bool k ∧ (k = true → o.length + nd * mn ≤ z ∧ ns.length + mn ≤ t)) ?_ (fun d hd => ?_)
    · repeat wtm_at "x"
      rw [List.length_map]
      refine ifB (fun hc => ?_) (fun hc => ?_)
      · have h1 := of_decide_eq_true hc
        repeat wtm_at "x"
        rw [List.length_map]
        refine fun h2 => ?_
        have h2 := of_decide_eq_true h2
        have e : ((nd : Int) * (mn : Int)) = ((nd * mn : Nat) : Int) := by rw [Int.natCast_mul]
        rw [e] at h1
        omega
      · exact ⟨_, rfl, fun h => by cases h⟩
    obtain ⟨k, rfl, hk⟩ := hd
    refine es_one ?_
    refine e1_if (nt_val ?_)
    repeat wtm_at "x"
    refine ifB (fun hc => ?_) (fun hc => ?_)
    · obtain ⟨hk1, hk2⟩ := hk hc
      have hmul : nd * mn ≤ 8 := Nat.le_trans (Nat.mul_le_mul hnd2 hmn2) (by decide)
      have hmul2 : 2 ≤ nd * mn := Nat.le_trans (by decide) (Nat.mul_le_mul hnd1 hmn1)
      have hoz := hp.sz
      refine es_cons ?_
      wtm_at "set"
      repeat wtm_at "x"
      rw [List.length_map]
      refine es_cons ?_
      refine e1_extend (i := 3) (by wtm_at "look") ?_
      refine nd_bin ?_
      repeat wtm_at "x"
      refine bin_rep (by omega) (by show 1 * _ ≤ _; omega) (by omega) ?_
      rw [Int.toNat_natCast, rep_flat]
      have hzn := hp.szn
      refine ⟨_, rfl, by rw [List.length_map, List.length_replicate]; omega, ?_⟩
      have en : ns.map iD ++ List.replicate mn (PyData.int (nd : Nat)) = (ns ++ List.replicate mn nd).map iD := by
        rw [List.map_append, List.map_replicate]
      rw [en]
      refine es_cons ?_
      wtm_at "for1"
      refine ni_range1 (by wtm_at "Brange") ?_
      repeat wtm_at "x"
      refine ⟨by omega, ?_⟩
      rw [Int.toNat_natCast, rangeD_nat]
      refine ⟨fun n Γ2 => ∃ (o2 w2 : Ly) (s10 : Sd), Γ2 = [.bag b c, .val (iD z), .val (iD t), .own q1 ((ns ++ List.replicate mn nd).map iD), .own q2 (o2.map oD), .own q3 (w2.map oD), .val (.bool k), .val (iD nd), .val (iD mn), .val (iD ns.length), s10, .no, .no] ∧ o2.length = o.length + nd * n ∧ w2.length = o.length + nd * n ∧ (∀ v, some v ∈ o2 → v < ns.length + mn) ∧ (∀ v, some v ∈ w2 → v < ns.length + mn) ∧ (∀ i x, ns[i]? = some x → x ≤ cnt o2 i ∧ x ≤ cnt w2 i) ∧ (∀ a, a < n → nd ≤ cnt o2 (ns.length + a) ∧ nd ≤ cnt w2 (ns.length + (a + 1) % mn)) ∧ ∀ x ∈ o2, x ≠ none, ⟨o, w1, s10, rfl, by simp, by rw [hp.len]; simp, fun v m => by have := hp.old.lt v m; omega, fun v m => by have := hp.wish.lt v m; omega, fun i x e => ⟨hp.old.ge i x e, hp.wish.ge i x e⟩, fun a h => absurd h (Nat.not_lt_zero a), hp.full⟩, ?_, ?_⟩
      · rintro n d Γ2 hd ⟨o2, w2, s10, rfl, ho2, hw2, hov, hwv, hge, hnew, hfu⟩
        rw [List.getElem?_map] at hd
        have hlt : n < mn := by
          by_cases h : n < mn
          · exact h
          · rw [List.getElem?_eq_none (by rw [List.length_range]; omega)] at hd
            cases hd
        rw [List.getElem?_range hlt] at hd
        cases hd
        have hlen2 : nd * n ≤ 8 := Nat.le_trans (Nat.mul_le_mul_left nd (Nat.le_of_lt hlt)) hmul
        have hmod : (n + 1) % mn < mn := Nat.mod_lt _ (by omega)
        have hms : nd * (n + 1) = nd * n + nd := Nat.mul_succ nd n
        refine es_cons ?_
        refine e1_extend (i := 4) (by wtm_at "look") ?_
        refine nd_bin ?_
        repeat wtm_at "x"
        refine bin_rep (by omega) (by show 1 * _ ≤ _; omega) (by omega) ?_
        rw [Int.toNat_natCast, rep_flat]
        refine ⟨_, rfl, by rw [List.length_map, List.length_replicate]; omega, ?_⟩
        refine es_one ?_
        refine e1_extend (i := 5) (by wtm_at "look") ?_
        refine nd_bin ?_
        repeat wtm_at "x"
        refine bin_rep (by omega) (by show 1 * _ ≤ _; omega) (by omega) ?_
        rw [Int.toNat_natCast, rep_flat, succ_mod hlt]
        refine ⟨_, rfl, by rw [List.length_map, List.length_replicate]; omega, ?_⟩
        have eo : o2.map oD ++ List.replicate nd (PyData.int ((ns.length : Nat) + (n : Nat))) = (o2 ++ List.replicate nd (some (ns.length + n))).map oD := by
          rw [List.map_append, List.map_replicate]
          show _ ++ List.replicate nd (PyData.int _) = _ ++ List.replicate nd (PyData.int _)
          rw [show (((ns.length + n : Nat)) : Int) = (ns.length : Int) + (n : Int) by omega]
        have ew : w2.map oD ++ List.replicate nd (PyData.int ((ns.length : Nat) + (((n + 1) % mn : Nat) : Int))) = (w2 ++ List.replicate nd (some (ns.length + (n + 1) % mn))).map oD := by
          rw [List.map_append, List.map_replicate]
          show _ ++ List.replicate nd (PyData.int _) = _ ++ List.replicate nd (PyData.int _)
          rw [show (((ns.length + (n + 1) % mn : Nat)) : Int) = (ns.length : Int) + (((n + 1) % mn : Nat) : Int) by omega]
        rw [eo, ew]
        refine ⟨o2 ++ List.replicate nd (some (ns.length + n)), w2 ++ List.replicate nd (some (ns.length + (n + 1) % mn)), _, rfl, by rw [List.length_append, List.length_replicate]; omega, by rw [List.length_append, List.length_replicate]; omega, fun v m => ?_, fun v m => ?_, fun i x e => ?_, fun a ha => ?_, fun x hx => ?_⟩
        · rcases List.mem_append.mp m with h | h
          · exact hov v h
          · have := Option.some.inj (List.eq_of_mem_replicate h)
            omega
        · rcases List.mem_append.mp m with h | h
          · exact hwv v h
          · have := Option.some.inj (List.eq_of_mem_replicate h)
            omega
        · have := hge i x e
          rw [cnt_app, cnt_app]
          omega
        · rw [cnt_app, cnt_app, cnt_repl, cnt_repl]
          by_cases e : a = n
          · subst e
            rw [if_pos rfl, if_pos rfl]
            omega
          · have := hnew a (by omega)
            omega
        · rcases List.mem_append.mp hx with h | h
          · exact hfu x h
          · rw [List.eq_of_mem_replicate h]
            simp
      · rintro Γ2 ⟨o2, w2, s10, rfl, ho2, hw2, hov, hwv, hge, hnew, hfu⟩
        rw [List.length_map, List.length_range] at ho2 hw2 hnew
        refine es_one ?_
        wtm_at "set"
        repeat wtm_at "x"
        refine nd_callBag (k := 2) (i := 0) G_law_take hr (by wtm_at "look") ?_
        repeat wtm_at "x"
        refine ⟨by decide, by decide, fun kk hkk => ?_⟩
        repeat wtm_at "x"
        refine ⟨2 * (z - o2.length) + (if decide ((0 : Int) < (kk : Nat)) = true then 1 else 0), ?_, ns ++ List.replicate mn nd, o2, w2, decide ((0 : Int) < (kk : Nat)), _, _, _, _, rfl, ?_, rfl⟩
        · rw [hm]
          split <;> simp <;> omega
        · have lenN : (ns ++ List.replicate mn nd).length = ns.length + mn := by rw [List.length_append, List.length_replicate]
          have geN : ∀ i x, (ns ++ List.replicate mn nd)[i]? = some x → x ≤ cnt o2 i ∧ x ≤ cnt w2 i := fun i x e => by
            by_cases h : i < ns.length
            · rw [List.getElem?_append_left h] at e
              exact hge i x e
            · rw [List.getElem?_append_right (by omega), List.getElem?_replicate] at e
              split at e
              · rename_i hi
                cases e
                obtain ⟨a, rfl⟩ : ∃ a, i = ns.length + a := ⟨i - ns.length, by omega⟩
                have ha : a < mn := by omega
                refine ⟨(hnew a ha).1, ?_⟩
                by_cases h0 : a = 0
                · have := (hnew (mn - 1) (by omega)).2
                  rw [show mn - 1 + 1 = mn by omega, Nat.mod_self] at this
                  rw [h0]
                  exact this
                · have := (hnew (a - 1) (by omega)).2
                  rw [show a - 1 + 1 = a by omega, Nat.mod_eq_of_lt ha] at this
                  exact this
              · cases e
          refine ⟨fun n hn => ?_, ⟨fun v m => by rw [lenN]; exact hov v m, fun i x e => (geN i x e).1⟩, ⟨fun v m => by rw [lenN]; exact hwv v m, fun i x e => (geN i x e).2⟩, by omega, by omega, by rw [lenN]; exact hk2, hfu⟩
          rcases List.mem_append.mp hn with h | h
          · exact hp.n1 n h
          · rw [List.eq_of_mem_replicate h]
            exact hnd1
    · repeat wtm_at "w"
      exact ⟨2 * (z - o.length), by rw [hm]; simp, ns, o, w1, k, _, _, _, _, rfl, hp, by rw [hc]; simp⟩
  · refine es_freeze (i := 3) (by wtm_at "look") hq1 ?_
    refine es_freeze (i := 4) (by wtm_at "look") hq2 ?_
    refine es_freeze (i := 5) (by wtm_at "look") hq3 ?_
    have hoz := hp.sz
    have hwl := hp.len
    refine es_cons ?_
    wtm_at "set"
    repeat wtm_at "x"
    refine nd_callBag (k := 2) (i := 0) G_law_some hr (by wtm_at "look") ?_
    repeat wtm_at "x"
    refine ⟨_, _, rfl, rfl, by simp, by simp, fun x hx => ?_⟩
    have hu : ∃ u : Nat, u ≤ 4 ∧ x = iD u := by
      simp only [List.mem_cons, List.not_mem_nil, or_false] at hx
      rcases hx with rfl | rfl | rfl | rfl | rfl | rfl | rfl
      · exact ⟨0, by omega, rfl⟩
      · exact ⟨1, by omega, rfl⟩
      · exact ⟨1, by omega, rfl⟩
      · exact ⟨2, by omega, rfl⟩
      · exact ⟨2, by omega, rfl⟩
      · exact ⟨3, by omega, rfl⟩
      · exact ⟨4, by omega, rfl⟩
    obtain ⟨u, hu, rfl⟩ := hu
    repeat wtm_at "x"
    rw [List.length_map]
    generalize hsp : (if (z : Int) - ((o.length : Nat) : Int) < (u : Nat) then (z : Int) - ((o.length : Nat) : Int) else (u : Nat)) = sp
    have hsp1 : 0 ≤ sp ∧ sp ≤ 4 ∧ sp.toNat + o.length ≤ z := by
      by_cases h : (z : Int) - ((o.length : Nat) : Int) < (u : Nat)
      · rw [if_pos h] at hsp
        omega
      · rw [if_neg h] at hsp
        omega
    refine es_cons ?_
    refine e1_vv (by wtm_at "m2") ?_
    refine nd_bin ?_
    repeat wtm_at "x"
    refine bin_repZ (by omega) (by show 1 * _ ≤ _; omega) (by omega) ?_
    rw [rep_flat]
    repeat wtm_at "x"
    refine bin_cat (by rw [List.length_map, List.length_replicate]; omega) ?_
    refine nd_bin ?_
    repeat wtm_at "x"
    refine bin_repZ (by omega) (by show 1 * _ ≤ _; omega) (by omega) ?_
    rw [rep_flat]
    repeat wtm_at "x"
    refine bin_cat (by rw [List.length_map, List.length_replicate]; omega) ?_
    have e0 : ∀ l : Ly, l.map oD ++ List.replicate sp.toNat PyData.none = (l ++ List.replicate sp.toNat none).map oD := fun l => by
      rw [List.map_append, List.map_replicate]
      rfl
    rw [e0, e0]
    have hr1 := hp.old.none sp.toNat
    have hr2 := hp.wish.none sp.toNat
    have hl1 : (o ++ List.replicate sp.toNat none).length ≤ z := by rw [List.length_append, List.length_replicate]; omega
    have hl2 : (w1 ++ List.replicate sp.toNat none).length = (o ++ List.replicate sp.toNat none).length := by rw [List.length_append, List.length_append, hwl]
    have hsm : Sm (o ++ List.replicate sp.toNat none) (w1 ++ List.replicate sp.toNat none) := fun i hi => by
      by_cases h : i < o.length
      · exfalso
        unfold gt at hi
        rw [List.getElem?_append_left h, List.getElem?_eq_getElem h] at hi
        exact hp.full _ (List.getElem_mem h) hi
      · unfold gt
        rw [List.getElem?_append_right (by omega), List.getElem?_replicate]
        split <;> rfl
    generalize o ++ List.replicate sp.toNat none = o2 at hr1 hl1 hl2 hsm
    generalize w1 ++ List.replicate sp.toNat none = w2 at hr2 hl2 hsm
    refine es_cons ?_
    wtm_at "set"
    refine nd_callBag (k := 2) (i := 0) G_law_mixed hr (by wtm_at "look") ?_
    repeat wtm_at "x"
    rw [List.length_map]
    refine ⟨by omega, ?_⟩
    repeat wtm_at "x"
    refine ⟨_, _, rfl, .inl rfl, by rw [List.length_map, List.length_range]; omega, fun ys hp3 => ?_⟩
    obtain ⟨ord, hpo, rfl⟩ := perm_map_inv iD hp3
    have hol : ord.length ≤ 100000 := by rw [hpo.length_eq, List.length_range]; omega
    refine es_one ?_
    repeat wtm_at "w"
    refine ni_list ?_
    repeat wtm_at "x"
    refine lc_all (enc := iD) (f := fun a => oD (gt o2 a)) hol (fun a ha => tgn_name fun s0 H0 C cl fp => ?_) ?_
    · repeat wtm_at "x"
      refine ⟨_, atI_map (gt_get (List.mem_range.mp (hpo.mem_iff.mp ha))), rfl⟩
    repeat wtm_at "x"
    refine ni_list ?_
    repeat wtm_at "x"
    refine lc_all (enc := iD) (f := fun a => oD (gt w2 a)) hol (fun a ha => tgn_name fun s0 H0 C cl fp => ?_) ?_
    · repeat wtm_at "x"
      refine ⟨_, atI_map (gt_get (by rw [hl2]; exact List.mem_range.mp (hpo.mem_iff.mp ha))), rfl⟩
    repeat wtm_at "x"
    have e1 : ∀ l : Ly, ord.map (fun a => oD (gt l a)) = (ord.map (gt l)).map oD := fun l => by rw [List.map_map]; rfl
    rw [e1, e1]
    have hp1 := pick_perm hpo
    have hp2 := pick_perm (l := w2) (ord := ord) (by rw [hl2]; exact hpo)
    exact ⟨q ns _ _ ⟨hp.n1, hr1.perm hp1, hr2.perm hp2, by rw [List.length_map, List.length_map], by rw [hp1.length_eq]; exact hl1⟩ (sm_pick hsm ord), by wtm_at "bm"⟩
end


set_option Elab.async false
set_option linter.all false
set_option maxRecDepth 100000
set_option maxHeartbeats 2000000
/-! Wm.AH: drawn stretches. -/



theorem outs_perm (l : Ly) {a b : List Nat} (h : ∀ x, x ∈ a ↔ x ∈ b) : outs l a = outs l b := by
  unfold outs
  apply List.map_congr_left
  intro p _
  by_cases hp : p.2 ∈ a
  · rw [if_pos hp, if_pos ((h _).mp hp)]
  · rw [if_neg hp, if_neg fun z => hp ((h _).mpr z)]
theorem safeB_perm (ns : List Nat) (l : Ly) {s s' : St1} (h : s.Perm s') : safeB ns l s = safeB ns l s' := by
  unfold safeB
  rw [outs_perm l (a := pls s) (b := pls s') fun x => (h.map (·.1)).mem_iff]
section
variable {P : Program} {w : World} {K : PySem.W.Frag} {mg : Str → Option Value} {base : Heap}
def S_law_any_stretch : Spc := fun ds R => ∃ (ns : List Nat) (l : Ly) (m : Nat), ds = [nsD ns, lyD l, iD m] ∧ Rt ns l ∧ l.length ≤ 1000 ∧ ns.length ≤ 1000 ∧ m ≤ 100 ∧ ∀ s : St1, Bd l.length s → s.length ≤ m → (s = [] ∨ safeB ns l s = true) → R (stD s)
theorem k_law_any_stretch (D : Fd K mg "_law_any_stretch" s_law_any_stretch) (T : Bi mg) (G_law_take : Fk P w K mg base 1 "_law_take" (bSp S_law_take)) (G_law_met : Fk P w K mg base 1 "_law_met" (pSp S_law_met)) (G_law_is_safe : Fk P w K mg base 3 "_law_is_safe" (pSp S_law_is_safe)) : Fk P w K mg base 4 "_law_any_stretch" (bSp S_law_any_stretch) := by
  refine fk_b D ns_law_any_stretch (fun _ _ _ _ _ _ us hl => match us, hl with | [_, _, _, _], _ => rfl) (fun ds R h => ?_) (fun f cdv A outer s H E hr F b c hb0 ds R h => ?_)
  · obtain ⟨ns, l, m, rfl, hr0, hz, hz2, hm, q⟩ := h
    rfl
  obtain ⟨ns, l, m, rfl, hr0, hz, hz2, hm, q⟩ := h
  refine es_cons ?_
  refine e1_ov (by wtm_at "m2") (by decide) (by wtm_at "M") ?_
  refine nl_lst ?_
  repeat wtm_at "x"
  intro qa hq
  refine es_cons ?_
  wtm_at "for1"
  refine ni_range1 (by wtm_at "Brange") ?_
  refine Nd.mono (P := fun d => ∃ k : Nat, k ≤ m ∧ (l.length ≤ 1 → k = 0) ∧ d = iD k) ?_ (fun d hd => ?_)
  · repeat wtm_at "x"
    rw [List.length_map]
    refine ifB (fun hc => ?_) (fun hc => ?_)
    · have := of_decide_eq_true hc
      repeat wtm_at "x"
      exact ⟨m, Nat.le_refl _, fun h => by omega, rfl⟩
    · repeat wtm_at "x"
      exact ⟨0, Nat.zero_le _, fun _ => rfl, rfl⟩
  obtain ⟨k, hk, hk1, rfl⟩ := hd
  refine ⟨_, rfl, by omega, ?_⟩
  refine ⟨fun n Γ2 => ∃ (cs : St1) (s6 s7 s8 s9 s10 : Sd), Γ2 = [.bag b c, .val (nsD ns), .val (lyD l), .val (iD m), .own qa (cs.map cpD), .val (.int (l.map oD).length), s6, s7, s8, s9, s10] ∧ Bd l.length cs ∧ cs.length ≤ n ∧ (cs = [] ∨ safeB ns l cs = true), ⟨[], .no, .no, .no, .no, .no, rfl, (fun c h => by cases h), Nat.le_refl _, .inl rfl⟩, ?_, ?_⟩
  · rintro n d Γ2 hd ⟨cs, s6, s7, s8, s9, s10, rfl, hbd, hcl, hsf⟩
    have hnk : n < k := by
      have h1 := (List.getElem?_eq_some_iff.mp hd).1
      rw [rangeD_len, Int.toNat_natCast] at h1
      exact h1
    have hl2 : 2 ≤ l.length := by
      by_cases h : l.length ≤ 1
      · have := hk1 h; omega
      · omega
    refine es_cons ?_
    refine e1_vv (by wtm_at "m2") ?_
    refine nd_callBag (k := 3) (i := 0) G_law_take hr (by wtm_at "look") ?_
    repeat wtm_at "x"
    refine ⟨by rw [List.length_map]; omega, by rw [List.length_map]; omega, fun pl hpl => ?_⟩
    rw [List.length_map] at hpl
    refine nd_callBag (k := 3) (i := 0) G_law_take hr (by wtm_at "look") ?_
    repeat wtm_at "x"
    refine ⟨by rw [List.length_map]; omega, by rw [List.length_map]; omega, fun sr hsr => ?_⟩
    rw [List.length_map] at hsr
    refine es_cons ?_
    wtm_at "set"
    refine Nd.mono (P := fun d => ∃ t : Bool, d = .bool t) ?_ (fun d hd => ?_)
    · refine nd_and ?_
      refine nd_lend (i := 4) (by wtm_at "look") ?_
      refine nd_cmp ?_
      repeat wtm_at "x"
      refine nd_call (k := 3) G_law_met hr ?_
      repeat wtm_at "x"
      refine ⟨by omega, ?_⟩
      refine cmp_notIn (.inl rfl) rfl (flat_iD _) ?_
      rw [any_iD]
      refine ⟨by unfold lless; rfl, _, rfl, ifB (fun hc => ?_) (fun hc => ?_)⟩
      · refine nd_and1 ?_
        refine nd_lend (i := 4) (by wtm_at "look") ?_
        repeat wtm_at "x"
        refine ni_list ?_
        repeat wtm_at "x"
        refine lc_all (enc := cpD) (f := fun c => iD c.1) (by omega) (fun a ha => tgn_name fun s0 H0 C cl fp => ?_) ?_
        · repeat wtm_at "x"
          rfl
        refine cmp_notIn (ys := cs.map fun c => iD c.1) (.inl rfl) rfl (by rw [List.all_map, List.all_eq_true]; intro _ _; rfl) ?_
        exact ⟨by unfold lless; rfl, _, rfl⟩
      · exact ⟨_, rfl⟩
    obtain ⟨t, rfl⟩ := hd
    refine es_one ?_
    refine E1.mono (O := ⟨fun Γ3 => ∃ (cs : St1) (s6 s7 s8 s9 s10 : Sd), Γ3 = [.bag b c, .val (nsD ns), .val (lyD l), .val (iD m), .own qa (cs.map cpD), .val (.int (l.map oD).length), s6, s7, s8, s9, s10] ∧ Bd l.length cs ∧ cs.length ≤ n + 1 ∧ (cs = [] ∨ safeB ns l cs = true), fun _ _ => False, fun _ => False, fun _ => False⟩) ?_ (fun _ h => h) (fun _ _ h => h.elim) (fun _ h => h.elim) (fun _ h => h.elim)
    refine e1_if ?_
    refine Nt.mono (P := fun _ => True) ?_ (fun t2 _ => ?_)
    · refine nt_and ?_
      refine nt_cmp ?_
      repeat wtm_at "x"
      refine ifB (fun _ => ?_) (fun _ => trivial)
      refine nw_and ?_
      refine nt_val ?_
      repeat wtm_at "x"
      refine ifB (fun _ => ?_) (fun _ => trivial)
      refine nw_and1 ?_
      refine nt_cmp ?_
      repeat wtm_at "x"
      refine ⟨_, atI_map (gt_get hsr), ?_⟩
      repeat wtm_at "x"
      exact trivial
    cases t2 with
    | false =>
      refine iteF ?_
      repeat wtm_at "w"
      exact ⟨cs, _, _, _, _, _, rfl, hbd, by omega, hsf⟩
    | true =>
      refine iteT ?_
      refine es_one ?_
      refine e1_if (nt_val ?_)
      refine nd_lend (i := 4) (by wtm_at "look") ?_
      refine nd_call (k := 3) G_law_is_safe hr ?_
      repeat wtm_at "x"
      refine bin_cat (by rw [List.length_map]; simp only [List.length_cons, List.length_nil]; omega) ?_
      have ec : cs.map cpD ++ [PyData.tuple [PyData.int (pl : Nat), PyData.int (sr : Nat)]] = (cs ++ [(pl, sr)]).map cpD := by
        rw [List.map_append]
        rfl
      rw [ec]
      repeat wtm_at "x"
      refine ⟨_, _, _, cs ++ [(pl, sr)], rfl, .inl rfl, by omega, by rw [List.length_append]; simp only [List.length_cons, List.length_nil]; omega, by omega, rfl, ?_⟩
      repeat wtm_at "x"
      refine ifB (fun hs => ?_) (fun hs => ?_)
      · refine es_one ?_
        refine e1_append (i := 4) (by wtm_at "look") ?_
        repeat wtm_at "x"
        refine ⟨by rw [List.length_map]; omega, cs ++ [(pl, sr)], _, _, _, _, _, by rw [← ec]; rfl, fun c' hc' => ?_, by rw [List.length_append]; simp only [List.length_cons, List.length_nil]; omega, .inr hs⟩
        rcases List.mem_append.mp hc' with h | h
        · exact hbd c' h
        · rw [List.mem_singleton.mp h]
          exact ⟨hpl, hsr⟩
      · repeat wtm_at "w"
        exact ⟨cs, _, _, _, _, _, rfl, hbd, by omega, hsf⟩
  · rintro Γ2 ⟨cs, s6, s7, s8, s9, s10, rfl, hbd, hcl, hsf⟩
    rw [rangeD_len, Int.toNat_natCast] at hcl
    refine es_freeze (i := 4) (by wtm_at "look") hq ?_
    refine es_one (e1_ret ?_)
    refine nd_tupc (by assumption) ?_
    refine nd_sortC (by assumption) ?_
    repeat wtm_at "x"
    refine ⟨q (srt cs) (fun c' hc' => hbd c' ((srt_perm cs).mem_iff.mp hc')) (by rw [(srt_perm cs).length_eq]; omega) ?_, by wtm_at "bm"⟩
    rcases hsf with h | h
    · left
      rw [h]
      exact List.Perm.eq_nil (srt_perm [])
    · right
      rw [safeB_perm ns l (srt_perm cs)]
      exact h
end


set_option Elab.async false
set_option linter.all false
set_option maxRecDepth 100000
set_option maxHeartbeats 2000000
/-! Wm.AI: led tasks, tasks beside one another. -/



theorem cnt_le_of {v : Nat} : ∀ {a b : Ly}, a.length = b.length → (∀ i : Nat, a[i]? = some (some v) → b[i]? = some (some v)) → cnt a v ≤ cnt b v
  | [], b, _, _ => by simp [cnt]
  | x :: a, [], h, _ => by simp at h
  | x :: a, y :: b, h, q => by
    have ih := cnt_le_of (v := v) (a := a) (b := b) (by simpa using h) fun i e => q (i + 1) e
    rw [cnt_cons, cnt_cons]
    have h0 := q 0
    unfold hit
    by_cases e : x = some v
    · have : y = some v := by simpa using h0 (by simp [e])
      rw [if_pos e, if_pos this]
      omega
    · rw [if_neg e]
      omega
theorem ledm_fold_get (l : Ly) {i : Nat} : ∀ (s : St1) (f : Ly), i ∉ pls s → (s.foldl (fun f c => f.set c.1 (gt l c.2)) f)[i]? = f[i]?
  | [], f, _ => rfl
  | c :: s, f, h => by
    have h1 : c.1 ≠ i := fun e => h (by unfold pls; rw [List.map_cons, e]; exact List.mem_cons_self)
    rw [List.foldl_cons, ledm_fold_get l s _ fun m => h (by unfold pls at *; exact List.mem_cons_of_mem _ m), List.getElem?_set_ne h1]
theorem ledm_fold_mem (l : Ly) {v : Nat} : ∀ (s : St1) (f : Ly), (some v ∈ f → some v ∈ l) → some v ∈ s.foldl (fun f c => f.set c.1 (gt l c.2)) f → some v ∈ l
  | [], f, h, m => h m
  | c :: s, f, h, m => by
    refine ledm_fold_mem l s (f.set c.1 (gt l c.2)) (fun m2 => ?_) m
    rcases List.mem_or_eq_of_mem_set m2 with h2 | h2
    · exact h h2
    · unfold gt at h2
      cases e : l[c.2]? with
      | none => rw [e] at h2; cases h2
      | some o =>
        rw [e] at h2
        have h2 : some v = o := h2
        rw [h2]
        exact List.mem_of_getElem? e
theorem outs_get {l : Ly} {pl : List Nat} {i v : Nat} (h : (outs l pl)[i]? = some (some v)) : i ∉ pl ∧ l[i]? = some (some v) := by
  unfold outs at h
  rw [List.getElem?_map, List.getElem?_zipIdx] at h
  cases e : l[i]? with
  | none => rw [e] at h; cases h
  | some o =>
    rw [e] at h
    simp at h
    exact ⟨h.1, by rw [h.2]⟩
theorem Rt.led {ns : List Nat} {l : Ly} {s : St1} (r : Rt ns l) (h : safeB ns l s = true) : Rt ns (ledm l s) := by
  refine ⟨fun v m => r.lt v (ledm_fold_mem l s l (fun h => h) m), fun i n e => ?_⟩
  have hz : ns.zipIdx[i]? = some (n, i) := by rw [List.getElem?_zipIdx, e]; simp
  have h1 := of_decide_eq_true (List.all_eq_true.mp h _ (List.mem_of_getElem? hz))
  refine Nat.le_trans h1 (cnt_le_of (by rw [outs_len, ledm_len]) fun j hj => ?_)
  obtain ⟨h2, h3⟩ := outs_get hj
  exact (ledm_fold_get l s l h2).trans h3
section
variable {P : Program} {w : World} {K : PySem.W.Frag} {mg : Str → Option Value} {base : Heap}
def S_law_led_task : Spc := fun ds R => ∃ (z t u : Nat), ds = [iD z, iD t, iD u] ∧ z ≤ 900 ∧ t ≤ 900 ∧ u ≤ 100 ∧ ∀ ns o w (p : PyData), TkOk z ns o w → R (.tuple [tkD ns o w, p])
theorem k_law_led_task (D : Fd K mg "_law_led_task" s_law_led_task) (T : Bi mg) (G_law_take : Fk P w K mg base 1 "_law_take" (bSp S_law_take)) (G_law_some : Fk P w K mg base 2 "_law_some" (bSp S_law_some)) (G_law_fit_needs : Fk P w K mg base 4 "_law_fit_needs" (bSp S_law_fit_needs)) (G_law_spread : Fk P w K mg base 3 "_law_spread" (bSp S_law_spread)) (G_law_is_right : Fk P w K mg base 3 "_law_is_right" (pSp S_law_is_right)) (G_law_any_stretch : Fk P w K mg base 4 "_law_any_stretch" (bSp S_law_any_stretch)) (G_law_led : Fk P w K mg base 1 "_law_led" (pSp S_law_led)) : Fk P w K mg base 6 "_law_led_task" (bSp S_law_led_task) := by
  refine fk_b D ns_law_led_task (fun _ _ _ _ _ _ us hl => match us, hl with | [_, _, _, _], _ => rfl) (fun ds R h => ?_) (fun f cdv A outer s H E hr F b c hb0 ds R h => ?_)
  · obtain ⟨z, t, u, rfl, hz, ht, hu, q⟩ := h
    rfl
  obtain ⟨z, t, u, rfl, hz, ht, hu, q⟩ := h
  refine es_cons ?_
  wtm_at "set"
  refine nd_callBag (k := 5) (i := 0) G_law_fit_needs hr (by wtm_at "look") ?_
  repeat wtm_at "x"
  refine ⟨by omega, fun ns hn hs hl => ?_⟩
  refine es_cons ?_
  wtm_at "set"
  refine nd_callBag (k := 5) (i := 0) G_law_spread hr (by wtm_at "look") ?_
  repeat wtm_at "x"
  refine ⟨hs, by omega, by omega, fun o ho hr1 => ?_⟩
  refine es_cons ?_
  refine e1_vo (by wtm_at "m2") (by wtm_at "M") ?_
  repeat wtm_at "x"
  refine nl_lst ?_
  repeat wtm_at "x"
  intro qp hqp
  refine es_cons ?_
  wtm_at "for1"
  refine ni_range1 (by wtm_at "Brange") ?_
  repeat wtm_at "x"
  refine ⟨by omega, ?_⟩
  refine ⟨fun n Γ2 => ∃ (l : Ly) (p : List PyData) (s8 s9 : Sd), Γ2 = [.bag b c, .val (iD z), .val (iD t), .val (iD u), .val (nsD ns), .val (lyD o), .val (lyD l), .own qp p, s8, s9, .no, .no, .no] ∧ l.length = z ∧ Rt ns l ∧ p.length ≤ n, ⟨o, [], .no, .no, rfl, ho, hr1, Nat.le_refl _⟩, ?_, ?_⟩
  · rintro n d Γ2 hd ⟨l, p, s8, s9, rfl, hl2, hr2, hpl⟩
    have hnu : n < u := by
      have h1 := (List.getElem?_eq_some_iff.mp hd).1
      rw [rangeD_len, Int.toNat_natCast] at h1
      exact h1
    refine es_cons ?_
    wtm_at "set"
    refine nd_callBag (k := 5) (i := 0) G_law_any_stretch hr (by wtm_at "look") ?_
    repeat wtm_at "x"
    refine nd_callBag (k := 5) (i := 0) G_law_some hr (by wtm_at "look") ?_
    repeat wtm_at "x"
    refine ⟨_, _, rfl, rfl, by simp, by simp, fun x hx => ?_⟩
    have hu2 : ∃ u : Nat, u ≤ 9 ∧ x = iD u := by
      simp only [List.mem_cons, List.not_mem_nil, or_false] at hx
      rcases hx with rfl | rfl | rfl | rfl
      · exact ⟨1, by omega, rfl⟩
      · exact ⟨3, by omega, rfl⟩
      · exact ⟨6, by omega, rfl⟩
      · exact ⟨9, by omega, rfl⟩
    obtain ⟨u2, hu2, rfl⟩ := hu2
    repeat wtm_at "x"
    refine ⟨hr2, by omega, by omega, by omega, fun s' hb1 hb2 hb3 => ?_⟩
    refine es_one ?_
    refine e1_if (nt_cmp ?_)
    repeat wtm_at "x"
    refine cmp_ne hr.units (sh_stD s') rfl ?_
    unfold stD
    rw [eqv_nilT]
    refine ⟨_, rfl, ifB (fun hc => ?_) (fun hc => ?_)⟩
    · have hne : s' ≠ [] := fun e => by rw [e] at hc; cases hc
      have hsf := hb3.resolve_left hne
      refine es_cons ?_
      refine e1_append (i := 7) (by wtm_at "look") ?_
      repeat wtm_at "x"
      refine ⟨by omega, ?_⟩
      refine es_one ?_
      wtm_at "set"
      refine nd_call (k := 5) G_law_led hr ?_
      repeat wtm_at "x"
      refine ⟨hb1, by omega, ledm l s', _, _, _, rfl, by rw [ledm_len]; exact hl2, hr2.led hsf, by rw [List.length_append]; simp only [List.length_cons, List.length_nil]; omega⟩
    · repeat wtm_at "w"
      exact ⟨hl2, hr2, by omega⟩
  · rintro Γ2 ⟨l, p, s8, s9, rfl, hl2, hr2, hpl⟩
    rw [rangeD_len, Int.toNat_natCast] at hpl
    refine es_freeze (i := 7) (by wtm_at "look") hqp ?_
    refine es_cons ?_
    wtm_at "own"
    refine nl_listc (by assumption) ?_
    repeat wtm_at "x"
    intro qa hq
    refine es_cons ?_
    wtm_at "for1"
    refine ni_range1 (by wtm_at "Brange") ?_
    refine nd_callBag (k := 5) (i := 0) G_law_take hr (by wtm_at "look") ?_
    repeat wtm_at "x"
    refine ⟨by show 1 ≤ z / 2 + 1; omega, by show z / 2 + 1 ≤ _; omega, fun k hk => ?_⟩
    have hk : k < z / 2 + 1 := hk
    repeat wtm_at "x"
    refine ⟨by omega, ?_⟩
    refine ⟨fun n Γ2 => ∃ (w2 : Ly) (s8 s9 s11 s12 : Sd), Γ2 = [.bag b c, .val (iD z), .val (iD t), .val (iD u), .val (nsD ns), .val (lyD o), .val (lyD l), .val (.list p), s8, s9, .own qa (w2.map oD), s11, s12] ∧ w2.length = z ∧ Rt ns w2, ⟨l, s8, s9, .no, .no, rfl, hl2, hr2⟩, ?_, ?_⟩
    · rintro n d Γ2 hd ⟨w2, s8, s9, s11, s12, rfl, hl3, hr3⟩
      have hz1 : 1 ≤ z := by
        have h1 := (List.getElem?_eq_some_iff.mp hd).1
        rw [rangeD_len, Int.toNat_natCast] at h1
        omega
      refine es_cons ?_
      wtm_at "set"
      refine nd_callBag (k := 5) (i := 0) G_law_take hr (by wtm_at "look") ?_
      repeat wtm_at "x"
      refine ⟨hz1, by omega, fun at' hat => ?_⟩
      have g1 : w2[at']? = some (gt w2 at') := gt_get (by omega)
      refine es_cons ?_
      refine e1_nameItem (by wtm_at "calm") (by wtm_at "XN") (by wtm_at "idx") (by wtm_at "idx") (by decide +kernel) (by decide) (by wtm_at "loc") (by wtm_at "loc") (by wtm_at "vis") (by wtm_at "look") ?_
      repeat wtm_at "x"
      refine ⟨_, atI_map g1, lless_o1 _, ?_⟩
      repeat wtm_at "x"
      refine ⟨_, at', rfl, ixN_nat (by rw [List.length_map]; omega), ?_⟩
      have en : (w2.map oD).set at' PyData.none = (w2.set at' none).map oD := set_map w2 oD at' none
      rw [en]
      refine es_one ?_
      refine e1_if (nt_not (nt_val ?_))
      refine nd_lend (i := 10) (by wtm_at "look") ?_
      refine nd_call (k := 5) G_law_is_right hr ?_
      repeat wtm_at "x"
      refine ⟨_, _, w2.set at' none, rfl, .inl rfl, by omega, by rw [List.length_set]; omega, rfl, ?_⟩
      repeat wtm_at "x"
      refine ifB (fun hb => ?_) (fun hb => ?_)
      · refine es_one ?_
        refine e1_item (i := 10) (by wtm_at "look") ?_
        repeat wtm_at "x"
        refine ⟨_, at', rfl, ixN_nat (by rw [List.length_map, List.length_set]; omega), ?_⟩
        have e : (w2.set at' none).set at' (gt w2 at') = w2 := by
          rw [List.set_set]
          apply List.ext_getElem?
          intro i
          by_cases h : at' = i
          · subst h
            rw [List.getElem?_set_self (by omega), g1]
          · rw [List.getElem?_set_ne h]
        rw [set_map, e]
        exact ⟨w2, _, _, _, _, rfl, hl3, hr3⟩
      · have hrt : rightB ns (w2.set at' none) = true := by
          cases h : rightB ns (w2.set at' none) with
          | true => rfl
          | false => rw [h] at hb; cases hb
        repeat wtm_at "x"
        refine es_nil ?_
        exact ⟨w2.set at' none, _, _, _, _, rfl, by rw [List.length_set]; exact hl3, rightB_iff hrt⟩
    · rintro Γ2 ⟨w2, s8, s9, s11, s12, rfl, hl3, hr3⟩
      refine es_freeze (i := 10) (by wtm_at "look") hq ?_
      repeat wtm_at "w"
      exact ⟨q ns o w2 _ ⟨hn, hr1, hr3, by omega, by omega⟩, by wtm_at "bm"⟩
end


set_option Elab.async false
set_option linter.all false
set_option maxRecDepth 100000
set_option maxHeartbeats 2000000
/-! Wm.AJ: tasks beside one another. -/



def mvd (k : Nat) (l : Ly) : Ly := l.map fun o => o.map (· + k)
theorem cnt_mvd (k : Nat) (l : Ly) (v : Nat) : cnt (mvd k l) (v + k) = cnt l v := by
  unfold mvd cnt
  rw [List.countP_map]
  congr 1
  funext o
  cases o <;> simp
theorem cnt_mvd0 (k : Nat) (l : Ly) (v : Nat) (h : v < k) : cnt (mvd k l) v = 0 := by
  unfold mvd cnt
  rw [List.countP_map, List.countP_eq_zero]
  intro o _
  cases o <;> simp <;> omega
theorem Rt.beside {n1 n2 : List Nat} {l1 l2 : Ly} (r1 : Rt n1 l1) (r2 : Rt n2 l2) : Rt (n1 ++ n2) (l1 ++ mvd n1.length l2) := by
  refine ⟨fun v m => ?_, fun i n e => ?_⟩
  · rw [List.length_append]
    rcases List.mem_append.mp m with h | h
    · have := r1.lt v h
      omega
    · unfold mvd at h
      obtain ⟨o, ho, e⟩ := List.mem_map.mp h
      cases o with
      | none => cases e
      | some u =>
        have := r2.lt u ho
        have e := Option.some.inj e
        simp at e
        omega
  · rw [cnt_app]
    by_cases h : i < n1.length
    · rw [List.getElem?_append_left h] at e
      have := r1.ge i n e
      omega
    · rw [List.getElem?_append_right (by omega)] at e
      have := r2.ge _ n e
      have e2 := cnt_mvd n1.length l2 (i - n1.length)
      rw [show i - n1.length + n1.length = i by omega] at e2
      omega
section
variable {P : Program} {w : World} {K : PySem.W.Frag} {mg : Str → Option Value} {base : Heap}
def S_law_beside : Spc := fun ds R => ∃ (n1 n2 : List Nat) (o1 w1 o2 w2 : Ly) (z1 z2 : Nat), ds = [tkD n1 o1 w1, tkD n2 o2 w2] ∧ TkOk z1 n1 o1 w1 ∧ TkOk z2 n2 o2 w2 ∧ z1 + z2 ≤ 2000 ∧ n1.length ≤ 1000 ∧ n2.length ≤ 1000 ∧ ∀ ns o w, TkOk (z1 + z2) ns o w → R (tkD ns o w)
theorem k_law_beside (D : Fd K mg "_law_beside" s_law_beside) (T : Bi mg) : Fk P w K mg base 1 "_law_beside" (pSp S_law_beside) := by
  refine fk_p D ns_law_beside (fun _ _ _ _ _ _ us hl => match us, hl with | [_, _], _ => rfl) (fun ds R h => ?_) (fun f cdv A outer s H E hr F ds R h => ?_)
  · obtain ⟨n1, n2, o1, w1, o2, w2, z1, z2, rfl, h1, h2, hz, hl1, hl2, q⟩ := h
    rfl
  obtain ⟨n1, n2, o1, w1, o2, w2, z1, z2, rfl, h1, h2, hz, hl1, hl2, q⟩ := h
  have hs1 := h1.sz
  have hs2 := h2.sz
  have hw1 := h1.len
  have hw2 := h2.len
  refine es_cons ?_
  wtm_at "set"
  repeat wtm_at "x"
  rw [List.length_map]
  refine es_cons ?_
  first | wtm_at "slc1" | wtm_at "set"
  refine ni_tup ?_
  repeat wtm_at "x"
  rw [show cutD [nsD n2, lyD o2, lyD w2] (some 1) none = [o2, w2].map lyD from cutD_from _ 1]
  refine lc_all (enc := lyD) (f := fun l => .list ((mvd n1.length l).map oD)) (by simp) (fun l hl => tgn_name fun s0 H0 C cl fp => ?_) ?_
  · have hll : l.length ≤ 2000 := by
      rcases List.mem_cons.mp hl with e | e
      · rw [e]; omega
      · rw [List.mem_singleton.mp e]; omega
    repeat wtm_at "x"
    refine ni_tup ?_
    repeat wtm_at "x"
    refine lc_all (enc := oD) (f := fun o => oD (o.map (· + n1.length))) (by omega) (fun o ho => tgn_name fun s1 H1 C1 cl1 fp1 => ?_) ?_
    · refine nd_if ?_
      refine nt_cmp ?_
      repeat wtm_at "x"
      cases o with
      | none =>
        repeat wtm_at "x"
        rfl
      | some v =>
        repeat wtm_at "x"
        refine bin_add (i := (v : Int)) ?_
        show PyData.int _ = PyData.int _
        rw [show ((v + n1.length : Nat) : Int) = (v : Int) + (n1.length : Int) by omega]
    show PyData.list _ = PyData.list _
    unfold mvd
    rw [List.map_map]
    rfl
  refine es_one ?_
  repeat wtm_at "w"
  refine bin_catT (xs := n1.map iD) (ys := n2.map iD) (by rw [List.length_map, List.length_map]; omega) ?_
  repeat wtm_at "x"
  refine bin_catT (xs := o1.map oD) (ys := (mvd n1.length o2).map oD) (by unfold mvd; rw [List.length_map, List.length_map, List.length_map]; omega) ?_
  repeat wtm_at "x"
  refine bin_catT (xs := w1.map oD) (ys := (mvd n1.length w2).map oD) (by unfold mvd; rw [List.length_map, List.length_map, List.length_map]; omega) ?_
  repeat wtm_at "x"
  have := q (n1 ++ n2) (o1 ++ mvd n1.length o2) (w1 ++ mvd n1.length w2) ⟨fun n m => (List.mem_append.mp m).elim (h1.n1 n) (h2.n1 n), h1.old.beside h2.old, h1.wish.beside h2.wish, by unfold mvd; simp; omega, by unfold mvd; simp; omega⟩
  unfold tkD nsD lyD at this
  rw [List.map_append, List.map_append, List.map_append] at this
  exact this
end


set_option Elab.async false
set_option linter.all false
set_option maxRecDepth 100000

/-! plain: single copies -/
theorem gt_ge {l : Ly} {i : Nat} (h : l.length ≤ i) : gt l i = none := by
  unfold gt
  rw [List.getElem?_eq_none h]
  rfl
theorem gt_set_self {l : Ly} {i : Nat} {x : Option Nat} (h : i < l.length) : gt (l.set i x) i = x := by
  unfold gt
  rw [List.getElem?_set_self h]
  rfl
theorem gt_lt {l : Ly} {i v : Nat} (h : gt l i = some v) : i < l.length := by
  by_cases hi : i < l.length
  · exact hi
  · rw [gt_ge (by omega)] at h
    cases h
theorem ledm1 (l : Ly) (p s : Nat) : ledm l [(p, s)] = l.set p (gt l s) := rfl
theorem cnt_put {l : Ly} {i : Nat} (x : Option Nat) (v : Nat) (h : i < l.length) : cnt (l.set i x) v + hit v (gt l i) = cnt l v + hit v x := cnt_set v x l i (gt l i) (gt_get h)
theorem outs1 (l : Ly) (p : Nat) : outs l [p] = l.set p none := by
  apply List.ext_getElem?
  intro i
  unfold outs
  rw [List.getElem?_map, List.getElem?_zipIdx]
  by_cases h : p = i
  · subst h
    by_cases hl : p < l.length
    · rw [List.getElem?_set_self hl, List.getElem?_eq_getElem hl]
      simp
    · rw [List.getElem?_eq_none (by omega), List.getElem?_eq_none (by simp; omega)]
      rfl
  · rw [List.getElem?_set_ne h]
    cases l[i]? with
    | none => rfl
    | some o =>
      have h2 : ¬ i = p := fun e => h e.symm
      simp [h2]
theorem safeB_iff {ns : List Nat} {l : Ly} {s : St1} : safeB ns l s = true ↔ ∀ i n, ns[i]? = some n → n ≤ cnt (outs l (pls s)) i := by
  unfold safeB
  rw [List.all_eq_true]
  constructor
  · intro h i n e
    have hz : ns.zipIdx[i]? = some (n, i) := by rw [List.getElem?_zipIdx, e]; simp
    exact of_decide_eq_true (h _ (List.mem_of_getElem? hz))
  · rintro h ⟨n, i⟩ m
    have := List.mem_zipIdx_iff_getElem?.mp m
    exact decide_eq_true (h i n this)
theorem safe_one {ns : List Nat} {l : Ly} {p s : Nat} (hp : p < l.length) (h : ∀ i n, ns[i]? = some n → n + hit i (gt l p) ≤ cnt l i) : safeB ns l [(p, s)] = true := by
  rw [safeB_iff]
  intro i n e
  have h1 := h i n e
  have h2 := cnt_put (l := l) (i := p) none i hp
  show n ≤ cnt (outs l [p]) i
  rw [outs1]
  have h3 : hit i none = 0 := by simp [hit]
  omega
theorem rms_at {ns : List Nat} {l : Ly} {v n : Nat} (h : ns[v]? = some n) : (rms ns l)[v]? = some ((cnt l v : Int) - (n : Int)) := by
  unfold rms
  rw [List.getElem?_map, List.getElem?_zipIdx, h]
  simp
theorem room_some {ns : List Nat} {l : Ly} {i v n : Nat} (h : gt l i = some v) (hn : ns[v]? = some n) : roomB ns l i = decide (n < cnt l v) := by
  unfold roomB
  rw [h]
  dsimp only
  rw [rms_at hn]
  by_cases hc : n < cnt l v
  · rw [decide_eq_true hc]
    exact decide_eq_true (by show (0 : Int) < (cnt l v : Int) - (n : Int); omega)
  · rw [decide_eq_false hc]
    exact decide_eq_false (by show ¬ (0 : Int) < (cnt l v : Int) - (n : Int); omega)
theorem Rt.at {ns : List Nat} {l : Ly} {i v : Nat} (r : Rt ns l) (h : gt l i = some v) : ∃ n, ns[v]? = some n := by
  have hi := gt_lt h
  have hm : some v ∈ l := by
    have := gt_get hi
    rw [h] at this
    exact List.mem_of_getElem? this
  exact ⟨_, List.getElem?_eq_getElem (r.lt v hm)⟩
theorem mem_room {ns : List Nat} {l : Ly} {i : Nat} : i ∈ withRoom ns l ↔ i < l.length ∧ roomB ns l i = true := by
  unfold withRoom
  rw [List.mem_filter, List.mem_range]
/-- a place with room may be written -/
theorem room_safe {ns : List Nat} {l : Ly} {p s : Nat} (r : Rt ns l) (h : p ∈ withRoom ns l) : safeB ns l [(p, s)] = true := by
  obtain ⟨hp, hr⟩ := mem_room.mp h
  refine safe_one hp fun i n e => ?_
  have h1 := r.ge i n e
  cases hg : gt l p with
  | none => simp [hit]; exact h1
  | some v =>
    by_cases hv : v = i
    · subst hv
      rw [room_some hg e] at hr
      have := of_decide_eq_true hr
      simp [hit]
      omega
    · have : ¬ (some v = some i) := fun z => hv (Option.some.inj z)
      simp [hit, hv]
      exact h1
def wrongAt (w l : Ly) (i : Nat) : Bool := (gt w i).isSome && decide (gt w i ≠ gt l i)
def wrongs (w l : Ly) : List Nat := (List.range w.length).filter (wrongAt w l)
theorem wrongAt_iff {w l : Ly} {i : Nat} : wrongAt w l i = true ↔ ∃ v, gt w i = some v ∧ gt l i ≠ some v := by
  unfold wrongAt
  cases h : gt w i with
  | none => simp
  | some v =>
    simp
    constructor
    · intro z e
      exact z e.symm
    · intro z e
      exact z e.symm
theorem mem_wrongs {w l : Ly} {i : Nat} : i ∈ wrongs w l ↔ wrongAt w l i = true := by
  unfold wrongs
  rw [List.mem_filter, List.mem_range]
  constructor
  · exact fun h => h.2
  · intro h
    obtain ⟨v, hv, _⟩ := wrongAt_iff.mp h
    exact ⟨gt_lt hv, h⟩
theorem wanted_iff {w l : Ly} : wantedB w l = true ↔ wrongs w l = [] := by
  unfold wantedB wrongs
  rw [List.all_eq_true, List.filter_eq_nil_iff]
  constructor
  · intro h i hi
    have hlt := List.mem_range.mp hi
    have hz : w.zipIdx[i]? = some (gt w i, i) := by rw [List.getElem?_zipIdx, gt_get hlt]; simp
    have := h _ (List.mem_of_getElem? hz)
    unfold wrongAt
    cases hg : gt w i with
    | none => simp
    | some v =>
      rw [hg] at this
      simpa using this
  · rintro h ⟨x, i⟩ m
    have hx := List.mem_zipIdx_iff_getElem?.mp m
    have hlt : i < w.length := (List.getElem?_eq_some_iff.mp hx).1
    have e : gt w i = x := by
      have := gt_get hlt
      have hx : w[i]? = some x := hx
      rw [hx] at this
      exact (Option.some.inj this).symm
    have := h i (List.mem_range.mpr hlt)
    unfold wrongAt at this
    rw [e] at this
    cases x with
    | none => rfl
    | some v => simpa using this
/-- a count over 0, .., n - 1 whose test changes at one place -/
theorem cntR {q q' : Nat → Bool} {p : Nat} : ∀ {n : Nat}, p < n → (∀ i, i ≠ p → q' i = q i) → (List.range n).countP q' + (if q p then 1 else 0) = (List.range n).countP q + (if q' p then 1 else 0)
  | 0, h, _ => absurd h (Nat.not_lt_zero _)
  | n + 1, h, e => by
    rw [List.range_succ, List.countP_append, List.countP_append, List.countP_singleton, List.countP_singleton]
    by_cases hp : p = n
    · subst hp
      have : (List.range p).countP q' = (List.range p).countP q := List.countP_congr fun i hi => by
        rw [e i (Nat.ne_of_lt (List.mem_range.mp hi))]
      omega
    · have ih := cntR (n := n) (by omega) e
      rw [e n (fun z => hp z.symm)]
      omega
theorem range_gt' (l : Ly) : (List.range l.length).map (gt l) = l := by
  apply List.ext_getElem
  · simp
  · intro i h1 h2
    rw [List.getElem_map, List.getElem_range]
    have := gt_get (l := l) (i := i) h2
    rw [List.getElem?_eq_getElem h2] at this
    exact (Option.some.inj this).symm
theorem cnt_range (l : Ly) (v : Nat) : cnt l v = (List.range l.length).countP fun i => decide (gt l i = some v) := by
  conv => lhs; rw [← range_gt' l]
  unfold cnt
  rw [List.countP_map]
  rfl
theorem sum_countP {P : Nat → Bool} {g : Nat → Option Nat} {n : Nat} : ∀ L : List Nat, (∀ i ∈ L, P i = true → ∃ v, v < n ∧ g i = some v) → ((List.range n).map fun v => L.countP fun i => P i && decide (g i = some v)).sum = L.countP P
  | [], _ => by
    have : ((List.range n).map fun v => ([] : List Nat).countP fun i => P i && decide (g i = some v)) = List.replicate n 0 := by
      apply List.ext_getElem
      · simp
      · intro i h1 h2; simp
    rw [this]
    simp
  | a :: L, h => by
    have ih := sum_countP L fun i m => h i (List.mem_cons_of_mem _ m)
    have one : ∀ m, ((List.range m).map fun v => if P a && decide (g a = some v) then 1 else 0).sum = if P a = true ∧ ∃ v, v < m ∧ g a = some v then 1 else 0 := by
      intro m
      induction m with
      | zero => simp
      | succ m ihm =>
        rw [List.range_succ, List.map_append, List.sum_append, ihm]
        by_cases hP : P a = true
        · by_cases hv : g a = some m
          · have h1 : ¬ ∃ v, v < m ∧ g a = some v := fun ⟨v, h2, h3⟩ => by
              rw [hv] at h3
              have := Option.some.inj h3
              omega
            rw [if_neg fun z => h1 z.2, if_pos ⟨hP, m, Nat.lt_succ_self m, hv⟩]
            simp [hP, hv]
          · by_cases hx : ∃ v, v < m ∧ g a = some v
            · obtain ⟨v, h2, h3⟩ := hx
              rw [if_pos ⟨hP, v, h2, h3⟩, if_pos ⟨hP, v, by omega, h3⟩]
              simp [hP, hv]
            · rw [if_neg fun z => hx z.2, if_neg fun z => by
                obtain ⟨_, v, h2, h3⟩ := z
                by_cases e : v = m
                · rw [e] at h3
                  exact hv h3
                · exact hx ⟨v, by omega, h3⟩]
              simp [hP, hv]
        · rw [if_neg fun z => hP z.1, if_neg fun z => hP z.1]
          simp [hP]
    have split : ((List.range n).map fun v => (a :: L).countP fun i => P i && decide (g i = some v)) = (List.range n).map fun v => (L.countP fun i => P i && decide (g i = some v)) + (if P a && decide (g a = some v) then 1 else 0) := by
      apply List.map_congr_left
      intro v _
      rw [List.countP_cons]
    have add : ∀ (f k : Nat → Nat) (M : List Nat), (M.map fun v => f v + k v).sum = (M.map f).sum + (M.map k).sum := by
      intro f k M
      induction M with
      | nil => rfl
      | cons x M ih => simp only [List.map_cons, List.sum_cons, ih]; omega
    rw [split, add, ih, one n, List.countP_cons]
    by_cases hP : P a = true
    · rw [if_pos ⟨hP, h a List.mem_cons_self hP⟩, if_pos hP]
    · rw [if_neg fun z => hP z.1, if_neg hP]
theorem all_eq {f g : Nat → Nat} : ∀ L : List Nat, (∀ v ∈ L, f v ≤ g v) → (L.map f).sum = (L.map g).sum → ∀ v ∈ L, f v = g v
  | [], _, _ => by simp
  | a :: L, h, e => by
    have le : ∀ M : List Nat, (∀ v ∈ M, f v ≤ g v) → (M.map f).sum ≤ (M.map g).sum := by
      intro M
      induction M with
      | nil => intro _; simp
      | cons x M ih =>
        intro hM
        have h1 := hM x List.mem_cons_self
        have h2 := ih fun v m => hM v (List.mem_cons_of_mem _ m)
        simp only [List.map_cons, List.sum_cons]
        omega
    have h1 := h a List.mem_cons_self
    have h2 := le L fun v m => h v (List.mem_cons_of_mem _ m)
    simp only [List.map_cons, List.sum_cons] at e
    intro v m
    rcases List.mem_cons.mp m with rfl | m
    · omega
    · exact all_eq L (fun v m => h v (List.mem_cons_of_mem _ m)) (by omega) v m
/-- where no wrong place has room, the value that a wrong place wants stands at a wrong place -/
theorem comes_from {ns : List Nat} {w l : Ly} {p q : Nat} (rl : Rt ns l) (rw' : Rt ns w) (hlen : w.length = l.length) (hno : ∀ i ∈ wrongs w l, i ∉ withRoom ns l) (hp : p ∈ wrongs w l) (hq : gt w p = some q) : ∃ p2, p2 ∈ wrongs w l ∧ gt l p2 = some q := by
  have tail : ∀ i, wrongAt w l i = true → ∃ v n, gt l i = some v ∧ ns[v]? = some n ∧ cnt l v ≤ n := fun i hi => by
    have hnr := hno i (mem_wrongs.mpr hi)
    obtain ⟨u, hu, _⟩ := wrongAt_iff.mp hi
    have hil : i < l.length := by rw [← hlen]; exact gt_lt hu
    cases hg : gt l i with
    | none => exact absurd (mem_room.mpr ⟨hil, by unfold roomB; rw [hg]⟩) hnr
    | some v =>
      obtain ⟨n, hn⟩ := rl.at hg
      refine ⟨v, n, rfl, hn, ?_⟩
      by_cases hc : n < cnt l v
      · exact absurd (mem_room.mpr ⟨hil, by rw [room_some hg hn]; exact decide_eq_true hc⟩) hnr
      · omega
  let oC := fun v => (List.range w.length).countP fun i => wrongAt w l i && decide (gt l i = some v)
  let iC := fun v => (List.range w.length).countP fun i => wrongAt w l i && decide (gt w i = some v)
  have so : ((List.range ns.length).map oC).sum = (List.range w.length).countP (wrongAt w l) := sum_countP _ fun i _ hi => by
    obtain ⟨v, n, h1, h2, _⟩ := tail i hi
    exact ⟨v, (List.getElem?_eq_some_iff.mp h2).1, h1⟩
  have si : ((List.range ns.length).map iC).sum = (List.range w.length).countP (wrongAt w l) := sum_countP _ fun i _ hi => by
    obtain ⟨v, h1, _⟩ := wrongAt_iff.mp hi
    obtain ⟨n, hn⟩ := rw'.at h1
    exact ⟨v, (List.getElem?_eq_some_iff.mp hn).1, h1⟩
  have le : ∀ v ∈ List.range ns.length, oC v ≤ iC v := fun v _ => by
    by_cases h0 : oC v = 0
    · omega
    · obtain ⟨i, _, hi⟩ := List.countP_pos_iff.mp (Nat.pos_of_ne_zero h0)
      rw [Bool.and_eq_true] at hi
      obtain ⟨u, n, h1, h2, h3⟩ := tail i hi.1
      have e : u = v := Option.some.inj (h1.symm.trans (of_decide_eq_true hi.2))
      subst e
      have h4 := rw'.ge u n h2
      let S := (List.range w.length).countP fun i => decide (gt w i = some u) && decide (gt l i = some u)
      have c1 : cnt w u = iC u + S := by
        rw [cnt_range]
        have : ∀ L : List Nat, (L.countP fun i => decide (gt w i = some u)) = (L.countP fun i => wrongAt w l i && decide (gt w i = some u)) + L.countP fun i => decide (gt w i = some u) && decide (gt l i = some u) := by
          intro L
          induction L with
          | nil => rfl
          | cons a L ih =>
            rw [List.countP_cons, List.countP_cons, List.countP_cons, ih]
            generalize (L.countP fun i => wrongAt w l i && decide (gt w i = some u)) = k1
            generalize (L.countP fun i => decide (gt w i = some u) && decide (gt l i = some u)) = k2
            by_cases ha : gt w a = some u
            · by_cases hb : gt l a = some u
              · have hw : wrongAt w l a = false := by simp [wrongAt, ha, hb]
                simp [ha, hb, hw]
                omega
              · have hw : wrongAt w l a = true := wrongAt_iff.mpr ⟨u, ha, hb⟩
                simp [ha, hb, hw]
                omega
            · simp [ha]
        exact this _
      have c2 : oC u + S ≤ cnt l u := by
        rw [cnt_range, ← hlen]
        have : ∀ L : List Nat, (L.countP fun i => wrongAt w l i && decide (gt l i = some u)) + (L.countP fun i => decide (gt w i = some u) && decide (gt l i = some u)) ≤ L.countP fun i => decide (gt l i = some u) := by
          intro L
          induction L with
          | nil => simp
          | cons a L ih =>
            rw [List.countP_cons, List.countP_cons, List.countP_cons]
            generalize (L.countP fun i => wrongAt w l i && decide (gt l i = some u)) = k1 at ih ⊢
            generalize (L.countP fun i => decide (gt w i = some u) && decide (gt l i = some u)) = k2 at ih ⊢
            generalize (L.countP fun i => decide (gt l i = some u)) = k3 at ih ⊢
            by_cases hb : gt l a = some u
            · by_cases ha : gt w a = some u
              · have hw : wrongAt w l a = false := by simp [wrongAt, ha, hb]
                simp [ha, hb, hw]
                omega
              · by_cases hw : wrongAt w l a = true
                · simp [ha, hb, hw]
                  omega
                · simp [ha, hb, hw]
                  omega
            · simp [hb]
              exact ih
        exact this _
      omega
  obtain ⟨n, hn⟩ := rw'.at hq
  have hqm : q ∈ List.range ns.length := List.mem_range.mpr (List.getElem?_eq_some_iff.mp hn).1
  have eq := all_eq _ le (so.trans si.symm) q hqm
  have hi : 0 < iC q := List.countP_pos_iff.mpr ⟨p, List.mem_range.mpr (gt_lt hq), by rw [mem_wrongs.mp hp]; simp [hq]⟩
  have ho : 0 < oC q := by omega
  obtain ⟨p2, _, h2⟩ := List.countP_pos_iff.mp ho
  rw [Bool.and_eq_true] at h2
  exact ⟨p2, mem_wrongs.mpr h2.1, of_decide_eq_true h2.2⟩


set_option Elab.async false
set_option linter.all false
set_option maxRecDepth 100000

/-- the copies that come next -/
inductive Next (ns : List Nat) (w l : Ly) : St1 → Prop
  | good (p v : Nat) (hp : p ∈ wrongs w l) (hr : p ∈ withRoom ns l) (hv : gt w p = some v) : Next ns w l [(p, (srcs l p v).headD 0)]
  | stop (hr : withRoom ns l = []) : Next ns w l []
  | aside (a p v : Nat) (hg : ∀ q ∈ wrongs w l, q ∉ withRoom ns l) (ha : a ∈ withRoom ns l) (hp : p ∈ wrongs w l) (hv : gt w p = some v) : Next ns w l [(a, p), (p, (srcs (ledm l [(a, p)]) p v).headD 0)]
theorem cnt_pos {l : Ly} {v : Nat} (h : 1 ≤ cnt l v) : ∃ i, i < l.length ∧ gt l i = some v := by
  rw [cnt_range] at h
  obtain ⟨i, hi, e⟩ := List.countP_pos_iff.mp h
  exact ⟨i, List.mem_range.mp hi, of_decide_eq_true e⟩
theorem srcs_ne {ns : List Nat} {l : Ly} {p v n : Nat} (r : Rt ns l) (h1 : ∀ n ∈ ns, 1 ≤ n) (hv : ns[v]? = some n) (hp : gt l p ≠ some v) : srcs l p v ≠ [] := by
  obtain ⟨i, hi, hg⟩ := cnt_pos (Nat.le_trans (h1 n (List.mem_of_getElem? hv)) (r.ge v n hv))
  intro e
  have hne : i ≠ p := fun z => hp (by rw [← z]; exact hg)
  have : i ∈ srcs l p v := by
    unfold srcs
    rw [List.mem_filter]
    exact ⟨List.mem_range.mpr hi, by simp [hg, hne]⟩
  rw [e] at this
  simp at this
theorem srcs_head {l : Ly} {p v : Nat} (h : srcs l p v ≠ []) : (srcs l p v).headD 0 < l.length ∧ gt l ((srcs l p v).headD 0) = some v ∧ (srcs l p v).headD 0 ≠ p := by
  have : (srcs l p v).headD 0 ∈ srcs l p v := by
    cases e : srcs l p v with
    | nil => exact absurd e h
    | cons a L => exact List.mem_cons_self
  generalize (srcs l p v).headD 0 = i at this
  unfold srcs at this
  rw [List.mem_filter, Bool.and_eq_true] at this
  exact ⟨List.mem_range.mp this.1, of_decide_eq_true this.2.1, of_decide_eq_true this.2.2⟩
theorem cbd1 {l : Ly} {p s v : Nat} (h : gt l s = some v) : cbd l [(p, s)] = true := by
  simp [cbd, h]
theorem RowOk.add {ns : List Nat} {o : Ly} {cs : St1} {p s v : Nat} (r : RowOk ns o cs) (hp : p < o.length) (hs : s < o.length) (hne : p ≠ s) (hg : gt (ledC o cs) s = some v) (hsf : safeB ns (ledC o cs) [(p, s)] = true) (hz : cs.length < 90000) : RowOk ns o (cs ++ [(p, s)]) := by
  refine ⟨fun c m => ?_, fun i c e => ?_, by rw [List.length_append]; exact hz, r.szl, r.szn⟩
  · rcases List.mem_append.mp m with m | m
    · exact r.bd c m
    · rw [List.mem_singleton.mp m]
      exact ⟨hp, hs, hne⟩
  · by_cases hi : i < cs.length
    · rw [List.getElem?_append_left hi] at e
      rw [List.take_append_of_le_length (by omega)]
      exact r.go i c e
    · rw [List.getElem?_append_right (by omega)] at e
      have hi2 : i - cs.length = 0 := by
        by_cases z : i - cs.length = 0
        · exact z
        · rw [List.getElem?_eq_none (by simp; omega)] at e
          cases e
      rw [hi2] at e
      cases e
      rw [List.take_append_of_le_length (by omega), List.take_of_length_le (by omega)]
      exact ⟨cbd1 hg, hsf⟩
theorem hit_self (v : Nat) : hit v (some v) = 1 := by simp [hit]
theorem hit_ne {v u : Nat} (h : u ≠ v) : hit v (some u) = 0 := by simp [hit, h]
theorem hit_none (v : Nat) : hit v none = 0 := by simp [hit]
theorem hit_le (v : Nat) (o : Option Nat) : hit v o ≤ 1 := by unfold hit; split <;> omega
theorem mem_gt {l : Ly} {v : Nat} (h : some v ∈ l) : ∃ i, i < l.length ∧ gt l i = some v := by
  obtain ⟨i, hi, e⟩ := List.mem_iff_getElem.mp h
  refine ⟨i, hi, ?_⟩
  have := gt_get hi
  rw [List.getElem?_eq_getElem hi, e] at this
  exact (Option.some.inj this).symm
theorem gt_mem {l : Ly} {i v : Nat} (h : gt l i = some v) : some v ∈ l := by
  have := gt_get (gt_lt h)
  rw [h] at this
  exact List.mem_of_getElem? this
/-- how many places are wrong -/
def wN (w l : Ly) : Nat := (List.range w.length).countP (wrongAt w l)
def goodB (ns : List Nat) (w l : Ly) : Bool := (wrongs w l).any fun q => decide (q ∈ withRoom ns l)
def meas (ns : List Nat) (w l : Ly) : Nat := 2 * wN w l + if goodB ns w l = true then 0 else 1
theorem goodB_iff {ns : List Nat} {w l : Ly} : goodB ns w l = true ↔ ∃ q, q ∈ wrongs w l ∧ q ∈ withRoom ns l := by
  unfold goodB
  rw [List.any_eq_true]
  constructor
  · rintro ⟨q, h1, h2⟩
    exact ⟨q, h1, of_decide_eq_true h2⟩
  · rintro ⟨q, h1, h2⟩
    exact ⟨q, h1, decide_eq_true h2⟩
theorem wrongAt_set_ne {w l : Ly} {p i : Nat} {x : Option Nat} (h : i ≠ p) : wrongAt w (l.set p x) i = wrongAt w l i := by
  unfold wrongAt
  rw [gt_set_ne (Ne.symm h)]
theorem wN_set {w l : Ly} {p : Nat} (x : Option Nat) (hp : p < w.length) : wN w (l.set p x) + (if wrongAt w l p then 1 else 0) = wN w l + (if wrongAt w (l.set p x) p then 1 else 0) := cntR hp fun i hi => wrongAt_set_ne hi
/-- what holds of the layout and the copies so far -/
structure MadeInv (ns : List Nat) (o l : Ly) (cs : St1) : Prop where
  row : RowOk ns o cs
  lay : ledC o cs = l
  rt : Rt ns l
theorem MadeInv.len {ns : List Nat} {o l : Ly} {cs : St1} (h : MadeInv ns o l cs) : l.length = o.length := by rw [← h.lay, ledC_len]
theorem MadeInv.add {ns : List Nat} {o l : Ly} {cs : St1} {p s v : Nat} (h : MadeInv ns o l cs) (hp : p < o.length) (hs : s < o.length) (hne : p ≠ s) (hg : gt l s = some v) (hsf : safeB ns l [(p, s)] = true) (hz : cs.length < 90000) : MadeInv ns o (l.set p (some v)) (cs ++ [(p, s)]) := by
  have hl := h.lay
  subst hl
  refine ⟨h.row.add hp hs hne hg hsf hz, ?_, ?_⟩
  · rw [ledC_snoc, ledm1, hg]
  · have := h.rt.led hsf
    rw [ledm1, hg] at this
    exact this
theorem next_step {ns : List Nat} {o w l : Ly} {cs ds : St1} (h1 : ∀ n ∈ ns, 1 ≤ n) (hw : Rt ns w) (hl : w.length = o.length) (h : MadeInv ns o l cs) (hz : cs.length + 2 < 90000) (nx : Next ns w l ds) (hd : ds ≠ []) : MadeInv ns o (ledC l ds) (cs ++ ds) ∧ meas ns w (ledC l ds) < meas ns w l := by
  have hlen := h.len
  cases nx with
  | stop hr => exact absurd rfl hd
  | good p v hp hr hv =>
    have hpw := gt_lt hv
    have hwp := mem_wrongs.mp hp
    obtain ⟨v', hv', hne⟩ := wrongAt_iff.mp hwp
    rw [hv] at hv'
    cases hv'
    obtain ⟨n, hn⟩ := hw.at hv
    obtain ⟨s1, s2, s3⟩ := srcs_head (srcs_ne h.rt h1 hn hne)
    generalize (srcs l p v).headD 0 = s at s1 s2 s3
    have hM := h.add (p := p) (s := s) (v := v) (by omega) (by omega) (Ne.symm s3) s2 (room_safe h.rt hr) (by omega)
    have e : ledC l [(p, s)] = l.set p (some v) := by
      show ledm l [(p, s)] = _
      rw [ledm1, s2]
    rw [e]
    refine ⟨hM, ?_⟩
    have hwn := wN_set (w := w) (l := l) (p := p) (some v) hpw
    have hr2 : wrongAt w (l.set p (some v)) p = false := by
      unfold wrongAt
      rw [gt_set_self (by omega), hv]
      simp
    rw [hwp, hr2] at hwn
    have hg : goodB ns w l = true := goodB_iff.mpr ⟨p, hp, hr⟩
    unfold meas
    rw [hg]
    simp at hwn ⊢
    split <;> omega
  | aside a p v hg ha hp hv =>
    have hpw := gt_lt hv
    have hwp := mem_wrongs.mp hp
    obtain ⟨v', hv', hne⟩ := wrongAt_iff.mp hwp
    rw [hv] at hv'
    cases hv'
    obtain ⟨n, hn⟩ := hw.at hv
    have hal : a < l.length := (mem_room.mp ha).1
    have hpl : p < l.length := by omega
    have hpn := hg p hp
    have hap : a ≠ p := fun z => hpn (z ▸ ha)
    -- what stands at p
    obtain ⟨u, hu⟩ : ∃ u, gt l p = some u := by
      cases e : gt l p with
      | none => exact absurd (mem_room.mpr ⟨hpl, by unfold roomB; rw [e]⟩) hpn
      | some u => exact ⟨u, rfl⟩
    obtain ⟨m, hm⟩ := h.rt.at hu
    have hcu : cnt l u ≤ m := by
      by_cases hc : m < cnt l u
      · exact absurd (mem_room.mpr ⟨hpl, by rw [room_some hu hm]; exact decide_eq_true hc⟩) hpn
      · omega
    have huv : u ≠ v := fun z => hne (by rw [hu, z])
    have hau : gt l a ≠ some u := fun z => by
      have hr := (mem_room.mp ha).2
      rw [room_some z hm] at hr
      have := of_decide_eq_true hr
      omega
    have hM1 := h.add (p := a) (s := p) (v := u) (by omega) (by omega) hap hu (room_safe h.rt ha) (by omega)
    have e1 : ledm l [(a, p)] = l.set a (some u) := by rw [ledm1, hu]
    rw [e1]
    have gp1 : gt (l.set a (some u)) p = some u := by rw [gt_set_ne hap, hu]
    have hne1 : gt (l.set a (some u)) p ≠ some v := by rw [gp1]; exact fun z => huv (Option.some.inj z)
    obtain ⟨s1, s2, s3⟩ := srcs_head (srcs_ne hM1.rt h1 hn hne1)
    generalize (srcs (l.set a (some u)) p v).headD 0 = s at s1 s2 s3
    rw [List.length_set] at s1
    have hcu1 := cnt_put (l := l) (i := a) (some u) u hal
    have hit0 : hit u (gt l a) = 0 := by
      unfold hit
      rw [if_neg hau]
    rw [hit0, hit_self] at hcu1
    have hsf2 : safeB ns (l.set a (some u)) [(p, s)] = true := by
      refine safe_one (by rw [List.length_set]; exact hpl) fun i k hk => ?_
      have := hM1.rt.ge i k hk
      rw [gp1]
      by_cases hi : u = i
      · subst hi
        rw [hm] at hk
        cases hk
        rw [hit_self]
        have := h.rt.ge u m hm
        omega
      · rw [hit_ne hi]
        omega
    have hM2 := hM1.add (p := p) (s := s) (v := v) (by omega) (by omega) (Ne.symm s3) s2 hsf2 (by rw [List.length_append]; simp; omega)
    have e2 : ledC l [(a, p), (p, s)] = (l.set a (some u)).set p (some v) := by
      show ledm (ledm l [(a, p)]) [(p, s)] = _
      rw [e1, ledm1, s2]
    rw [e2]
    have e3 : cs ++ [(a, p), (p, s)] = cs ++ [(a, p)] ++ [(p, s)] := by simp
    rw [e3]
    refine ⟨hM2, ?_⟩
    have hga : goodB ns w l = false := by
      cases e : goodB ns w l with
      | false => rfl
      | true =>
        obtain ⟨q, q1, q2⟩ := goodB_iff.mp e
        exact absurd q2 (hg q q1)
    have haw : wrongAt w l a = false := by
      cases e : wrongAt w l a with
      | false => rfl
      | true => exact absurd ha (hg a (mem_wrongs.mpr e))
    have w1 := wN_set (w := w) (l := l) (p := a) (some u) (by omega)
    have w2 := wN_set (w := w) (l := l.set a (some u)) (p := p) (some v) hpw
    have hp1 : wrongAt w (l.set a (some u)) p = true := by rw [wrongAt_set_ne (Ne.symm hap)]; exact hwp
    have hp2 : wrongAt w ((l.set a (some u)).set p (some v)) p = false := by
      unfold wrongAt
      rw [gt_set_self (by rw [List.length_set]; exact hpl), hv]
      simp
    rw [hp1, hp2] at w2
    rw [haw] at w1
    unfold meas
    rw [hga]
    simp only [Bool.false_eq_true, if_false, if_true] at w1 w2 ⊢
    cases haw2 : wrongAt w (l.set a (some u)) a with
    | false =>
      rw [haw2] at w1
      simp only [Bool.false_eq_true, if_false] at w1
      split <;> omega
    | true =>
      rw [haw2] at w1
      simp only [if_true] at w1
      -- a good step follows
      obtain ⟨p2, q1, q2⟩ := comes_from h.rt hw (by omega) hg hp hv
      have hp2l := gt_lt q2
      have hp2n := hg p2 q1
      have h2p : p2 ≠ p := fun z => by
        rw [z, hu] at q2
        exact huv (Option.some.inj q2)
      have h2a : p2 ≠ a := fun z => hp2n (z ▸ ha)
      have hcv : cnt l v ≤ n := by
        by_cases hc : n < cnt l v
        · exact absurd (mem_room.mpr ⟨hp2l, by rw [room_some q2 hn]; exact decide_eq_true hc⟩) hp2n
        · omega
      have hav : gt l a ≠ some v := fun z => by
        have hr := (mem_room.mp ha).2
        rw [room_some z hn] at hr
        have := of_decide_eq_true hr
        omega
      have c1 := cnt_put (l := l) (i := a) (some u) v hal
      have c2 := cnt_put (l := l.set a (some u)) (i := p) (some v) v (by rw [List.length_set]; exact hpl)
      have z1 : hit v (gt l a) = 0 := by
        unfold hit
        rw [if_neg hav]
      rw [gp1, hit_ne huv, hit_self] at c2
      rw [z1, hit_ne huv] at c1
      have hge := h.rt.ge v n hn
      have g2 : gt ((l.set a (some u)).set p (some v)) p2 = some v := by rw [gt_set_ne (Ne.symm h2p), gt_set_ne (Ne.symm h2a), q2]
      have good : goodB ns w ((l.set a (some u)).set p (some v)) = true := by
        refine goodB_iff.mpr ⟨p2, mem_wrongs.mpr ?_, mem_room.mpr ⟨by rw [List.length_set, List.length_set]; exact hp2l, ?_⟩⟩
        · rw [wrongAt_set_ne h2p, wrongAt_set_ne h2a]
          exact mem_wrongs.mp q1
        · rw [room_some g2 hn]
          exact decide_eq_true (by omega)
      rw [good]
      simp only [if_true]
      omega
theorem wN_le (w l : Ly) : wN w l ≤ w.length := by
  have := List.countP_le_length (p := wrongAt w l) (l := List.range w.length)
  rw [List.length_range] at this
  exact this


set_option Elab.async false
set_option linter.all false
set_option maxRecDepth 100000

/-! plain: a row, one by one and cut -/
def madeP (cs : St1) : List St1 := cs.map fun c => [c]
theorem ledP_made (l : Ly) (cs : St1) : ledP l (madeP cs) = ledC l cs := by
  unfold ledP ledC madeP
  rw [List.foldl_map]
theorem made_take (cs : St1) (i : Nat) : (madeP cs).take i = madeP (cs.take i) := by
  unfold madeP
  rw [List.map_take]
theorem made_at {cs : St1} {i : Nat} {s : St1} (h : (madeP cs)[i]? = some s) : ∃ c, cs[i]? = some c ∧ s = [c] := by
  unfold madeP at h
  rw [List.getElem?_map] at h
  cases e : cs[i]? with
  | none => rw [e] at h; cases h
  | some c =>
    rw [e] at h
    exact ⟨c, rfl, (Option.some.inj h).symm⟩
theorem made_mem {cs : St1} {s : St1} (h : s ∈ madeP cs) : ∃ c, c ∈ cs ∧ s = [c] := by
  unfold madeP at h
  obtain ⟨c, hc, e⟩ := List.mem_map.mp h
  exact ⟨c, hc, e.symm⟩
theorem made_len (cs : St1) : (madeP cs).length = cs.length := by unfold madeP; rw [List.length_map]
theorem made_safe {ns : List Nat} {o w : Ly} {cs : St1} (r : RowOk ns o cs) (h : wantedB w (ledC o cs) = true) : SafePl ns o w (madeP cs) := by
  refine ⟨fun s m => ?_, fun i s e => ?_, fun i s e => ?_, by rw [ledP_made]; exact h, by rw [made_len]; exact r.sz⟩
  · obtain ⟨c, hc, rfl⟩ := made_mem m
    have := r.bd c hc
    exact ⟨fun c' hc' => by rw [List.mem_singleton.mp hc']; exact ⟨this.1, this.2.1⟩, by simp⟩
  · obtain ⟨c, hc, rfl⟩ := made_at e
    rw [made_take, ledP_made]
    exact (r.go i c hc).1
  · obtain ⟨c, hc, rfl⟩ := made_at e
    rw [made_take, ledP_made]
    exact (r.go i c hc).2
theorem made_pl {ns : List Nat} {o : Ly} {cs : St1} (r : RowOk ns o cs) : PlOk o.length (madeP cs) := by
  refine ⟨fun s m => ?_, fun s m => ?_, fun s m => ?_, fun s m => ?_, by rw [made_len]; have := r.sz; omega⟩ <;> obtain ⟨c, hc, rfl⟩ := made_mem m
  · simp
  · intro c' hc'
    rw [List.mem_singleton.mp hc']
    exact r.bd c hc
  · exact okSt1 (r.bd c hc).2.2
  · simp
/-! ### one stretch and its copies one by one -/
/-- no two places alike, no source a place -/
structure Fine (s : St1) : Prop where
  nd : (pls s).Nodup
  ap : ∀ c ∈ s, c.2 ∉ pls s
theorem asc_nodup : ∀ {xs : List Nat}, asc xs = true → xs.Nodup ∧ ∀ x y L, xs = x :: y :: L → x < y := by
  intro xs
  induction xs with
  | nil => intro _; exact ⟨List.nodup_nil, by simp⟩
  | cons x xs ih =>
    intro h
    cases xs with
    | nil => exact ⟨by simp, by simp⟩
    | cons y L =>
      have h2 : decide (x < y) = true ∧ asc (y :: L) = true := by
        unfold asc at h ⊢
        simp only [List.drop_succ_cons, List.drop_zero, List.zip_cons_cons, List.all_cons, Bool.and_eq_true] at h ⊢
        exact h
      have hxy := of_decide_eq_true h2.1
      obtain ⟨i1, _⟩ := ih h2.2
      -- all behind are above
      have up : ∀ (M : List Nat) (a : Nat), asc (a :: M) = true → ∀ z ∈ M, a < z := by
        intro M
        induction M with
        | nil => intro a _ z hz; simp at hz
        | cons b M ihM =>
          intro a ha z hz
          have h3 : decide (a < b) = true ∧ asc (b :: M) = true := by
            unfold asc at ha ⊢
            simp only [List.drop_succ_cons, List.drop_zero, List.zip_cons_cons, List.all_cons, Bool.and_eq_true] at ha ⊢
            exact ha
          have hab := of_decide_eq_true h3.1
          rcases List.mem_cons.mp hz with e | hz
          · rw [e]; exact hab
          · have := ihM b h3.2 z hz
            omega
      refine ⟨List.nodup_cons.mpr ⟨fun m => ?_, i1⟩, fun a b M e => ?_⟩
      · have := up _ _ h x m
        omega
      · injection e with e1 e2
        injection e2 with e2 e3
        rw [← e1, ← e2]
        exact hxy
theorem fine_of {s : St1} (h : okSt s = true) : Fine s := by
  unfold okSt at h
  rw [Bool.and_eq_true, List.all_eq_true] at h
  refine ⟨(asc_nodup h.1).1, fun c m => ?_⟩
  have := h.2 c m
  intro z
  rw [decide_eq_true z] at this
  cases this
theorem Fine.perm {s s' : St1} (h : Fine s) (p : s'.Perm s) : Fine s' :=
  have q : (pls s').Perm (pls s) := p.map _
  ⟨q.nodup_iff.mpr h.nd, fun c m z => h.ap c (p.mem_iff.mp m) (q.mem_iff.mp z)⟩
/-- what stands behind a stretch -/
theorem fold_in (l : Ly) {i : Nat} : ∀ (s : St1) (f : Ly) (c : Nat × Nat), (pls s).Nodup → c ∈ s → c.1 = i → i < f.length → (s.foldl (fun f c => f.set c.1 (gt l c.2)) f)[i]? = some (gt l c.2)
  | [], f, c, _, m, _, _ => by simp at m
  | d :: s, f, c, nd, m, e, hi => by
    have nd' : d.1 ∉ pls s ∧ (pls s).Nodup := List.nodup_cons.mp nd
    rw [List.foldl_cons]
    rcases List.mem_cons.mp m with rfl | m
    · rw [ledm_fold_get l s _ (by rw [← e]; exact nd'.1), e, List.getElem?_set_self hi]
    · exact fold_in l s (f.set d.1 (gt l d.2)) c nd'.2 m e (by rw [List.length_set]; exact hi)
theorem led_in {l : Ly} {s : St1} {c : Nat × Nat} (nd : (pls s).Nodup) (m : c ∈ s) (h : c.1 < l.length) : gt (ledm l s) c.1 = gt l c.2 := by
  unfold gt
  unfold ledm
  rw [fold_in l s l c nd m rfl h]
  rfl
theorem led_out {l : Ly} {s : St1} {i : Nat} (h : i ∉ pls s) : gt (ledm l s) i = gt l i := by
  unfold gt ledm
  rw [ledm_fold_get l s l h]
theorem ly_ext {a b : Ly} (h : a.length = b.length) (e : ∀ i, i < a.length → gt a i = gt b i) : a = b := by
  apply List.ext_getElem?
  intro i
  by_cases hi : i < a.length
  · rw [gt_get hi, gt_get (by omega), e i hi]
  · rw [List.getElem?_eq_none (by omega), List.getElem?_eq_none (by omega)]
theorem led_perm {l : Ly} {s s' : St1} (h : Fine s) (p : s'.Perm s) (hb : Bd l.length s) : ledm l s' = ledm l s := by
  have h' := h.perm p
  refine ly_ext (by rw [ledm_len, ledm_len]) fun i hi => ?_
  rw [ledm_len] at hi
  by_cases m : i ∈ pls s
  · obtain ⟨c, hc, rfl⟩ := List.mem_map.mp m
    rw [led_in h.nd hc hi, led_in h'.nd (p.mem_iff.mpr hc) hi]
  · rw [led_out m, led_out fun z => m ((show (pls s').Perm (pls s) from p.map _).mem_iff.mp z)]
/-- the copies of a fine stretch one by one lead to where it leads -/
theorem fine_steps {l : Ly} : ∀ (s : St1), Fine s → Bd l.length s → ledC l s = ledm l s := by
  intro s
  induction hn : s.length generalizing s with
  | zero =>
    intro _ _
    rw [List.length_eq_zero_iff.mp hn]
    rfl
  | succ n ih =>
    intro h hb
    have hne : s ≠ [] := fun e => by rw [e] at hn; cases hn
    obtain ⟨t, c, rfl⟩ : ∃ t c, s = t ++ [c] := ⟨s.dropLast, s.getLast hne, (List.dropLast_concat_getLast hne).symm⟩
    have hpl : pls (t ++ [c]) = pls t ++ [c.1] := by unfold pls; rw [List.map_append]; rfl
    have nd := h.nd
    rw [hpl] at nd
    obtain ⟨nd1, _, ndd⟩ := List.nodup_append.mp nd
    have hc1 : c.1 ∉ pls t := fun m => ndd _ m _ (List.mem_singleton.mpr rfl) rfl
    have hc2 : c.2 ∉ pls t := fun m => h.ap c (by simp) (by rw [hpl]; exact List.mem_append_left _ m)
    have ft : Fine t := ⟨nd1, fun d m z => h.ap d (List.mem_append_left _ m) (by rw [hpl]; exact List.mem_append_left _ z)⟩
    have hbt : Bd l.length t := fun d m => hb d (List.mem_append_left _ m)
    have hbc := hb c (by simp)
    have hlt : t.length = n := by rw [List.length_append] at hn; simpa using hn
    rw [ledC_snoc, ih t hlt ft hbt]
    refine ly_ext (by rw [ledm_len, ledm_len, ledm_len]) fun i hi => ?_
    rw [ledm_len, ledm_len] at hi
    by_cases e : i = c.1
    · subst e
      have : (pls [c]).Nodup := by unfold pls; simp
      rw [led_in (l := l) h.nd (by simp) hi, led_in (l := ledm l t) this (List.mem_singleton.mpr rfl) (by rw [ledm_len]; exact hi), led_out hc2]
    · rw [led_out (l := ledm l t) (s := [c]) (by unfold pls; simpa using e)]
      by_cases m : i ∈ pls t
      · obtain ⟨d, hd, rfl⟩ := List.mem_map.mp m
        rw [led_in nd1 hd hi, led_in h.nd (List.mem_append_left _ hd) hi]
      · rw [led_out m, led_out (by rw [hpl]; intro z; rcases List.mem_append.mp z with z | z; exact m z; exact e (List.mem_singleton.mp z))]
theorem ledC_app (l : Ly) (a b : St1) : ledC l (a ++ b) = ledC (ledC l a) b := by
  unfold ledC
  rw [List.foldl_append]
/-- a whole run leads as its copies do -/
theorem run_led {ns : List Nat} {l : Ly} {cs : St1} {b e : Nat} (hbe : b ≤ e) (hb : ∀ c ∈ cs, c.1 < l.length ∧ c.2 < l.length ∧ c.1 ≠ c.2) (h : wholeB ns l cs b e = true) : ledm (ledC l (cs.take b)) (runOf cs b e) = ledC l (cs.take e) := by
  unfold wholeB at h
  rw [Bool.and_eq_true] at h
  have f := fine_of h.1
  have p := srt_perm ((cs.drop b).take (e - b))
  have f2 := f.perm p.symm
  have hbd : ∀ m, m = l.length → Bd m ((cs.drop b).take (e - b)) := fun m hm c hc => by
    have := hb c (List.mem_of_mem_drop (List.mem_of_mem_take hc))
    rw [hm]
    exact ⟨this.1, this.2.1⟩
  rw [led_perm (s := (cs.drop b).take (e - b)) f2 p (hbd _ (ledC_len _ _)), ← fine_steps _ f2 (hbd _ (ledC_len _ _)), ← ledC_app]
  congr 1
  have e2 : e = b + (e - b) := by omega
  conv => rhs; rw [e2]
  rw [List.take_add]


set_option Elab.async false
set_option linter.all false
set_option maxRecDepth 100000

/-! plain: the greedy cuts -/
theorem run_one {cs : St1} {n : Nat} {c : Nat × Nat} (h : cs[n]? = some c) : runOf cs n (n + 1) = [c] := by
  have hl := (List.getElem?_eq_some_iff.mp h).1
  have e : (cs.drop n).take (n + 1 - n) = [c] := by
    rw [show n + 1 - n = 1 by omega, List.drop_eq_getElem_cons hl, (List.getElem?_eq_some_iff.mp h).2]
    rfl
  have p := srt_perm ((cs.drop n).take (n + 1 - n))
  rw [e] at p
  show srt ((cs.drop n).take (n + 1 - n)) = _
  rw [e]
  exact List.perm_singleton.mp p
theorem whole_one {ns : List Nat} {l : Ly} {cs : St1} {n : Nat} (r : RowOk ns l cs) (h : n < cs.length) : wholeB ns l cs n (n + 1) = true := by
  have hc : cs[n]? = some cs[n] := List.getElem?_eq_getElem h
  have g := r.go n _ hc
  unfold wholeB
  rw [run_one hc, okSt1 (r.bd _ (List.mem_of_getElem? hc)).2.2, g.1, g.2]
  rfl
theorem run_len' {cs : St1} {b e : Nat} (he : e ≤ cs.length) : (runOf cs b e).length = e - b := by
  rw [(srt_perm _).length_eq, List.length_take, List.length_drop]
  omega
/-- cuts of the first n copies -/
structure CutI (ns : List Nat) (l : Ly) (cs : St1) (n : Nat) (F : List Nat) : Prop where
  h0 : F[0]? = some 0
  pr : ∀ i b e, F[i]? = some b → F[i + 1]? = some e → b < e ∧ e ≤ cs.length ∧ wholeB ns l cs b e = true
  last : n = 0 → F = [0]
  lw : 1 ≤ n → F.getLastD 0 < n ∧ wholeB ns l cs (F.getLastD 0) n = true
theorem getLast_append (F : List Nat) (n : Nat) : (F ++ [n]).getLastD 0 = n := by rw [List.getLastD_concat]
theorem pairs_snoc {ns : List Nat} {l : Ly} {cs : St1} {F : List Nat} {n : Nat} (hne : F ≠ []) (pr : ∀ i b e, F[i]? = some b → F[i + 1]? = some e → b < e ∧ e ≤ cs.length ∧ wholeB ns l cs b e = true) (hl : F.getLastD 0 < n) (hn : n ≤ cs.length) (hw : wholeB ns l cs (F.getLastD 0) n = true) :
    ∀ i b e, (F ++ [n])[i]? = some b → (F ++ [n])[i + 1]? = some e → b < e ∧ e ≤ cs.length ∧ wholeB ns l cs b e = true := fun i b e h1 h2 => by
  have hF : 0 < F.length := List.length_pos_iff.mpr hne
  by_cases hi : i + 1 < F.length
  · rw [List.getElem?_append_left (by omega)] at h1
    rw [List.getElem?_append_left hi] at h2
    exact pr i b e h1 h2
  · rw [List.getElem?_append_right (by omega)] at h2
    have hz : i + 1 - F.length = 0 := by
      by_cases z : i + 1 - F.length = 0
      · exact z
      · rw [List.getElem?_eq_none (by simp; omega)] at h2
        cases h2
    rw [hz] at h2
    cases h2
    have hi2 : i = F.length - 1 := by omega
    rw [List.getElem?_append_left (by omega), hi2, last_at hne] at h1
    cases h1
    exact ⟨hl, hn, hw⟩
theorem cutsA_ok {ns : List Nat} {l : Ly} {cs : St1} (r : RowOk ns l cs) : ∀ n, n ≤ cs.length → CutI ns l cs n (cutsA ns l cs n)
  | 0, _ => by
    unfold cutsA
    exact ⟨rfl, fun i b e _ h => by simp at h, fun _ => rfl, fun h => absurd h (by decide)⟩
  | n + 1, hn => by
    have ih := cutsA_ok r n (by omega)
    have hne := cutsA_ne ns l cs n
    have hla := cutsA_last ns l cs n
    unfold cutsA
    dsimp only
    by_cases hw : wholeB ns l cs ((cutsA ns l cs n).getLastD 0) (n + 1) = true
    · rw [if_pos hw]
      exact ⟨ih.h0, ih.pr, fun h => by omega, fun _ => ⟨Nat.lt_succ_of_le hla, hw⟩⟩
    · rw [if_neg hw]
      have hn1 : 1 ≤ n := by
        by_cases z : 1 ≤ n
        · exact z
        · have e : n = 0 := by omega
          subst e
          have := ih.last rfl
          rw [this] at hw
          exact absurd (whole_one (n := 0) r (by omega)) hw
      have hl := ih.lw hn1
      refine ⟨?_, pairs_snoc hne ih.pr hl.1 (by omega) hl.2, fun h => by omega, fun _ => ?_⟩
      · rw [List.getElem?_append_left (List.length_pos_iff.mpr hne)]
        exact ih.h0
      · rw [getLast_append]
        exact ⟨Nat.lt_succ_self n, whole_one r (by omega)⟩
/-- all cuts -/
structure CutOk (ns : List Nat) (l : Ly) (cs : St1) (F : List Nat) : Prop where
  h0 : F[0]? = some 0
  pr : ∀ i b e, F[i]? = some b → F[i + 1]? = some e → b < e ∧ e ≤ cs.length ∧ wholeB ns l cs b e = true
  last : F[F.length - 1]? = some cs.length
theorem cutsF_ok {ns : List Nat} {l : Ly} {cs : St1} (r : RowOk ns l cs) : CutOk ns l cs (cutsF ns l cs) := by
  unfold cutsF
  by_cases h : cs = []
  · rw [if_pos h, h]
    exact ⟨rfl, fun i b e _ h => by simp at h, rfl⟩
  · rw [if_neg h]
    have hp : 1 ≤ cs.length := List.length_pos_iff.mpr h
    have ih := cutsA_ok r cs.length (Nat.le_refl _)
    have hne := cutsA_ne ns l cs cs.length
    have hl := ih.lw hp
    refine ⟨?_, pairs_snoc hne ih.pr hl.1 (Nat.le_refl _) hl.2, ?_⟩
    · rw [List.getElem?_append_left (List.length_pos_iff.mpr hne)]
      exact ih.h0
    · rw [List.length_append, List.length_singleton, Nat.add_sub_cancel, List.getElem?_append_right (Nat.le_refl _), Nat.sub_self]
      rfl
theorem cutP_len (ns : List Nat) (l : Ly) (cs : St1) : (cutP ns l cs).length = (cutsF ns l cs).length - 1 := by
  unfold cutP
  rw [List.length_map, List.length_zip, List.length_drop]
  omega
theorem cutP_at {ns : List Nat} {l : Ly} {cs : St1} {i : Nat} {s : St1} (h : (cutP ns l cs)[i]? = some s) : ∃ b e, (cutsF ns l cs)[i]? = some b ∧ (cutsF ns l cs)[i + 1]? = some e ∧ s = runOf cs b e := by
  unfold cutP at h
  rw [List.getElem?_map] at h
  cases hz : ((cutsF ns l cs).zip ((cutsF ns l cs).drop 1))[i]? with
  | none => rw [hz] at h; cases h
  | some p =>
    rw [hz] at h
    obtain ⟨b, e⟩ := p
    rw [List.getElem?_zip_eq_some, List.getElem?_drop, Nat.add_comm] at hz
    exact ⟨b, e, hz.1, hz.2, (Option.some.inj h).symm⟩
section
variable {ns : List Nat} {o w : Ly} {cs : St1}
theorem cut_led (r : RowOk ns o cs) : ∀ i b, (cutsF ns o cs)[i]? = some b → ledP o ((cutP ns o cs).take i) = ledC o (cs.take b) ∧ writes ((cutP ns o cs).take i) = b
  | 0, b, h => by
    rw [(cutsF_ok r).h0] at h
    cases h
    exact ⟨rfl, rfl⟩
  | i + 1, e, h => by
    have hi := (List.getElem?_eq_some_iff.mp h).1
    have hb : (cutsF ns o cs)[i]? = some (cutsF ns o cs)[i] := List.getElem?_eq_getElem (by omega)
    obtain ⟨i1, i2⟩ := cut_led r i _ hb
    obtain ⟨h1, h2, h3⟩ := (cutsF_ok r).pr i _ e hb h
    have hl := cutP_len ns o cs
    have hs : (cutP ns o cs)[i]? = some (cutP ns o cs)[i] := List.getElem?_eq_getElem (by omega)
    obtain ⟨b', e', q1, q2, q3⟩ := cutP_at hs
    rw [hb] at q1
    cases q1
    rw [h] at q2
    cases q2
    rw [take_snoc hs, ledP_snoc, i1, q3]
    refine ⟨run_led (by omega) r.bd h3, ?_⟩
    unfold writes at i2 ⊢
    rw [List.map_append, List.sum_append, i2]
    simp only [List.map_cons, List.map_nil, List.sum_cons, List.sum_nil]
    rw [run_len' h2]
    omega
theorem cut_at (r : RowOk ns o cs) {i : Nat} {s : St1} (h : (cutP ns o cs)[i]? = some s) : ∃ b e, b < e ∧ e ≤ cs.length ∧ s = runOf cs b e ∧ wholeB ns o cs b e = true ∧ ledP o ((cutP ns o cs).take i) = ledC o (cs.take b) := by
  obtain ⟨b, e, h1, h2, h3⟩ := cutP_at h
  obtain ⟨q1, q2, q3⟩ := (cutsF_ok r).pr i b e h1 h2
  exact ⟨b, e, q1, q2, h3, q3, (cut_led r i b h1).1⟩
theorem cut_mem (r : RowOk ns o cs) {s : St1} (h : s ∈ cutP ns o cs) : ∃ b e, b < e ∧ e ≤ cs.length ∧ s = runOf cs b e ∧ wholeB ns o cs b e = true := by
  obtain ⟨i, hi, e⟩ := List.mem_iff_getElem.mp h
  obtain ⟨b, e, q1, q2, q3, q4, _⟩ := cut_at r (i := i) (s := s) (by rw [List.getElem?_eq_getElem hi, e])
  exact ⟨b, e, q1, q2, q3, q4⟩
theorem cut_all (r : RowOk ns o cs) : ledP o (cutP ns o cs) = ledC o cs ∧ writes (cutP ns o cs) = cs.length := by
  have c := cutsF_ok r
  have := cut_led r _ _ c.last
  rw [← cutP_len, List.take_length, List.take_length] at this
  exact this
theorem cut_few (r : RowOk ns o cs) : (cutP ns o cs).length ≤ cs.length := by
  rw [← (cut_all r).2]
  have pos : ∀ p : List St1, (∀ s ∈ p, s ≠ []) → p.length ≤ writes p := by
    intro p
    induction p with
    | nil => intro _; simp [writes]
    | cons s p ih =>
      intro h
      have h1 := ih fun t m => h t (List.mem_cons_of_mem _ m)
      have h2 : 0 < s.length := List.length_pos_iff.mpr (h s List.mem_cons_self)
      unfold writes at *
      simp only [List.map_cons, List.sum_cons, List.length_cons]
      omega
  exact pos _ fun s m => by
    obtain ⟨b, e, q1, q2, rfl, _⟩ := cut_mem r m
    exact run_ne q1 q2
theorem cut_pl (r : RowOk ns o cs) : PlOk o.length (cutP ns o cs) := by
  have hsz := r.sz
  refine ⟨fun s m => ?_, fun s m c hc => ?_, fun s m => ?_, fun s m => ?_, ?_⟩
  · obtain ⟨b, e, q1, q2, rfl, _⟩ := cut_mem r m
    exact run_ne q1 q2
  · obtain ⟨b, e, q1, q2, rfl, _⟩ := cut_mem r m
    exact r.bd c (mem_run hc)
  · obtain ⟨b, e, q1, q2, rfl, q4⟩ := cut_mem r m
    unfold wholeB at q4
    rw [Bool.and_eq_true] at q4
    exact q4.1
  · obtain ⟨b, e, q1, q2, rfl, _⟩ := cut_mem r m
    have := run_len cs b e
    omega
  · have h1 := cut_few r
    omega
theorem cut_safe (r : RowOk ns o cs) (h : wantedB w (ledC o cs) = true) : SafePl ns o w (cutP ns o cs) := by
  have hp := cut_pl r
  have hf := cut_few r
  refine ⟨fun s m => ⟨fun c hc => ⟨(hp.cp s m c hc).1, (hp.cp s m c hc).2.1⟩, hp.sz s m⟩, fun i s e => ?_, fun i s e => ?_, by rw [(cut_all r).1]; exact h, by have := r.sz; omega⟩
  all_goals
    obtain ⟨b, e', q1, q2, rfl, q4, q5⟩ := cut_at r e
    rw [q5]
    unfold wholeB at q4
    rw [Bool.and_eq_true, Bool.and_eq_true] at q4
    first | exact q4.2.1 | exact q4.2.2
theorem paper_len (ns : List Nat) (o : Ly) (cs : St1) : ((cutsF ns o cs).length - 2 : Nat) = (cutP ns o cs).length - 1 := by
  rw [cutP_len]
  omega
end


set_option Elab.async false
set_option linter.all false
set_option maxRecDepth 100000

/-! plain: losses -/
def Least (m : Nat) (L : List Nat) : Prop := m ∈ L ∧ ∀ x ∈ L, m ≤ x
theorem Least.uniq {m k : Nat} {L : List Nat} (a : Least m L) (b : Least k L) : m = k := Nat.le_antisymm (a.2 k b.1) (b.2 m a.1)
def lefts (o : Ly) (p : List St1) : List Ly := ((lts o p).zip p).map fun q => outs q.1 (pls q.2)
def momL (ns : List Nat) (o : Ly) (p : List St1) : List Nat := (lts o p ++ lefts o p).flatMap (stands ns.length)
theorem lts_mem {o : Ly} {p : List St1} {M : Ly} : M ∈ lts o p ↔ ∃ i, i ≤ p.length ∧ M = ledP o (p.take i) := by
  unfold lts
  rw [List.mem_map]
  constructor
  · rintro ⟨i, hi, e⟩
    exact ⟨i, by have := List.mem_range.mp hi; omega, e.symm⟩
  · rintro ⟨i, hi, e⟩
    exact ⟨i, List.mem_range.mpr (by omega), e.symm⟩
theorem lts_at' (o : Ly) (p : List St1) {i : Nat} (h : i ≤ p.length) : (lts o p)[i]? = some (ledP o (p.take i)) := by
  unfold lts
  rw [List.getElem?_map, List.getElem?_range (by omega)]
  rfl
theorem lefts_mem {o : Ly} {p : List St1} {M : Ly} : M ∈ lefts o p ↔ ∃ i s, p[i]? = some s ∧ M = outs (ledP o (p.take i)) (pls s) := by
  unfold lefts
  rw [List.mem_map]
  constructor
  · rintro ⟨⟨L, s⟩, hq, e⟩
    obtain ⟨i, hi⟩ := List.mem_iff_getElem?.mp hq
    rw [List.getElem?_zip_eq_some] at hi
    have hl := (List.getElem?_eq_some_iff.mp hi.2).1
    have := lts_at' o p (i := i) (Nat.le_of_lt hl)
    rw [hi.1] at this
    refine ⟨i, s, hi.2, ?_⟩
    rw [← e, ← Option.some.inj this]
  · rintro ⟨i, s, hs, e⟩
    have hl := (List.getElem?_eq_some_iff.mp hs).1
    refine ⟨(ledP o (p.take i), s), ?_, e.symm⟩
    refine List.mem_of_getElem? (i := i) ?_
    rw [List.getElem?_zip_eq_some]
    exact ⟨lts_at' o p (by omega), hs⟩
theorem mem_momL {ns : List Nat} {o : Ly} {p : List St1} {x : Nat} : x ∈ momL ns o p ↔ ∃ M v, (M ∈ lts o p ∨ M ∈ lefts o p) ∧ v < ns.length ∧ x = cnt M v := by
  unfold momL stands
  rw [List.mem_flatMap]
  constructor
  · rintro ⟨M, hM, hx⟩
    obtain ⟨v, hv, e⟩ := List.mem_map.mp hx
    exact ⟨M, v, List.mem_append.mp hM, List.mem_range.mp hv, e.symm⟩
  · rintro ⟨M, v, hM, hv, e⟩
    exact ⟨M, List.mem_append.mpr hM, List.mem_map.mpr ⟨v, List.mem_range.mpr hv, e.symm⟩⟩
theorem ledC_out {q : Nat} : ∀ (ds : St1) (l : Ly), (∀ c ∈ ds, c.1 ≠ q) → gt (ledC l ds) q = gt l q
  | [], l, _ => rfl
  | c :: ds, l, h => by
    show gt (ledC (ledm l [c]) ds) q = _
    rw [ledC_out ds _ fun d m => h d (List.mem_cons_of_mem _ m), led_out]
    unfold pls
    simp
    exact fun e => h c List.mem_cons_self e.symm
theorem cut_at_i {F : List Nat} {i : Nat} (h0 : F[0]? = some 0) : ∀ (k b : Nat), F[k]? = some b → i < b → ∃ j b' e' : Nat, F[j]? = some b' ∧ F[j + 1]? = some e' ∧ b' ≤ i ∧ i < e'
  | 0, b, h, hb => by
    rw [h0] at h
    cases h
    omega
  | k + 1, b, h, hb => by
    have hk := (List.getElem?_eq_some_iff.mp h).1
    have hc : F[k]? = some F[k] := List.getElem?_eq_getElem (by omega)
    by_cases z : F[k] ≤ i
    · exact ⟨k, _, b, hc, h, z, hb⟩
    · exact cut_at_i h0 k _ hc (by omega)
/-- each moment one by one has no less than some moment of the cut plan -/
theorem loss_le {ns : List Nat} {o : Ly} {cs : St1} (r : RowOk ns o cs) {x : Nat} (h : x ∈ momL ns o (madeP cs)) : ∃ y, y ∈ momL ns o (cutP ns o cs) ∧ y ≤ x := by
  obtain ⟨M, v, hM, hv, rfl⟩ := mem_momL.mp h
  have key : ∀ i, i < cs.length → (∀ q, (∀ c, cs[i]? = some c → q ≠ c.1) → M[q]? = (ledC o (cs.take i))[q]?) → M.length = o.length → ∃ y, y ∈ momL ns o (cutP ns o cs) ∧ y ≤ cnt M v := fun i hi hMq hMl => by
    have C := cutsF_ok r
    obtain ⟨j, b, e, h1, h2, h3, h4⟩ := cut_at_i (i := i) C.h0 _ _ C.last hi
    obtain ⟨q1, q2, q3⟩ := C.pr j b e h1 h2
    have hjl := (List.getElem?_eq_some_iff.mp h2).1
    have hjc : j < (cutP ns o cs).length := by rw [cutP_len]; omega
    have hs : (cutP ns o cs)[j]? = some (cutP ns o cs)[j] := List.getElem?_eq_getElem hjc
    obtain ⟨b', e', g1, g2, g3⟩ := cutP_at hs
    rw [h1] at g1
    cases g1
    rw [h2] at g2
    cases g2
    refine ⟨cnt (outs (ledP o ((cutP ns o cs).take j)) (pls (runOf cs b e))) v, mem_momL.mpr ⟨_, v, .inr (lefts_mem.mpr ⟨j, _, hs, by rw [g3]⟩), hv, rfl⟩, ?_⟩
    refine cnt_le_of (by rw [outs_len, ledP_len, hMl]) fun q hq => ?_
    obtain ⟨n1, n2⟩ := outs_get hq
    rw [(cut_led r j b h1).1] at n2
    have inr : ∀ k c, b ≤ k → k < e → cs[k]? = some c → c.1 ∈ pls (runOf cs b e) := fun k c hk1 hk2 hc => by
      refine List.mem_map.mpr ⟨c, (srt_perm _).mem_iff.mpr (List.mem_of_getElem? (i := k - b) ?_), rfl⟩
      rw [List.getElem?_take, if_pos (by omega), List.getElem?_drop, show b + (k - b) = k by omega]
      exact hc
    rw [hMq q fun c hc z => n1 (z ▸ inr i c h3 h4 hc)]
    -- the copies between change nothing there
    have e1 : cs.take i = cs.take b ++ (cs.drop b).take (i - b) := by
      conv => lhs; rw [show i = b + (i - b) by omega]
      rw [List.take_add]
    have e2 : gt (ledC o (cs.take i)) q = gt (ledC o (cs.take b)) q := by
      rw [e1, ledC_app]
      refine ledC_out _ _ fun c hc z => ?_
      obtain ⟨k, hk⟩ := List.mem_iff_getElem?.mp hc
      rw [List.getElem?_take] at hk
      split at hk
      · rw [List.getElem?_drop] at hk
        exact n1 (z ▸ inr (b + k) c (by omega) (by omega) hk)
      · cases hk
    have hlq : q < (ledC o (cs.take b)).length := (List.getElem?_eq_some_iff.mp n2).1
    rw [gt_get (by rw [ledC_len] at hlq ⊢; exact hlq), e2]
    rw [gt_get hlq] at n2
    exact n2
  rcases hM with hM | hM
  · obtain ⟨i, hi, rfl⟩ := lts_mem.mp hM
    rw [made_len] at hi
    rw [made_take, ledP_made] at key ⊢
    by_cases z : i < cs.length
    · exact key i z (fun _ _ => rfl) (ledC_len _ _)
    · refine ⟨_, mem_momL.mpr ⟨ledC o (cs.take i), v, .inl (lts_mem.mpr ⟨(cutP ns o cs).length, Nat.le_refl _, ?_⟩), hv, rfl⟩, Nat.le_refl _⟩
      rw [List.take_length, (cut_all r).1, List.take_of_length_le (by omega)]
  · obtain ⟨i, s, hs, rfl⟩ := lefts_mem.mp hM
    obtain ⟨c, hc, rfl⟩ := made_at hs
    rw [made_take, ledP_made] at key ⊢
    have hi := (List.getElem?_eq_some_iff.mp hc).1
    refine key i hi (fun q hq => ?_) (by rw [outs_len, ledC_len])
    show (outs (ledC o (cs.take i)) [c.1])[q]? = _
    rw [outs1, List.getElem?_set_ne (Ne.symm (hq c hc))]
theorem loss_made {ns : List Nat} {o : Ly} {cs : St1} (r : RowOk ns o cs) {m k : Nat} (hm : Least m (momL ns o (madeP cs))) (hk : Least k (momL ns o (cutP ns o cs))) : k ≤ m := by
  obtain ⟨y, h1, h2⟩ := loss_le r hm.1
  exact Nat.le_trans (hk.2 y h1) h2


set_option Elab.async false
set_option linter.all false
set_option maxRecDepth 100000

/-! plain: a store led through a stretch -/
/-- what a place tells: none for "?" -/
abbrev Td := Option (Option Nat)
def rds (t : List Td) (v : Nat) : Nat := t.countP fun x => decide (x = some (some v))
structure Leg (ns : List Nat) (m : Nat) (A B : Ly) (pl : List Nat) : Prop where
  la : A.length = m
  lb : B.length = m
  pm : ∀ q ∈ pl, q < m
  nd : pl.Nodup
  ag : ∀ q, q ∉ pl → gt A q = gt B q
  sf : ∀ v n, ns[v]? = some n → n ≤ cnt (outs A pl) v
  src : ∀ q ∈ pl, ∀ v, gt B q = some v → ∃ r, r ∉ pl ∧ gt A r = some v
structure Mid (m : Nat) (A B : Ly) (pl : List Nat) (t : List Td) (wh : List Nat) : Prop where
  len : t.length = m
  out : ∀ q, q < m → q ∉ pl → t[q]? = some (some (gt A q))
  sub : ∀ q ∈ wh, q ∈ pl
  wn : wh.Nodup
  ok : ∀ q ∈ wh, t[q]? = some (some (gt B q))
theorem rds_le {t : List Td} {a : Ly} {v : Nat} (hl : a.length = t.length) (h : ∀ i : Nat, a[i]? = some (some v) → t[i]? = some (some (some v))) : cnt a v ≤ rds t v := by
  induction a generalizing t with
  | nil => simp [cnt]
  | cons x a ih =>
    cases t with
    | nil => simp at hl
    | cons y t =>
      have i2 := ih (t := t) (by simpa using hl) fun i e => h (i + 1) e
      have h0 := h 0
      rw [cnt_cons]
      unfold rds at *
      rw [List.countP_cons]
      unfold hit
      by_cases e : x = some v
      · have : y = some (some v) := by simpa using h0 (by simp [e])
        rw [if_pos e, this]
        simp
        exact i2
      · rw [if_neg e]
        omega
section
variable {ns : List Nat} {m : Nat} {A B : Ly} {pl : List Nat} {t : List Td} {wh : List Nat}
/-- each value is read from enough places -/
theorem Mid.read (g : Leg ns m A B pl) (h : Mid m A B pl t wh) {v n : Nat} (e : ns[v]? = some n) : n ≤ rds t v := by
  refine Nat.le_trans (g.sf v n e) (rds_le (by rw [outs_len, g.la, h.len]) fun i hi => ?_)
  obtain ⟨h1, h2⟩ := outs_get hi
  have hl := (List.getElem?_eq_some_iff.mp h2).1
  rw [g.la] at hl
  rw [h.out i hl h1]
  rw [gt_get (by rw [g.la]; exact hl)] at h2
  rw [Option.some.inj h2]
theorem Mid.start (la : A.length = m) (lm : 0 ≤ m) : Mid m A B pl (A.map some) [] := by
  refine ⟨by rw [List.length_map, la], fun q hq _ => ?_, by simp, by simp, by simp⟩
  rw [List.getElem?_map, gt_get (by rw [la]; exact hq)]
  rfl
/-- the source of a write -/
theorem Mid.src (g : Leg ns m A B pl) (h : Mid m A B pl t wh) {q : Nat} (hq : q ∈ pl) {v : Nat} (e : gt B q = some v) : ∃ r, r ∉ pl ∧ t[r]? = some (some (some v)) := by
  obtain ⟨r, h1, h2⟩ := g.src q hq v e
  have hl := gt_lt h2
  rw [g.la] at hl
  exact ⟨r, h1, by rw [h.out r hl h1, h2]⟩
theorem Mid.write (g : Leg ns m A B pl) (h : Mid m A B pl t wh) {q : Nat} (hq : q ∈ pl) {wh' : List Nat} (hw : ∀ x ∈ wh', x = q ∨ x ∈ wh) (hl : wh'.Nodup) : Mid m A B pl (t.set q (some (gt B q))) wh' := by
  refine ⟨by rw [List.length_set, h.len], fun i hi hn => ?_, fun x m' => ?_, hl, fun x m' => ?_⟩
  · rw [List.getElem?_set_ne (show q ≠ i from fun e => hn (by rw [← e]; exact hq))]
    exact h.out i hi hn
  · rcases hw x m' with e | m'
    · rw [e]; exact hq
    · exact h.sub x m'
  · by_cases e : q = x
    · subst e
      rw [List.getElem?_set_self (by rw [h.len]; exact g.pm q hq)]
    · rw [List.getElem?_set_ne e]
      rcases hw x m' with e2 | m'
      · exact absurd e2.symm e
      · exact h.ok x m'
/-- power fails -/
theorem Mid.cut (h : Mid m A B pl t wh) {t' : List Td} (hl : t'.length = t.length) (ht : ∀ i : Nat, i ∉ pl → t'[i]? = t[i]?) : Mid m A B pl t' [] :=
  ⟨by rw [hl, h.len], fun q hq hn => by rw [ht q hn]; exact h.out q hq hn, by simp, by simp, by simp⟩
/-- all places are whole -/
theorem Mid.full (g : Leg ns m A B pl) (h : Mid m A B pl t wh) (ha : ∀ q ∈ pl, q ∈ wh) : t = B.map some := by
  apply List.ext_getElem?
  intro i
  by_cases hi : i < m
  · have hB : (B.map some)[i]? = some (some (gt B i)) := by
      rw [List.getElem?_map, gt_get (by rw [g.lb]; exact hi)]
      rfl
    rw [hB]
    by_cases hp : i ∈ pl
    · exact h.ok i (ha i hp)
    · rw [h.out i hi hp, g.ag i hp]
  · rw [List.getElem?_eq_none (by rw [h.len]; omega), List.getElem?_eq_none (by rw [List.length_map, g.lb]; omega)]
end
/-! ### the legs of a safe plan -/
def lay (o : Ly) (p : List St1) (k : Nat) : Ly := ledP o (p.take k)
theorem lay_len (o : Ly) (p : List St1) (k : Nat) : (lay o p k).length = o.length := ledP_len _ _
theorem lay_succ {o : Ly} {p : List St1} {i : Nat} {s : St1} (h : p[i]? = some s) : lay o p (i + 1) = ledm (lay o p i) s := by
  unfold lay
  rw [take_snoc h, ledP_snoc]
theorem outs_eq {a b : Ly} {pl : List Nat} (h : a.length = b.length) (e : ∀ q, q ∉ pl → gt a q = gt b q) : outs a pl = outs b pl := by
  refine ly_ext (by rw [outs_len, outs_len, h]) fun i hi => ?_
  rw [outs_len] at hi
  unfold gt outs
  rw [List.getElem?_map, List.getElem?_map, List.getElem?_zipIdx, List.getElem?_zipIdx, gt_get hi, gt_get (by omega)]
  simp
  by_cases hp : i ∈ pl
  · rw [if_pos hp, if_pos hp]
  · rw [if_neg hp, if_neg hp, e i hp]
theorem leg_on {ns : List Nat} {o w : Ly} {p : List St1} {i : Nat} {s : St1} (sp : SafePl ns o w p) (pk : PlOk o.length p) (h : p[i]? = some s) : Leg ns o.length (lay o p i) (lay o p (i + 1)) (pls s) := by
  have hm := List.mem_of_getElem? h
  have f := fine_of (pk.ok s hm)
  refine ⟨lay_len _ _ _, lay_len _ _ _, fun q hq => ?_, f.nd, fun q hq => ?_, safeB_iff.mp (sp.safe i s h), fun q hq v e => ?_⟩
  · obtain ⟨c, hc, rfl⟩ := List.mem_map.mp hq
    exact (pk.cp s hm c hc).1
  · rw [lay_succ h, led_out hq]
  · obtain ⟨c, hc, rfl⟩ := List.mem_map.mp hq
    rw [lay_succ h, led_in f.nd hc (by rw [lay_len]; exact (pk.cp s hm c hc).1)] at e
    exact ⟨c.2, f.ap c hc, e⟩
theorem outs_at {l : Ly} {pl : List Nat} {v : Nat} (h : 1 ≤ cnt (outs l pl) v) : ∃ r, r ∉ pl ∧ gt l r = some v := by
  obtain ⟨i, hi, e⟩ := cnt_pos h
  have h2 := gt_get hi
  rw [e] at h2
  obtain ⟨h3, h4⟩ := outs_get h2
  refine ⟨i, h3, ?_⟩
  unfold gt
  rw [h4]
  rfl
theorem leg_back {ns : List Nat} {o w : Ly} {p : List St1} {i : Nat} {s : St1} (h1 : ∀ n ∈ ns, 1 ≤ n) (ro : Rt ns o) (sp : SafePl ns o w p) (pk : PlOk o.length p) (h : p[i]? = some s) (hr : Rt ns (lay o p i)) : Leg ns o.length (lay o p (i + 1)) (lay o p i) (pls s) := by
  have g := leg_on sp pk h
  have eo : outs (lay o p (i + 1)) (pls s) = outs (lay o p i) (pls s) := outs_eq (by rw [lay_len, lay_len]) fun q hq => (g.ag q hq).symm
  refine ⟨lay_len _ _ _, lay_len _ _ _, g.pm, g.nd, fun q hq => (g.ag q hq).symm, fun v n e => by rw [eo]; exact g.sf v n e, fun q hq v e => ?_⟩
  obtain ⟨n, hn⟩ := hr.at e
  obtain ⟨r, r1, r2⟩ := outs_at (Nat.le_trans (h1 n (List.mem_of_getElem? hn)) (g.sf v n hn))
  exact ⟨r, r1, by rw [← g.ag r r1]; exact r2⟩
theorem lay_rt {ns : List Nat} {o w : Ly} {p : List St1} (ro : Rt ns o) (sp : SafePl ns o w p) : ∀ i, i ≤ p.length → Rt ns (lay o p i)
  | 0, _ => ro
  | i + 1, h => by
    have hs : p[i]? = some p[i] := List.getElem?_eq_getElem (by omega)
    rw [lay_succ hs]
    exact (lay_rt ro sp i (by omega)).led (sp.safe i _ hs)
/-- the leg of a way at an index -/
def legA (o : Ly) (p : List St1) (on : Bool) (i : Nat) : Ly := if on then lay o p i else lay o p (i + 1)
def legB (o : Ly) (p : List St1) (on : Bool) (i : Nat) : Ly := if on then lay o p (i + 1) else lay o p i
theorem leg_of {ns : List Nat} {o w : Ly} {p : List St1} {i : Nat} {s : St1} (on : Bool) (h1 : ∀ n ∈ ns, 1 ≤ n) (ro : Rt ns o) (sp : SafePl ns o w p) (pk : PlOk o.length p) (h : p[i]? = some s) : Leg ns o.length (legA o p on i) (legB o p on i) (pls s) := by
  cases on with
  | true => exact leg_on sp pk h
  | false => exact leg_back h1 ro sp pk h (lay_rt ro sp i (Nat.le_of_lt (List.getElem?_eq_some_iff.mp h).1))


set_option Elab.async false
set_option linter.all false
set_option maxRecDepth 100000

/-! plain: places picked -/
theorem rt_len {ns : List Nat} {o : Ly} (h1 : ∀ n ∈ ns, 1 ≤ n) (r : Rt ns o) : ns.length ≤ o.length := by
  have e := sum_countP (P := fun i => (gt o i).isSome) (g := gt o) (n := ns.length) (List.range o.length) fun i _ hi => by
    cases hg : gt o i with
    | none => rw [hg] at hi; cases hi
    | some v =>
      obtain ⟨n, hn⟩ := r.at hg
      exact ⟨v, (List.getElem?_eq_some_iff.mp hn).1, rfl⟩
  have le : (List.range o.length).countP (fun i => (gt o i).isSome) ≤ o.length := by
    have := List.countP_le_length (p := fun i => (gt o i).isSome) (l := List.range o.length)
    rw [List.length_range] at this
    exact this
  have ge : ∀ L : List Nat, (∀ v ∈ L, v < ns.length) → L.length ≤ (L.map fun v => (List.range o.length).countP fun i => (gt o i).isSome && decide (gt o i = some v)).sum := by
    intro L
    induction L with
    | nil => intro _; simp
    | cons v L ih =>
      intro h
      have i1 := ih fun u m => h u (List.mem_cons_of_mem _ m)
      have hv := h v List.mem_cons_self
      have hn : ns[v]? = some ns[v] := List.getElem?_eq_getElem hv
      have hc := Nat.le_trans (h1 _ (List.mem_of_getElem? hn)) (r.ge v _ hn)
      rw [cnt_range] at hc
      have : (List.range o.length).countP (fun i => (gt o i).isSome && decide (gt o i = some v)) = (List.range o.length).countP fun i => decide (gt o i = some v) := by
        apply List.countP_congr
        intro i _
        simp
        intro e
        rw [e]
        rfl
      rw [List.map_cons, List.sum_cons, this, List.length_cons]
      omega
  have := ge (List.range ns.length) fun v m => List.mem_range.mp m
  rw [List.length_range] at this
  omega
def fullP (o : Ly) : List Nat := (List.range o.length).filter fun k => (gt o k).isSome
theorem pick_cnt {o w : Ly} (hl : w.length = o.length) (hs : Sm o w) (v : Nat) : cnt ((fullP o).map (gt w)) v = cnt w v := by
  rw [cnt_range w, hl]
  unfold cnt fullP
  rw [List.countP_map, List.countP_filter]
  apply List.countP_congr
  intro i _
  simp
  intro e
  cases h : gt o i with
  | none => rw [hs i h] at e; cases e
  | some u => rfl
theorem pick_mem {o w : Ly} {v : Nat} (h : some v ∈ (fullP o).map (gt w)) : some v ∈ w := by
  obtain ⟨k, _, e⟩ := List.mem_map.mp h
  exact gt_mem e
theorem full_len (o : Ly) : (fullP o).length ≤ o.length := by
  unfold fullP
  exact Nat.le_trans (List.length_filter_le _ _) (by rw [List.length_range]; exact Nat.le_refl _)
theorem full_lt {o : Ly} {k : Nat} (h : k ∈ fullP o) : k < o.length := List.mem_range.mp (List.mem_filter.mp h).1
/-- a value more, that stands more often than it needs -/
theorem Rt.more {ns : List Nat} {o w : Ly} {m : Nat} (hl : w.length = o.length) (hs : Sm o w) (r : Rt ns w) (hm : 1 ≤ m) : Rt (ns ++ [1]) ((fullP o).map (gt w) ++ List.replicate m (some ns.length)) := by
  refine ⟨fun v h => ?_, fun i n e => ?_⟩
  · rw [List.length_append, List.length_singleton]
    rcases List.mem_append.mp h with h | h
    · have := r.lt v (pick_mem h)
      omega
    · have := Option.some.inj (List.eq_of_mem_replicate h)
      omega
  · rw [cnt_app, pick_cnt hl hs]
    by_cases hi : i < ns.length
    · rw [List.getElem?_append_left hi] at e
      have := r.ge i n e
      omega
    · rw [List.getElem?_append_right (by omega)] at e
      have hz : i - ns.length = 0 := by
        by_cases z : i - ns.length = 0
        · exact z
        · rw [List.getElem?_eq_none (by simp; omega)] at e
          cases e
      rw [hz] at e
      cases e
      have : i = ns.length := by omega
      rw [cnt_repl, if_pos this.symm]
      omega


end Wm
namespace Wm
open PySem PySem.Spec L2
set_option Elab.async false
set_option linter.all false
set_option maxRecDepth 100000
set_option maxHeartbeats 2000000
/-! Wm.SA: the methods of a Store. -/


theorem slx_index : slIx "its_index" = some 0 := by decide
theorem slx_layouts : slIx "its_layouts" = some 1 := by decide
theorem slx_lost : slIx "its_lost" = some 2 := by decide
theorem slx_past : slIx "its_past" = some 3 := by decide
theorem slx_plan : slIx "its_plan" = some 4 := by decide
theorem slx_task : slIx "its_task" = some 5 := by decide
theorem slx_told : slIx "its_told" = some 6 := by decide
theorem slx_way : slIx "its_way" = some 7 := by decide
theorem slx_whole : slIx "its_whole" = some 8 := by decide
local macro_rules | `(tactic| wtm_at "look") => `(tactic| first
  | with_reducible exact look_miss (by decide) (by wtm_at "look")
  | with_reducible exact look_hit (by decide) (by wtm_at "look")
  | with_unfolding_all exact rfl)
local macro_rules | `(tactic| wtm_at "XN") => `(tactic| first | exact xo_N | exact blk_N xo_N | exact blk_N (blk_N xo_N))
local macro_rules | `(tactic| wtm_at "XS") => `(tactic| first | exact xo_S | exact blk_S xo_S | exact blk_S (blk_S xo_S))
local macro_rules | `(tactic| wtm_at "idx") => `(tactic| with_reducible (first | exact nidx_0 | exact nidx_s (by wtm_at "idx")))
local macro_rules | `(tactic| wtm_at "vis") => `(tactic| first | exact Or.inl rfl | exact Or.inr (Or.inl rfl) | exact Or.inr (Or.inr rfl))
local macro_rules | `(tactic| wtm_at "loc") => `(tactic| first | exact Or.inl rfl | exact Or.inr rfl)
local macro_rules | `(tactic| wtm_at "var") => `(tactic| refine nd_v (by wtm_at "XN") (by wtm_at "idx") (by wtm_at "look") (by wtm_at "vis") ?_)
local macro_rules | `(tactic| wtm_at "calm") => `(tactic| first | exact rfl | assumption)
local macro_rules | `(tactic| wtm_at "g") => `(tactic| first
  | (refine ⟨_, rfl, ?_⟩)
  | (refine ⟨_, _, rfl, ?_⟩)
  | (refine ⟨_, _, _, rfl, ?_⟩)
  | (refine ⟨_, _, _, _, rfl, ?_⟩)
  | (refine ⟨_, _, _, _, _, rfl, ?_⟩)
  | ((with_reducible refine sh_sz ?_); refine ⟨by first | decide | (simp; done) | fail, ?_⟩)
  | (refine Or.inl ⟨_, rfl, ?_⟩)
  | (refine Or.inr ⟨_, rfl, ?_⟩)
  | (refine ⟨_, Or.inl rfl, ?_⟩)
  | (refine ⟨_, Or.inr rfl, ?_⟩))
local macro_rules | `(tactic| wtm_at "b") => `(tactic| with_reducible (first | refine bin_add ?_ | refine bin_sub ?_ | refine cmp_lt ?_ | refine cmp_le ?_ | refine cmp_gt ?_ | refine cmp_ge ?_ | refine cmp_isN ?_ | refine cmp_notN ?_ | refine cmp_notB ?_ ))

local macro_rules | `(tactic| wtm_at "b") => `(tactic| first
  | ((with_reducible refine sh_eqI ?_); refine cmp_eqI (by assumption) ?_)
  | ((with_reducible refine sh_neI ?_); refine cmp_neI (by assumption) ?_))
local macro_rules | `(tactic| wtm_at "side") => `(tactic| first | assumption | omega | decide | exact Or.inl (by omega) | exact Or.inr (by omega) | exact ⟨by decide, by decide⟩ | exact ⟨by decide, by decide, by decide⟩ | fail)
local macro_rules | `(tactic| wtm_at "b") => `(tactic| first
  | ((with_reducible refine sh_bmod ?_); refine bin_mod (by wtm_at "side") ?_)
  | ((with_reducible refine sh_bmul ?_); refine bin_mul (by wtm_at "side") ?_)
  | ((with_reducible refine sh_bfdiv ?_); refine bin_fdiv (by wtm_at "side") ?_)
  | ((with_reducible refine sh_bpow ?_); refine bin_pow (by wtm_at "side") ?_))
local macro_rules | `(tactic| wtm_at "c") => `(tactic| first
  | ((with_reducible refine sh_lenN ?_); refine nd_lenOwn (by assumption) (by wtm_at "XN") (by wtm_at "idx") (by wtm_at "look") (by wtm_at "vis") ?_)
  | ((with_reducible refine sh_len ?_); refine nd_len (by assumption) ?_)
  | ((with_reducible refine sh_is_int ?_); refine nd_isInt (by assumption) ?_)
  | ((with_reducible refine sh_is_bool ?_); refine nd_isBool (by assumption) ?_)
  | ((with_reducible refine sh_is_tuple ?_); refine nd_isTup (by assumption) ?_)
  | ((with_reducible refine sh_all ?_); refine nd_allF (by assumption) (by wtm_at "calm") ?_)
  | ((with_reducible refine sh_tuple ?_); refine nd_tupc (by assumption) ?_)
  | ((with_reducible refine sh_listRg ?_); refine nd_listRg (by assumption) (by wtm_at "calm") ?_)
  | ((with_reducible refine sh_list ?_); refine nd_listc (by assumption) ?_)
  | ((with_reducible refine sh_min ?_); refine nd_min2 (by assumption) (by wtm_at "calm") ?_)
  | ((with_reducible refine sh_max ?_); refine nd_max2 (by assumption) (by wtm_at "calm") ?_)
  | ((with_reducible refine sh_abs ?_); refine nd_abs (by assumption) ?_)
  | ((with_reducible refine sh_int ?_); refine nd_intA (by assumption) ?_))
local macro_rules | `(tactic| wtm_at "e") => `(tactic| first
  | ((with_reducible refine sh_name ?_); wtm_at "var")
  | with_reducible (first | refine nd_int ?_ | refine nd_bool ?_ | refine nd_none ?_ | refine nd_str ?_ | refine nd_and ?_ | refine nd_or ?_ | refine nd_and1 ?_ | refine nd_not ?_ | refine nd_if ?_ | refine nd_bin ?_ | refine nd_neg ?_ | refine nd_tup ?_ | refine nd_lst ?_ | refine na_nil ?_ | refine np_none ?_ | refine np_some ?_ | refine nt_not ?_ | refine nt_and ?_ | refine nt_or ?_ | refine nw_and ?_ | refine nw_or ?_ | refine nw_and1 ?_ | refine nw_or1 ?_)
  | ((with_reducible refine sh_cmp ?_); refine nd_cmp ?_)
  | ((with_reducible refine sh_chain ?_); refine nd_chain ?_)
  | ((with_reducible refine sh_outR ?_); refine nt_outR (by assumption) ?_)
  | ((with_reducible refine sh_tcmp ?_); refine nt_cmp ?_)
  | ((with_reducible refine sh_tchain ?_); refine nt_chain ?_)
  | ((with_reducible refine sh_tcall ?_); refine nt_val ?_)
  | ((with_reducible refine sh_tname ?_); refine nt_val ?_)
  | ((with_reducible refine sh_slice ?_); (first | (refine nd_sliceT ?_; wtm_at "var"; refine ⟨_, rfl, ?_⟩) | (refine nd_slice ?_; wtm_at "var"; refine ⟨_, rfl, ?_⟩)))
  | ((with_reducible refine sh_bagAt ?_); refine nd_bagAt (by wtm_at "XN") (by wtm_at "idx") (by wtm_at "look") (by wtm_at "vis") ?_; (first | refine Or.inl ⟨rfl, ?_⟩ | refine Or.inr (Or.inl ⟨rfl, ?_⟩) | refine Or.inr (Or.inr (Or.inl ⟨rfl, ?_⟩))))
  | ((with_reducible refine sh_subN ?_); refine nd_subOwn (by wtm_at "XN") (by wtm_at "idx") (by wtm_at "look") ?_)
  | ((with_reducible refine sh_sub ?_); refine nd_sub ?_)
  | ((with_reducible refine sh_cons ?_); (first | refine na_cons ?_ | refine na_star ?_))
  | ((with_reducible refine sh_count ?_); refine nd_count (u65 (by assumption)) ?_)
  | ((with_reducible refine sh_call ?_); wtm_at "c")
  | ((with_reducible refine sh_lc1 ?_); refine nd_lc1 (by wtm_at "XN") (by wtm_at "idx") (by wtm_at "calm") (by decide +kernel) ?_ (by wtm_at "XS"))
  | ((with_reducible refine sh_lc2 ?_); refine nd_lc2 (by wtm_at "XN") (by wtm_at "idx") (by wtm_at "idx") (by wtm_at "calm") (by decide +kernel) ?_ (by wtm_at "XS") (hpg := by wtm_at "pg")))
local macro_rules | `(tactic| wtm_at "pg") => `(tactic| first
  | exact pg_pair (by wtm_at "calm") (by wtm_at "XN") (by wtm_at "idx") (by wtm_at "idx") (by decide +kernel) (by wtm_at "loc") (by wtm_at "loc") (by wtm_at "loc") (by wtm_at "loc")
  | exact fun _ _ _ _ _ => pg_pair (by wtm_at "calm") (by wtm_at "XN") (by wtm_at "idx") (by wtm_at "idx") (by decide +kernel) (by wtm_at "loc") (by wtm_at "loc") (by wtm_at "loc") (by wtm_at "loc"))
local macro_rules | `(tactic| wtm_at "i") => `(tactic| ((with_reducible refine sh_ite ?_); (first | refine iteT ?_ | refine iteF ?_)))
local macro_rules | `(tactic| wtm_at "Brange") => `(tactic| exact Bi.range (by assumption))
local macro_rules | `(tactic| wtm_at "Bzip") => `(tactic| exact Bi.zip (by assumption))
local macro_rules | `(tactic| wtm_at "Ben") => `(tactic| exact Bi.enumerate (by assumption))
local macro_rules | `(tactic| wtm_at "s") => `(tactic| first
  | with_reducible (first | refine es_nil ?_ | refine es_one ?_ | refine es_cons ?_ | refine e1_if ?_ | refine e1_ret ?_ | refine e1_pass ?_ | refine e1_cont ?_)
  | ((with_reducible refine sh_tri ?_); refine e1_tri (by wtm_at "calm") (by wtm_at "XN") (by wtm_at "idx") (by wtm_at "idx") (by wtm_at "idx") (by decide +kernel) (by wtm_at "loc") (by wtm_at "loc") (by wtm_at "loc") (by wtm_at "loc") (by wtm_at "loc") (by wtm_at "loc") ?_))
local macro_rules | `(tactic| wtm_at "seq") => `(tactic| first | (refine ni_list ?_; wtm_at "var"; refine ⟨_, rfl, ?_⟩) | (refine ni_tup ?_; wtm_at "var"; refine ⟨_, rfl, ?_⟩))
local macro_rules | `(tactic| wtm_at "slc1") => `(tactic| refine e1_slc1 (by wtm_at "XN") (by wtm_at "idx") (by wtm_at "idx") (by wtm_at "calm") (by decide +kernel) (by wtm_at "XS") (by exact rfl) ?_)
local macro_rules | `(tactic| wtm_at "slc2") => `(tactic| refine e1_slc2 (by wtm_at "XN") (by wtm_at "idx") (by wtm_at "idx") (by wtm_at "idx") (by wtm_at "calm") (by decide +kernel) (by wtm_at "XS") (by exact rfl) ?_ (by wtm_at "pg"))
local macro_rules | `(tactic| wtm_at "bset") => `(tactic| refine e1_bagSet (by wtm_at "XN") (by wtm_at "idx") (by wtm_at "look") (by wtm_at "vis") ?_)
local macro_rules | `(tactic| wtm_at "badd") => `(tactic| refine e1_bagAdd (by wtm_at "XN") (by wtm_at "idx") (by wtm_at "look") (by wtm_at "vis") ?_)
local macro_rules | `(tactic| wtm_at "M") => `(tactic| first | exact fun _ h => absurd h List.not_mem_nil | (intro q h; rw [List.mem_singleton.mp h]; assumption))
local macro_rules | `(tactic| wtm_at "set") => `(tactic| refine e1_v (by wtm_at "XN") (by wtm_at "idx") (by decide +kernel) ?_ (by wtm_at "loc") (by wtm_at "loc"))
local macro_rules | `(tactic| wtm_at "own") => `(tactic| refine e1_vL (by wtm_at "XN") (by wtm_at "idx") (by decide +kernel) (by wtm_at "M") ?_ (by wtm_at "loc") (by wtm_at "loc"))
local macro_rules | `(tactic| wtm_at "for2") => `(tactic| refine e1_for2 (by wtm_at "XN") (by wtm_at "idx") (by wtm_at "idx") (by decide +kernel) (by wtm_at "calm") PassesOwn.never (by wtm_at "pg") ?_)
local macro_rules | `(tactic| wtm_at "for1") => `(tactic| refine e1_for1 (by wtm_at "XN") (by wtm_at "idx") (by decide +kernel) (by wtm_at "calm") PassesOwn.never (by wtm_at "loc") (by wtm_at "loc") ?_)
local macro_rules | `(tactic| wtm_at "w") => `(tactic| first | wtm_at "e" | wtm_at "b" | wtm_at "i" | wtm_at "s" | wtm_at "g")
local macro_rules | `(tactic| wtm_at "x") => `(tactic| first | wtm_at "e" | wtm_at "b" | wtm_at "i" | wtm_at "g")
local macro_rules | `(tactic| wtm_at "bm") => `(tactic| exact List.mem_of_getElem? (i := 0) (by wtm_at "look"))
local macro_rules | `(tactic| wtm_at "m2") => `(tactic| first
  | exact m2_parN (st := .Pass ⟨0, 0, 0, 0⟩) (by wtm_at "calm") (by wtm_at "XN") (by wtm_at "idx") (by wtm_at "idx") (by decide +kernel) (by decide)
  | exact m2_tupN (st := .Pass ⟨0, 0, 0, 0⟩) (by wtm_at "calm") (by wtm_at "XN") (by wtm_at "idx") (by wtm_at "idx") (by decide +kernel) (by wtm_at "loc") (by wtm_at "loc") (by wtm_at "loc") (by wtm_at "loc"))
local macro_rules | `(tactic| wtm_at "ooov") => `(tactic| refine e1_ooov (by wtm_at "calm") (by wtm_at "XN") (by wtm_at "idx") (by wtm_at "idx") (by wtm_at "idx") (by wtm_at "idx") (by decide +kernel) (by wtm_at "loc") (by wtm_at "loc") (by wtm_at "loc") (by wtm_at "loc") (by wtm_at "loc") (by wtm_at "loc") (by wtm_at "loc") (by wtm_at "loc") (by wtm_at "M") ?_)
-- objects
local macro_rules | `(tactic| wtm_at "slx") => `(tactic| with_reducible (first | exact slx_index | exact slx_layouts | exact slx_lost | exact slx_past | exact slx_plan | exact slx_task | exact slx_told | exact slx_way | exact slx_whole))
local macro_rules | `(tactic| wtm_at "fld") => `(tactic| ((with_reducible refine sh_fld ?_); first
  | refine nd_fldO (by wtm_at "XN") (by wtm_at "idx") (by wtm_at "look") (by wtm_at "vis") (by assumption) (by wtm_at "slx") (by exact rfl) ?_
  | refine nd_fldR (by wtm_at "XN") (by wtm_at "idx") (by wtm_at "look") (by wtm_at "vis") (by assumption) (by wtm_at "slx") (by exact rfl) (by exact rfl) ?_))
local macro_rules | `(tactic| wtm_at "fset") => `(tactic| refine e1_fset (by wtm_at "XN") (by wtm_at "idx") (by wtm_at "look") (by wtm_at "vis") (by assumption) (by wtm_at "slx") ?_)
local macro_rules | `(tactic| wtm_at "e") => `(tactic| wtm_at "fld")
local macro_rules | `(tactic| wtm_at "o") => `(tactic| first | wtm_at "x" | wtm_at "fld")

def tdD : Td → PyData
  | none => .str "?"
  | some o => oD o
abbrev tlD (t : List Td) : PyData := .tuple (t.map tdD)
def wayD (on : Bool) : PyData := .str (if on then "on" else "back")
structure Sto where
  pp : Addr
  ns : List Nat
  o : Ly
  w : Ly
  p : List St1
  on : Bool
  ix : Int
  t : List Td
  wh : List Nat
  past : List PyData
def Sto.fs (s : Sto) : List Fl := [.val (.int s.ix), .val (.list ((lts s.o s.p).map lyD)), .val (.tuple []), .own s.pp s.past, .val (plD s.p), .val (tkD s.ns s.o s.w), .val (tlD s.t), .val (wayD s.on), .val (nsD s.wh)]
def stateD (s : Sto) : PyData := .tuple [wayD s.on, .int s.ix, tlD s.t, nsD s.wh, .tuple []]
theorem lless_td : ∀ t : List Td, llessAll (t.map tdD) = true
  | [] => by rw [List.map_nil]; unfold llessAll; rfl
  | x :: t => by
    rw [List.map_cons]
    unfold llessAll
    rw [lless_td t]
    cases x with
    | none => unfold tdD lless; rfl
    | some o =>
      cases o with
      | none => unfold tdD oD lless; rfl
      | some v => unfold tdD oD lless; rfl
theorem lless_tl (t : List Td) : lless (tlD t) = true := by unfold lless; exact lless_td t
theorem lless_way (b : Bool) : lless (wayD b) = true := by unfold wayD lless; rfl
theorem lless_state (s : Sto) : lless (stateD s) = true := by
  unfold stateD lless llessAll
  rw [lless_way]
  unfold llessAll
  rw [show lless (.int s.ix) = true from by unfold lless; rfl]
  unfold llessAll
  rw [lless_tl]
  unfold llessAll
  rw [lless_ns]
  unfold llessAll
  rw [show lless (.tuple []) = true from by unfold lless llessAll; rfl]
  unfold llessAll
  rfl
section
variable {P : Program} {w : World} {K : PySem.W.Frag} {mg : Str → Option Value} {base : Heap} {C : Addr}
def S_m_state : OSpc := fun fs ds R => ∃ s : Sto, fs = s.fs ∧ ds = [] ∧ R (stateD s)
theorem m_state (D : Md K C "state" "Store.state" s_Store_state) (T : Bi mg) (TC : StC K C) : Mth P w K mg base C 1 "state" (rSp C S_m_state) := by
  refine mth_r D ns_Store_state (fun _ _ _ _ _ _ us hl => match us, hl with | [_], _ => rfl) (fun fs ds R h => ?_) (fun f cdv A outer s H E hr F y dx fs ds R h => ?_)
  · obtain ⟨s', rfl, rfl, q⟩ := h
    rfl
  obtain ⟨s', rfl, rfl, q⟩ := h
  refine es_one ?_
  repeat wtm_at "w"
  exact q
/-- what readers of the stretch that goes on know -/
structure At (s : Sto) (i : Nat) (st : St1) : Prop where
  ix : s.ix = (i : Nat)
  at_ : s.p[i]? = some st
  sz : st.length ≤ 100000
  szp : s.p.length ≤ 90000
  szo : s.o.length ≤ 90000
def S_m_places : OSpc := fun fs ds R => ∃ (s : Sto) (i : Nat) (st : St1), fs = s.fs ∧ ds = [] ∧ At s i st ∧ R (nsD (pls st))
theorem m_places (D : Md K C "places" "Store.places" s_Store_places) (T : Bi mg) (TC : StC K C) (G_places_of : Fk P w K mg base 1 "places_of" (pSp S_places_of)) : Mth P w K mg base C 2 "places" (rSp C S_m_places) := by
  refine mth_r D ns_Store_places (fun _ _ _ _ _ _ us hl => match us, hl with | [_], _ => rfl) (fun fs ds R h => ?_) (fun f cdv A outer s H E hr F y dx fs ds R h => ?_)
  · obtain ⟨s', i, st, rfl, rfl, h1, q⟩ := h
    rfl
  obtain ⟨s', i, st, rfl, rfl, h1, q⟩ := h
  have hlt := (List.getElem?_eq_some_iff.mp h1.at_).1
  have hix := h1.ix
  refine es_cons ?_
  refine e1_if (nt_chain ?_)
  repeat wtm_at "w"
  have e1 : decide ((0 : Int) ≤ s'.ix) = true := decide_eq_true (by omega)
  have e2 : decide (s'.ix < ((s'.p.map stD).length : Nat)) = true := decide_eq_true (by rw [List.length_map]; omega)
  rw [e1]
  repeat wtm_at "w"
  rw [e2]
  repeat wtm_at "w"
  refine nd_call (k := 1) G_places_of hr ?_
  repeat wtm_at "w"
  rw [hix]
  refine ⟨_, atI_map h1.at_, ?_⟩
  repeat wtm_at "w"
  exact ⟨h1.sz, q⟩
def S_m_keep : MSpc := fun fs ds R => ∃ s : Sto, fs = s.fs ∧ ds = [] ∧ s.past.length < 90000 ∧ R .none { s with past := s.past ++ [stateD s] }.fs
theorem m_keep (D : Md K C "keep" "Store.keep" s_Store_keep) (T : Bi mg) (TC : StC K C) (M_state : Mth P w K mg base C 1 "state" (rSp C S_m_state)) : Mth P w K mg base C 2 "keep" (mSp C S_m_keep) := by
  refine mth_m D ns_Store_keep (fun _ _ _ _ _ _ us hl => match us, hl with | [_], _ => rfl) (fun fs ds R h => ?_) (fun f cdv A outer s H E hr F y dx fs ds R hM h => ?_)
  · obtain ⟨s', rfl, rfl, h1, q⟩ := h
    rfl
  obtain ⟨s', rfl, rfl, h1, q⟩ := h
  refine es_one ?_
  refine e1_fapp (by wtm_at "XN") (by wtm_at "idx") (by wtm_at "look") (by wtm_at "vis") (by assumption) (by wtm_at "slx") (by exact rfl) ?_
  refine nd_lendO (i := 0) (j := 0) (by wtm_at "look") (by exact rfl) ?_
  refine nd_rmeth0 (k := 1) M_state (by assumption) hr (by wtm_at "XN") (by wtm_at "idx") (by wtm_at "look") (by wtm_at "vis") ?_
  refine ⟨s', rfl, rfl, lless_state s', by omega, ?_⟩
  exact ⟨_, rfl, q⟩
def S_m_tell : MSpc := fun fs ds R => ∃ (s : Sto) (q : Nat) (x : Td), fs = s.fs ∧ ds = [iD q, tdD x] ∧ q < s.t.length ∧ s.t.length ≤ 90000 ∧ R .none { s with t := s.t.set q x }.fs
theorem set_split {α : Type} (L : List α) (x : α) : ∀ q : Nat, q < L.length → L.take q ++ x :: L.drop (q + 1) = L.set q x := by
  induction L with
  | nil => intro q h; simp at h
  | cons a L ih =>
    intro q h
    cases q with
    | zero => rfl
    | succ q =>
      have := ih q (by simpa using h)
      simpa using this
theorem m_tell (D : Md K C "tell" "Store.tell" s_Store_tell) (T : Bi mg) (TC : StC K C) : Mth P w K mg base C 1 "tell" (mSp C S_m_tell) := by
  refine mth_m D ns_Store_tell (fun _ _ _ _ _ _ us hl => match us, hl with | [_, _, _], _ => rfl) (fun fs ds R h => ?_) (fun f cdv A outer s H E hr F y dx fs ds R hM h => ?_)
  · obtain ⟨s', q', x', rfl, rfl, h1, h2, q⟩ := h
    rfl
  obtain ⟨s', q', x', rfl, rfl, h1, h2, q⟩ := h
  refine es_one ?_
  wtm_at "fset"
  refine nd_tup ?_
  refine na_star ?_
  refine nd_sliceT ?_
  wtm_at "fld"
  refine ⟨_, rfl, ?_⟩
  repeat wtm_at "w"
  refine nd_sliceT ?_
  wtm_at "fld"
  refine ⟨_, rfl, ?_⟩
  repeat wtm_at "w"
  have e1 : ((q' : Nat) : Int) + 1 = ((q' + 1 : Nat) : Int) := by omega
  rw [e1, show cutD (s'.t.map tdD) (some ((q' + 1 : Nat) : Int)) none = (s'.t.drop (q' + 1)).map tdD from (cutD_from _ _).trans List.map_drop.symm, show cutD (s'.t.map tdD) none (some ((q' : Nat) : Int)) = (s'.t.take q').map tdD from (cutD_to _ _).trans List.map_take.symm]
  refine ⟨by simp only [List.length_append, List.length_cons, List.length_map, List.length_take, List.length_drop, List.length_nil]; omega, ?_⟩
  have e2 : (s'.t.take q').map tdD ++ tdD x' :: ((s'.t.drop (q' + 1)).map tdD ++ []) = (s'.t.set q' x').map tdD := by
    rw [List.append_nil, ← set_split s'.t x' q' h1, List.map_append, List.map_cons]
  rw [e2]
  exact ⟨_, rfl, q⟩
def S_m_drop_whole : MSpc := fun fs ds R => ∃ (s : Sto) (q : Nat), fs = s.fs ∧ ds = [iD q] ∧ s.wh.length ≤ 100000 ∧ R .none { s with wh := s.wh.filter fun x => !decide (x = q) }.fs
theorem m_drop_whole (D : Md K C "drop_whole" "Store.drop_whole" s_Store_drop_whole) (T : Bi mg) (TC : StC K C) : Mth P w K mg base C 1 "drop_whole" (mSp C S_m_drop_whole) := by
  refine mth_m D ns_Store_drop_whole (fun _ _ _ _ _ _ us hl => match us, hl with | [_, _], _ => rfl) (fun fs ds R h => ?_) (fun f cdv A outer s H E hr F y dx fs ds R hM h => ?_)
  · obtain ⟨s', q', rfl, rfl, h1, q⟩ := h
    rfl
  obtain ⟨s', q', rfl, rfl, h1, q⟩ := h
  refine es_one ?_
  wtm_at "fset"
  refine nd_tupc (by assumption) ?_
  repeat wtm_at "w"
  refine ni_tup ?_
  wtm_at "fld"
  refine ⟨_, rfl, ?_⟩
  refine lc_map (enc := iD) (t := fun x => !decide (x = q')) (f := iD) h1 (fun a ha => tgn_name fun s0 H0 C' cl fp => ?_) ?_
  · refine nts_one ?_
    repeat wtm_at "w"
    refine ⟨?_, fun _ => ?_⟩
    · have : ((a : Int) = (q' : Nat)) ↔ a = q' := by omega
      simp [this]
    · intro s2 H2 C2 cl2 fp2
      repeat wtm_at "w"
      rfl
  refine ⟨_, rfl, ?_⟩
  exact ⟨_, rfl, q⟩
def S_m_check_place : OSpc := fun fs ds R => ∃ (s : Sto) (i : Nat) (st : St1) (q : Nat), fs = s.fs ∧ ds = [iD q] ∧ At s i st ∧ q ∈ pls st ∧ R (nsD (pls st))
theorem m_check_place (D : Md K C "check_place" "Store.check_place" s_Store_check_place) (T : Bi mg) (TC : StC K C) (M_places : Mth P w K mg base C 2 "places" (rSp C S_m_places)) (G_is_integer : Fk P w K mg base 1 "is_integer" (pSp S_is_integer)) : Mth P w K mg base C 3 "check_place" (rSp C S_m_check_place) := by
  refine mth_r D ns_Store_check_place (fun _ _ _ _ _ _ us hl => match us, hl with | [_, _], _ => rfl) (fun fs ds R h => ?_) (fun f cdv A outer s H E hr F y dx fs ds R h => ?_)
  · obtain ⟨s', i, st, q', rfl, rfl, h1, h2, q⟩ := h
    rfl
  obtain ⟨s', i, st, q', rfl, rfl, h1, h2, q⟩ := h
  refine es_cons ?_
  wtm_at "set"
  refine nd_rmeth0 (k := 2) M_places (by assumption) hr (by wtm_at "XN") (by wtm_at "idx") (by wtm_at "look") (by wtm_at "vis") ?_
  refine ⟨s', i, st, rfl, rfl, h1, ?_⟩
  refine es_cons ?_
  repeat wtm_at "w"
  refine nd_call (k := 2) G_is_integer hr ?_
  repeat wtm_at "w"
  refine cmp_notIn (.inr rfl) rfl (flat_iD _) ?_
  rw [any_iD, decide_eq_true h2]
  repeat wtm_at "w"
  refine cmp_in (.inr rfl) rfl rfl ?_
  repeat wtm_at "w"
  exact q
end


set_option Elab.async false
set_option linter.all false
set_option maxRecDepth 100000
set_option maxHeartbeats 2000000
set_option pp.maxSteps 400
/-! Wm.SB: a Store written, cut, marked, turned. -/



theorem sh_way (b : Bool) : SeqAt.shaped (wayD b) = true := by cases b <;> decide +kernel
theorem sh_on : SeqAt.shaped (.str "on") = true := by decide +kernel
theorem sh_td (x : Td) : SeqAt.shaped (tdD x) = true := by
  cases x with
  | none => decide +kernel
  | some o => exact shF (flat_o o)
theorem eqv_td (x : Td) (o : Option Nat) : PyData.eqv (tdD x) (oD o) = decide (x = some o) := by
  cases x with
  | none => cases o <;> simp [tdD, oD, PyData.eqv]
  | some a =>
    show PyData.eqv (oD a) (oD o) = _
    rw [eqv_oo]
    by_cases h : a = o
    · subst h; simp
    · have : ¬ some a = some o := fun e => h (Option.some.inj e)
      simp [h]
theorem eqv_way (b : Bool) : PyData.eqv (wayD b) (.str "on") = b := by
  cases b <;> decide
theorem lts_lay {o : Ly} {p : List St1} {i : Nat} (h : i ≤ p.length) : ((lts o p).map lyD)[i]? = some (lyD (lay o p i)) := by
  rw [List.getElem?_map, lts_at o p h]
  rfl
theorem sortN {L : List Nat} {ns : List Int} (h : ns.Perm (L.map fun n : Nat => (n : Int))) : ∃ L' : List Nat, L'.Perm L ∧ ns.map PyData.int = L'.map iD := by
  obtain ⟨L', p, e⟩ := perm_map_inv (fun n : Nat => (n : Int)) h
  exact ⟨L', p, by rw [e, List.map_map]; rfl⟩
section
variable {P : Program} {w : World} {K : PySem.W.Frag} {mg : Str → Option Value} {base : Heap} {C : Addr}
def S_m_write : MSpc := fun fs ds R => ∃ (s : Sto) (i : Nat) (st : St1) (q : Nat), fs = s.fs ∧ ds = [iD q] ∧ At s i st ∧ q ∈ pls st ∧ q < s.o.length ∧ s.t.length = s.o.length ∧ s.wh.length ≤ 90000 ∧ s.past.length < 90000 ∧
  (∀ v, gt (legB s.o s.p s.on i) q = some v → ∃ r, r ∉ pls st ∧ s.t[r]? = some (some (some v))) ∧
  ∀ wh', wh'.Perm ((s.wh.filter fun x => !decide (x = q)) ++ [q]) → R .none { s with past := s.past ++ [stateD s], t := s.t.set q (some (gt (legB s.o s.p s.on i) q)), wh := wh' }.fs
theorem m_write (D : Md K C "write" "Store.write" s_Store_write) (T : Bi mg) (TC : StC K C) (M_check_place : Mth P w K mg base C 3 "check_place" (rSp C S_m_check_place)) (M_keep : Mth P w K mg base C 2 "keep" (mSp C S_m_keep)) (M_tell : Mth P w K mg base C 1 "tell" (mSp C S_m_tell)) (M_drop_whole : Mth P w K mg base C 1 "drop_whole" (mSp C S_m_drop_whole)) : Mth P w K mg base C 4 "write" (mSp C S_m_write) := by
  refine mth_m D ns_Store_write (fun _ _ _ _ _ _ us hl => match us, hl with | [_, _], _ => rfl) (fun fs ds R h => ?_) (fun f cdv A outer s H E hr F y dx fs ds R hM h => ?_)
  · obtain ⟨s', i, st, q', rfl, rfl, h1, h2, h3, h4, h5, h6, h7, q⟩ := h
    rfl
  obtain ⟨s', i, st, q', rfl, rfl, h1, h2, h3, h4, h5, h6, h7, q⟩ := h
  have hlt := (List.getElem?_eq_some_iff.mp h1.at_).1
  have hix := h1.ix
  have hso := h1.szo
  refine es_cons ?_
  wtm_at "set"
  refine nd_lendO (i := 0) (j := 0) (by wtm_at "look") (by exact rfl) ?_
  refine nd_rmeth (k := 3) M_check_place (by assumption) hr (by wtm_at "XN") (by wtm_at "idx") (by wtm_at "look") (by wtm_at "vis") ?_
  repeat wtm_at "w"
  refine ⟨s', i, st, q', rfl, rfl, h1, h2, lless_ns _, ?_⟩
  refine es_cons ?_
  wtm_at "set"
  refine Nd.mono (P := fun d => d = oD (gt (legB s'.o s'.p s'.on i) q')) ?_ (fun dw hd => ?_)
  · refine nd_sub ?_
    refine nd_sub ?_
    wtm_at "fld"
    refine ⟨_, rfl, ?_⟩
    refine nd_bin ?_
    wtm_at "fld"
    refine nd_intA (by assumption) ?_
    refine nd_cmp ?_
    wtm_at "fld"
    repeat wtm_at "w"
    refine cmp_eq hr.units (sh_way _) sh_on ?_
    rw [eqv_way]
    refine .inr ⟨_, rfl, ?_⟩
    refine bin_add ?_
    have e1 : s'.ix + (if s'.on = true then (1 : Int) else 0) = (((if s'.on = true then i + 1 else i : Nat)) : Int) := by
      rw [hix]
      split <;> omega
    rw [e1]
    refine ⟨_, rfl, lyD (legB s'.o s'.p s'.on i), ?_, ?_⟩
    · have hle : (if s'.on = true then i + 1 else i) ≤ s'.p.length := by split <;> omega
      refine atI_nat ((lts_lay hle).trans ?_)
      unfold legB
      split <;> rfl
    have hlg : q' < (legB s'.o s'.p s'.on i).length := by
      unfold legB
      split <;> (rw [lay_len]; exact h3)
    refine ⟨_, rfl, ?_⟩
    repeat wtm_at "w"
    exact ⟨_, atI_map (gt_get hlg), rfl⟩
  subst hd
  obtain ⟨wt, hwt⟩ : ∃ x, x = gt (legB s'.o s'.p s'.on i) q' := ⟨_, rfl⟩
  rw [← hwt] at h7 q ⊢
  refine es_cons ?_
  first | wtm_at "slc2" | wtm_at "set"
  refine ni_enumT (by wtm_at "Ben") ?_
  wtm_at "fld"
  refine ⟨_, rfl, ?_⟩
  rw [enumD_map]
  refine lc_map (t := fun p => decide (p.1 = some wt) && !decide (p.2 ∈ pls st)) (f := fun p => iD p.2) (by rw [List.length_zipIdx]; omega) (fun a ha => tgn_pair fun s0 H0 C' cl fp => ?_) ?_
  · refine nts_one ?_
    repeat wtm_at "w"
    refine cmp_eq hr.units (sh_td _) (shF (flat_o _)) ?_
    rw [eqv_td]
    refine ⟨_, rfl, ifB (fun hc => ?_) (fun hc => ?_)⟩
    · rw [hc]
      repeat wtm_at "w"
      refine cmp_notIn (.inr rfl) rfl (flat_iD _) ?_
      rw [any_iD]
      refine ⟨_, rfl, rfl, fun _ => ?_⟩
      intro s2 H2 C2 cl2 fp2
      repeat wtm_at "w"
      rfl
    · rw [hc]
      exact ⟨rfl, fun h => by cases h⟩
  have hne : wt ≠ none → ((s'.t.zipIdx.filter fun p => decide (p.1 = some wt) && !decide (p.2 ∈ pls st)).map fun p => iD p.2).isEmpty = false := fun hw => by
    cases wt with
    | none => exact absurd rfl hw
    | some v =>
      obtain ⟨r, r1, r2⟩ := h7 v rfl
      have hm : (some (some v), r) ∈ s'.t.zipIdx.filter fun p => decide (p.1 = some (some v)) && !decide (p.2 ∈ pls st) := by
        rw [List.mem_filter]
        refine ⟨List.mem_of_getElem? (i := r) (by rw [List.getElem?_zipIdx, r2]; simp), by simp [r1]⟩
      cases e : (s'.t.zipIdx.filter fun p => decide (p.1 = some (some v)) && !decide (p.2 ∈ pls st)) with
      | nil => rw [e] at hm; simp at hm
      | cons a L => rfl
  have hsh : SeqAt.shaped (.list ((s'.t.zipIdx.filter fun p => decide (p.1 = some wt) && !decide (p.2 ∈ pls st)).map fun p => iD p.2)) = true := sh_flat (by rw [List.all_map, List.all_eq_true]; intro _ _; rfl)
  obtain ⟨srcL, hsl⟩ : ∃ x, x = ((s'.t.zipIdx.filter fun p => decide (p.1 = some wt) && !decide (p.2 ∈ pls st)).map fun p => iD p.2) := ⟨_, rfl⟩
  rw [← hsl] at hne hsh ⊢
  refine es_cons ?_
  refine e1_if ?_
  refine Nt.mono (P := fun b => b = false) ?_ (fun b hb => ?_)
  · refine nt_and ?_
    refine nt_cmp ?_
    repeat wtm_at "w"
    rw [isN_o]
    cases wt with
    | none => exact iteF rfl
    | some v =>
      refine iteT ?_
      refine nw_and1 ?_
      refine nt_cmp ?_
      repeat wtm_at "w"
      refine cmp_eqNil hr hsh ?_
      exact ⟨_, rfl, hne (by simp)⟩
  subst hb
  refine iteF ?_
  refine es_nil ?_
  refine es_cons ?_
  refine e1_meth0 (k := 3) M_keep (by assumption) hr (by wtm_at "XN") (by wtm_at "idx") (by wtm_at "look") (by wtm_at "vis") ?_
  refine ⟨s', rfl, rfl, h6, ?_⟩
  refine es_cons ?_
  refine e1_meth (k := 3) M_tell (by assumption) hr (by wtm_at "XN") (by wtm_at "idx") (by wtm_at "look") (by wtm_at "vis") ?_
  repeat wtm_at "w"
  refine ⟨{ s' with past := s'.past ++ [stateD s'] }, q', some wt, rfl, rfl, by show q' < s'.t.length; omega, by show s'.t.length ≤ 90000; omega, ?_⟩
  refine es_cons ?_
  refine e1_meth (k := 3) M_drop_whole (by assumption) hr (by wtm_at "XN") (by wtm_at "idx") (by wtm_at "look") (by wtm_at "vis") ?_
  repeat wtm_at "w"
  refine ⟨{ s' with past := s'.past ++ [stateD s'], t := s'.t.set q' (some wt) }, q', rfl, rfl, by show s'.wh.length ≤ 100000; omega, ?_⟩
  refine es_one ?_
  wtm_at "fset"
  refine nd_tupc (by assumption) ?_
  refine nd_sortedI (by assumption) ?_
  refine nd_lst ?_
  refine na_star ?_
  wtm_at "fld"
  refine ⟨_, .inr rfl, ?_⟩
  repeat wtm_at "w"
  have hfl : (s'.wh.filter fun x => !decide (x = q')).length ≤ s'.wh.length := List.length_filter_le _ _
  refine ⟨by rw [List.length_append, List.length_map]; simp only [List.length_cons, List.length_nil]; omega, ?_⟩
  refine ⟨((s'.wh.filter fun x => !decide (x = q')) ++ [q']).map fun n : Nat => (n : Int), by rw [List.map_append, List.map_append, List.map_map]; rfl, fun ns' hp _ => ?_⟩
  obtain ⟨wh', hp2, e2⟩ := sortN hp
  rw [e2]
  refine ⟨_, rfl, ?_⟩
  exact ⟨_, rfl, q wh' hp2⟩
def S_m_cut : MSpc := fun fs ds R => ∃ (s : Sto) (i : Nat) (st : St1), fs = s.fs ∧ ds = [] ∧ At s i st ∧ (∀ q ∈ pls st, q < s.t.length) ∧ s.t.length ≤ 90000 ∧ s.past.length < 90000 ∧
  ∀ t' : List Td, t'.length = s.t.length → (∀ j : Nat, j ∉ pls st → t'[j]? = s.t[j]?) → R .none { s with past := s.past ++ [stateD s], t := t', wh := [] }.fs
theorem m_cut (D : Md K C "cut" "Store.cut" s_Store_cut) (T : Bi mg) (TC : StC K C) (M_places : Mth P w K mg base C 2 "places" (rSp C S_m_places)) (M_keep : Mth P w K mg base C 2 "keep" (mSp C S_m_keep)) (M_tell : Mth P w K mg base C 1 "tell" (mSp C S_m_tell)) : Mth P w K mg base C 3 "cut" (mSp C S_m_cut) := by
  refine mth_m D ns_Store_cut (fun _ _ _ _ _ _ us hl => match us, hl with | [_], _ => rfl) (fun fs ds R h => ?_) (fun f cdv A outer s H E hr F y dx fs ds R hM h => ?_)
  · obtain ⟨s', i, st, rfl, rfl, h1, h2, h3, h4, q⟩ := h
    rfl
  obtain ⟨s', i, st, rfl, rfl, h1, h2, h3, h4, q⟩ := h
  refine es_cons ?_
  wtm_at "set"
  refine nd_lendO (i := 0) (j := 0) (by wtm_at "look") (by exact rfl) ?_
  refine nd_rmeth0 (k := 2) M_places (by assumption) hr (by wtm_at "XN") (by wtm_at "idx") (by wtm_at "look") (by wtm_at "vis") ?_
  refine ⟨s', i, st, rfl, rfl, h1, lless_ns _, ?_⟩
  refine es_one ?_
  refine e1_if ?_
  refine nt_cmp ?_
  repeat wtm_at "w"
  refine e1_meth0 (k := 2) M_keep (by assumption) hr (by wtm_at "XN") (by wtm_at "idx") (by wtm_at "look") (by wtm_at "vis") ?_
  refine ⟨s', rfl, rfl, h4, ?_⟩
  refine es_cons ?_
  wtm_at "for1"
  refine ni_tup ?_
  repeat wtm_at "w"
  refine ⟨fun n Γ2 => ∃ (t' : List Td) (s2 : Sd), Γ2 = [.obj y dx C { s' with past := s'.past ++ [stateD s'], t := t' }.fs, .val (nsD (pls st)), s2] ∧ t'.length = s'.t.length ∧ ∀ j : Nat, j ∉ pls st → t'[j]? = s'.t[j]?, ⟨s'.t, .no, rfl, rfl, fun _ _ => rfl⟩, ?_, ?_⟩
  · rintro n d Γ2 hd ⟨t', s2, rfl, ht1, ht2⟩
    rw [List.getElem?_map] at hd
    cases hc : (pls st)[n]? with
    | none => rw [hc] at hd; cases hd
    | some q' =>
      rw [hc] at hd
      cases hd
      have hm := List.mem_of_getElem? hc
      have hlt := h2 q' hm
      refine es_one ?_
      refine e1_meth (k := 2) M_tell (by assumption) hr (by wtm_at "XN") (by wtm_at "idx") (by wtm_at "look") (by wtm_at "vis") ?_
      repeat wtm_at "w"
      refine ⟨{ s' with past := s'.past ++ [stateD s'], t := t' }, q', none, rfl, rfl, by show q' < t'.length; omega, by show t'.length ≤ 90000; omega, ?_⟩
      refine ⟨t'.set q' none, _, rfl, by rw [List.length_set]; exact ht1, fun j hj => ?_⟩
      rw [List.getElem?_set_ne (show q' ≠ j from fun e => hj (e ▸ hm))]
      exact ht2 j hj
  · rintro Γ2 ⟨t', s2, rfl, ht1, ht2⟩
    refine es_one ?_
    wtm_at "fset"
    repeat wtm_at "w"
    exact q t' ht1 ht2
def S_m_left : OSpc := fun fs ds R => ∃ (s : Sto) (i : Nat) (st : St1), fs = s.fs ∧ ds = [] ∧ At s i st ∧ R (nsD ((pls st).filter fun q => !decide (q ∈ s.wh)))
theorem m_left (D : Md K C "left" "Store.left" s_Store_left) (T : Bi mg) (TC : StC K C) (M_places : Mth P w K mg base C 2 "places" (rSp C S_m_places)) : Mth P w K mg base C 3 "left" (rSp C S_m_left) := by
  refine mth_r D ns_Store_left (fun _ _ _ _ _ _ us hl => match us, hl with | [_], _ => rfl) (fun fs ds R h => ?_) (fun f cdv A outer s H E hr F y dx fs ds R h => ?_)
  · obtain ⟨s', i, st, rfl, rfl, h1, q⟩ := h
    rfl
  obtain ⟨s', i, st, rfl, rfl, h1, q⟩ := h
  have hsz := h1.sz
  refine es_cons ?_
  wtm_at "set"
  refine nd_rmeth0 (k := 2) M_places (by assumption) hr (by wtm_at "XN") (by wtm_at "idx") (by wtm_at "look") (by wtm_at "vis") ?_
  refine ⟨s', i, st, rfl, rfl, h1, ?_⟩
  repeat wtm_at "w"
  refine ni_tup ?_
  repeat wtm_at "w"
  refine lc_map (enc := iD) (t := fun q => !decide (q ∈ s'.wh)) (f := iD) (by unfold pls; rw [List.length_map]; exact hsz) (fun a ha => tgn_name fun s0 H0 C' cl fp => ?_) ?_
  · refine nts_one ?_
    repeat wtm_at "w"
    refine cmp_notIn (.inr rfl) rfl (flat_iD _) ?_
    rw [any_iD]
    refine ⟨_, rfl, ifB (fun hc => ?_) (fun hc => ?_)⟩
    · rw [hc]
      repeat wtm_at "w"
      refine cmp_notIn (.inr rfl) rfl rfl ?_
      refine ⟨_, rfl, rfl, fun _ => ?_⟩
      intro s2 H2 C2 cl2 fp2
      repeat wtm_at "w"
      rfl
    · rw [hc]
      exact ⟨rfl, fun h => by cases h⟩
  repeat wtm_at "w"
  exact q
def S_m_mark : MSpc := fun fs ds R => ∃ (s : Sto) (i : Nat) (st : St1), fs = s.fs ∧ ds = [] ∧ At s i st ∧ (∀ q ∈ pls st, q ∈ s.wh) ∧ s.past.length < 90000 ∧ R .none { s with past := s.past ++ [stateD s], ix := s.ix + (if s.on = true then 1 else -1), wh := [] }.fs
theorem m_mark (D : Md K C "mark" "Store.mark" s_Store_mark) (T : Bi mg) (TC : StC K C) (M_places : Mth P w K mg base C 2 "places" (rSp C S_m_places)) (M_left : Mth P w K mg base C 3 "left" (rSp C S_m_left)) (M_keep : Mth P w K mg base C 2 "keep" (mSp C S_m_keep)) : Mth P w K mg base C 4 "mark" (mSp C S_m_mark) := by
  refine mth_m D ns_Store_mark (fun _ _ _ _ _ _ us hl => match us, hl with | [_], _ => rfl) (fun fs ds R h => ?_) (fun f cdv A outer s H E hr F y dx fs ds R hM h => ?_)
  · obtain ⟨s', i, st, rfl, rfl, h1, h2, h3, q⟩ := h
    rfl
  obtain ⟨s', i, st, rfl, rfl, h1, h2, h3, q⟩ := h
  refine es_cons ?_
  refine e1_if ?_
  refine nt_cmp ?_
  refine nd_lendO (i := 0) (j := 0) (by wtm_at "look") (by exact rfl) ?_
  refine nd_rmeth0 (k := 3) M_places (by assumption) hr (by wtm_at "XN") (by wtm_at "idx") (by wtm_at "look") (by wtm_at "vis") ?_
  refine ⟨s', i, st, rfl, rfl, h1, lless_ns _, ?_⟩
  repeat wtm_at "w"
  wtm_at "set"
  refine nd_lendO (i := 0) (j := 0) (by wtm_at "look") (by exact rfl) ?_
  refine nd_rmeth0 (k := 3) M_left (by assumption) hr (by wtm_at "XN") (by wtm_at "idx") (by wtm_at "look") (by wtm_at "vis") ?_
  refine ⟨s', i, st, rfl, rfl, h1, lless_ns _, ?_⟩
  have e0 : ((pls st).filter fun q => !decide (q ∈ s'.wh)) = [] := by
    rw [List.filter_eq_nil_iff]
    intro a ha
    simp [h2 a ha]
  rw [e0]
  refine es_cons ?_
  refine e1_if ?_
  refine nt_cmp ?_
  repeat wtm_at "w"
  refine cmp_ne hr.units (by rfl) (by rfl) ?_
  refine ⟨_, rfl, ?_⟩
  refine iteF ?_
  refine es_nil ?_
  refine es_cons ?_
  refine e1_meth0 (k := 3) M_keep (by assumption) hr (by wtm_at "XN") (by wtm_at "idx") (by wtm_at "look") (by wtm_at "vis") ?_
  refine ⟨s', rfl, rfl, h3, ?_⟩
  refine es_cons ?_
  refine e1_faug (n := s'.ix) (by wtm_at "XN") (by wtm_at "idx") (by wtm_at "look") (by wtm_at "vis") (by assumption) (by wtm_at "slx") (by exact rfl) ?_
  refine nd_if ?_
  refine nt_cmp ?_
  wtm_at "fld"
  repeat wtm_at "w"
  refine cmp_eq hr.units (sh_way _) sh_on ?_
  rw [eqv_way]
  refine ⟨_, rfl, ifB (fun hc => ?_) (fun hc => ?_)⟩
  · repeat wtm_at "w"
    wtm_at "fset"
    repeat wtm_at "w"
    rw [show (if s'.on = true then (1 : Int) else -1) = 1 from by rw [hc]; rfl] at q
    exact q
  · repeat wtm_at "w"
    wtm_at "fset"
    repeat wtm_at "w"
    rw [show (if s'.on = true then (1 : Int) else -1) = -1 from by rw [hc]; rfl] at q
    exact q
def S_m_turn : MSpc := fun fs ds R => ∃ (s : Sto), fs = s.fs ∧ ds = [] ∧ s.on = true ∧ s.ix = (s.p.length : Nat) ∧ s.past.length < 90000 ∧ R .none { s with past := s.past ++ [stateD s], on := false, ix := (s.p.length : Int) - 1, wh := [] }.fs
theorem m_turn (D : Md K C "turn" "Store.turn" s_Store_turn) (T : Bi mg) (TC : StC K C) (M_keep : Mth P w K mg base C 2 "keep" (mSp C S_m_keep)) : Mth P w K mg base C 3 "turn" (mSp C S_m_turn) := by
  refine mth_m D ns_Store_turn (fun _ _ _ _ _ _ us hl => match us, hl with | [_], _ => rfl) (fun fs ds R h => ?_) (fun f cdv A outer s H E hr F y dx fs ds R hM h => ?_)
  · obtain ⟨s', rfl, rfl, h1, h2, h3, q⟩ := h
    rfl
  obtain ⟨s', rfl, rfl, h1, h2, h3, q⟩ := h
  refine es_cons ?_
  refine e1_meth0 (k := 2) M_keep (by assumption) hr (by wtm_at "XN") (by wtm_at "idx") (by wtm_at "look") (by wtm_at "vis") ?_
  refine ⟨s', rfl, rfl, h3, ?_⟩
  refine es_cons ?_
  refine e1_if ?_
  refine nt_cmp ?_
  wtm_at "fld"
  repeat wtm_at "w"
  refine cmp_eq hr.units (sh_way _) sh_on ?_
  rw [eqv_way]
  show ∃ k, PyData.bool s'.on = _ ∧ _
  rw [h1]
  refine ⟨_, rfl, iteT ?_⟩
  refine es_one ?_
  refine e1_fset2 (by wtm_at "calm") (by wtm_at "XN") (by wtm_at "idx") (by wtm_at "look") (by wtm_at "vis") (by assumption) (by wtm_at "slx") (by wtm_at "slx") ?_
  repeat wtm_at "w"
  rw [h2, List.length_map]
  rw [if_pos (by show ((s'.p.length : Nat) : Int) - 1 < (s'.p.length : Nat); omega)]
  wtm_at "fset"
  repeat wtm_at "w"
  exact q
def S_shown : OSpc := fun fs ds R => ∃ s : Sto, fs = s.fs ∧ ds = [] ∧ R (tlD s.t)
theorem k_shown (D : Fd K mg "shown" s_shown) (T : Bi mg) (TC : StC K C) : Fk P w K mg base 1 "shown" (rSp C S_shown) := by
  refine fk_r D ns_shown (fun _ _ _ _ _ _ us hl => match us, hl with | [_], _ => rfl) (fun fs ds R h => ?_) (fun f cdv A outer s H E hr F y dx fs ds R h => ?_)
  · obtain ⟨s', rfl, rfl, q⟩ := h
    rfl
  obtain ⟨s', rfl, rfl, q⟩ := h
  refine es_one ?_
  repeat wtm_at "w"
  exact q
def S_readers : OSpc := fun fs ds R => ∃ (s : Sto) (v : Nat), fs = s.fs ∧ ds = [iD v] ∧ s.t.length ≤ 90000 ∧ ∀ L : List Nat, L.length = rds s.t v → R (nsD L)
theorem rds_filter (t : List Td) (v : Nat) : (t.zipIdx.filter fun p => decide (p.1 = some (some v))).length = rds t v := by
  unfold rds
  have e : t = t.zipIdx.map (·.1) := by rw [List.zipIdx_map_fst]
  conv => rhs; rw [e, List.countP_map]
  rw [List.countP_eq_length_filter]
  rfl
theorem k_readers (D : Fd K mg "readers" s_readers) (T : Bi mg) (TC : StC K C) : Fk P w K mg base 1 "readers" (rSp C S_readers) := by
  refine fk_r D ns_readers (fun _ _ _ _ _ _ us hl => match us, hl with | [_, _], _ => rfl) (fun fs ds R h => ?_) (fun f cdv A outer s H E hr F y dx fs ds R h => ?_)
  · obtain ⟨s', v, rfl, rfl, h1, q⟩ := h
    rfl
  obtain ⟨s', v, rfl, rfl, h1, q⟩ := h
  refine es_one ?_
  repeat wtm_at "w"
  refine ni_enumT (by wtm_at "Ben") ?_
  wtm_at "fld"
  refine ⟨_, rfl, ?_⟩
  rw [enumD_map]
  refine lc_map (t := fun p => decide (p.1 = some (some v))) (f := fun p => iD p.2) (by rw [List.length_zipIdx]; omega) (fun a ha => tgn_pair fun s0 H0 C' cl fp => ?_) ?_
  · refine nts_one ?_
    refine nt_cmp ?_
    repeat wtm_at "w"
    refine cmp_eq hr.units (sh_td _) (shF (flat_o (some v))) ?_
    refine ⟨_, rfl, eqv_td _ (some v), fun _ => ?_⟩
    intro s2 H2 C2 cl2 fp2
    repeat wtm_at "w"
    rfl
  repeat wtm_at "w"
  have := q ((s'.t.zipIdx.filter fun p => decide (p.1 = some (some v))).map (·.2)) (by rw [List.length_map]; exact rds_filter _ _)
  unfold nsD at this
  rw [List.map_map] at this
  exact this
def S_left_to_write : OSpc := fun fs ds R => ∃ (s : Sto) (i : Nat) (st : St1), fs = s.fs ∧ ds = [] ∧ At s i st ∧ R (nsD ((pls st).filter fun q => !decide (q ∈ s.wh)))
theorem k_left_to_write (D : Fd K mg "left_to_write" s_left_to_write) (T : Bi mg) (TC : StC K C) (M_left : Mth P w K mg base C 3 "left" (rSp C S_m_left)) : Fk P w K mg base 4 "left_to_write" (rSp C S_left_to_write) := by
  refine fk_r D ns_left_to_write (fun _ _ _ _ _ _ us hl => match us, hl with | [_], _ => rfl) (fun fs ds R h => ?_) (fun f cdv A outer s H E hr F y dx fs ds R h => ?_)
  · obtain ⟨s', i, st, rfl, rfl, h1, q⟩ := h
    rfl
  obtain ⟨s', i, st, rfl, rfl, h1, q⟩ := h
  refine es_one (e1_ret ?_)
  refine nd_rmeth0 (k := 3) M_left (by assumption) hr (by wtm_at "XN") (by wtm_at "idx") (by wtm_at "look") (by wtm_at "vis") ?_
  exact ⟨s', i, st, rfl, rfl, h1, q⟩
end


set_option Elab.async false
set_option linter.all false
set_option maxRecDepth 100000
set_option maxHeartbeats 2000000
set_option pp.maxSteps 400
/-! Wm.SC: a Store made, led. -/



section
variable {P : Program} {w : World} {K : PySem.W.Frag} {mg : Str → Option Value} {base : Heap} {C : Addr}
def S_init : MSpc := fun fs ds R => ∃ (ns : List Nat) (o w : Ly) (p : List St1), fs = [] ∧ ds = [tkD ns o w, plD p] ∧ Tk ns o w ∧ PlOk o.length p ∧ canP o p ∧ wantedB w (ledP o p) = true ∧ o.length ≤ 90000 ∧ p.length ≤ 90000 ∧ ∀ pp, R .none (Sto.mk pp ns o w p true 0 (o.map some) [] []).fs
theorem m_init (D : ∃ f fd, Fun K "__init__" "Store.__init__" s_Store_init f fd ∧ Mk K C f) (T : Bi mg) (TC : StC K C) (G_is_task : Fk P w K mg base 5 "is_task" (pSp S_is_task)) (G_is_plan : Fk P w K mg base 5 "is_plan" (pSp S_is_plan)) (G_does : Fk P w K mg base 2 "does" (pSp S_does)) (G_led : Fk P w K mg base 1 "led" (pSp S_led)) : InitOk P w K mg base C 6 S_init := by
  obtain ⟨f, fd, F0, M⟩ := D
  refine ⟨f, fd, ["self", "task", "plan"], M, mbody F0 ns_Store_init (fun fs ds R h => ?_) (fun f cdv A outer s H E hr F y dx fs ds R hM h => ?_), F0.binds (fun _ _ _ _ _ _ us hl => match us, hl with | [_, _, _], _ => rfl)⟩
  · obtain ⟨ns, o, w', p, rfl, rfl, _⟩ := h
    rfl
  obtain ⟨ns, o, w', p, rfl, rfl, tk, pk, hcan, hwant, hso, hsp, q⟩ := h
  have hbd : bdP o.length p := fun s m => ⟨fun c hc => ⟨(pk.cp s m c hc).1, (pk.cp s m c hc).2.1⟩, pk.sz s m⟩
  refine es_cons ?_
  repeat wtm_at "w"
  refine nd_call (k := 5) G_is_task hr ?_
  repeat wtm_at "w"
  refine ⟨tk, ?_⟩
  repeat wtm_at "w"
  refine nd_call (k := 5) G_is_plan hr ?_
  repeat wtm_at "w"
  refine ⟨by rw [List.length_map]; exact pk, ?_⟩
  repeat wtm_at "w"
  refine nd_call (k := 5) G_does hr ?_
  repeat wtm_at "w"
  refine ⟨hbd, hcan, by rw [tk.len]; exact Nat.le_refl _, hso, ?_⟩
  rw [hwant]
  repeat wtm_at "w"
  refine e1_fset2 (by wtm_at "calm") (by wtm_at "XN") (by wtm_at "idx") (by wtm_at "look") (by wtm_at "vis") (by assumption) (by wtm_at "slx") (by wtm_at "slx") ?_
  repeat wtm_at "w"
  refine e1_fsetL (by wtm_at "XN") (by wtm_at "idx") (by wtm_at "look") (by wtm_at "vis") (by assumption) (by wtm_at "slx") hM ?_
  refine nl_lst ?_
  repeat wtm_at "w"
  intro qa hqa
  refine es_cons ?_
  wtm_at "for1"
  refine ni_tup ?_
  repeat wtm_at "w"
  refine ⟨fun n Γ2 => ∃ s3 : Sd, Γ2 = [.obj y dx C [.no, .own qa ((lts o (p.take n)).map lyD), .no, .no, .val (plD p), .val (tkD ns o w')], .val (tkD ns o w'), .val (plD p), s3], ⟨.no, rfl⟩, ?_, ?_⟩
  · rintro n d Γ2 hd ⟨s3, rfl⟩
    rw [List.getElem?_map] at hd
    cases hs : p[n]? with
    | none => rw [hs] at hd; cases hd
    | some st =>
      rw [hs] at hd
      cases hd
      have hm := List.mem_of_getElem? hs
      have hlt := (List.getElem?_eq_some_iff.mp hs).1
      have hlast : atI ((lts o (p.take n)).map lyD) (-1) = some (lyD (ledP o (p.take n))) := by
        refine atI_last ?_
        rw [List.length_map, lts_len, List.length_take, List.getElem?_map, Nat.add_sub_cancel, lts_at _ _ (by rw [List.length_take]; exact Nat.le_refl _), List.take_of_length_le (by rw [List.length_take]; exact Nat.le_refl _)]
        rfl
      refine es_one ?_
      refine e1_fapp (by wtm_at "XN") (by wtm_at "idx") (by wtm_at "look") (by wtm_at "vis") (by assumption) (by wtm_at "slx") (by exact rfl) ?_
      refine nd_call (k := 5) G_led hr ?_
      refine na_cons ?_
      refine nd_lendO (i := 0) (j := 4) (by wtm_at "look") (by exact rfl) ?_
      refine nd_sub ?_
      wtm_at "fld"
      repeat wtm_at "w"
      refine ⟨_, hlast, lless_ly _, ?_⟩
      repeat wtm_at "w"
      refine ⟨fun c hc => by rw [ledP_len]; exact (hbd st hm).1 c hc, (hbd st hm).2, by rw [List.length_map, lts_len, List.length_take]; omega, ?_⟩
      refine ⟨.val (stD st), ?_⟩
      rw [take_snoc hs, lts_snoc, List.map_append, ledP_snoc]
      rfl
  · rintro Γ2 ⟨s3, rfl⟩
    rw [List.length_map, List.take_length]
    refine es_freezeF (i := 0) (j := 1) (by wtm_at "look") (by exact rfl) hqa ?_
    refine es_cons ?_
    refine e1_fset2 (by wtm_at "calm") (by wtm_at "XN") (by wtm_at "idx") (by wtm_at "look") (by wtm_at "vis") (by assumption) (by wtm_at "slx") (by wtm_at "slx") ?_
    repeat wtm_at "w"
    refine e1_fset3 (by wtm_at "calm") (by wtm_at "XN") (by wtm_at "idx") (by wtm_at "look") (by wtm_at "vis") (by assumption) (by wtm_at "slx") (by wtm_at "slx") (by wtm_at "slx") ?_
    repeat wtm_at "w"
    refine e1_fsetL (by wtm_at "XN") (by wtm_at "idx") (by wtm_at "look") (by wtm_at "vis") (by assumption) (by wtm_at "slx") hM ?_
    refine nl_lst ?_
    repeat wtm_at "w"
    intro qb hqb
    refine ⟨_, rfl, ?_⟩
    have e : tlD (o.map some) = lyD o := by
      show PyData.tuple _ = PyData.tuple _
      rw [List.map_map]
      rfl
    have := q qb
    dsimp only [Sto.fs] at this
    rw [e] at this
    have e2 : ∀ (a b c' d' e' f' g' h' i' : Fl), putF 3 i' (putF 2 h' (putF 8 g' (putF 6 f' (putF 0 e' (putF 7 d' ([Fl.no, a, Fl.no, Fl.no, b, c'].set 1 a)))))) = [e', a, h', i', b, c', f', d', g'] := fun a b c' d' e' f' g' h' i' => by
      simp [putF]
    refine (congrArg (R .none) (e2 (.val (.list ((lts o p).map lyD))) _ _ _ _ _ _ _ _)).mpr ?_
    exact this
end


set_option Elab.async false
set_option linter.all false
set_option maxRecDepth 100000
set_option maxHeartbeats 2000000
set_option pp.maxSteps 400
/-! Wm.SD: a Store led through its plan. -/



/-- a store that can be led -/
structure LeadOk (s : Sto) : Prop where
  h1 : ∀ n ∈ s.ns, 1 ≤ n
  ro : Rt s.ns s.o
  sp : SafePl s.ns s.o s.w s.p
  pk : PlOk s.o.length s.p
  szo : s.o.length ≤ 900
  szp : s.p.length ≤ 900
  szn : s.ns.length ≤ 1000
/-- the layout at a mark -/
def bnd (s : Sto) (n : Nat) : Ly := if s.on then lay s.o s.p n else lay s.o s.p (s.p.length - n)
def idxA (s : Sto) (n : Nat) : Int := if s.on then (n : Int) else (s.p.length : Int) - 1 - n
def idxN (s : Sto) (n : Nat) : Nat := if s.on then n else s.p.length - 1 - n
theorem bnd_A {s : Sto} {n : Nat} (h : n < s.p.length) : legA s.o s.p s.on (idxN s n) = bnd s n := by
  unfold legA bnd idxN
  cases s.on with
  | true => rfl
  | false =>
    show lay s.o s.p (s.p.length - 1 - n + 1) = lay s.o s.p (s.p.length - n)
    rw [show s.p.length - 1 - n + 1 = s.p.length - n by omega]
theorem bnd_B {s : Sto} {n : Nat} (h : n < s.p.length) : legB s.o s.p s.on (idxN s n) = bnd s (n + 1) := by
  unfold legB bnd idxN
  cases s.on with
  | true => rfl
  | false =>
    show lay s.o s.p (s.p.length - 1 - n) = lay s.o s.p (s.p.length - (n + 1))
    rw [show s.p.length - 1 - n = s.p.length - (n + 1) by omega]
theorem idx_nat {s : Sto} {n : Nat} (h : n < s.p.length) : idxA s n = (idxN s n : Nat) ∧ idxN s n < s.p.length := by
  unfold idxA idxN
  cases s.on with
  | true => exact ⟨rfl, h⟩
  | false =>
    show (s.p.length : Int) - 1 - n = ((s.p.length - 1 - n : Nat) : Int) ∧ s.p.length - 1 - n < s.p.length
    omega
theorem idx_succ (s : Sto) (n : Nat) : idxA s n + (if s.on = true then 1 else -1) = idxA s (n + 1) := by
  unfold idxA
  cases s.on with
  | true =>
    show (n : Int) + 1 = ((n + 1 : Nat) : Int)
    omega
  | false =>
    show (s.p.length : Int) - 1 - n + -1 = (s.p.length : Int) - 1 - ((n + 1 : Nat) : Int)
    omega
theorem nodup_le : ∀ (m : Nat) (L : List Nat), L.Nodup → (∀ q ∈ L, q < m) → L.length ≤ m
  | 0, L, _, h => by
    cases L with
    | nil => simp
    | cons a L => exact absurd (h a List.mem_cons_self) (Nat.not_lt_zero _)
  | m + 1, L, nd, h => by
    by_cases hm : m ∈ L
    · have ih := nodup_le m (L.erase m) (nd.erase m) fun q hq => by
        obtain ⟨q1, q2⟩ := nd.mem_erase_iff.mp hq
        have := h q q2
        omega
      rw [List.length_erase_of_mem hm] at ih
      omega
    · have ih := nodup_le m L nd fun q hq => by
        have := h q hq
        have : q ≠ m := fun e => hm (e ▸ hq)
        omega
      omega
section
variable {P : Program} {w : World} {K : PySem.W.Frag} {mg : Str → Option Value} {base : Heap} {C : Addr}
def S_law_is_led_whole : MSpc := fun fs ds R => ∃ (s : Sto), fs = s.fs ∧ ds = [nsD s.ns, iD s.p.length] ∧ LeadOk s ∧ s.ix = idxA s 0 ∧ s.t = (bnd s 0).map some ∧ s.wh = [] ∧ s.past.length + s.p.length * (2 * s.o.length + 2) ≤ 80000 ∧
  ∀ past', past'.length ≤ s.past.length + s.p.length * (2 * s.o.length + 2) → R (.bool true) { s with ix := idxA s s.p.length, t := (bnd s s.p.length).map some, wh := [], past := past' }.fs
theorem k_law_is_led_whole (D : Fd K mg "_law_is_led_whole" s_law_is_led_whole) (T : Bi mg) (TC : StC K C) (G_law_take : Fk P w K mg base 1 "_law_take" (bSp S_law_take)) (G_law_mixed : Fk P w K mg base 2 "_law_mixed" (bSp S_law_mixed)) (G_left_to_write : Fk P w K mg base 4 "left_to_write" (rSp C S_left_to_write)) (G_readers : Fk P w K mg base 1 "readers" (rSp C S_readers))
    (M_write : Mth P w K mg base C 4 "write" (mSp C S_m_write)) (M_cut : Mth P w K mg base C 3 "cut" (mSp C S_m_cut)) (M_mark : Mth P w K mg base C 4 "mark" (mSp C S_m_mark)) : Fk P w K mg base 5 "_law_is_led_whole" (kSp C S_law_is_led_whole) := by
  refine fk_k D ns_law_is_led_whole (fun _ _ _ _ _ _ us hl => match us, hl with | [_, _, _, _], _ => rfl) (fun fs ds R h => ?_) (fun f cdv A outer s H E hr F b c y dx fs ds R hM h => ?_)
  · obtain ⟨s', rfl, rfl, _⟩ := h
    rfl
  obtain ⟨s', rfl, rfl, hk, hix, ht, hwh, hpast, q⟩ := h
  have szo := hk.szo
  have szp := hk.szp
  have szn := hk.szn
  refine es_cons ?_
  wtm_at "for1"
  refine ni_range1 (by wtm_at "Brange") ?_
  repeat wtm_at "w"
  refine ⟨by omega, ?_⟩
  rw [Int.toNat_natCast, rangeD_nat]
  refine ⟨fun n Γ2 => ∃ (past : List PyData) (s4 s5 : Sd), Γ2 = [.bag b c, .obj y dx C { s' with ix := idxA s' n, t := (bnd s' n).map some, wh := [], past := past }.fs, .val (nsD s'.ns), .val (iD s'.p.length), s4, s5, .no, .no] ∧ s4.addrs = [] ∧ s5.addrs = [] ∧ past.length ≤ s'.past.length + n * (2 * s'.o.length + 2), ⟨s'.past, .no, .no, by rw [← hix, ← ht, ← hwh]; rfl, rfl, rfl, by omega⟩, ?_, ?_⟩
  · rintro n d Γ2 hd ⟨past, s4, s5, rfl, h4, h5, hp⟩
    rw [List.getElem?_map] at hd
    have hlt : n < s'.p.length := by
      by_cases h : n < s'.p.length
      · exact h
      · rw [List.getElem?_eq_none (by rw [List.length_range]; omega)] at hd
        cases hd
    rw [List.getElem?_range hlt] at hd
    cases hd
    obtain ⟨ei, hil⟩ := idx_nat hlt
    have hs : s'.p[idxN s' n]? = some s'.p[idxN s' n] := List.getElem?_eq_getElem hil
    obtain ⟨st, hst⟩ : ∃ st, s'.p[idxN s' n]? = some st := ⟨_, hs⟩
    have hm := List.mem_of_getElem? hst
    have leg := leg_of s'.on hk.h1 hk.ro hk.sp hk.pk hst
    rw [bnd_A hlt, bnd_B hlt] at leg
    have hmul : (n + 1) * (2 * s'.o.length + 2) ≤ s'.p.length * (2 * s'.o.length + 2) := Nat.mul_le_mul_right _ hlt
    have hmul2 : (n + 1) * (2 * s'.o.length + 2) = n * (2 * s'.o.length + 2) + (2 * s'.o.length + 2) := Nat.succ_mul _ _
    have hpl : (pls st).length ≤ s'.o.length := nodup_le _ _ leg.nd leg.pm
    have hat : ∀ t wh past, At { s' with ix := idxA s' n, t := t, wh := wh, past := past } (idxN s' n) st := fun t wh past => ⟨ei, hst, by have := hk.pk.sz st hm; omega, by show s'.p.length ≤ 90000; omega, by show s'.o.length ≤ 90000; omega⟩
    -- each value can be read
    have hread : ∀ (t : List Td) (wh : List Nat), Mid s'.o.length (bnd s' n) (bnd s' (n + 1)) (pls st) t wh → ∀ v k, s'.ns[v]? = some k → ¬ rds t v < k := fun t wh md v k e => Nat.not_lt.mpr (md.read leg e)
    -- one place written
    have hwr : ∀ (t : List Td) (wh : List Nat), Mid s'.o.length (bnd s' n) (bnd s' (n + 1)) (pls st) t wh → ∀ v, gt (bnd s' (n + 1)) v = gt (legB s'.o s'.p s'.on (idxN s' n)) v := fun _ _ _ v => by rw [bnd_B hlt]
    have hlB : bnd s' (n + 1) = legB s'.o s'.p s'.on (idxN s' n) := (bnd_B hlt).symm
    refine es_cons ?_
    refine E1.mono (O := ⟨fun Γ3 => ∃ (t : List Td) (wh : List Nat) (past2 : List PyData) (s5 : Sd), Γ3 = [.bag b c, .obj y dx C { s' with ix := idxA s' n, t := t, wh := wh, past := past2 }.fs, .val (nsD s'.ns), .val (iD s'.p.length), .val (iD n), s5, .no, .no] ∧ s5.addrs = [] ∧ Mid s'.o.length (bnd s' n) (bnd s' (n + 1)) (pls st) t wh ∧ (∀ q ∈ pls st, q ∈ wh) ∧ past2.length ≤ past.length + (pls st).length, fun _ _ => False, fun _ => False, fun _ => False⟩) ?_ ?_ (fun _ _ h => h.elim) (fun _ h => h.elim) (fun _ h => h.elim)
    · wtm_at "for1"
      refine ni_list ?_
      refine nd_callBag (k := 4) (i := 0) G_law_mixed hr (by wtm_at "look") ?_
      refine na_cons ?_
      refine nd_listc (by assumption) ?_
      refine nd_lendO (i := 1) (j := 0) (by wtm_at "look") (by exact rfl) ?_
      refine nd_rcall (k := 4) G_left_to_write hr (by wtm_at "XN") (by wtm_at "idx") (by wtm_at "look") (by wtm_at "vis") ?_
      repeat wtm_at "w"
      refine ⟨{ s' with ix := idxA s' n, t := (bnd s' n).map some, wh := [], past := past }, idxN s' n, st, rfl, rfl, hat _ _ _, lless_ns _, _, rfl, ?_⟩
      refine na_nil ?_
      have e0 : ((pls st).filter fun q => !decide (q ∈ ([] : List Nat))) = pls st := List.filter_eq_self.mpr fun _ _ => by simp
      rw [e0]
      refine ⟨_, _, rfl, .inl rfl, by rw [List.length_map]; omega, fun ys hp3 => ?_⟩
      obtain ⟨L, hpL, rfl⟩ := perm_map_inv iD hp3
      refine ⟨_, rfl, ?_⟩
      refine ⟨fun j Γ2 => ∃ (t : List Td) (wh : List Nat) (past2 : List PyData) (s5 : Sd), Γ2 = [.bag b c, .obj y dx C { s' with ix := idxA s' n, t := t, wh := wh, past := past2 }.fs, .val (nsD s'.ns), .val (iD s'.p.length), .val (iD n), s5, .no, .no] ∧ s5.addrs = [] ∧ Mid s'.o.length (bnd s' n) (bnd s' (n + 1)) (pls st) t wh ∧ (∀ q ∈ L.take j, q ∈ wh) ∧ past2.length ≤ past.length + j, ⟨(bnd s' n).map some, [], past, s5, rfl, h5, Mid.start leg.la (Nat.zero_le _), by simp, by omega⟩, ?_, ?_⟩
      · rintro j d Γ2 hd ⟨t, wh, past2, s6, rfl, h6, md, hin, hp2⟩
        rw [List.getElem?_map] at hd
        cases hq : L[j]? with
        | none => rw [hq] at hd; cases hd
        | some q' =>
          rw [hq] at hd
          cases hd
          have hqp : q' ∈ pls st := hpL.mem_iff.mp (List.mem_of_getElem? hq)
          have hjl := (List.getElem?_eq_some_iff.mp hq).1
          have hLl := hpL.length_eq
          have hql := leg.pm q' hqp
          have mdw := nodup_le _ _ md.wn fun x hx => leg.pm x (md.sub x hx)
          have mdl := md.len
          refine es_cons ?_
          refine e1_meth (k := 4) M_write (by assumption) hr (by wtm_at "XN") (by wtm_at "idx") (by wtm_at "look") (by wtm_at "vis") ?_
          repeat wtm_at "w"
          refine ⟨{ s' with ix := idxA s' n, t := t, wh := wh, past := past2 }, idxN s' n, st, q', rfl, rfl, hat _ _ _, hqp, hql, md.len, by show wh.length ≤ 90000; omega, by show past2.length < 90000; omega, fun v hv => md.src leg hqp (by rw [hlB]; exact hv), fun wh' hw' => ?_⟩
          have hfl : (wh.filter fun x => !decide (x = q')).length ≤ wh.length := List.length_filter_le _ _
          have hsub : ∀ x ∈ wh', x = q' ∨ x ∈ wh := fun x hx => by
            rcases List.mem_append.mp (hw'.mem_iff.mp hx) with h | h
            · exact .inr (List.mem_filter.mp h).1
            · exact .inl (List.mem_singleton.mp h)
          have hsup : ∀ x, x = q' ∨ x ∈ wh → x ∈ wh' := fun x hx => by
            refine hw'.mem_iff.mpr (List.mem_append.mpr ?_)
            by_cases e : x = q'
            · exact .inr (List.mem_singleton.mpr e)
            · exact .inl (List.mem_filter.mpr ⟨hx.resolve_left e, by simp [e]⟩)
          have md2 := md.write (wh' := wh') leg hqp hsub (hw'.nodup_iff.mpr (List.nodup_append.mpr ⟨md.wn.filter _, by simp, fun a ha b hb => fun e => by
            rw [List.mem_singleton.mp hb] at e
            have := (List.mem_filter.mp ha).2
            simp [e] at this⟩))
          rw [show gt (bnd s' (n + 1)) q' = gt (legB s'.o s'.p s'.on (idxN s' n)) q' from by rw [hlB]] at md2
          refine es_one ?_
          refine e1_if ?_
          refine nt_cmp ?_
          repeat wtm_at "w"
          refine ni_enumT (by wtm_at "Ben") ?_
          repeat wtm_at "w"
          rw [enumD_map]
          refine lc_map (t := fun _ => false) (f := fun p => iD p.2) (by rw [List.length_zipIdx]; omega) (fun a ha => tgn_pair fun s0 H0 C' cl fp => ?_) ?_
          · have hz : s'.ns[a.2]? = some a.1 := List.mem_zipIdx_iff_getElem?.mp ha
            have hge := (md2).read leg hz
            refine nts_one ?_
            refine nt_cmp ?_
            refine nd_len (by assumption) ?_
            refine nd_lendO (i := 1) (j := 0) (by wtm_at "look") (by exact rfl) ?_
            refine nd_rcall (k := 4) G_readers hr (by wtm_at "XN") (by wtm_at "idx") (by wtm_at "look") (by wtm_at "vis") ?_
            repeat wtm_at "w"
            refine ⟨{ s' with ix := idxA s' n, t := t.set q' (some (gt (legB s'.o s'.p s'.on (idxN s' n)) q')), wh := wh', past := past2 ++ [stateD { s' with ix := idxA s' n, t := t, wh := wh, past := past2 }] }, a.2, rfl, rfl, by have := (md2).len; show (t.set q' (some (gt (legB s'.o s'.p s'.on (idxN s' n)) q'))).length ≤ 90000; omega, fun L hL => ?_⟩
            have hL : L.length = rds (t.set q' (some (gt (legB s'.o s'.p s'.on (idxN s' n)) q'))) a.2 := hL
            refine ⟨lless_ns _, _, rfl, ?_⟩
            repeat wtm_at "w"
            rw [List.length_map, hL]
            exact ⟨decide_eq_false (by omega), fun h => by cases h⟩
          rw [show (s'.ns.zipIdx.filter fun _ => false) = [] from by simp]
          repeat wtm_at "w"
          refine cmp_neNil hr rfl ?_
          refine ⟨_, rfl, ?_⟩
          refine iteF ?_
          refine es_nil ?_
          exact ⟨_, _, _, _, rfl, rfl, md2, fun x hx => by
            rw [take_snoc hq] at hx
            rcases List.mem_append.mp hx with h | h
            · exact hsup x (.inr (hin x h))
            · exact hsup x (.inl (List.mem_singleton.mp h)), by rw [List.length_append]; simp only [List.length_cons, List.length_nil]; omega⟩
      · rintro Γ2 ⟨t, wh, past2, s6, rfl, h6, md, hin, hp2⟩
        rw [List.length_map] at hin hp2
        rw [List.take_length] at hin
        have hLl := hpL.length_eq
        exact ⟨t, wh, past2, s6, rfl, h6, md, fun q hq => hin q (hpL.mem_iff.mpr hq), by omega⟩
    · rintro Γ3 ⟨t, wh, past2, s5, rfl, h5, md, hin, hp2⟩
      refine es_cons ?_
      refine E1.mono (O := ⟨fun Γ3 => ∃ (t : List Td) (wh : List Nat) (past3 : List PyData) (s5 : Sd), Γ3 = [.bag b c, .obj y dx C { s' with ix := idxA s' n, t := t, wh := wh, past := past3 }.fs, .val (nsD s'.ns), .val (iD s'.p.length), .val (iD n), s5, .no, .no] ∧ s5.addrs = [] ∧ Mid s'.o.length (bnd s' n) (bnd s' (n + 1)) (pls st) t wh ∧ (∀ q ∈ pls st, q ∈ wh) ∧ past3.length ≤ past.length + 2 * (pls st).length + 1, fun _ _ => False, fun _ => False, fun _ => False⟩) ?_ ?_ (fun _ _ h => h.elim) (fun _ h => h.elim) (fun _ h => h.elim)
      · refine e1_if ?_
        refine nt_cmp ?_
        refine nd_callBag (k := 4) (i := 0) G_law_take hr (by wtm_at "look") ?_
        repeat wtm_at "x"
        refine ⟨by decide, by decide, fun kk hkk => ?_⟩
        repeat wtm_at "x"
        refine ifB (fun hb => ?_) (fun hb => ?_)
        · have mdl := md.len
          refine es_cons ?_
          refine e1_meth0 (k := 4) M_cut (by assumption) hr (by wtm_at "XN") (by wtm_at "idx") (by wtm_at "look") (by wtm_at "vis") ?_
          refine ⟨{ s' with ix := idxA s' n, t := t, wh := wh, past := past2 }, idxN s' n, st, rfl, rfl, hat _ _ _, fun q' hq' => by show q' < t.length; rw [mdl]; exact leg.pm q' hq', by show t.length ≤ 90000; omega, by show past2.length < 90000; omega, fun t' ht1 ht2 => ?_⟩
          have mdc := md.cut (t' := t') ht1 ht2
          refine es_cons ?_
          refine e1_if ?_
          refine nt_cmp ?_
          repeat wtm_at "w"
          refine ni_enumT (by wtm_at "Ben") ?_
          repeat wtm_at "w"
          rw [enumD_map]
          refine lc_map (t := fun _ => false) (f := fun p => iD p.2) (by rw [List.length_zipIdx]; omega) (fun a ha => tgn_pair fun s0 H0 C' cl fp => ?_) ?_
          · have hz : s'.ns[a.2]? = some a.1 := List.mem_zipIdx_iff_getElem?.mp ha
            have hge := (mdc).read leg hz
            refine nts_one ?_
            refine nt_cmp ?_
            refine nd_len (by assumption) ?_
            refine nd_lendO (i := 1) (j := 0) (by wtm_at "look") (by exact rfl) ?_
            refine nd_rcall (k := 4) G_readers hr (by wtm_at "XN") (by wtm_at "idx") (by wtm_at "look") (by wtm_at "vis") ?_
            repeat wtm_at "w"
            refine ⟨{ s' with ix := idxA s' n, t := t', wh := [], past := past2 ++ [stateD { s' with ix := idxA s' n, t := t, wh := wh, past := past2 }] }, a.2, rfl, rfl, by have := (mdc).len; show (t').length ≤ 90000; omega, fun L hL => ?_⟩
            have hL : L.length = rds (t') a.2 := hL
            refine ⟨lless_ns _, _, rfl, ?_⟩
            repeat wtm_at "w"
            rw [List.length_map, hL]
            exact ⟨decide_eq_false (by omega), fun h => by cases h⟩
          rw [show (s'.ns.zipIdx.filter fun _ => false) = [] from by simp]
          repeat wtm_at "w"
          refine cmp_neNil hr rfl ?_
          refine ⟨_, rfl, ?_⟩
          refine iteF ?_
          refine es_nil ?_
          refine es_one ?_
          wtm_at "for1"
          refine ni_tup ?_
          refine nd_lendO (i := 1) (j := 0) (by wtm_at "look") (by exact rfl) ?_
          refine nd_rcall (k := 4) G_left_to_write hr (by wtm_at "XN") (by wtm_at "idx") (by wtm_at "look") (by wtm_at "vis") ?_
          repeat wtm_at "w"
          refine ⟨{ s' with ix := idxA s' n, t := t', wh := [], past := past2 ++ [stateD { s' with ix := idxA s' n, t := t, wh := wh, past := past2 }] }, idxN s' n, st, rfl, rfl, hat _ _ _, lless_ns _, _, rfl, ?_⟩
          have e0 : ((pls st).filter fun q => !decide (q ∈ ([] : List Nat))) = pls st := List.filter_eq_self.mpr fun _ _ => by simp
          rw [e0]
          refine ⟨fun j Γ2 => ∃ (t : List Td) (wh : List Nat) (past3 : List PyData) (s5 : Sd), Γ2 = [.bag b c, .obj y dx C { s' with ix := idxA s' n, t := t, wh := wh, past := past3 }.fs, .val (nsD s'.ns), .val (iD s'.p.length), .val (iD n), s5, .no, .no] ∧ s5.addrs = [] ∧ Mid s'.o.length (bnd s' n) (bnd s' (n + 1)) (pls st) t wh ∧ (∀ q ∈ (pls st).take j, q ∈ wh) ∧ past3.length ≤ past.length + (pls st).length + 1 + j, ⟨t', [], _, s5, rfl, h5, mdc, by simp, by rw [List.length_append]; simp only [List.length_cons, List.length_nil]; omega⟩, ?_, ?_⟩
          · rintro j d Γ2 hd ⟨t, wh, past3, s6, rfl, h6, md, hin, hp3⟩
            rw [List.getElem?_map] at hd
            cases hq : (pls st)[j]? with
            | none => rw [hq] at hd; cases hd
            | some q' =>
              rw [hq] at hd
              cases hd
              have hqp : q' ∈ pls st := List.mem_of_getElem? hq
              have hjl := (List.getElem?_eq_some_iff.mp hq).1
              have hql := leg.pm q' hqp
              have mdw := nodup_le _ _ md.wn fun x hx => leg.pm x (md.sub x hx)
              refine es_one ?_
              refine e1_meth (k := 4) M_write (by assumption) hr (by wtm_at "XN") (by wtm_at "idx") (by wtm_at "look") (by wtm_at "vis") ?_
              repeat wtm_at "w"
              refine ⟨{ s' with ix := idxA s' n, t := t, wh := wh, past := past3 }, idxN s' n, st, q', rfl, rfl, hat _ _ _, hqp, hql, md.len, by show wh.length ≤ 90000; omega, by show past3.length < 90000; omega, fun v hv => md.src leg hqp (by rw [hlB]; exact hv), fun wh' hw' => ?_⟩
              have hsub : ∀ x ∈ wh', x = q' ∨ x ∈ wh := fun x hx => by
                rcases List.mem_append.mp (hw'.mem_iff.mp hx) with h | h
                · exact .inr (List.mem_filter.mp h).1
                · exact .inl (List.mem_singleton.mp h)
              have hsup : ∀ x, x = q' ∨ x ∈ wh → x ∈ wh' := fun x hx => by
                refine hw'.mem_iff.mpr (List.mem_append.mpr ?_)
                by_cases e : x = q'
                · exact .inr (List.mem_singleton.mpr e)
                · exact .inl (List.mem_filter.mpr ⟨hx.resolve_left e, by simp [e]⟩)
              have md2 := md.write (wh' := wh') leg hqp hsub (hw'.nodup_iff.mpr (List.nodup_append.mpr ⟨md.wn.filter _, by simp, fun a ha b hb => fun e => by
                rw [List.mem_singleton.mp hb] at e
                have := (List.mem_filter.mp ha).2
                simp [e] at this⟩))
              rw [show gt (bnd s' (n + 1)) q' = gt (legB s'.o s'.p s'.on (idxN s' n)) q' from by rw [hlB]] at md2
              exact ⟨_, _, _, _, rfl, rfl, md2, fun x hx => by
                rw [take_snoc hq] at hx
                rcases List.mem_append.mp hx with h | h
                · exact hsup x (.inr (hin x h))
                · exact hsup x (.inl (List.mem_singleton.mp h)), by rw [List.length_append]; simp only [List.length_cons, List.length_nil]; omega⟩
          · rintro Γ2 ⟨t, wh, past3, s6, rfl, h6, md, hin, hp3⟩
            rw [List.length_map] at hin hp3
            rw [List.take_length] at hin
            exact ⟨t, wh, past3, s6, rfl, h6, md, hin, by omega⟩
        · refine es_nil ?_
          exact ⟨t, wh, past2, s5, rfl, h5, md, hin, by omega⟩
      · rintro Γ3 ⟨t, wh, past3, s5, rfl, h5, md, hin, hp3⟩
        refine es_one ?_
        refine e1_meth0 (k := 4) M_mark (by assumption) hr (by wtm_at "XN") (by wtm_at "idx") (by wtm_at "look") (by wtm_at "vis") ?_
        refine ⟨{ s' with ix := idxA s' n, t := t, wh := wh, past := past3 }, idxN s' n, st, rfl, rfl, hat _ _ _, hin, by show past3.length < 90000; omega, ?_⟩
        have ef := md.full leg hin
        subst ef
        refine ⟨past3 ++ [stateD { s' with ix := idxA s' n, t := (bnd s' (n + 1)).map some, wh := wh, past := past3 }], .val (iD n), s5, ?_, rfl, h5, by rw [List.length_append]; simp only [List.length_cons, List.length_nil]; omega⟩
        rw [← idx_succ s' n]
        rfl
  · rintro Γ2 ⟨past, s4, s5, rfl, h4, h5, hp⟩
    rw [List.length_map, List.length_range] at hp ⊢
    refine es_one ?_
    repeat wtm_at "w"
    exact ⟨by wtm_at "bm", _, rfl, q past hp⟩
end


set_option Elab.async false
set_option linter.all false
set_option maxRecDepth 100000
set_option maxHeartbeats 2000000
set_option pp.maxSteps 400
/-! Wm.AK: stayed tasks. -/



theorem es_norm {X : Cx} {B : Bs} {sts : List Stmt} {Γ Γ' : Ctx} {O : Po} (e : Γ = Γ') (h : Es X B sts Γ' O) : Es X B sts Γ O := e ▸ h
section
variable {P : Program} {w : World} {K : PySem.W.Frag} {mg : Str → Option Value} {base : Heap}
def S_law_stayed_task : Spc := fun ds R => ∃ (z t : Nat), ds = [iD z, iD t] ∧ z ≤ 800 ∧ t ≤ 800 ∧ ∀ ns o w, TkOk (z + 10) ns o w → R (tkD ns o w)
theorem k_law_stayed_task (D : Fd K mg "_law_stayed_task" s_law_stayed_task) (T : Bi mg) (G_law_take : Fk P w K mg base 1 "_law_take" (bSp S_law_take)) (G_law_mixed : Fk P w K mg base 2 "_law_mixed" (bSp S_law_mixed)) (G_law_parted_task : Fk P w K mg base 3 "_law_parted_task" (bSp S_law_parted_task)) (G_law_even_task : Fk P w K mg base 5 "_law_even_task" (bSp S_law_even_task)) : Fk P w K mg base 6 "_law_stayed_task" (bSp S_law_stayed_task) := by
  refine fk_b D ns_law_stayed_task (fun _ _ _ _ _ _ us hl => match us, hl with | [_, _, _], _ => rfl) (fun ds R h => ?_) (fun f cdv A outer s H E hr F b c hb0 ds R h => ?_)
  · obtain ⟨z, t, rfl, hz, ht, q⟩ := h
    rfl
  obtain ⟨z, t, rfl, hz, ht, q⟩ := h
  obtain ⟨fA, fdA, psA, FA, mA, kpA, bdA⟩ := G_law_parted_task
  obtain ⟨fB, fdB, psB, FB, mB, kpB, bdB⟩ := G_law_even_task
  refine es_cons ?_
  refine e1_setFn (by wtm_at "XN") (by wtm_at "idx") (by decide +kernel) ?_
  refine Nfn.mono (A := fun f => f = fA ∨ f = fB) ?_ (fun f hf => ?_)
  · refine nfn_if ?_
    refine nt_cmp ?_
    refine nd_callBag (k := 5) (i := 0) G_law_take hr (by wtm_at "look") ?_
    repeat wtm_at "x"
    refine ⟨by decide, by decide, fun k0 hk0 => ?_⟩
    repeat wtm_at "x"
    exact ifB (fun _ => nfn_glob mA (.inl rfl)) (fun _ => nfn_glob mB (.inr rfl))
  have hm1 : ∃ m : Nat, m ≤ z + 2 ∧ PyData.int (if (z : Int) - 3 > 2 then (z : Int) - 3 else 2) = iD m := by
    by_cases h : (z : Int) - 3 > 2
    · refine ⟨z - 3, by omega, ?_⟩
      rw [if_pos h]
      show PyData.int _ = PyData.int _
      rw [show ((z - 3 : Nat) : Int) = (z : Int) - 3 by omega]
    · exact ⟨2, by omega, by rw [if_neg h]; rfl⟩
  have hm2 : ∃ m : Nat, m ≤ t + 1 ∧ PyData.int (if (t : Int) - 1 > 1 then (t : Int) - 1 else 1) = iD m := by
    by_cases h : (t : Int) - 1 > 1
    · refine ⟨t - 1, by omega, ?_⟩
      rw [if_pos h]
      show PyData.int _ = PyData.int _
      rw [show ((t - 1 : Nat) : Int) = (t : Int) - 1 by omega]
    · exact ⟨1, by omega, by rw [if_neg h]; rfl⟩
  obtain ⟨m1, hm1, e1⟩ := hm1
  obtain ⟨m2, hm2, e2⟩ := hm2
  refine es_cons ?_
  wtm_at "s"
  refine Nd.mono (P := fun d => ∃ ns o w, d = tkD ns o w ∧ TkOk (m1 + 1) ns o w ∧ Sm o w) ?_ (fun d hd => ?_)
  · rcases hf with rfl | rfl
    · refine nd_callBagV FA kpA bdA hr (by wtm_at "XN") (by wtm_at "idx") (by wtm_at "look") (by wtm_at "vis") (by wtm_at "idx") (by wtm_at "look") (by wtm_at "vis") ?_
      repeat wtm_at "x"
      rw [e1]
      repeat wtm_at "x"
      rw [e2]
      repeat wtm_at "x"
      exact ⟨by omega, by omega, fun ns o w hk hs => ⟨ns, o, w, rfl, ⟨hk.n1, hk.old, hk.wish, hk.len, by have := hk.sz; omega⟩, hs⟩⟩
    · refine nd_callBagV FB kpB bdB hr (by wtm_at "XN") (by wtm_at "idx") (by wtm_at "look") (by wtm_at "vis") (by wtm_at "idx") (by wtm_at "look") (by wtm_at "vis") ?_
      repeat wtm_at "x"
      rw [e1]
      repeat wtm_at "x"
      rw [e2]
      repeat wtm_at "x"
      exact ⟨by omega, by omega, fun ns o w hk hs => ⟨ns, o, w, rfl, hk, hs⟩⟩
  obtain ⟨ns, o, w', rfl, hk, hs⟩ := hd
  refine ⟨_, _, _, rfl, ?_⟩
  refine es_norm (Γ' := [.bag b c, .val (iD z), .val (iD t), .fn f, .val (nsD ns), .val (lyD o), .val (lyD w'), .no, .no, .no, .no, .no, .no]) (by rfl) ?_
  have hfl := full_len o
  have hwl := hk.len
  have hoz := hk.sz
  have hnl := rt_len hk.n1 hk.old
  refine es_cons ?_
  wtm_at "slc2"
  refine ni_enumT (by wtm_at "Ben") ?_
  repeat wtm_at "x"
  rw [enumD_map]
  refine lc_map (t := fun p => (gt o p.2).isSome) (f := fun p => iD p.2) (by rw [List.length_zipIdx]; omega) (fun a ha => tgn_pair fun s0 H0 C cl fp => ?_) ?_
  · obtain ⟨x, i⟩ := a
    have z : o[i]? = some x := by simpa using List.mem_zipIdx_iff_getElem?.mp ha
    have hg : gt o i = x := by unfold gt; rw [z]; rfl
    refine nts_one ?_
    show Nt _ _ _ fun b => b = (gt o i).isSome ∧ _
    rw [hg]
    repeat wtm_at "x"
    refine ⟨by rw [isN_o]; cases x <;> rfl, fun _ => ?_⟩
    intro s2 H2 C2 cl2 fp2
    repeat wtm_at "x"
    rfl
  have e3 : ((o.zipIdx.filter fun p => (gt o p.2).isSome).map fun p => iD p.2) = (fullP o).map iD := by
    unfold fullP
    rw [← zipIdx_filter o (fun k => (gt o k).isSome), List.map_map]
    rfl
  rw [e3]
  refine es_cons ?_
  refine e1_vv (by wtm_at "m2") ?_
  repeat wtm_at "x"
  rw [List.length_map]
  refine nd_callBag (k := 5) (i := 0) G_law_take hr (by wtm_at "look") ?_
  repeat wtm_at "x"
  refine ⟨by decide, by decide, fun k1 hk1 => ?_⟩
  have hk1 : k1 < 2 := hk1
  repeat wtm_at "x"
  have e4 : PyData.int (2 + (k1 : Int)) = iD (2 + k1) := by
    show PyData.int _ = PyData.int _
    rw [show ((2 + k1 : Nat) : Int) = 2 + (k1 : Int) by omega]
  rw [e4]
  generalize hmo : 2 + k1 = mo
  have ecat : ∀ l : Ly, ((fullP o).map fun k => oD (gt l k)) ++ List.replicate (((mo : Nat) : Int)).toNat (PyData.int ((ns.length : Nat) : Int)) = ((fullP o).map (gt l) ++ List.replicate mo (some ns.length)).map oD := fun l => by
    rw [List.map_append, List.map_map, List.map_replicate, Int.toNat_natCast]
    rfl
  refine es_cons ?_
  wtm_at "set"
  refine nd_bin ?_
  repeat wtm_at "x"
  refine ni_list ?_
  repeat wtm_at "x"
  refine lc_all (enc := iD) (f := fun k => oD (gt o k)) (by omega) (fun a ha => tgn_name fun s0 H0 C cl fp => ?_) ?_
  · repeat wtm_at "x"
    exact ⟨_, atI_map (gt_get (by have := full_lt ha; omega)), rfl⟩
  repeat wtm_at "x"
  refine bin_rep (by omega) (by show 1 * _ ≤ _; omega) (by omega) ?_
  rw [rep_flat]
  refine bin_cat (by rw [List.length_map, List.length_replicate]; omega) ?_
  rw [ecat o]
  refine es_cons ?_
  wtm_at "set"
  refine nd_bin ?_
  repeat wtm_at "x"
  refine ni_list ?_
  repeat wtm_at "x"
  refine lc_all (enc := iD) (f := fun k => oD (gt w' k)) (by omega) (fun a ha => tgn_name fun s0 H0 C cl fp => ?_) ?_
  · repeat wtm_at "x"
    exact ⟨_, atI_map (gt_get (by have := full_lt ha; omega)), rfl⟩
  repeat wtm_at "x"
  refine bin_rep (by omega) (by show 1 * _ ≤ _; omega) (by omega) ?_
  rw [rep_flat]
  refine bin_cat (by rw [List.length_map, List.length_replicate]; omega) ?_
  rw [ecat w']
  have r1 := hk.old.more (o := o) rfl (fun _ h => h) (m := mo) (by omega)
  have r2 := hk.wish.more hwl hs (m := mo) (by omega)
  have l1 : ((fullP o).map (gt o) ++ List.replicate mo (some ns.length)).length ≤ z + 10 := by rw [List.length_append, List.length_map, List.length_replicate]; omega
  have l2 : ((fullP o).map (gt w') ++ List.replicate mo (some ns.length)).length = ((fullP o).map (gt o) ++ List.replicate mo (some ns.length)).length := by simp only [List.length_append, List.length_map, List.length_replicate]
  generalize (fullP o).map (gt o) ++ List.replicate mo (some ns.length) = o2 at r1 l1 l2
  generalize (fullP o).map (gt w') ++ List.replicate mo (some ns.length) = w2 at r2 l2
  refine es_norm (Γ' := [.bag b c, .val (iD z), .val (iD t), .fn f, .val (nsD ns), .val (.list (o2.map oD)), .val (.list (w2.map oD)), .no, .no, .val (.list ((fullP o).map iD)), .val (iD ns.length), .val (iD mo), .no]) (by rfl) ?_
  refine es_cons ?_
  wtm_at "set"
  refine nd_callBag (k := 5) (i := 0) G_law_mixed hr (by wtm_at "look") ?_
  repeat wtm_at "x"
  rw [List.length_map]
  refine ⟨by omega, ?_⟩
  repeat wtm_at "x"
  refine ⟨_, _, rfl, .inl rfl, by rw [List.length_map, List.length_range]; omega, fun ys hp3 => ?_⟩
  obtain ⟨ord, hpo, rfl⟩ := perm_map_inv iD hp3
  have hol : ord.length ≤ 100000 := by rw [hpo.length_eq, List.length_range]; omega
  refine es_one ?_
  repeat wtm_at "w"
  refine bin_catT (xs := ns.map iD) (ys := [1].map iD) (by rw [List.length_map]; simp; omega) ?_
  repeat wtm_at "x"
  refine ni_list ?_
  repeat wtm_at "x"
  refine lc_all (enc := iD) (f := fun a => oD (gt o2 a)) hol (fun a ha => tgn_name fun s0 H0 C cl fp => ?_) ?_
  · repeat wtm_at "x"
    refine ⟨_, atI_map (gt_get (List.mem_range.mp (hpo.mem_iff.mp ha))), rfl⟩
  repeat wtm_at "x"
  refine ni_list ?_
  repeat wtm_at "x"
  refine lc_all (enc := iD) (f := fun a => oD (gt w2 a)) hol (fun a ha => tgn_name fun s0 H0 C cl fp => ?_) ?_
  · repeat wtm_at "x"
    refine ⟨_, atI_map (gt_get (by rw [l2]; exact List.mem_range.mp (hpo.mem_iff.mp ha))), rfl⟩
  repeat wtm_at "x"
  have e5 : ∀ l : Ly, ord.map (fun a => oD (gt l a)) = (ord.map (gt l)).map oD := fun l => by rw [List.map_map]; rfl
  rw [e5, e5, ← List.map_append]
  have hp1 := pick_perm hpo
  have hp2 := pick_perm (l := w2) (ord := ord) (by rw [l2]; exact hpo)
  exact ⟨q (ns ++ [1]) _ _ ⟨fun n hn => (List.mem_append.mp hn).elim (hk.n1 n) (fun h => by rw [List.mem_singleton.mp h]; exact Nat.le_refl _), r1.perm hp1, r2.perm hp2, by rw [List.length_map, List.length_map], by rw [hp1.length_eq]; exact l1⟩, by wtm_at "bm"⟩
end


set_option Elab.async false
set_option linter.all false
set_option maxRecDepth 100000
set_option maxHeartbeats 2000000
set_option pp.maxSteps 400
/-! Wm.AL: tasks of all sorts. -/



section
variable {P : Program} {w : World} {K : PySem.W.Frag} {mg : Str → Option Value} {base : Heap}
def S_law_task : Spc := fun ds R => ∃ (z t : Nat), ds = [iD z, iD t] ∧ z ≤ 100 ∧ t ≤ 100 ∧ ∀ ns o w, TkOk (z + 20) ns o w → R (tkD ns o w)
theorem TkOk.le {a b : Nat} {ns : List Nat} {o w : Ly} (h : TkOk a ns o w) (e : a ≤ b) : TkOk b ns o w := ⟨h.n1, h.old, h.wish, h.len, Nat.le_trans h.sz e⟩
theorem div2 (n : Nat) : ((n : Int) / 2) = ((n / 2 : Nat) : Int) := by omega
theorem k_law_task (D : Fd K mg "_law_task" s_law_task) (T : Bi mg) (G_law_take : Fk P w K mg base 1 "_law_take" (bSp S_law_take)) (G_law_some : Fk P w K mg base 2 "_law_some" (bSp S_law_some)) (G_law_any_task : Fk P w K mg base 5 "_law_any_task" (bSp S_law_any_task)) (G_law_parted_task : Fk P w K mg base 3 "_law_parted_task" (bSp S_law_parted_task)) (G_law_even_task : Fk P w K mg base 5 "_law_even_task" (bSp S_law_even_task)) (G_law_stayed_task : Fk P w K mg base 6 "_law_stayed_task" (bSp S_law_stayed_task)) (G_law_beside : Fk P w K mg base 1 "_law_beside" (pSp S_law_beside)) (G_law_led_task : Fk P w K mg base 6 "_law_led_task" (bSp S_law_led_task)) : Fk P w K mg base 7 "_law_task" (bSp S_law_task) := by
  refine fk_b D ns_law_task (fun _ _ _ _ _ _ us hl => match us, hl with | [_, _, _], _ => rfl) (fun ds R h => ?_) (fun f cdv A outer s H E hr F b c hb0 ds R h => ?_)
  · obtain ⟨z, t, rfl, hz, ht, q⟩ := h
    rfl
  obtain ⟨z, t, rfl, hz, ht, q⟩ := h
  refine es_cons ?_
  refine e1_vv (by wtm_at "m2") ?_
  refine nd_callBag (k := 6) (i := 0) G_law_take hr (by wtm_at "look") ?_
  repeat wtm_at "x"
  refine ⟨by decide, by decide, fun way hway => ?_⟩
  have hway : way < 10 := hway
  refine Nd.mono (P := fun d => ∃ z2 : Nat, z2 ≤ z ∧ d = iD z2) ?_ (fun d hd => ?_)
  · refine nd_if ?_
    refine nt_cmp ?_
    refine nd_callBag (k := 6) (i := 0) G_law_take hr (by wtm_at "look") ?_
    repeat wtm_at "x"
    refine ⟨by decide, by decide, fun k0 hk0 => ?_⟩
    repeat wtm_at "x"
    refine ifB (fun _ => ?_) (fun _ => ?_)
    · refine nd_callBag (k := 6) (i := 0) G_law_take hr (by wtm_at "look") ?_
      repeat wtm_at "x"
      refine ⟨by show 1 ≤ z + 1; omega, by show z + 1 ≤ _; omega, fun k1 hk1 => ?_⟩
      have hk1 : k1 < z + 1 := hk1
      exact ⟨k1, by omega, rfl⟩
    · repeat wtm_at "x"
      exact ⟨z, Nat.le_refl z, rfl⟩
  obtain ⟨z2, hz2, rfl⟩ := hd
  refine es_norm (Γ' := [.bag b c, .val (iD z2), .val (iD t), .val (iD way), .no]) (by rfl) ?_
  refine es_cons ?_
  repeat wtm_at "w"
  refine ifB (fun _ => ?_) (fun _ => ?_)
  · refine es_one (e1_ret ?_)
    refine nd_callBag (k := 6) (i := 0) G_law_any_task hr (by wtm_at "look") ?_
    repeat wtm_at "x"
    exact ⟨by omega, by omega, fun ns o w hk => ⟨q ns o w (hk.le (by omega)), by wtm_at "bm"⟩⟩
  refine es_nil ?_
  refine es_cons ?_
  repeat wtm_at "w"
  refine ifB (fun _ => ?_) (fun _ => ?_)
  · refine es_one (e1_ret ?_)
    refine nd_if ?_
    refine nt_cmp ?_
    repeat wtm_at "x"
    refine ifB (fun _ => ?_) (fun _ => ?_)
    · refine nd_callBag (k := 6) (i := 0) G_law_parted_task hr (by wtm_at "look") ?_
      repeat wtm_at "x"
      exact ⟨by omega, by omega, fun ns o w hk _ => ⟨q ns o w (hk.le (by omega)), by wtm_at "bm"⟩⟩
    · refine nd_callBag (k := 6) (i := 0) G_law_even_task hr (by wtm_at "look") ?_
      repeat wtm_at "x"
      exact ⟨by omega, by omega, fun ns o w hk _ => ⟨q ns o w (hk.le (by omega)), by wtm_at "bm"⟩⟩
  refine es_nil ?_
  refine es_cons ?_
  refine e1_if ?_
  refine Nt.mono (P := fun _ => True) ?_ (fun t1 _ => ?_)
  · refine nt_and ?_
    refine nt_cmp ?_
    repeat wtm_at "x"
    refine cmp_in (ys := [.int 5, .int 9]) (.inr rfl) rfl rfl ?_
    refine ⟨_, rfl, ifB (fun _ => ?_) (fun _ => trivial)⟩
    refine nw_and1 ?_
    refine nt_cmp ?_
    repeat wtm_at "x"
    trivial
  refine ifB (fun _ => ?_) (fun _ => ?_)
  · refine es_one (e1_ret ?_)
    refine nd_callBag (k := 6) (i := 0) G_law_stayed_task hr (by wtm_at "look") ?_
    repeat wtm_at "x"
    exact ⟨by omega, by omega, fun ns o w hk => ⟨q ns o w (hk.le (by omega)), by wtm_at "bm"⟩⟩
  refine es_nil ?_
  refine es_cons ?_
  refine e1_if ?_
  refine Nt.mono (P := fun _ => True) ?_ (fun t1 _ => ?_)
  · refine nt_and ?_
    refine nt_cmp ?_
    repeat wtm_at "x"
    refine ifB (fun _ => ?_) (fun _ => trivial)
    refine nw_and1 ?_
    refine nt_cmp ?_
    repeat wtm_at "x"
    trivial
  refine ifB (fun _ => ?_) (fun _ => ?_)
  · refine es_cons ?_
    wtm_at "set"
    repeat wtm_at "x"
    rw [div2]
    refine es_one (e1_ret ?_)
    refine nd_call (k := 6) G_law_beside hr ?_
    refine na_cons ?_
    refine nd_callBag (k := 6) (i := 0) G_law_parted_task hr (by wtm_at "look") ?_
    repeat wtm_at "x"
    refine ⟨by show z2 / 2 ≤ 900; omega, by show t / 2 ≤ 900; omega, fun n1 o1 w1 hk1 _ => ?_⟩
    have hk1 : TkOk (z2 / 2) n1 o1 w1 := hk1
    refine na_cons ?_
    refine nd_callBag (k := 6) (i := 0) G_law_any_task hr (by wtm_at "look") ?_
    repeat wtm_at "x"
    try rw [div2]
    have e1 : PyData.int ((z2 : Int) - ((z2 / 2 : Nat) : Int)) = iD (z2 - z2 / 2) := by
      show PyData.int _ = PyData.int _
      rw [show ((z2 - z2 / 2 : Nat) : Int) = (z2 : Int) - ((z2 / 2 : Nat) : Int) by omega]
    have e2 : PyData.int ((t : Int) - ((t / 2 : Nat) : Int)) = iD (t - t / 2) := by
      show PyData.int _ = PyData.int _
      rw [show ((t - t / 2 : Nat) : Int) = (t : Int) - ((t / 2 : Nat) : Int) by omega]
    rw [e1, e2]
    repeat wtm_at "x"
    refine ⟨by omega, by omega, fun n2 o2 w2 hk2 => ?_⟩
    repeat wtm_at "x"
    have hs1 := hk1.sz
    have hs2 := hk2.sz
    have hl1 := rt_len hk1.n1 hk1.old
    have hl2 := rt_len hk2.n1 hk2.old
    exact ⟨_, _, _, _, _, _, z2 / 2, z2 - z2 / 2, rfl, hk1, hk2, by omega, by omega, by omega, fun ns o w hk => ⟨q ns o w (hk.le (by omega)), by wtm_at "bm"⟩⟩
  refine es_nil ?_
  refine es_one (e1_ret ?_)
  refine nd_sub ?_
  refine nd_callBag (k := 6) (i := 0) G_law_led_task hr (by wtm_at "look") ?_
  repeat wtm_at "x"
  refine nd_callBag (k := 6) (i := 0) G_law_some hr (by wtm_at "look") ?_
  repeat wtm_at "x"
  refine ⟨_, _, rfl, rfl, by simp, by simp, fun x hx => ?_⟩
  have hu : ∃ u : Nat, u ≤ 4 ∧ x = iD u := by
    simp only [List.mem_cons, List.not_mem_nil, or_false] at hx
    rcases hx with rfl | rfl | rfl | rfl
    · exact ⟨1, by omega, rfl⟩
    · exact ⟨2, by omega, rfl⟩
    · exact ⟨2, by omega, rfl⟩
    · exact ⟨4, by omega, rfl⟩
  obtain ⟨u, hu, rfl⟩ := hu
  repeat wtm_at "x"
  refine ⟨by omega, by omega, by omega, fun ns o w p hk => ?_⟩
  repeat wtm_at "x"
  exact ⟨q ns o w (hk.le (by omega)), by wtm_at "bm"⟩
end


set_option Elab.async false
set_option linter.all false
set_option maxRecDepth 100000
set_option maxHeartbeats 2000000
set_option pp.maxSteps 400
/-! Wm.AM: the plan that is made. -/



section
variable {P : Program} {w : World} {K : PySem.W.Frag} {mg : Str → Option Value} {base : Heap}
def S_law_next_copies : Spc := fun ds R => ∃ (ns : List Nat) (o w l : Ly), ds = [tkD ns o w, lyD l] ∧ (∀ n ∈ ns, 1 ≤ n) ∧ Rt ns w ∧ Rt ns l ∧ w.length = l.length ∧ l.length ≤ 1000 ∧ ns.length ≤ 1000 ∧ wrongs w l ≠ [] ∧ ∀ cs, Next ns w l cs → R (.list (cs.map cpD))
theorem wrongs_len (w l : Ly) : (wrongs w l).length ≤ w.length := by
  unfold wrongs
  exact Nat.le_trans (List.length_filter_le _ _) (by rw [List.length_range]; exact Nat.le_refl _)
theorem room_len (ns : List Nat) (l : Ly) : (withRoom ns l).length ≤ l.length := by
  unfold withRoom
  exact Nat.le_trans (List.length_filter_le _ _) (by rw [List.length_range]; exact Nat.le_refl _)
theorem k_law_next_copies (D : Fd K mg "_law_next_copies" s_law_next_copies) (T : Bi mg) (G_law_some : Fk P w K mg base 2 "_law_some" (bSp S_law_some)) (G_law_with_room : Fk P w K mg base 3 "_law_with_room" (pSp S_law_with_room)) (G_law_source_of : Fk P w K mg base 1 "_law_source_of" (pSp S_law_source_of)) (G_law_led : Fk P w K mg base 1 "_law_led" (pSp S_law_led)) : Fk P w K mg base 4 "_law_next_copies" (bSp S_law_next_copies) := by
  refine fk_b D ns_law_next_copies (fun _ _ _ _ _ _ us hl => match us, hl with | [_, _, _], _ => rfl) (fun ds R h => ?_) (fun f cdv A outer s H E hr F b c hb0 ds R h => ?_)
  · obtain ⟨ns, o, w', l, rfl, h1, hrw, hrl, hwl, hlz, hnz, hwne, q⟩ := h
    rfl
  obtain ⟨ns, o, w', l, rfl, h1, hrw, hrl, hwl, hlz, hnz, hwne, q⟩ := h
  have hwz := wrongs_len w' l
  have hrz := room_len ns l
  refine es_cons ?_
  repeat wtm_at "w"
  wtm_at "set"
  refine nd_call (k := 3) G_law_with_room hr ?_
  repeat wtm_at "x"
  refine ⟨fun v m => hrl.lt v m, by omega, by omega, ?_⟩
  refine es_norm (Γ' := [.bag b c, .val (tkD ns o w'), .val (lyD l), .val (nsD ns), .val (lyD o), .val (lyD w'), .val (.list ((withRoom ns l).map iD)), .no, .no, .no, .no, .no, .no, .no]) (by rfl) ?_
  refine es_cons ?_
  wtm_at "slc2"
  refine ni_enumT (by wtm_at "Ben") ?_
  repeat wtm_at "x"
  rw [enumD_map]
  refine lc_map (t := fun p => wrongAt w' l p.2) (f := fun p => iD p.2) (by rw [List.length_zipIdx]; omega) (fun a ha => tgn_pair fun s0 H0 C cl fp => ?_) ?_
  · obtain ⟨x, i⟩ := a
    have z : w'[i]? = some x := by simpa using List.mem_zipIdx_iff_getElem?.mp ha
    have hi := (List.getElem?_eq_some_iff.mp z).1
    have hg : gt w' i = x := by unfold gt; rw [z]; rfl
    refine nts_one ?_
    show Nt _ _ _ fun b => b = wrongAt w' l i ∧ _
    unfold wrongAt
    rw [hg]
    repeat wtm_at "x"
    rw [isN_o]
    cases x with
    | none =>
      refine iteF ?_
      exact ⟨rfl, fun h => by cases h⟩
    | some v =>
      refine iteT ?_
      repeat wtm_at "x"
      refine ⟨_, atI_map (gt_get (by omega)), ?_⟩
      refine cmp_ne hr.units (shF (flat_o (some v))) (shF (flat_o _)) ?_
      rw [eqv_oo]
      refine ⟨_, rfl, by simp, fun _ => ?_⟩
      intro s2 H2 C2 cl2 fp2
      repeat wtm_at "x"
      rfl
  have e1 : ((w'.zipIdx.filter fun p => wrongAt w' l p.2).map fun p => iD p.2) = (wrongs w' l).map iD := by
    unfold wrongs
    rw [← zipIdx_filter w' (wrongAt w' l), List.map_map]
    rfl
  rw [e1]
  refine es_cons ?_
  first | wtm_at "slc1" | wtm_at "set"
  refine ni_list ?_
  repeat wtm_at "x"
  refine lc_map (enc := iD) (t := fun a => decide (a ∈ withRoom ns l)) (f := iD) (by omega) (fun a ha => tgn_name fun s0 H0 C cl fp => ?_) ?_
  · refine nts_one ?_
    refine nt_cmp ?_
    repeat wtm_at "x"
    refine cmp_in (.inl rfl) rfl (flat_iD _) ?_
    rw [any_iD]
    refine ⟨_, rfl, rfl, fun _ => ?_⟩
    intro s2 H2 C2 cl2 fp2
    repeat wtm_at "x"
    rfl
  obtain ⟨good, hgood⟩ : ∃ x, x = (wrongs w' l).filter fun a => decide (a ∈ withRoom ns l) := ⟨_, rfl⟩
  rw [← hgood]
  have hgm : ∀ p, p ∈ good ↔ p ∈ wrongs w' l ∧ p ∈ withRoom ns l := fun p => by rw [hgood, List.mem_filter]; simp
  have hgz : good.length ≤ 1000 := by
    rw [hgood]
    exact Nat.le_trans (List.length_filter_le _ _) (by omega)
  refine es_norm (Γ' := [.bag b c, .val (tkD ns o w'), .val (lyD l), .val (nsD ns), .val (lyD o), .val (lyD w'), .val (.list ((withRoom ns l).map iD)), .no, .no, .val (.list ((wrongs w' l).map iD)), .val (.list (good.map iD)), .no, .no, .no]) (by rfl) ?_
  -- a wrong place: what is wanted there
  have hwant : ∀ p, p ∈ wrongs w' l → ∃ v n, gt w' p = some v ∧ ns[v]? = some n ∧ gt l p ≠ some v ∧ p < w'.length := fun p hp => by
    obtain ⟨v, e, ne⟩ := wrongAt_iff.mp (mem_wrongs.mp hp)
    obtain ⟨n, hn⟩ := hrw.at e
    exact ⟨v, n, e, hn, ne, gt_lt e⟩
  refine es_cons ?_
  refine e1_if (nt_cmp ?_)
  repeat wtm_at "x"
  refine cmp_neNil hr (sh_flat (flat_iD _)) ?_
  rw [List.isEmpty_map]
  refine ⟨_, rfl, ifB (fun hc => ?_) (fun hc => ?_)⟩
  · refine es_cons ?_
    wtm_at "set"
    refine nd_callBag (k := 3) (i := 0) G_law_some hr (by wtm_at "look") ?_
    repeat wtm_at "x"
    refine ⟨_, _, rfl, rfl, fun e => ?_, by rw [List.length_map]; omega, fun x hx => ?_⟩
    · rw [List.map_eq_nil_iff.mp e] at hc
      cases hc
    obtain ⟨p, hp, rfl⟩ := List.mem_map.mp hx
    obtain ⟨hp1, hp2⟩ := (hgm p).mp hp
    obtain ⟨v, n, hv, hn, hne, hpl⟩ := hwant p hp1
    refine es_one (e1_ret ?_)
    refine nd_lst ?_
    refine na_cons ?_
    refine nd_tup ?_
    repeat wtm_at "x"
    refine nd_call (k := 3) G_law_source_of hr ?_
    repeat wtm_at "x"
    refine ⟨_, atI_map (gt_get hpl), ?_⟩
    rw [hv]
    repeat wtm_at "x"
    refine ⟨by omega, srcs_ne hrl h1 hn hne, ?_⟩
    repeat wtm_at "x"
    exact ⟨q _ (.good p v hp1 hp2 hv), by wtm_at "bm"⟩
  have hnog : ∀ p ∈ wrongs w' l, p ∉ withRoom ns l := fun p hp hr2 => by
    have := (hgm p).mpr ⟨hp, hr2⟩
    cases good with
    | nil => simp at this
    | cons a L => simp at hc
  refine es_nil ?_
  refine es_cons ?_
  wtm_at "set"
  refine nd_bin ?_
  repeat wtm_at "x"
  refine ni_list ?_
  repeat wtm_at "x"
  refine lc_map (enc := iD) (t := fun a => (gt w' a).isNone) (f := iD) (by omega) (fun a ha => tgn_name fun s0 H0 C cl fp => ?_) ?_
  · refine nts_one ?_
    repeat wtm_at "x"
    refine ⟨_, atI_map (gt_get (by have := (mem_room.mp ha).1; omega)), ?_⟩
    repeat wtm_at "x"
    refine ⟨isN_o _, fun _ => ?_⟩
    intro s2 H2 C2 cl2 fp2
    repeat wtm_at "x"
    rfl
  repeat wtm_at "x"
  refine ni_list ?_
  repeat wtm_at "x"
  refine lc_map (enc := iD) (t := fun a => !(gt w' a).isNone) (f := iD) (by omega) (fun a ha => tgn_name fun s0 H0 C cl fp => ?_) ?_
  · refine nts_one ?_
    repeat wtm_at "x"
    refine ⟨_, atI_map (gt_get (by have := (mem_room.mp ha).1; omega)), ?_⟩
    repeat wtm_at "x"
    refine ⟨by rw [isN_o], fun _ => ?_⟩
    intro s2 H2 C2 cl2 fp2
    repeat wtm_at "x"
    rfl
  have hl1 : ((withRoom ns l).filter fun a => (gt w' a).isNone).length ≤ (withRoom ns l).length := List.length_filter_le _ _
  have hl2 : ((withRoom ns l).filter fun a => !(gt w' a).isNone).length ≤ (withRoom ns l).length := List.length_filter_le _ _
  refine bin_cat (by rw [List.length_map, List.length_map]; omega) ?_
  rw [← List.map_append]
  obtain ⟨asd, hasd⟩ : ∃ x, x = ((withRoom ns l).filter fun a => (gt w' a).isNone) ++ (withRoom ns l).filter fun a => !(gt w' a).isNone := ⟨_, rfl⟩
  rw [← hasd]
  have ham : ∀ a, a ∈ asd ↔ a ∈ withRoom ns l := fun a => by
    rw [hasd, List.mem_append, List.mem_filter, List.mem_filter]
    cases (gt w' a).isNone <;> simp
  refine es_norm (Γ' := [.bag b c, .val (tkD ns o w'), .val (lyD l), .val (nsD ns), .val (lyD o), .val (lyD w'), .val (.list ((withRoom ns l).map iD)), .no, .no, .val (.list ((wrongs w' l).map iD)), .val (.list (good.map iD)), .no, .val (.list (asd.map iD)), .no]) (by rfl) ?_
  refine es_cons ?_
  refine e1_if (nt_cmp ?_)
  repeat wtm_at "x"
  refine cmp_eqNil hr (sh_flat (flat_iD _)) ?_
  rw [List.isEmpty_map]
  refine ⟨_, rfl, ifB (fun hc2 => ?_) (fun hc2 => ?_)⟩
  · have hre : withRoom ns l = [] := by
      cases hz : withRoom ns l with
      | nil => rfl
      | cons a L =>
        have : a ∈ asd := (ham a).mpr (by rw [hz]; exact List.mem_cons_self)
        cases asd with
        | nil => simp at this
        | cons b M => cases hc2
    refine es_one (e1_ret ?_)
    refine nd_lst ?_
    repeat wtm_at "x"
    exact ⟨q [] (.stop hre), by wtm_at "bm"⟩
  obtain ⟨a0, M, rfl⟩ : ∃ a0 M, asd = a0 :: M := by
    cases asd with
    | nil => cases hc2
    | cons a M => exact ⟨a, M, rfl⟩
  have ha0 : a0 ∈ withRoom ns l := (ham a0).mp List.mem_cons_self
  have hal := (mem_room.mp ha0).1
  refine es_nil ?_
  refine es_cons ?_
  wtm_at "set"
  refine nd_callBag (k := 3) (i := 0) G_law_some hr (by wtm_at "look") ?_
  repeat wtm_at "x"
  refine ⟨_, _, rfl, rfl, fun e => hwne (List.map_eq_nil_iff.mp e), by rw [List.length_map]; omega, fun x hx => ?_⟩
  obtain ⟨p, hp, rfl⟩ := List.mem_map.mp hx
  obtain ⟨v, n, hv, hn, hne, hpl⟩ := hwant p hp
  have hat0 : atI ((a0 :: M).map iD) 0 = some (iD a0) := atI_nat (i := 0) rfl
  have hpn := hnog p hp
  have hap : a0 ≠ p := fun e => hpn (e ▸ ha0)
  have hsa := room_safe (s := p) hrl ha0
  have hr1 := hrl.led hsa
  have hgl1 : gt (ledm l [(a0, p)]) p = gt l p := led_out (by unfold pls; simp; exact fun e => hap e.symm)
  refine es_cons ?_
  wtm_at "set"
  refine nd_call (k := 3) G_law_led hr ?_
  repeat wtm_at "x"
  refine ⟨_, hat0, ?_⟩
  repeat wtm_at "x"
  refine ⟨l, [(a0, p)], rfl, fun c' hc' => by rw [List.mem_singleton.mp hc']; exact ⟨hal, by omega⟩, by simp, ?_⟩
  refine es_one (e1_ret ?_)
  refine nd_lst ?_
  refine na_cons ?_
  refine nd_tup ?_
  repeat wtm_at "x"
  refine ⟨_, hat0, ?_⟩
  repeat wtm_at "x"
  refine nd_call (k := 3) G_law_source_of hr ?_
  repeat wtm_at "x"
  refine ⟨_, atI_map (gt_get hpl), ?_⟩
  rw [hv]
  repeat wtm_at "x"
  refine ⟨by rw [ledm_len]; omega, srcs_ne hr1 h1 hn (by rw [hgl1]; exact hne), ?_⟩
  repeat wtm_at "x"
  exact ⟨q _ (.aside a0 p v hnog ha0 hp hv), by wtm_at "bm"⟩
end


set_option Elab.async false
set_option linter.all false
set_option maxRecDepth 100000
set_option maxHeartbeats 2000000
set_option pp.maxSteps 400
/-! Wm.AN: the plan that is made, further. -/



theorem sh_cps (s : St1) : SeqAt.shaped (.list (s.map cpD)) = true := by
  have h := depC_all s
  show ((PyData.list (s.map cpD)).canLay0 && decide ((PyData.list (s.map cpD)).depth ≤ 64)) = true
  rw [Bool.and_eq_true]
  refine ⟨by simp only [PyData.canLay0]; exact canC_all s, decide_eq_true ?_⟩
  simp only [PyData.depth]
  omega
theorem meas_le (ns : List Nat) (w l : Ly) : meas ns w l ≤ 2 * w.length + 1 := by
  have := wN_le w l
  unfold meas
  split <;> omega
section
variable {P : Program} {w : World} {K : PySem.W.Frag} {mg : Str → Option Value} {base : Heap}
def S_law_made_plan : Spc := fun ds R => ∃ (ns : List Nat) (o w : Ly), ds = [tkD ns o w] ∧ TkOk 200 ns o w ∧ R .none ∧ ∀ cs, RowOk ns o cs → wantedB w (ledC o cs) = true → cs.length ≤ 4 * o.length + 2 → R (plD (madeP cs))
theorem k_law_made_plan (D : Fd K mg "_law_made_plan" s_law_made_plan) (T : Bi mg) (G_law_is_wanted : Fk P w K mg base 1 "_law_is_wanted" (pSp S_law_is_wanted)) (G_law_next_copies : Fk P w K mg base 4 "_law_next_copies" (bSp S_law_next_copies)) (G_law_led : Fk P w K mg base 1 "_law_led" (pSp S_law_led)) : Fk P w K mg base 5 "_law_made_plan" (bSp S_law_made_plan) := by
  refine fk_b D ns_law_made_plan (fun _ _ _ _ _ _ us hl => match us, hl with | [_, _], _ => rfl) (fun ds R h => ?_) (fun f cdv A outer s H E hr F b c hb0 ds R h => ?_)
  · obtain ⟨ns, o, w', rfl, hk, q0, q⟩ := h
    rfl
  obtain ⟨ns, o, w', rfl, hk, q0, q⟩ := h
  have hwl := hk.len
  have hoz := hk.sz
  have hnl := rt_len hk.n1 hk.old
  have hm0 := meas_le ns w' o
  refine es_cons ?_
  refine e1_vo (by wtm_at "m2") (by wtm_at "M") ?_
  repeat wtm_at "x"
  refine nl_lst ?_
  repeat wtm_at "x"
  intro qa hq
  refine es_cons ?_
  refine e1_while PassesOwn.never (fun m Γ2 => ∃ (cs : St1) (l : Ly) (s4 s5 : Sd), Γ2 = [.bag b c, .val (tkD ns o w'), .val (lyD l), .own qa ((madeP cs).map stD), s4, s5] ∧ MadeInv ns o l cs ∧ meas ns w' l = m ∧ cs.length + 2 * m ≤ 4 * o.length + 2) (meas ns w' o) ⟨[], o, .no, .no, rfl, ⟨⟨by simp, by simp, by simp, by omega, by omega⟩, rfl, hk.old⟩, rfl, by simp; omega⟩ ?_
  rintro m Γ2 ⟨cs, l, s4, s5, rfl, hM, hme, hcz⟩
  have hll := hM.len
  refine nt_not ?_
  refine nt_val ?_
  refine nd_call (k := 4) G_law_is_wanted hr ?_
  repeat wtm_at "x"
  refine ⟨by omega, by omega, ?_⟩
  refine ⟨_, rfl, ifB (fun hb => ?_) (fun hb => ?_)⟩
  · have hwne : wrongs w' l ≠ [] := fun e => by
      rw [wanted_iff.mpr e] at hb
      cases hb
    refine es_cons ?_
    wtm_at "set"
    refine nd_callBag (k := 4) (i := 0) G_law_next_copies hr (by wtm_at "look") ?_
    repeat wtm_at "x"
    refine ⟨hk.n1, hk.wish, hM.rt, by omega, by omega, by omega, hwne, fun cs' nx => ?_⟩
    refine es_cons ?_
    refine e1_if (nt_cmp ?_)
    repeat wtm_at "x"
    refine cmp_eqNil hr (sh_cps cs') ?_
    rw [List.isEmpty_map]
    refine ⟨_, rfl, ifB (fun hc => ?_) (fun hc => ?_)⟩
    · refine es_one (e1_ret ?_)
      repeat wtm_at "x"
      exact ⟨q0, by wtm_at "bm"⟩
    · have hne : cs' ≠ [] := fun e => by rw [e] at hc; cases hc
      obtain ⟨hM2, hlt⟩ := next_step hk.n1 hk.wish (by omega) hM (by omega) nx hne
      have hl2 : cs'.length ≤ 2 := by cases nx <;> simp
      refine es_nil ?_
      refine es_one ?_
      wtm_at "for1"
      refine ni_list ?_
      repeat wtm_at "x"
      refine ⟨fun j Γ3 => ∃ (s5 : Sd), Γ3 = [.bag b c, .val (tkD ns o w'), .val (lyD (ledC l (cs'.take j))), .own qa ((madeP (cs ++ cs'.take j)).map stD), .val (.list (cs'.map cpD)), s5], ⟨s5, by rw [List.take_zero, List.append_nil]; rfl⟩, ?_, ?_⟩
      · rintro j d Γ3 hd ⟨s6, rfl⟩
        rw [List.getElem?_map] at hd
        cases hq2 : cs'[j]? with
        | none => rw [hq2] at hd; cases hd
        | some cp =>
          rw [hq2] at hd
          cases hd
          have hbd := hM2.row.bd cp (List.mem_append_right _ (List.mem_of_getElem? hq2))
          have hjl := (List.getElem?_eq_some_iff.mp hq2).1
          refine es_cons ?_
          refine e1_append (i := 3) (by wtm_at "look") ?_
          refine nd_tup ?_
          repeat wtm_at "x"
          refine ⟨by rw [List.length_map, made_len, List.length_append, List.length_take]; omega, ?_⟩
          have e1 : (madeP (cs ++ cs'.take j)).map stD ++ [PyData.tuple [cpD cp]] = (madeP (cs ++ cs'.take (j + 1))).map stD := by
            rw [take_snoc hq2, ← List.append_assoc]
            unfold madeP
            rw [List.map_append, List.map_append (l₁ := cs ++ cs'.take j), List.map_append (l₁ := (cs ++ cs'.take j).map fun c => [c])]
            simp only [List.map_append, List.map_cons, List.map_nil]
            rfl
          rw [e1]
          refine es_one ?_
          wtm_at "set"
          refine nd_call (k := 4) G_law_led hr ?_
          repeat wtm_at "x"
          have hlast : atI ((madeP (cs ++ cs'.take (j + 1))).map stD) (-1) = some (stD [cp]) := by
            rw [← e1]
            refine atI_last ?_
            rw [List.length_append, List.length_singleton, Nat.add_sub_cancel, List.getElem?_append_right (Nat.le_refl _), Nat.sub_self]
            rfl
          refine ⟨_, hlast, lless_st _, ?_⟩
          repeat wtm_at "x"
          refine ⟨fun c' hc' => by rw [List.mem_singleton.mp hc', ledC_len, hll]; exact ⟨hbd.1, hbd.2.1⟩, by simp, ?_⟩
          refine ⟨.val (cpD cp), ?_⟩
          rw [take_snoc hq2, ledC_snoc]
          rfl
      · rintro Γ3 ⟨s6, rfl⟩
        rw [List.length_map, List.take_length]
        exact ⟨meas ns w' (ledC l cs'), by omega, cs ++ cs', ledC l cs', _, _, rfl, hM2, rfl, by rw [List.length_append]; omega⟩
  · have hwt : wantedB w' l = true := by
      cases h : wantedB w' l with
      | true => rfl
      | false => rw [h] at hb; cases hb
    refine es_freeze (i := 3) (by wtm_at "look") (fun h => hq h) ?_
    repeat wtm_at "w"
    exact ⟨q cs hM.row (by rw [hM.lay]; exact hwt) (by omega), by wtm_at "bm"⟩
end


set_option Elab.async false
set_option linter.all false
set_option maxRecDepth 100000
set_option maxHeartbeats 2000000
set_option pp.maxSteps 400
/-! Wm.AO: what may be lost, by the law and by the judge. -/



theorem Least.step {m k : Nat} {A B C : List Nat} (a : Least m A) (b : Least k (m :: B)) (h : ∀ x, x ∈ C ↔ x ∈ A ∨ x ∈ B) : Least k C := by
  refine ⟨?_, fun x hx => ?_⟩
  · rcases List.mem_cons.mp b.1 with e | hk
    · exact (h k).mpr (.inl (e ▸ a.1))
    · exact (h k).mpr (.inr hk)
  · rcases (h x).mp hx with h1 | h1
    · exact Nat.le_trans (b.2 m List.mem_cons_self) (a.2 x h1)
    · exact b.2 x (List.mem_cons_of_mem _ h1)
theorem lefts_snoc (o : Ly) (p : List St1) (s : St1) : lefts o (p ++ [s]) = lefts o p ++ [outs (ledP o p) (pls s)] := by
  have hl : (lts o p).length = p.length + 1 := lts_len o p
  have e1 : lts o p = (lts o p).take p.length ++ [ledP o p] := by
    conv => lhs; rw [← List.take_append_drop p.length (lts o p)]
    congr 1
    apply List.ext_getElem?
    intro i
    rw [List.getElem?_drop]
    cases i with
    | zero =>
      rw [Nat.add_zero, lts_at o p (Nat.le_refl _), List.take_length]
      rfl
    | succ i =>
      rw [List.getElem?_eq_none (by omega), List.getElem?_eq_none (by simp)]
  have e2 : ∀ B : List Ly, (((lts o p).take p.length ++ B).zip p) = ((lts o p).take p.length).zip p := fun B => by
    have := List.zip_append (l₁ := (lts o p).take p.length) (r₁ := B) (l₂ := p) (r₂ := []) (by rw [List.length_take]; omega)
    rw [List.append_nil, List.zip_nil_right, List.append_nil] at this
    exact this
  unfold lefts
  rw [lts_snoc]
  conv => lhs; rw [e1]
  conv => rhs; rw [e1, e2]
  rw [List.append_assoc, List.zip_append (by rw [List.length_take]; omega), List.map_append]
  rfl
theorem mom_snoc {ns : List Nat} {o : Ly} {p : List St1} {s : St1} (x : Nat) : x ∈ momL ns o (p ++ [s]) ↔ (x ∈ momL ns o p ∨ x ∈ stands ns.length (outs (ledP o p) (pls s))) ∨ x ∈ stands ns.length (ledP o (p ++ [s])) := by
  unfold momL
  rw [lts_snoc, lefts_snoc]
  simp only [List.flatMap_append, List.mem_append, List.flatMap_cons, List.flatMap_nil, List.append_nil]
  constructor
  · rintro ((h | h) | (h | h))
    · exact .inl (.inl (.inl h))
    · exact .inr h
    · exact .inl (.inl (.inr h))
    · exact .inl (.inr h)
  · rintro (((h | h) | h) | h)
    · exact .inl (.inl h)
    · exact .inr (.inl h)
    · exact .inr (.inr h)
    · exact .inl (.inr h)
theorem mom_nil (ns : List Nat) (o : Ly) : momL ns o [] = stands ns.length o := by
  unfold momL lefts lts
  simp [ledP]
theorem stands_len (n : Nat) (l : Ly) : (stands n l).length = n := by
  unfold stands
  rw [List.length_map, List.length_range]
theorem stands_outl (n : Nat) (l : Ly) (pl : List Nat) : stands n (outl l pl) = stands n (outs l pl) := by
  unfold stands
  congr 1
  funext v
  exact cnt_outl l pl v
theorem nd_minN {X : Cx} {Γ : Ctx} {P : PyData → Prop} {e : Expr} {p pos : Pos} (T : Bi X.mg) (hc : X.calm = true) (h : Nd X e Γ fun d => ∃ ns : List Nat, d = .list (ns.map iD) ∧ 0 < ns.length ∧ ∀ m : Nat, Least m ns → P (iD m)) (hg : Gl X "min" := by rfl) (he : starEach [e] X.env = (false, eval e X.env) :: starEach [] X.env := by rfl) (hpl : (backTo pos (starEach [] X.env)).any (·.1) = false := by rfl) : Nd X (.Call (.Name "min" p) [e] [] pos) Γ P :=
  nd_minL T hc (h.mono fun d ⟨ns, hx, hl, q⟩ => ⟨ns.map Int.ofNat, by rw [hx, List.map_map]; rfl, by rw [List.length_map]; exact hl, fun m hm hle => by
    obtain ⟨k, hk, rfl⟩ := List.mem_map.mp hm
    exact q k ⟨hk, fun y hy => Int.ofNat_le.mp (hle _ (List.mem_map_of_mem hy))⟩⟩) hg he hpl
theorem nd_minNT {X : Cx} {Γ : Ctx} {P : PyData → Prop} {e : Expr} {p pos : Pos} (T : Bi X.mg) (hc : X.calm = true) (h : Nd X e Γ fun d => ∃ ns : List Nat, d = .tuple (ns.map iD) ∧ 0 < ns.length ∧ ∀ m : Nat, Least m ns → P (iD m)) (hg : Gl X "min" := by rfl) (he : starEach [e] X.env = (false, eval e X.env) :: starEach [] X.env := by rfl) (hpl : (backTo pos (starEach [] X.env)).any (·.1) = false := by rfl) : Nd X (.Call (.Name "min" p) [e] [] pos) Γ P :=
  nd_minT T hc (h.mono fun d ⟨ns, hx, hl, q⟩ => ⟨ns.map Int.ofNat, by rw [hx, List.map_map]; rfl, by rw [List.length_map]; exact hl, fun m hm hle => by
    obtain ⟨k, hk, rfl⟩ := List.mem_map.mp hm
    exact q k ⟨hk, fun y hy => Int.ofNat_le.mp (hle _ (List.mem_map_of_mem hy))⟩⟩) hg he hpl
section
variable {P : Program} {w : World} {K : PySem.W.Frag} {mg : Str → Option Value} {base : Heap}
def S_law_losses : Spc := fun ds R => ∃ (ns : List Nat) (o w : Ly) (p : List St1), ds = [tkD ns o w, plD p] ∧ 0 < ns.length ∧ ns.length ≤ 1000 ∧ o.length ≤ 1000 ∧ bdP o.length p ∧ p.length ≤ 90000 ∧ ∀ m : Nat, Least m (momL ns o p) → R (.int ((m : Int) - 1))
theorem k_law_losses (D : Fd K mg "_law_losses" s_law_losses) (T : Bi mg) (G_law_standings : Fk P w K mg base 1 "_law_standings" (pSp S_law_standings)) (G_law_led : Fk P w K mg base 1 "_law_led" (pSp S_law_led)) : Fk P w K mg base 2 "_law_losses" (pSp S_law_losses) := by
  refine fk_p D ns_law_losses (fun _ _ _ _ _ _ us hl => match us, hl with | [_, _], _ => rfl) (fun ds R h => ?_) (fun f cdv A outer s H E hr F ds R h => ?_)
  · obtain ⟨ns, o, w', p, rfl, hn, hz2, hz, hb, hpz, q⟩ := h
    rfl
  obtain ⟨ns, o, w', p, rfl, hn, hz2, hz, hb, hpz, q⟩ := h
  refine es_cons ?_
  refine e1_vv (by wtm_at "m2") ?_
  repeat wtm_at "x"
  refine nd_minN (by assumption) (by wtm_at "calm") ?_
  refine nd_call (k := 1) G_law_standings hr ?_
  repeat wtm_at "x"
  refine ⟨_, _, o, rfl, .inr rfl, by omega, by omega, ?_⟩
  refine ⟨_, rfl, by rw [stands_len]; exact hn, fun m hm => ?_⟩
  refine es_cons ?_
  wtm_at "for1"
  refine ni_tup ?_
  repeat wtm_at "x"
  refine ⟨fun n Γ2 => ∃ (m : Nat) (s4 s5 : Sd), Γ2 = [.val (tkD ns o w'), .val (plD p), .val (lyD (ledP o (p.take n))), .val (iD m), s4, .no, .no, s5, .no, .no] ∧ Least m (momL ns o (p.take n)), ⟨m, .no, .no, rfl, by rw [List.take_zero, mom_nil]; exact hm⟩, ?_, ?_⟩
  · rintro n d Γ2 hd ⟨m1, s4, s5, rfl, hm1⟩
    rw [List.getElem?_map] at hd
    cases hs : p[n]? with
    | none => rw [hs] at hd; cases hd
    | some s' =>
      rw [hs] at hd
      cases hd
      have hmm := List.mem_of_getElem? hs
      have hll : (ledP o (p.take n)).length = o.length := ledP_len o _
      have hbs := hb s' hmm
      refine es_cons ?_
      wtm_at "set"
      repeat wtm_at "x"
      wtm_at "seq"
      refine lc_all (enc := cpD) (f := fun c => iD c.1) hbs.2 (fun a ha => tgn_pair fun s0 H0 C cl fp => ?_) ?_
      · repeat wtm_at "w"
        rfl
      have ep : s'.map (fun c => iD c.1) = (pls s').map iD := by unfold pls; rw [List.map_map]; rfl
      rw [ep]
      refine es_cons ?_
      wtm_at "set"
      refine nd_minN (by assumption) (by wtm_at "calm") ?_
      repeat wtm_at "x"
      refine nd_call (k := 1) G_law_standings hr ?_
      repeat wtm_at "x"
      refine ni_enumT (by wtm_at "Ben") ?_
      repeat wtm_at "x"
      rw [enumD_map]
      refine lc_map (t := fun p => !decide (p.2 ∈ pls s')) (f := fun p => oD p.1) (by rw [List.length_zipIdx, hll]; omega) (fun a ha => tgn_pair fun s0 H0 C cl fp => ?_) ?_
      · refine nts_one ?_
        repeat wtm_at "w"
        refine cmp_notIn (.inl rfl) rfl (flat_iD _) ?_
        rw [any_iD]
        refine ⟨_, rfl, rfl, fun _ => ?_⟩
        intro s2 H2 C2 cl2 fp2
        repeat wtm_at "w"
        rfl
      have e : (((ledP o (p.take n)).zipIdx.filter fun p => !decide (p.2 ∈ pls s')).map fun p => oD p.1) = (outl (ledP o (p.take n)) (pls s')).map oD := by
        unfold outl
        rw [List.map_map]
        rfl
      rw [e]
      repeat wtm_at "x"
      refine ⟨_, _, outl (ledP o (p.take n)) (pls s'), rfl, .inl rfl, by omega, Nat.le_trans (outl_len _ _) (by omega), ?_⟩
      refine bin_cat (by rw [List.length_map, stands_len]; simp only [List.length_cons, List.length_nil]; omega) ?_
      refine ⟨m1 :: stands ns.length (outl (ledP o (p.take n)) (pls s')), rfl, by simp, fun m2 hm2 => ?_⟩
      rw [stands_outl] at hm2
      refine es_cons ?_
      wtm_at "set"
      refine nd_call (k := 1) G_law_led hr ?_
      repeat wtm_at "x"
      refine ⟨fun c hc => by rw [hll]; exact hbs.1 c hc, hbs.2, ?_⟩
      refine es_one ?_
      wtm_at "set"
      refine nd_minN (by assumption) (by wtm_at "calm") ?_
      repeat wtm_at "x"
      refine nd_call (k := 1) G_law_standings hr ?_
      repeat wtm_at "x"
      refine ⟨_, _, ledm (ledP o (p.take n)) s', rfl, .inr rfl, by omega, by rw [ledm_len, hll]; omega, ?_⟩
      refine bin_cat (by rw [List.length_map, stands_len]; simp only [List.length_cons, List.length_nil]; omega) ?_
      refine ⟨m2 :: stands ns.length (ledm (ledP o (p.take n)) s'), rfl, by simp, fun m3 hm3 => ?_⟩
      refine ⟨m3, .val (stD s'), .val (.list ((pls s').map iD)), ?_, ?_⟩
      · rw [take_snoc hs, ledP_snoc]
        rfl
      · rw [take_snoc hs]
        have h1 : Least m2 (momL ns o (p.take n) ++ stands ns.length (outs (ledP o (p.take n)) (pls s'))) := hm1.step hm2 fun x => List.mem_append
        rw [← ledP_snoc] at hm3
        exact h1.step hm3 fun x => by rw [mom_snoc, List.mem_append]
  · rintro Γ2 ⟨m1, s4, s5, rfl, hm1⟩
    rw [List.length_map, List.take_length] at hm1
    refine es_one (e1_ret ?_)
    repeat wtm_at "x"
    exact q m1 hm1
end


set_option Elab.async false
set_option linter.all false
set_option maxRecDepth 100000
set_option maxHeartbeats 2000000
set_option pp.maxSteps 400
/-! Wm.AP: what may be lost, by the judge. -/



theorem Least.of {k : Nat} {α : Type} {f : α → List Nat} {g : α → Nat} {as : List α} (hg : ∀ a ∈ as, Least (g a) (f a)) (h : Least k (as.map g)) : Least k (as.flatMap f) := by
  refine ⟨?_, fun x hx => ?_⟩
  · obtain ⟨a, ha, e⟩ := List.mem_map.mp h.1
    exact List.mem_flatMap.mpr ⟨a, ha, e ▸ (hg a ha).1⟩
  · obtain ⟨a, ha, hx⟩ := List.mem_flatMap.mp hx
    exact Nat.le_trans (h.2 _ (List.mem_map_of_mem ha)) ((hg a ha).2 x hx)
theorem least_ex : ∀ {L : List Nat}, 0 < L.length → ∃ m, Least m L
  | [x], _ => ⟨x, List.mem_singleton.mpr rfl, fun y hy => by rw [List.mem_singleton.mp hy]; exact Nat.le_refl _⟩
  | x :: y :: L, _ => by
    obtain ⟨m, h1, h2⟩ := least_ex (L := y :: L) (by simp)
    by_cases h : x ≤ m
    · exact ⟨x, List.mem_cons_self, fun z hz => (List.mem_cons.mp hz).elim (fun e => by rw [e]; exact Nat.le_refl _) fun hz => Nat.le_trans h (h2 z hz)⟩
    · exact ⟨m, List.mem_cons_of_mem _ h1, fun z hz => (List.mem_cons.mp hz).elim (fun e => by rw [e]; omega) fun hz => h2 z hz⟩
theorem sh_flatT {xs : List PyData} (h : xs.all flatD = true) : SeqAt.shaped (.tuple xs) = true := by
  have dep : ∀ ys : List PyData, ys.all flatD = true → PyData.depthAll ys = 0 := fun ys => by
    induction ys with
    | nil => intro _; simp [PyData.depthAll]
    | cons y ys ih =>
      intro hy
      rw [List.all_cons, Bool.and_eq_true] at hy
      have hy1 := hy.1
      rw [PyData.depthAll, ih hy.2]
      cases y <;> first | (simp [flatD] at hy1; done) | simp [PyData.depth]
  show (PyData.canLay0 (.tuple xs) && decide (PyData.depth (.tuple xs) ≤ 64)) = true
  rw [Bool.and_eq_true]
  refine ⟨by simp only [PyData.canLay0]; exact canF h, decide_eq_true ?_⟩
  simp only [PyData.depth]
  rw [dep xs h]
  decide
theorem flat_ns (ns : List Nat) : (ns.map iD).all flatD = true := by
  rw [List.all_map, List.all_eq_true]
  intro _ _
  rfl
open Classical in
noncomputable def leastOf (L : List Nat) : Nat := if h : ∃ m, Least m L then h.choose else 0
theorem leastOf_ok {L : List Nat} (h : 0 < L.length) : Least (leastOf L) L := by
  unfold leastOf
  rw [dif_pos (least_ex h)]
  exact (least_ex h).choose_spec
section
variable {P : Program} {w : World} {K : PySem.W.Frag} {mg : Str → Option Value} {base : Heap}
def S_borne_losses : Spc := fun ds R => ∃ (ns : List Nat) (o w : Ly) (p : List St1), ds = [tkD ns o w, plD p] ∧ 0 < ns.length ∧ ns.length ≤ 1000 ∧ o.length ≤ 1000 ∧ bdP o.length p ∧ canP o p ∧ p.length ≤ 40000 ∧ ∀ m : Nat, Least m (momL ns o p) → R (.int ((m : Int) - 1))
theorem k_borne_losses (D : Fd K mg "borne_losses" s_borne_losses) (T : Bi mg) (G_layouts_through : Fk P w K mg base 2 "layouts_through" (pSp S_layouts_through)) (G_outside : Fk P w K mg base 2 "outside" (pSp S_outside)) (G_standings : Fk P w K mg base 1 "standings" (pSp S_standings)) : Fk P w K mg base 3 "borne_losses" (pSp S_borne_losses) := by
  refine fk_p D ns_borne_losses (fun _ _ _ _ _ _ us hl => match us, hl with | [_, _], _ => rfl) (fun ds R h => ?_) (fun f cdv A outer s H E hr F ds R h => ?_)
  · obtain ⟨ns, o, w', p, rfl, hn, hz2, hz, hb, hcan, hpz, q⟩ := h
    rfl
  obtain ⟨ns, o, w', p, rfl, hn, hz2, hz, hb, hcan, hpz, q⟩ := h
  have hbl := hb
  refine es_cons ?_
  repeat wtm_at "w"
  refine cmp_eq hr.units (sh_flatT (flat_ns ns)) (by rfl) ?_
  rw [show nsD ns = .tuple (ns.map iD) from rfl, eqv_nilT]
  refine ⟨_, rfl, ?_⟩
  rw [show ns.isEmpty = false by cases ns with | nil => cases hn | cons _ _ => rfl]
  repeat wtm_at "w"
  wtm_at "set"
  refine nd_call (k := 2) G_layouts_through hr ?_
  repeat wtm_at "x"
  refine ⟨hb, by omega, hcan, ?_⟩
  refine es_cons ?_
  wtm_at "slc2"
  refine ni_zipLT (by wtm_at "Bzip") ?_
  repeat wtm_at "x"
  rw [zipD_map]
  refine lc_all (f := fun q => lyD (outs q.1 (pls q.2))) (by rw [List.length_zip]; omega) (fun a ha => tgn_pair fun s0 H0 C cl fp => ?_) ?_
  · have h1 := List.of_mem_zip ha
    obtain ⟨i, hi, e⟩ := lts_mem.mp h1.1
    refine nd_call (k := 2) G_outside hr ?_
    repeat wtm_at "x"
    refine ⟨by rw [e, ledP_len]; omega, (hb _ h1.2).2, ?_⟩
    rfl
  have el : ((lts o p).zip p).map (fun q => lyD (outs q.1 (pls q.2))) = (lefts o p).map lyD := by
    unfold lefts
    rw [List.map_map]
    rfl
  rw [el]
  refine es_one (e1_ret ?_)
  refine nd_bin ?_
  refine nd_minN (by assumption) (by wtm_at "calm") ?_
  repeat wtm_at "x"
  refine ni_list ?_
  refine nd_lst ?_
  refine na_star ?_
  repeat wtm_at "x"
  rw [List.append_nil, ← List.map_append]
  have hlen : (lts o p ++ lefts o p).length ≤ 90001 := by
    unfold lefts
    rw [List.length_append, lts_len, List.length_map, List.length_zip, lts_len]
    omega
  refine ⟨by rw [List.length_map]; omega, _, rfl, ?_⟩
  refine lc_all (enc := lyD) (f := fun l => iD (leastOf (stands ns.length l))) (by omega) (fun a ha => tgn_name fun s0 H0 C cl fp => ?_) ?_
  · refine nd_minNT (by assumption) (by wtm_at "calm") ?_
    refine nd_call (k := 2) G_standings hr ?_
    repeat wtm_at "x"
    refine ⟨by omega, stands ns.length a, rfl, by rw [stands_len]; exact hn, fun m hm => ?_⟩
    rw [hm.uniq (leastOf_ok (by rw [stands_len]; exact hn))]
  refine ⟨(lts o p ++ lefts o p).map fun l => leastOf (stands ns.length l), by rw [List.map_map]; rfl, by rw [List.length_map, List.length_append, lts_len]; omega, fun m hm => ?_⟩
  repeat wtm_at "x"
  show R _
  exact q m (Least.of (f := stands ns.length) (g := fun l => leastOf (stands ns.length l)) (as := lts o p ++ lefts o p) (fun a _ => leastOf_ok (L := stands ns.length a) (by rw [stands_len]; exact hn)) hm)
end


set_option Elab.async false
set_option linter.all false
set_option maxRecDepth 100000
set_option maxHeartbeats 2000000
/-! Wm.AQ: one turn of enumerate(zip(..)), told by states: what stands at zip's cells, and what is as at the turn's begin. -/


abbrev ZipA (h : Heap) (z TI TO : Addr) (v : Value) (f : Bool) : Prop :=
  h.get? z = some { cls := .type "zip", dict := none, data := .fields #[v, .bool f, .bool false, .ref TI, .ref TO], slots := #[] }
/-- zip's first field between two turns: no tuple, or the address of the one that went out -/
def Own0 (v : Value) : Prop := v = .none ∨ ∃ T : Nat, v = rawInt T
/-- all but zip's four changing cells is as in g -/
def Rest (z TO i1 i2 : Addr) (g h : Heap) : Prop := ∀ c o, c ≠ z → c ≠ TO → c ≠ i1 → c ≠ i2 → g.get? c = some o → h.get? c = some o
/-- within a turn that began at g: the first iterator has told i, the second j -/
structure Zs (z TI TO i1 i2 : Addr) (T1 T2 : Nat → Heap → Prop) (g : Heap) (i j : Nat) (v : Value) (f : Bool) (b1 b2 : Value) (h : Heap) : Prop where
  zc : ZipA h z TI TO v f
  tc : IsTupOf2 h TO b1 b2
  s1 : T1 i h
  s2 : T2 j h
  sz : h.objs.size = g.objs.size
  rest : Rest z TO i1 i2 g h
/-- an iterator has ended: the exception's object e is there -/
structure Zx (z TI TO i1 i2 : Addr) (g h : Heap) (e : Addr) : Prop where
  zc : ∃ v f, ZipA h z TI TO v f
  rest : Rest z TO i1 i2 g h
  ex : ∃ o, h.get? e = some o ∧ o.cls = .type "StopIteration"
section
variable {prog : Program} {w : World} {A : Around} {E : Value → Shared → Prop} {s : Shared} {z TI TO i1 i2 : Addr} {fp1 fp2 : List Addr} {n1 n2 i j : Nat} {P1 P2 : Nat → Value → Prop} {T1 T2 : Nat → Heap → Prop} {b1 b2 v x : Value} {f : Bool} {g h h' : Heap}
theorem Zs.but (S : ZipSep2 z TI TO i1 i2 fp1 fp2) (D1 : Draws prog w A i1 fp1 n1 P1 T1) (D2 : Draws prog w A i2 fp2 n2 P2 T2) (m : Zs z TI TO i1 i2 T1 T2 g i j v f b1 b2 h) {c : Addr} (hc : c = z ∨ c = TO) (k : Heap.SameBut c h h') {v' : Value} {f' : Bool} {b1' b2' : Value} (a1 : ZipA h' z TI TO v' f') (a2 : IsTupOf2 h' TO b1' b2') : Zs z TI TO i1 i2 T1 T2 g i j v' f' b1' b2' h' where
  zc := a1
  tc := a2
  s1 := D1.over m.s1 k (by rcases hc with rfl | rfl; exact S.zf1; exact S.Tf1)
  s2 := D2.over m.s2 k (by rcases hc with rfl | rfl; exact S.zf2; exact S.Tf2)
  sz := k.1.trans m.sz
  rest := fun d o p q r t u => k.extBut d o (by rcases hc with rfl | rfl; exact p; exact q) (m.rest d o p q r t u)
/-- a field of zip is written -/
theorem zs_set (S : ZipSep2 z TI TO i1 i2 fp1 fp2) (D1 : Draws prog w A i1 fp1 n1 P1 T1) (D2 : Draws prog w A i2 fp2 n2 P2 T2) {Q : Unit → Shared → Prop} (m : Zs z TI TO i1 i2 T1 T2 g i j v f b1 b2 s.heap)
    (q : ∀ h, Zs z TI TO i1 i2 T1 T2 g i j x f b1 b2 h → Q () { s with heap := h }) : wpAny (model prog w) A (setField (.ref z) 0 x) Q E s :=
  wpAny_setField_rec m.zc (by simp) fun h a k => q h (m.but S D1 D2 (.inl rfl) k a (k.extBut _ _ S.TOz m.tc))
theorem zs_flag (S : ZipSep2 z TI TO i1 i2 fp1 fp2) (D1 : Draws prog w A i1 fp1 n1 P1 T1) (D2 : Draws prog w A i2 fp2 n2 P2 T2) {y : Bool} {Q : Unit → Shared → Prop} (m : Zs z TI TO i1 i2 T1 T2 g i j v f b1 b2 s.heap)
    (q : ∀ h, Zs z TI TO i1 i2 T1 T2 g i j v y b1 b2 h → Q () { s with heap := h }) : wpAny (model prog w) A (setField (.ref z) 1 (.bool y)) Q E s :=
  wpAny_setField_rec m.zc (by simp) fun h a k => q h (m.but S D1 D2 (.inl rfl) k a (k.extBut _ _ S.TOz m.tc))
/-- an item of zip's own tuple is written -/
theorem zs_put (S : ZipSep2 z TI TO i1 i2 fp1 fp2) (D1 : Draws prog w A i1 fp1 n1 P1 T1) (D2 : Draws prog w A i2 fp2 n2 P2 T2) {k : Nat} {Q : Unit → Shared → Prop} (m : Zs z TI TO i1 i2 T1 T2 g i j v f b1 b2 s.heap) {c1 c2 : Value} (e : (#[b1, b2] : Array Value).setIfInBounds k x = #[c1, c2])
    (q : ∀ h, Zs z TI TO i1 i2 T1 T2 g i j v f c1 c2 h → Q () { s with heap := h }) : wpAny (model prog w) A (updateSeq TO (·.setIfInBounds k x)) Q E s :=
  updateSeq_IsTupOf2 m.tc fun h a k => q h (m.but S D1 D2 (.inr rfl) k (k.extBut _ _ S.TOz.symm m.zc) (by rw [e] at a; exact a))
/-- the first iterator is asked: it tells its i-th, or it ends -/
theorem zs_ask1 (S : ZipSep2 z TI TO i1 i2 fp1 fp2) (D1 : Draws prog w A i1 fp1 n1 P1 T1) (D2 : Draws prog w A i2 fp2 n2 P2 T2) {Q : Option Value → Shared → Prop} (m : Zs z TI TO i1 i2 T1 T2 g i j v f b1 b2 s.heap) (le : i ≤ n1)
    (yes : i < n1 → ∀ y h t, P1 i y → Zs z TI TO i1 i2 T1 T2 g (i + 1) j v f b1 b2 h → Q (some y) { s with heap := h, toks := t })
    (no : i = n1 → ∀ h e, Zx z TI TO i1 i2 g h e → E (.ref e) { s with heap := h }) : wpAny (model prog w) A (Builtin.SmallTypes.nextOf (.ref i1) >>= fun y => pure (some y)) Q E s := by
  refine wpAny_bind ?_
  rcases Nat.lt_or_eq_of_le le with l | rfl
  · exact D1.item i s _ E l m.s1 fun y h t p a k => wpAny_pure (yes l y h t p ⟨k.extBut _ _ S.zi1 m.zc, k.extBut _ _ S.Ti1 m.tc, a, D2.over m.s2 k S.sep1_2, k.1.trans m.sz, fun d o p q r t u => k.extBut d o r (m.rest d o p q r t u)⟩)
  · exact D1.done s _ E m.s1 fun h e k x => no rfl h e ⟨⟨v, f, k _ _ S.zi1 m.zc⟩, fun d o p q r t u => k d o r (m.rest d o p q r t u), x⟩
theorem zs_ask2 (S : ZipSep2 z TI TO i1 i2 fp1 fp2) (D1 : Draws prog w A i1 fp1 n1 P1 T1) (D2 : Draws prog w A i2 fp2 n2 P2 T2) {Q : Option Value → Shared → Prop} (m : Zs z TI TO i1 i2 T1 T2 g i j v f b1 b2 s.heap) (le : j ≤ n2)
    (yes : j < n2 → ∀ y h t, P2 j y → Zs z TI TO i1 i2 T1 T2 g i (j + 1) v f b1 b2 h → Q (some y) { s with heap := h, toks := t })
    (no : j = n2 → ∀ h e, Zx z TI TO i1 i2 g h e → E (.ref e) { s with heap := h }) : wpAny (model prog w) A (Builtin.SmallTypes.nextOf (.ref i2) >>= fun y => pure (some y)) Q E s := by
  refine wpAny_bind ?_
  rcases Nat.lt_or_eq_of_le le with l | rfl
  · exact D2.item j s _ E l m.s2 fun y h t p a k => wpAny_pure (yes l y h t p ⟨k.extBut _ _ S.zi2 m.zc, k.extBut _ _ S.Ti2 m.tc, D1.over m.s1 k S.sep2_1, a, k.1.trans m.sz, fun d o p q r t u => k.extBut d o t (m.rest d o p q r t u)⟩)
  · exact D2.done s _ E m.s2 fun h e k x => no rfl h e ⟨⟨v, f, k _ _ S.zi2 m.zc⟩, fun d o p q r t u => k d o t (m.rest d o p q r t u), x⟩
/-- zip clears its field as an iterator ends -/
theorem zx_set {Q : Unit → Shared → Prop} {e : Addr} (m : Zx z TI TO i1 i2 g s.heap e) (q : ∀ h, Zx z TI TO i1 i2 g h e → Q () { s with heap := h }) : wpAny (model prog w) A (setField (.ref z) 0 x) Q E s := by
  obtain ⟨⟨v, f, a⟩, r, o, ho, hc⟩ := m
  refine wpAny_setField_rec a (by simp) fun h b k => q h ⟨⟨x, f, b⟩, fun d u p q r' t y => k.extBut d u p (r d u p q r' t y), o, k.extBut _ _ (fun hq => ?_) ho, hc⟩
  subst hq
  rw [a] at ho
  obtain rfl := Option.some.inj ho
  simp at hc
/-- a new object at the end -/
theorem Zs.grow (D1 : Draws prog w A i1 fp1 n1 P1 T1) (D2 : Draws prog w A i2 fp2 n2 P2 T2) (m : Zs z TI TO i1 i2 T1 T2 g i j v f b1 b2 h) (o : Obj) : Zs z TI TO i1 i2 T1 T2 (h.push o) i j v f b1 b2 (h.push o) :=
  ⟨Heap.get?_push_of_some _ m.zc, Heap.get?_push_of_some _ m.tc, D1.frame _ _ _ m.s1 fun _ _ _ q => Heap.get?_push_of_some _ q, D2.frame _ _ _ m.s2 fun _ _ _ q => Heap.get?_push_of_some _ q, rfl, fun _ _ _ _ _ _ q => q⟩
theorem alive_any {a : Addr} {Q : Option Obj → Shared → Prop} (q : Q (s.heap.get? a) s) : wpAny (model prog w) A (loadIfAlive a) Q E s := fun _ _ _ => q
/-- the pair that goes out -/
theorem zs_pair (D1 : Draws prog w A i1 fp1 n1 P1 T1) (D2 : Draws prog w A i2 fp2 n2 P2 T2) {Q : Value → Shared → Prop} {y1 y2 : Value} (m : Zs z TI TO i1 i2 T1 T2 g i j v f b1 b2 s.heap)
    (q : ∀ h, Zs z TI TO i1 i2 T1 T2 h i j v f b1 b2 h → IsTupOf2 h g.objs.size y1 y2 → h.objs.size = g.objs.size + 1 → Rest z TO i1 i2 g h → Q (.ref g.objs.size) { s with heap := h }) : wpAny (model prog w) A (newTuple [y1, y2]) Q E s := by
  refine wpAny_newTuple ?_
  have k := q (s.heap.push { cls := .type "tuple", data := .seq #[y1, y2] }) (m.grow D1 D2 _) (by rw [← m.sz]; exact Heap.get?_push_size _ rfl) (by rw [Heap.size_push, m.sz]) fun c o p1 p2 p3 p4 u => Heap.get?_push_of_some _ (m.rest c o p1 p2 p3 p4 u)
  rw [← m.sz] at k
  exact k
theorem Zs.apart (D1 : Draws prog w A i1 fp1 n1 P1 T1) (D2 : Draws prog w A i2 fp2 n2 P2 T2) (m : Zs z TI TO i1 i2 T1 T2 g i j v f b1 b2 h) : h.objs.size ≠ z ∧ h.objs.size ≠ TO ∧ h.objs.size ≠ i1 ∧ h.objs.size ≠ i2 := by
  have far : ∀ {c : Addr}, (∃ o, h.get? c = some o) → h.objs.size ≠ c := fun ⟨_, e⟩ => Nat.ne_of_gt (Heap.lt_size e)
  exact ⟨far ⟨_, m.zc⟩, far ⟨_, m.tc⟩, far (D1.live _ _ m.s1), far (D2.live _ _ m.s2)⟩
/-- may zip use its own tuple again? both answers are walked -/
theorem zs_free (S : ZipSep2 z TI TO i1 i2 fp1 fp2) (D1 : Draws prog w A i1 fp1 n1 P1 T1) (D2 : Draws prog w A i2 fp2 n2 P2 T2) {Q : Bool → Shared → Prop} (m : Zs z TI TO i1 i2 T1 T2 g i j v f b1 b2 s.heap) (hv : Own0 v)
    (q : ∀ r h f', Zs z TI TO i1 i2 T1 T2 g i j v f' b1 b2 h → Q r { s with heap := h }) : wpAny (model prog w) A (Builtin.SmallTypes.ownedTupleIsFree (.ref z)) Q E s := by
  unfold Builtin.SmallTypes.ownedTupleIsFree
  have a := m.zc
  rcases hv with rfl | ⟨T, rfl⟩
  · exact wpAny_bind (wpAny_field a rfl (x := .none) rfl (wpAny_pure (q true s.heap f m)))
  refine wpAny_bind (wpAny_field a rfl (x := rawInt T) rfl ?_)
  refine wpAny_bind (m := loadIfAlive T) (alive_any ?_)
  by_cases hn : (s.heap.get? T).isNone = true
  · rw [if_pos hn]
    exact wpAny_pure (q true s.heap f m)
  rw [if_neg hn]
  refine wpAny_bind (wpAny_field a rfl (x := .bool f) rfl ?_)
  cases f
  · exact wpAny_bind (zs_flag S D1 D2 m fun h m' => wpAny_pure (q false h true m'))
  · exact wpAny_pure (q false s.heap true m)
/-- the turn of zip, whatever its field tells: a new pair of the two iterators' next, or the end of one -/
theorem zipA_next {Q : Value → Shared → Prop} (S : ZipSep2 z TI TO i1 i2 fp1 fp2) (D1 : Draws prog w A i1 fp1 n1 P1 T1) (D2 : Draws prog w A i2 fp2 n2 P2 T2) (m : Zs z TI TO i1 i2 T1 T2 s.heap i i v f b1 b2 s.heap) (hv : Own0 v) (tin : IsTupOf2 s.heap TI (.ref i1) (.ref i2)) (l1 : i ≤ n1) (l2 : i ≤ n2)
    (yes : i < n1 → i < n2 → ∀ y1 y2 h t v f b1 b2, P1 i y1 → P2 i y2 → Own0 v → Zs z TI TO i1 i2 T1 T2 h (i + 1) (i + 1) v f b1 b2 h → IsTupOf2 h s.heap.objs.size y1 y2 → h.objs.size = s.heap.objs.size + 1 → Rest z TO i1 i2 s.heap h → Q (.ref s.heap.objs.size) { s with heap := h, toks := t })
    (no : i = n1 ∨ i = n2 → ∀ h t e, Zx z TI TO i1 i2 s.heap h e → E (.ref e) { s with heap := h, toks := t }) :
    wpAny (model prog w) A (Builtin.«zip.__next__» ⟨[.ref z], []⟩) (fun r s' => ∃ u, r = .done (.ret u) ∧ Q u s') E s := by
  obtain ⟨g, gg, d, t0, outs⟩ := s
  show wpAny _ _ (field (.ref z) 2 >>= _) _ _ _
  refine wpAny_bind (wpAny_field m.zc rfl (x := .bool false) rfl ?_)
  show wpAny _ _ (field (.ref z) 3 >>= _) _ _ _
  refine wpAny_bind (wpAny_field m.zc rfl (x := .ref TI) rfl (wpAny_bind (wpAny_seqItems tin rfl ?_)))
  refine wpAny_bind (m := Builtin.SmallTypes.ownedTupleIsFree (.ref z)) (zs_free S D1 D2 m hv fun r h f' m => ?_)
  cases r
  · refine wpAny_bind (m := forIn (m := Sem) (#[.ref i1, .ref i2] : Array Value) _ _) ?_
    rw [← Array.forIn_toList]
    simp only [List.forIn_cons, List.forIn_nil]
    refine wpAny_bind (wpAny_bind (wpAny_holding (zs_ask1 S D1 D2 m l1 (fun k1 y1 h t p1 m => ?_) fun e h x c => no (.inl e) h t0 x c)))
    refine wpAny_pure (wpAny_bind (wpAny_bind (wpAny_holding (zs_ask2 S D1 D2 m l2 (fun k2 y2 h t' p2 m => ?_) fun e h x c => no (.inr e) h t x c))))
    refine wpAny_pure (wpAny_pure (wpAny_bind (zs_pair D1 D2 m fun h m a sz r => ?_)))
    exact wpAny_pure ⟨_, rfl, yes k1 k2 y1 y2 h t' v f' b1 b2 p1 p2 hv m a sz r⟩
  · refine wpAny_bind (wpAny_rule (wpAny_bind (wpAny_field m.zc rfl (x := .ref TO) rfl ?_)))
    refine wpAny_bind (zs_set S D1 D2 m fun h m => ?_)
    refine wpAny_bind ?_
    simp only [List.zipIdx_cons, List.zipIdx_nil, List.forIn_cons, List.forIn_nil]
    refine wpAny_bind (wpAny_bind (wpAny_onRaise (zs_ask1 S D1 D2 m l1 (fun k1 y1 h t p1 m => ?_) fun e h x c => zx_set c fun h c => no (.inl e) h t0 x c)))
    refine wpAny_bind (wpAny_seqItems m.tc rfl (wpAny_bind (zs_put S D1 D2 m rfl fun h m => wpAny_bind (wpAny_letGo (wpAny_pure ?_)))))
    refine wpAny_bind (wpAny_bind (wpAny_onRaise (zs_ask2 S D1 D2 m l2 (fun k2 y2 h t' p2 m => ?_) fun e h x c => zx_set c fun h c => no (.inr e) h t x c)))
    refine wpAny_bind (wpAny_seqItems m.tc rfl (wpAny_bind (zs_put S D1 D2 m rfl fun h m => wpAny_bind (wpAny_letGo (wpAny_pure (wpAny_pure ?_))))))
    refine wpAny_bind (wpAny_seqItems m.tc rfl (wpAny_bind (zs_pair D1 D2 m fun h m' a sz r => ?_)))
    obtain ⟨q1, q2, q3, q4⟩ := m.apart D1 D2
    rw [m.sz] at q1 q2 q3 q4
    refine wpAny_bind (m := Builtin.SmallTypes.ownedTupleHandOut (.ref z) _) (wpAny_bind (zs_set S D1 D2 m' fun h m => zs_flag S D1 D2 m fun h m => wpAny_pure ⟨_, rfl, ?_⟩))
    exact yes k1 k2 y1 y2 h t' _ false y1 y2 p1 p2 (.inr ⟨_, rfl⟩) ⟨m.zc, m.tc, m.s1, m.s2, rfl, fun _ _ _ _ _ _ e => e⟩ (m.rest _ _ q1 q2 q3 q4 a) (m.sz.trans sz) fun c o p1 p2 p3 p4 e => m.rest c o p1 p2 p3 p4 (r c o p1 p2 p3 p4 e)
/-- zip's turn as another iterator calls for it -/
theorem nextOf_zipA {Q : Value → Shared → Prop} (S : ZipSep2 z TI TO i1 i2 fp1 fp2) (D1 : Draws prog w A.in1 i1 fp1 n1 P1 T1) (D2 : Draws prog w A.in1 i2 fp2 n2 P2 T2) (m : Zs z TI TO i1 i2 T1 T2 s.heap i i v f b1 b2 s.heap) (hv : Own0 v) (tin : IsTupOf2 s.heap TI (.ref i1) (.ref i2)) (l1 : i ≤ n1) (l2 : i ≤ n2)
    (yes : i < n1 → i < n2 → ∀ y1 y2 h t v f b1 b2, P1 i y1 → P2 i y2 → Own0 v → Zs z TI TO i1 i2 T1 T2 h (i + 1) (i + 1) v f b1 b2 h → IsTupOf2 h s.heap.objs.size y1 y2 → h.objs.size = s.heap.objs.size + 1 → Rest z TO i1 i2 s.heap h → Q (.ref s.heap.objs.size) { s with heap := h, toks := t })
    (no : i = n1 ∨ i = n2 → ∀ h t e, Zx z TI TO i1 i2 s.heap h e → E (.ref e) { s with heap := h, toks := t }) :
    wpAny (model prog w) A (Builtin.SmallTypes.nextOf (.ref z)) Q E s := by
  unfold Builtin.SmallTypes.nextOf
  have ty : s.TypeIs (.ref z) "zip" := ⟨_, m.zc, rfl⟩
  refine wpAny_bind (wpAny_callSpecial?_slot (name := Str.ofString "__next__") ty F.slot_zip_next (wpAny_call_entry F.slot_zip_next ty F.entry_zip_next ?_ (F.args_zip_next_1 _)))
  exact zipA_next S D1 D2 m hv tin l1 l2 (fun k1 k2 y1 y2 h t v f b1 b2 p1 p2 hv m a sz r => wpAny_pure (yes k1 k2 y1 y2 h t v f b1 b2 p1 p2 hv m a sz r)) no
/-! enumerate over an iterator that may make objects -/
abbrev EnA (h : Heap) (e : Addr) (own : Value) (it : Addr) (c : Int) (x : Value) : Prop :=
  h.get? e = some { cls := .type "enumerate", dict := none, data := .fields #[own, .bool false, .ref it, rawInt c, .none, x], slots := #[] }
variable {e it : Addr} {c : Int} {own old : Value}
theorem enumG_next {P : Value → Heap → Prop} {N : Heap → Prop} {Q : Option Value → Shared → Prop} (a : EnA s.heap e .none it c old)
    (inner : ∀ R X : Value → Shared → Prop, (∀ x h t, P x h → h.get? e = s.heap.get? e → R x { s with heap := h, toks := t }) → (∀ h t x, N h → (∃ o, h.get? x = some o ∧ o.cls = .type "StopIteration") → X (.ref x) { s with heap := h, toks := t }) → wpAny (model prog w) A.in1 (Builtin.SmallTypes.nextOf (.ref it)) R X s)
    (yes : ∀ x h1 h t, P x h1 → EnA h e (rawInt h1.objs.size) it (c + 1) x → h.get? h1.objs.size = some { cls := .type "tuple", data := .seq #[.int c t, x] } → (∀ b o, b ≠ e → h1.get? b = some o → h.get? b = some o) → Q (some (.ref h1.objs.size)) { s with heap := h, toks := t + 1 })
    (no : ∀ h t, N h → Q none { s with heap := h, toks := t }) : wpAny (model prog w) A (pyNext (.ref e)) Q E s := by
  obtain ⟨g, gg, d, t0, outs⟩ := s
  have ty : Shared.TypeIs ⟨g, gg, d, t0, outs⟩ (.ref e) "enumerate" := ⟨_, a, rfl⟩
  unfold pyNext
  refine wpAny_bind (wpAny_attempt (wpAny_callSpecial?_slot (name := Str.ofString "__next__") ty F.slot_enumerate_next (wpAny_call_entry F.slot_enumerate_next ty F.entry_enumerate_next ?_ (F.args_enumerate_next_1 _))))
  show wpAny _ _ (field (.ref e) 2 >>= _) _ _ _
  refine wpAny_bind (wpAny_field a rfl (x := .ref it) rfl (wpAny_bind (inner _ _ (fun x h t p same => ?_) fun h t x p ⟨o, ho, hc⟩ => ?_)))
  · replace a : EnA h e .none it c old := same.trans a
    refine wpAny_bind (wpAny_field (s := ⟨h, gg, d, t, outs⟩) a rfl (x := rawInt c) rfl ?_)
    refine wpAny_bind (wpAny_field (s := ⟨h, gg, d, t, outs⟩) a rfl (x := .none) rfl (wpAny_bind (wpAny_mkInt ?_)))
    refine wpAny_bind (wpAny_setField_rec (s := ⟨h, gg, d, t + 1, outs⟩) a (by simp) fun _ a1 k1 => wpAny_bind (wpAny_setField_rec a1 (by simp) fun h3 a3 k3 => wpAny_bind (wpAny_newTuple ?_)))
    have k := Heap.SameBut.trans k1 k3
    have sz : h3.objs.size = h.objs.size := k.1
    have lt : h.objs.size ≠ e := Nat.ne_of_gt (Heap.lt_size a)
    have up : ∀ b o, b ≠ e → h.get? b = some o → (h3.push { cls := .type "tuple", data := .seq #[.int c t, x] }).get? b = some o := fun b o n q => Heap.get?_push_of_some _ (k.extBut b o n q)
    have pr : (h3.push { cls := .type "tuple", data := .seq #[.int c t, x] }).get? h.objs.size = some { cls := .type "tuple", data := .seq #[.int c t, x] } := by rw [← sz]; exact Heap.get?_push_size _ rfl
    have a4 : EnA (h3.push { cls := .type "tuple", data := .seq #[.int c t, x] }) e .none it (c + 1) old := Heap.get?_push_of_some _ a3
    show wpAny _ _ _ _ _ ⟨h3.push { cls := .type "tuple", data := .seq #[.int c t, x] }, gg, d, t + 1, outs⟩
    rw [show ((⟨h3, gg, d, t + 1, outs⟩ : Shared).heap.objs.size) = h.objs.size from sz]
    generalize h3.push { cls := .type "tuple", data := .seq #[.int c t, x] } = h4 at a4 pr up
    refine wpAny_bind (m := Builtin.SmallTypes.ownedTupleIsFree (.ref e)) (wpAny_bind (wpAny_field (s := ⟨h4, gg, d, t + 1, outs⟩) a4 rfl (x := .none) rfl (wpAny_pure ?_)))
    refine wpAny_bind (wpAny_rule (wpAny_bind (wpAny_field (s := ⟨h4, gg, d, t + 1, outs⟩) a4 rfl (x := old) rfl ?_)))
    refine wpAny_bind (wpAny_setField_rec (s := ⟨h4, gg, d, t + 1, outs⟩) a4 (by simp) fun _ a5 k5 => wpAny_bind (m := Builtin.SmallTypes.ownedTupleHandOut (.ref e) _) ?_)
    refine wpAny_bind (wpAny_setField_rec a5 (by simp) fun _ a6 k6 => wpAny_setField_rec a6 (by simp) fun h7 a7 k7 => wpAny_bind (wpAny_letGo (wpAny_pure ⟨_, rfl, wpAny_pure ?_⟩)))
    have k' := (Heap.SameBut.trans k5 k6).trans k7
    exact yes x h h7 t p a7 (k'.extBut _ _ lt pr) fun b o n q => k'.extBut b o n (up b o n q)
  · exact wpAny_bind (wpAny_isInstance (T := "StopIteration") (b := true) ⟨o, ho, hc⟩ isSubtype_stop (wpAny_pure (no h t p)))
end


set_option Elab.async false
set_option linter.all false
set_option maxRecDepth 100000
set_option maxHeartbeats 2000000
/-! Wm.AR: a loop over enumerate(zip(list, tuple)). -/


/-- the items of a list and a tuple by pairs, the i-th pair in a new pair with i -/
def Jez (F : Hp) (vs ws : List V) : It :=
  ⟨fun i H => Same F H ∧ i < vs.length ∧ i < ws.length,
   fun i H v H' => ∃ T U oT x y, v = .ref U ∧ ExT oT ∧ H T = none ∧ upd H T (.frz oT (.tup [x, y])) U = none ∧ H' = upd (upd H T (.frz oT (.tup [x, y]))) U (.tup [.int (i : Nat), .ref T]) ∧ vs[i]? = some x ∧ ws[i]? = some y,
   fun i H => Same F H ∧ i = min vs.length ws.length⟩
theorem fpOk_upd {X : Cx} {pins : List (Addr × Obj)} {H : Hp} {b T : Addr} {o : HO} (h : FpOk X pins H b) (hn : b ≠ T) : FpOk X pins (L2.upd H T o) b :=
  ⟨by rw [upd_ne hn]; exact h.1, h.2⟩
set_option maxHeartbeats 4000000 in
theorem turn_enZ {P : Program} {w : World} {K : PySem.W.Frag} {elts : List Expr} {kk : Nat} {tpos : Pos} {F : Hp} {vs ws : List V} {a b e z TI TO i1 i2 : Addr} (S : ZipSep2 z TI TO i1 i2 [i1, a] [i2, b]) (hee : e ≠ z ∧ e ≠ TI ∧ e ≠ TO ∧ e ≠ i1 ∧ e ≠ i2) (ha : F a = some (.lst vs)) {oT : Obj} (hb : F b = some (.frz oT (.tup ws))) :
    Turn P w K (.Tuple elts kk tpos) (Jez F vs ws) [e, z, TI, TO, i1, i2] e
      (fun i h => (∃ old, IsEnum h e z ((i : Nat) : Int) old) ∧ (∃ v f, Own0 v ∧ ZipA h z TI TO v f) ∧ IsTupOf2 h TI (.ref i1) (.ref i2) ∧ (∃ a1 a2, IsTupOf2 h TO a1 a2) ∧ h.IsListIter i1 a i ∧ h.IsTupleIter i2 b i) where
  mem := List.mem_cons_self ..
  obj := fun i h st c hc => by
    obtain ⟨⟨old, he⟩, ⟨v, f, _, hz⟩, hTI, ⟨a1, a2, hTO⟩, ⟨o1, e1, _, d1⟩, ⟨o2, e2, _, d2⟩⟩ := st
    have hc' : c = e ∨ c = z ∨ c = TI ∨ c = TO ∨ c = i1 ∨ c = i2 := by simpa using hc
    rcases hc' with rfl | rfl | rfl | rfl | rfl | rfl
    · exact ⟨_, he, fun v q => nomatch q⟩
    · exact ⟨_, hz, fun v q => nomatch q⟩
    · exact ⟨_, hTI, fun v q => nomatch q⟩
    · exact ⟨_, hTO, fun v q => nomatch q⟩
    · exact ⟨o1, e1, fun v q => by rw [d1] at q; cases q⟩
    · exact ⟨o2, e2, fun v q => by rw [d2] at q; cases q⟩
  keep := fun i h h' st k => by
    obtain ⟨⟨old, he⟩, ⟨v, f, hv, hz⟩, hTI, ⟨a1, a2, hTO⟩, h1, h2⟩ := st
    exact ⟨⟨old, k e (by simp) _ he⟩, ⟨v, f, hv, k z (by simp) _ hz⟩, k TI (by simp) _ hTI, ⟨a1, a2, k TO (by simp) _ hTO⟩, h1.at fun o q => k i1 (by simp) o q, h2.at fun o q => k i2 (by simp) o q⟩
  item := by
    intro X hP hw hK hc i pins s σ H E I hf st hg
    subst hP hw hK
    obtain ⟨⟨old, he⟩, ⟨v, f, hv, hz⟩, hTI, ⟨a1, a2, hTO⟩, h1, h2⟩ := st
    obtain ⟨hs, hi1, hi2⟩ := hg
    obtain ⟨ez, eTI, eTO, e1, e2⟩ := hee
    obtain ⟨its, rv, pl, _⟩ := I.list (.of (hs a _ ha))
    obtain ⟨jts, rw', pt, _⟩ := I.tuple (.inl (.inr ⟨_, hs b _ hb⟩))
    obtain ⟨u1, hu1, ru1⟩ := rv.get (List.getElem?_eq_getElem hi1)
    obtain ⟨u2, hu2, ru2⟩ := rw'.get (List.getElem?_eq_getElem hi2)
    have n1 : i < its.toArray.size := by
      have q := rv.length
      rw [List.size_toArray]
      omega
    have n2 : i < jts.toArray.size := by
      have q := rw'.length
      rw [List.size_toArray]
      omega
    have hh : X.A.in1.in1.handled = none := I.ok.hd hc
    have D1 := Draws.list (prog := X.prog) (w := X.w) (A := X.A.in1.in1) hh i1 a (fun q => by
      have z' := (hf i1 (by simp)).1
      rw [← q, hs a _ ha] at z'
      cases z') its.toArray
    have D2 := Draws.tuple (prog := X.prog) (w := X.w) (A := X.A.in1.in1) hh i2 b (fun q => by
      have z' := (hf i2 (by simp)).1
      rw [← q, hs b _ hb] at z'
      cases z') jts.toArray
    have lt : ∀ {c o}, s.heap.get? c = some o → c < s.heap.objs.size := fun q => Heap.lt_size q
    have hfl : ∀ c ∈ [e, z, TI, TO, i1, i2], c < s.heap.objs.size := fun c hcm => by
      have hc' : c = e ∨ c = z ∨ c = TI ∨ c = TO ∨ c = i1 ∨ c = i2 := by simpa using hcm
      rcases hc' with rfl | rfl | rfl | rfl | rfl | rfl
      · exact lt he
      · exact lt hz
      · exact lt hTI
      · exact lt hTO
      · obtain ⟨_, q, _⟩ := h1
        exact lt q
      · obtain ⟨_, q, _⟩ := h2
        exact lt q
    refine enumG_next (P := fun x h1 => ∃ v' f' c1 c2, x = .ref s.heap.objs.size ∧ Own0 v' ∧ Zs z TI TO i1 i2 (fun k h => h.IsListIter i1 a k ∧ h.IsList a its.toArray) (fun k h => h.IsTupleIter i2 b k ∧ h.IsTuple b jts.toArray) h1 (i + 1) (i + 1) v' f' c1 c2 h1 ∧ IsTupOf2 h1 s.heap.objs.size u1 u2 ∧ h1.objs.size = s.heap.objs.size + 1 ∧ Rest z TO i1 i2 s.heap h1)
      (N := fun _ => False) he (fun R Y yes _ => ?_) (fun x g1 h' tk hp ho hT hk => ?_) fun _ _ q => q.elim
    · refine nextOf_zipA S D1 D2 ⟨hz, hTO, ⟨h1, pl.isList⟩, ⟨h2, pt⟩, rfl, fun _ _ _ _ _ _ q => q⟩ hv hTI (Nat.le_of_lt n1) (Nat.le_of_lt n2) (fun _ _ y1 y2 h' t v' f' c1 c2 p1 p2 hv' m pr sz r => ?_) fun q => absurd q (by omega)
      have p1 : its.toArray[i]? = some y1 := p1
      have p2 : jts.toArray[i]? = some y2 := p2
      rw [List.getElem?_toArray, hu1] at p1
      rw [List.getElem?_toArray, hu2] at p2
      obtain rfl := Option.some.inj p1
      obtain rfl := Option.some.inj p2
      exact yes _ h' t ⟨v', f', c1, c2, rfl, hv', m, pr, sz, r⟩ ((r e _ ez eTO e1 e2 he).trans he.symm)
    · obtain ⟨v', f', c1, c2, rfl, hv', ⟨b1, b2, ⟨d1, _⟩, ⟨d2, _⟩, _, _⟩, b5, b6, hk1⟩ := hp
      refine ⟨_, rfl, wpAny_letOwnedTupleGo_enum (s := { s with heap := h', toks := tk + 1 }) ho fun h2 he2 sb => ?_⟩
      replace sb : Heap.SameBut e h' h2 := sb
      have up : ∀ c o, c ≠ e → g1.get? c = some o → h2.get? c = some o := fun c o ce q => sb.extBut _ _ ce (hk c o ce q)
      have hel := hfl e (by simp)
      have hTne : s.heap.objs.size ≠ e := Nat.ne_of_gt hel
      have hUne : g1.objs.size ≠ e := by rw [b6]; exact Nat.ne_of_gt (Nat.lt_succ_of_lt hel)
      have I1 : Inv X pins σ (upd H s.heap.objs.size (.frz { cls := .type "tuple", data := .seq #[u1, u2] } (.tup [vs[i], ws[i]]))) { s with heap := g1 } :=
        I.turnedNew (t' := s.toks) (ch := [e, z, TI, TO, i1, i2]) (fun c o hcm q => hk1 c o (fun q' => hcm (by simp [q'])) (fun q' => hcm (by simp [q'])) (fun q' => hcm (by simp [q'])) (fun q' => hcm (by simp [q'])) q) hf (Nat.le_refl _)
          ⟨b5, by show 2 ≤ sizeLine; decide, [u1, u2], .cons ru1 (.cons ru2 .nil), ⟨_, b5, rfl, _, rfl⟩⟩
      have hT2 : h2.get? g1.objs.size = some { cls := .type "tuple", data := .seq #[.int (i : Int) tk, .ref s.heap.objs.size] } := sb.extBut _ _ hUne hT
      have I2 : Inv X pins σ (upd (upd H s.heap.objs.size (.frz { cls := .type "tuple", data := .seq #[u1, u2] } (.tup [vs[i], ws[i]]))) g1.objs.size (.tup [.int (i : Nat), .ref s.heap.objs.size])) { s with heap := h2, toks := tk + 1 } :=
        I1.turnedNew (t' := tk + 1) (ch := [e, z, TI, TO, i1, i2]) (fun c o hcm q => up c o (fun q' => hcm (by simp [q'])) q) (fun c hcm => fpOk_upd (hf c hcm) (Nat.ne_of_lt (hfl c hcm))) (Nat.le_refl _)
          ⟨by show 2 ≤ sizeLine; decide, [.int (i : Int) tk, .ref s.heap.objs.size], .cons ⟨_, rfl⟩ (.cons rfl .nil), ⟨_, hT2, rfl, _, rfl⟩⟩
      refine ⟨.ref g1.objs.size, _, I2, rfl, ⟨s.heap.objs.size, g1.objs.size, _, vs[i], ws[i], rfl, ⟨rfl, rfl⟩, I.hok.fresh (Nat.le_refl _), I1.hok.fresh (Nat.le_refl _), rfl, List.getElem?_eq_getElem hi1, List.getElem?_eq_getElem hi2⟩, ⟨⟨.ref s.heap.objs.size, ?_⟩, ⟨v', f', hv', ?_⟩, ?_, ⟨c1, c2, ?_⟩, ?_, ?_⟩, fun c hcm => ?_⟩
      · have q : ((i + 1 : Nat) : Int) = (i : Int) + 1 := by omega
        rw [q]
        exact he2
      · exact up _ _ ez.symm b1
      · exact up _ _ eTI.symm (hk1 _ _ S.TIz S.TITO S.TIi1 S.TIi2 hTI)
      · exact up _ _ eTO.symm b2
      · exact d1.at fun o q => up _ _ e1.symm q
      · exact d2.at fun o q => up _ _ e2.symm q
      · have l := hfl c hcm
        rw [upd_ne (Nat.ne_of_lt (by rw [b6]; exact Nat.lt_succ_of_lt l)), upd_ne (Nat.ne_of_lt l)]
        exact (hf c hcm).1
  done := by
    intro X hP hw hK hc i pins s σ H E I hf st hg
    subst hP hw hK
    obtain ⟨⟨old, he⟩, ⟨v, f, hv, hz⟩, hTI, ⟨a1, a2, hTO⟩, h1, h2⟩ := st
    obtain ⟨hs, hi⟩ := hg
    obtain ⟨its, rv, pl, _⟩ := I.list (.of (hs a _ ha))
    obtain ⟨jts, rw', pt, _⟩ := I.tuple (.inl (.inr ⟨_, hs b _ hb⟩))
    have hh : X.A.in1.in1.handled = none := I.ok.hd hc
    have D1 := Draws.list (prog := X.prog) (w := X.w) (A := X.A.in1.in1) hh i1 a (fun q => by
      have z' := (hf i1 (by simp)).1
      rw [← q, hs a _ ha] at z'
      cases z') its.toArray
    have D2 := Draws.tuple (prog := X.prog) (w := X.w) (A := X.A.in1.in1) hh i2 b (fun q => by
      have z' := (hf i2 (by simp)).1
      rw [← q, hs b _ hb] at z'
      cases z') jts.toArray
    have l1 := rv.length
    have l2 := rw'.length
    have s1 : its.toArray.size = its.length := by simp
    have s2 : jts.toArray.size = jts.length := by simp
    refine enumG_next (P := fun _ _ => False) (N := fun h' => Rest z TO i1 i2 s.heap h') he (fun R Y _ no => ?_) (fun _ _ _ _ q => q.elim) fun h' tk hk => ⟨rfl, I.turnedL (ch := [e, z, TI, TO, i1, i2]) (fun c o hcm q =>
      hk c o (fun q' => hcm (by simp [q'])) (fun q' => hcm (by simp [q'])) (fun q' => hcm (by simp [q'])) (fun q' => hcm (by simp [q'])) q) hf⟩
    exact nextOf_zipA S D1 D2 ⟨hz, hTO, ⟨h1, pl.isList⟩, ⟨h2, pt⟩, rfl, fun _ _ _ _ _ _ q => q⟩ hv hTI (by omega) (by omega) (fun q1 q2 => absurd q1 (by omega)) fun _ h t x q => no h t x q.rest q.ex
  self := fun A i s Q E st h => by
    obtain ⟨⟨old, he⟩, _⟩ := st
    exact wpAny_pyIter_enum he h
theorem walkD_enZ {F : Hp} {vs ws : List V} {xs ys : List PyData} (r : RpAll F vs xs) (q : RpAll F ws ys) : WalkD true (Jez F vs ws) F (enumD (zipD xs ys)) := by
  refine ⟨fun i H e hi => ?_, fun H e => ⟨e, by rw [enumD_len, zipD_len, r.length, q.length]⟩, fun i F1 H x H' e1 e2 hi y => ?_⟩
  · rw [enumD_len, zipD_len] at hi
    exact ⟨e, by rw [r.length]; omega, by rw [q.length]; omega⟩
  · obtain ⟨T, U, oT, y, z, rfl, ho, hT, hU, rfl, hy, hz⟩ := y
    obtain ⟨d, hd, rd⟩ := r.get' hy
    obtain ⟨e, he, re⟩ := q.get' hz
    have g1 := gr_new (o := .frz oT (.tup [y, z])) e2 hT
    have g2 := gr_new (o := .tup [.int (i : Nat), .ref T]) g1.ex hU
    have g := g1.trans g2
    have hn : T ≠ U := fun e => by rw [← e, upd_same] at hU; cases hU
    refine ⟨_, .tuple [.int (i : Nat), .tuple [d, e]], by rw [enumD_get, zipD_get hd he]; rfl, g, .inr ⟨rfl, U, _, _, rfl, upd_same, .cons (.int _) (.cons (.tup ⟨oT, ho, ?_⟩ (.cons ((rd.mono e1 d y).mono g.sF d y) (.cons ((re.mono e1 e z).mono g.sF e z) .nil))) .nil), rfl⟩⟩
    rw [upd_ne hn]
    exact upd_same
section
variable {X : Cx} {e e2 : Expr} {Γ : Ctx} {P : List PyData → Prop} {pos pos2 p p2 tpos : Pos} {elts : List Expr} {kk : Nat}
def iEz (ta : TA) : TI := fun σ H R => ta σ H fun us H1 => ∃ a b vs ws F, us = [.ref a, .ref b] ∧ F a = some (.lst vs) ∧ TupAt F b ws ∧ Same F H1 ∧ R (Jez F vs ws) H1
theorem pi_enZ {ta : TA} (hg : Gl X "enumerate") (hm : X.mg "enumerate" = none) (hg2 : Gl X "zip") (hm2 : X.mg "zip" = none) (ha : PA X [e, e2] ta)
    (hs0 : starEach [.Call (.Name "zip" p2) [e, e2] [] pos2] X.env = [(false, eval (.Call (.Name "zip" p2) [e, e2] [] pos2) X.env)]) (hs : starEach [e, e2] X.env = (false, eval e X.env) :: starEach [e2] X.env := by rfl) (hpl : (backTo pos2 (starEach [e2] X.env)).any (·.1) = false := by rfl) :
    PI X (.Tuple elts kk tpos) (.Call (.Name "enumerate" p) [.Call (.Name "zip" p2) [e, e2] [] pos2] [] pos) (iEz ta) := by
  refine ⟨fun pins s σ H R I h => ?_⟩
  refine PyProof.Rows.Call_ (ld_blt I hg hm PyProof.Rows.boot_enumerate (PyProof.Rows.callWith_type1 ?_ hs0 rfl))
  rw [hs0]
  show wpAny _ _ (spliced ((false, eval (.Call (.Name "zip" p2) [e, e2] [] pos2) X.env) :: [])) _ _ s
  refine Calls.spliced_cons ?_
  refine PyProof.Rows.Call_ (ld_blt I hg2 hm2 PyProof.Rows.boot_zip (PyProof.Rows.callWith_type1 (thn (ha.run pos2 pins s σ H _ I h) fun us s1 ⟨vs, H1, I1, r1, a, b, xs, ys, F, ev, hF1, ⟨oT, _, hF2⟩, sF, q1⟩ => ?_) hs hpl))
  subst ev
  obtain ⟨u1, u2, rfl, ru1, ru2⟩ := vals2 r1
  obtain rfl : u1 = Value.ref a := ru1
  obtain rfl : u2 = Value.ref b := ru2
  obtain ⟨its, rv, pl, _⟩ := I1.list (.of (sF a _ hF1))
  obtain ⟨jts, rw', pt, _⟩ := I1.tuple (.inl (.inr ⟨_, sF b _ hF2⟩))
  have la : a < s1.heap.objs.size := pl.lt
  have lb : b < s1.heap.objs.size := by
    obtain ⟨o, ho, _⟩ := id pt
    exact Heap.lt_size ho
  refine zip_begins2 (begins_list a its.toArray) (begins_tuple b jts.toArray) pl.isList (show s1.heap.IsTuple b jts.toArray from pt) fun h' hz hTI hTO h1 h2 hsz hk => Calls.spliced_nil ?_
  refine call_enum1 (s := { s1 with heap := h' }) (it := s1.heap.objs.size + 4) (h1 := h') (fun A' E Q q => wpAny_pyIter_zip hz q) ?_
  have he : IsEnum (h'.push { cls := .type "enumerate", data := .fields #[.none, .bool false, .ref (s1.heap.objs.size + 4), rawInt 0, .none, .none] }) h'.objs.size (s1.heap.objs.size + 4) 0 .none := Heap.get?_push_size _ rfl
  rw [hsz] at he ⊢
  refine wpAny_pyIter_enum he ?_
  have I2 : Inv X pins σ H1 { s1 with heap := h'.push { cls := .type "enumerate", data := .fields #[.none, .bool false, .ref (s1.heap.objs.size + 4), rawInt 0, .none, .none] } } := I1.kept (t' := s1.toks) fun c o q => Heap.get?_push_of_some _ (hk c o q)
  have up : ∀ {c o}, h'.get? c = some o → (h'.push { cls := .type "enumerate", data := .fields #[.none, .bool false, .ref (s1.heap.objs.size + 4), rawInt 0, .none, .none] }).get? c = some o := fun q => Heap.get?_push_of_some _ q
  refine ⟨s1.heap.objs.size + 5, [s1.heap.objs.size + 5, s1.heap.objs.size + 4, s1.heap.objs.size + 2, s1.heap.objs.size + 3, s1.heap.objs.size, s1.heap.objs.size + 1], _, _, H1, rfl, I2,
    turn_enZ (zip_sep2 (N := s1.heap.objs.size) (fp1 := [a]) (fp2 := [b]) (fun c hc => by rw [List.mem_singleton.mp hc]; exact la) (fun c hc => by rw [List.mem_singleton.mp hc]; exact lb))
      ⟨show (s1.heap.objs.size + 5 : Nat) ≠ _ + 4 by omega, show (s1.heap.objs.size + 5 : Nat) ≠ _ + 2 by omega, show (s1.heap.objs.size + 5 : Nat) ≠ _ + 3 by omega, show (s1.heap.objs.size + 5 : Nat) ≠ s1.heap.objs.size by omega, show (s1.heap.objs.size + 5 : Nat) ≠ _ + 1 by omega⟩ hF1 hF2,
    ⟨⟨.none, he⟩, ⟨_, _, .inl rfl, up hz⟩, up hTI, ⟨_, _, up hTO⟩, ⟨_, up h1, rfl, rfl⟩, ⟨_, up h2, rfl, rfl⟩⟩, fun c hc => ?_, q1⟩
  have hle : s1.heap.objs.size ≤ c := by
    have hc' : c = s1.heap.objs.size + 5 ∨ c = s1.heap.objs.size + 4 ∨ c = s1.heap.objs.size + 2 ∨ c = s1.heap.objs.size + 3 ∨ c = s1.heap.objs.size ∨ c = s1.heap.objs.size + 1 := by simpa using hc
    rcases hc' with rfl | rfl | rfl | rfl | rfl | rfl <;> first | exact Nat.le_add_right _ _ | exact Nat.le_refl _
  exact I1.fpOk hle (I1.hok.fresh hle)
theorem ni_enZ (hm : X.mg "enumerate" = none) (hm2 : X.mg "zip" = none) (h : Nd X e Γ fun d => ∃ xs, d = .list xs ∧ Nd X e2 Γ fun d => ∃ ys, d = .tuple ys ∧ P (enumD (zipD xs ys))) (hg : Gl X "enumerate" := by rfl) (hg2 : Gl X "zip" := by rfl)
    (hs0 : starEach [.Call (.Name "zip" p2) [e, e2] [] pos2] X.env = [(false, eval (.Call (.Name "zip" p2) [e, e2] [] pos2) X.env)] := by rfl)
    (hs : starEach [e, e2] X.env = (false, eval e X.env) :: starEach [e2] X.env := by rfl) (hs2 : starEach [e2] X.env = (false, eval e2 X.env) :: starEach [] X.env := by rfl) (hpl : (backTo pos2 (starEach [e2] X.env)).any (·.1) = false := by rfl) :
    NI true X (.Tuple elts kk tpos) (.Call (.Name "enumerate" p) [.Call (.Name "zip" p2) [e, e2] [] pos2] [] pos) Γ P := fun F H σ E R k => wI_of (pi_enZ hg hm hg2 hm2 (pa_cons pe_we (pa_cons pe_we pa_nil hs2) hs) hs0 hs hpl) (h F H σ E _ fun v F1 H1 d g r ⟨xs, ed, px⟩ => by
  subst ed
  refine px F1 H1 σ (E.grow g) _ fun u F2 H2 d2 g2 r2 ⟨ys, ed, py⟩ => ?_
  subst ed
  have g3 := g.trans g2
  obtain ⟨a, vs, rfl, ha, ra⟩ := rp_lst (r.mono g2.sF _ _)
  obtain ⟨b, ws, rfl, hb, rb⟩ := rp_tup r2
  exact ⟨a, b, vs, ws, F2, rfl, ha, hb, g3.ex, k _ F2 H2 _ g3 (walkD_enZ ra rb) py⟩)
end
/-! for at, (x, y) in .. -/
abbrev gTrip (K : PySem.W.Frag) (i j k : Nat) : TG := gTup K 2 (gCons (gName i) (gCons (gPair K j k) gNil))
section
variable {X : Cx} {B : Bs} {Γ : Ctx} {O : Po} {N : List Str} {i j k : Nat} {x y u : Str} {p3 p4 p5 pos pos' pos2 : Pos} {kk kk2 : Nat} {iter : Expr} {sts : List Stmt}
theorem pg_trip (hc : X.calm = true) (h1 : X.N = N) (h2 : N[i]? = some x) (h3 : N[j]? = some y) (h4 : N[k]? = some u) (hN : N.Nodup) (hx : Loc X.env.scope x) (hy : Loc X.env.scope y) (hu : Loc X.env.scope u) (fx : X.fn x = true ∨ X.env.scope.names.lookup x = some .local) (fy : X.fn y = true ∨ X.env.scope.names.lookup y = some .local) (fu : X.fn u = true ∨ X.env.scope.names.lookup u = some .local) :
    PG X (.Tuple [.Name x p3, .Tuple [.Name y p4, .Name u p5] kk2 pos2] kk pos') (gTrip X.K i j k) := by
  subst h1
  exact pg_tup hc (pgs_cons (pg_name hN h2 hx fx) (pgs_cons (pg_tup hc (pgs_cons (pg_name hN h3 hy fy) (pgs_cons (pg_name hN h4 hu fu) pgs_nil))) pgs_nil))
theorem tgn_trip {bb : Bool} {K : PySem.W.Frag} {d0 d1 d2 : PyData} {R : Ctx → Prop} (q : R (((Γ.set i (.val d0)).set j (.val d1)).set k (.val d2))) : TgN bb (gTrip K i j k) [i, j, k] Γ (.tuple [d0, .tuple [d1, d2]]) R :=
  tgn_tup rfl (tgsn_cons (js := [i]) (ks := [j, k]) (tgn_name (tgsn_cons (js := [j, k]) (ks := []) (tgn_pair (tgsn_nil q)))))
theorem e1_for3 (h1 : X.N = N) (h2 : N[i]? = some x) (h3 : N[j]? = some y) (h4 : N[k]? = some u) (hN : N.Nodup) (hc : X.calm = true) (hp : PassesOwn (model X.prog X.w) X.A X.env X.xe) (hpg : PG X (.Tuple [.Name x p3, .Tuple [.Name y p4, .Name u p5] kk2 pos2] kk pos') (gTrip X.K i j k))
    (h : NI true X (.Tuple [.Name x p3, .Tuple [.Name y p4, .Name u p5] kk2 pos2] kk pos') iter Γ fun ds => ∃ I : Nat → Ctx → Prop, I 0 Γ ∧ (∀ n d Γ2, ds[n]? = some d → I n Γ2 → ∃ d0 d1 d2, d = .tuple [d0, .tuple [d1, d2]] ∧ Es X B sts (((Γ2.set i (.val d0)).set j (.val d1)).set k (.val d2)) ⟨I (n + 1), O.rt, O.nx, I (n + 1)⟩) ∧ ∀ Γ2, I ds.length Γ2 → O.nx Γ2)
    (hs : ∀ x, foldedSetIterable iter X.env x = pure x := by intro _; rfl) : E1 X B (.For (.Tuple [.Name x p3, .Tuple [.Name y p4, .Name u p5] kk2 pos2] kk pos') iter sts [] pos) Γ O := by
  refine e1_for (js := [i, j, k]) hc hp hpg (fun F H σ E R kq => h F H σ E R fun J F' H' ds g wk ⟨I, i0, hstep, hend⟩ => kq J F' H' ds g wk ⟨I, i0, fun n d Γ2 hd q => ?_, hend⟩) hs
  obtain ⟨d0, d1, d2, e, w⟩ := hstep n d Γ2 hd q
  subst e
  exact tgn_trip w
end


set_option Elab.async false
set_option linter.all false
set_option maxRecDepth 100000
set_option maxHeartbeats 2000000
set_option pp.maxSteps 400
/-! Wm.AS: the first stretch that is not safe. -/



theorem e1_try {X : Cx} {B : Bs} {Γ : Ctx} {O : Po} {body : List Stmt} {hs : List ExceptHandler} {h₀ : ExceptHandler} {pos : Pos} (hn : ∀ e s, ¬ X.xe e s) (h : Es X B body Γ O) : E1 X B (.Try body (h₀ :: hs) [] [] pos) Γ O := fun F H σ E D k =>
  ws_of (ps_try_never hn pss_wss pss_nil) (h F H σ E D k)
section
variable {P : Program} {w : World} {K : PySem.W.Frag} {mg : Str → Option Value} {base : Heap}
def S_first_unsafe : Spc := fun ds R => ∃ (ns : List Nat) (o w : Ly) (p : List St1), ds = [tkD ns o w, plD p] ∧ SafePl ns o w p ∧ o.length ≤ 1000 ∧ ns.length ≤ 1000 ∧ R .none
theorem k_first_unsafe (D : Fd K mg "first_unsafe" s_first_unsafe) (T : Bi mg) (G_layouts_through : Fk P w K mg base 2 "layouts_through" (pSp S_layouts_through)) (G_lacking : Fk P w K mg base 4 "lacking" (pSp S_lacking)) : Fk P w K mg base 5 "first_unsafe" (pSp S_first_unsafe) := by
  refine fk_p D ns_first_unsafe (fun _ _ _ _ _ _ us hl => match us, hl with | [_, _], _ => rfl) (fun ds R h => ?_) (fun f cdv A outer s H E hr F ds R h => ?_)
  · obtain ⟨ns, o, w', p, rfl, hk, hz, hz2, q⟩ := h
    rfl
  obtain ⟨ns, o, w', p, rfl, hk, hz, hz2, q⟩ := h
  have hpz := hk.szp
  refine es_cons ?_
  repeat wtm_at "w"
  refine e1_for3 (by wtm_at "XN") (by wtm_at "idx") (by wtm_at "idx") (by wtm_at "idx") (by decide +kernel) (by wtm_at "calm") PassesOwn.never (pg_trip (by wtm_at "calm") (by wtm_at "XN") (by wtm_at "idx") (by wtm_at "idx") (by wtm_at "idx") (by decide +kernel) (by wtm_at "loc") (by wtm_at "loc") (by wtm_at "loc") (by wtm_at "loc") (by wtm_at "loc") (by wtm_at "loc")) ?_
  refine ni_enZ (by wtm_at "Ben") (by wtm_at "Bzip") ?_
  refine nd_call (k := 4) G_layouts_through hr ?_
  repeat wtm_at "x"
  refine ⟨hk.bd, hk.szp, hk.can, ?_⟩
  repeat wtm_at "x"
  refine ⟨fun n Γ2 => ∃ (s5 s6 s7 s8 : Sd), Γ2 = [.val (tkD ns o w'), .val (plD p), .val (nsD ns), .val (lyD o), .val (lyD w'), s5, s6, s7, s8], ⟨.no, .no, .no, .no, rfl⟩, ?_, ?_⟩
  · rintro n d Γ2 hd ⟨s5, s6, s7, s8, rfl⟩
    rw [enumD_get] at hd
    cases hs : p[n]? with
    | none =>
      have hn : p.length ≤ n := List.getElem?_eq_none_iff.mp hs
      rw [List.getElem?_eq_none (by rw [zipD_len, List.length_map, List.length_map]; omega)] at hd
      cases hd
    | some s' =>
      have hn := (List.getElem?_eq_some_iff.mp hs).1
      rw [zipD_get (x := lyD (ledP o (p.take n))) (y := stD s') (by rw [List.getElem?_map, lts_at o p (Nat.le_of_lt hn)]; rfl) (by rw [List.getElem?_map, hs]; rfl)] at hd
      cases hd
      have hm := List.mem_of_getElem? hs
      refine ⟨_, _, _, rfl, ?_⟩
      refine es_cons ?_
      wtm_at "set"
      refine nd_call (k := 4) G_lacking hr ?_
      repeat wtm_at "x"
      refine ⟨by rw [ledP_len]; omega, (hk.bd s' hm).2, by omega, fun _ => ?_, fun h => ?_⟩
      · refine es_one (e1_if (nt_cmp ?_))
        repeat wtm_at "w"
        exact ⟨_, _, _, _, rfl⟩
      · rw [hk.safe n s' hs] at h
        cases h
  · rintro Γ2 ⟨s5, s6, s7, s8, rfl⟩
    refine es_one (e1_ret ?_)
    repeat wtm_at "x"
    exact q
def S_is_safe_plan : Spc := fun ds R => ∃ (ns : List Nat) (o w : Ly) (p : List St1), ds = [tkD ns o w, plD p] ∧ SafePl ns o w p ∧ PlOk o.length p ∧ w.length ≤ o.length ∧ o.length ≤ 1000 ∧ ns.length ≤ 1000 ∧ R (.bool true)
theorem k_is_safe_plan (D : Fd K mg "is_safe_plan" s_is_safe_plan) (T : Bi mg) (G_is_plan : Fk P w K mg base 5 "is_plan" (pSp S_is_plan)) (G_first_unsafe : Fk P w K mg base 5 "first_unsafe" (pSp S_first_unsafe)) (G_does : Fk P w K mg base 2 "does" (pSp S_does)) : Fk P w K mg base 6 "is_safe_plan" (pSp S_is_safe_plan) := by
  refine fk_p D ns_is_safe_plan (fun _ _ _ _ _ _ us hl => match us, hl with | [_, _], _ => rfl) (fun ds R h => ?_) (fun f cdv A outer s H E hr F ds R h => ?_)
  · obtain ⟨ns, o, w', p, rfl, hk, hpl, hw, hz, hz2, q⟩ := h
    rfl
  obtain ⟨ns, o, w', p, rfl, hk, hpl, hw, hz, hz2, q⟩ := h
  refine es_cons ?_
  refine e1_if ?_
  repeat wtm_at "w"
  refine nd_call (k := 5) G_is_plan hr ?_
  repeat wtm_at "w"
  refine ⟨by rw [List.length_map]; exact hpl, _, rfl, ?_⟩
  repeat wtm_at "w"
  refine e1_try (fun _ _ h => h) ?_
  refine es_one (e1_ret ?_)
  repeat wtm_at "x"
  refine nd_call (k := 5) G_first_unsafe hr ?_
  repeat wtm_at "x"
  refine ⟨hk, hz, hz2, ?_⟩
  repeat wtm_at "x"
  refine nd_call (k := 5) G_does hr ?_
  repeat wtm_at "x"
  refine ⟨hk.bd, hk.can, hw, by omega, ?_⟩
  rw [hk.want]
  exact q
end


set_option Elab.async false
set_option linter.all false
set_option maxRecDepth 100000
set_option maxHeartbeats 2000000
set_option pp.maxSteps 400
/-! Wm.AT: the bag made from the script. -/


section
variable {b : Bool} {X : Cx} {elt tg iter : Expr} {ifs : List Expr} {scope : Scope} {own : List (Str × Nat)} {Γ : Ctx} {P A : List PyData → Prop} {pos : Pos} {g : TG} {js : List Nat}
theorem lc_runAt {F H : Hp} {σ : L2.St} (hi : ∀ R : It → Hp → Prop, (∀ J F' H' ds, Gr Γ F H F' H' → WalkD b J F' ds → LcOk b X elt ifs scope (own.map (·.2)) g js Γ ds A → R J H') → wI X tg iter σ H R) (hj : ∀ j ∈ js, j ∈ own.map (·.2)) (E : En F H σ Γ) {Q : VK}
    (k : ∀ p vs xs F' H', Gr Γ F H F' H' → H p = none → F' p = none → H' p = some (.lst vs) → RpAll F' vs xs → A xs → Q (.ref p) H') :
    tLc (wI X tg iter) g (wtsB X scope ifs) (weB X scope elt) (own.map (·.2)) σ H Q := by
  refine hi _ fun J F1 H1 ds g1 wk ⟨hz, Jv, j0, hstep, hend⟩ => ?_
  intro D hD
  have E1 := E.grow g1
  have hF1 : F1 D = none := E1.ex.free hD
  have hDb : ∀ c, Sd.bag D c ∉ Γ := fun c m => (E1.bag m).2.some hD
  let St : Nat → Hp → Prop := fun i H' => ∃ F' vs acc, Gr Γ F1 H1 F' H' ∧ F' D = none ∧ H' D = some (.lst vs) ∧ RpAll F' vs acc ∧ acc.length ≤ i ∧ Jv i acc
  refine ⟨fun i m H' => m = ds.length - i ∧ i ≤ ds.length ∧ St i H', ⟨ds.length, rfl, Nat.zero_le _, F1, [], [], Gr.mine E1 hD, hF1, upd_same, .nil, Nat.le_refl _, j0⟩, ?_⟩
  rintro i m H' ⟨rfl, hi', F', vs, acc, g2, nF, hH, r, hl, jv⟩
  by_cases hlt : i < ds.length
  · refine .inr ⟨wk.go i H' (g2.sF.trans g2.ex) hlt, St (i + 1), fun H2 q => ⟨ds.length - (i + 1), by omega, rfl, hlt, q⟩, fun x H2 y => ?_⟩
    obtain ⟨F2, d, hd, g3, rx⟩ := wk.yld i F' H' x H2 g2.sF g2.ex hlt y
    have E2 := E1.grow g2
    have g3' : Gr Γ F' H' F2 H2 := Gr.wide E2 g3
    have E3 := E2.grow g3'
    have g4 := g2.trans g3'
    have nF2 : F2 D = none := g3.nw D nF (by rw [hH]; simp)
    have hH2 : H2 D = some (.lst vs) := g3.fr D _ hH fun c m => by simp at m
    refine hstep i d acc hd jv F2 H2 _ x (E3.wipe _) rx _ fun σ2 Γ2 E4 b4 k4 p4 => ⟨wipe_keeps k4 hj, ?_⟩
    have bb : bagsIn Γ2 Γ := fun t m n => bags_wipe Γ _ t (b4 t m n) n
    intro s0 H0 C0 cl0 fp0
    refine p4 s0 H0 C0 cl0 fp0 F2 H2 σ2 E4 _ fun b F3 H3 g5 p5 => ?_
    have g5' : Gr Γ F2 H2 F3 H3 := Gr.sub E3 bb g5
    have nF3 : F3 D = none := g5.nw D nF2 (by rw [hH2]; simp)
    have hH3 : H3 D = some (.lst vs) := g5'.fr D _ hH2 hDb
    have r3 : RpAll F3 vs acc := (r.mono g3.sF _ _).mono g5.sF _ _
    cases b with
    | false =>
      rw [if_neg Bool.false_ne_true]
      exact ⟨F3, vs, acc, g4.trans g5', nF3, hH3, r3, by omega, p5⟩
    | true =>
      rw [if_pos rfl]
      intro s1 H1' C1 cl1 fp1
      refine (show Blk X scope (fun Z => Nd Z elt Γ2 fun y => Jv (i + 1) (acc ++ [y])) from p5) s1 H1' C1 cl1 fp1 F3 H3 σ2 (E4.grow g5) _ fun w F4 H4 y g6 r6 p6 => ?_
      have g6' : Gr Γ F3 H3 F4 H4 := Gr.sub (E3.grow g5') bb g6
      have nF4 : F4 D = none := g6.nw D nF3 (by rw [hH3]; simp)
      have hH4 : H4 D = some (.lst vs) := g6'.fr D _ hH3 hDb
      have r4 : RpAll F4 vs acc := r3.mono g6.sF _ _
      have g7 := (g4.trans g5').trans g6'
      refine ⟨vs, hH4, by rw [r4.length]; exact small' (by omega), F4, vs ++ [w], acc ++ [y], ⟨g7.sF, fun a o e => ?_, fun a o e n => ?_, g7.nw, fun p c m => ?_⟩, nF4, upd_same, r4.snoc r6, by rw [List.length_append, List.length_singleton]; omega, p6⟩
      · rw [upd_ne (ne_of_none e nF4)]
        exact g7.ex a o e
      · rw [upd_ne (ne_of_none e hD)]
        exact g7.fr a o e n
      · obtain ⟨t0, t1, t2, e, q⟩ := g7.bg p c m
        refine ⟨t0, t1, t2, ?_, q⟩
        rw [upd_ne (show p ≠ D from fun z => hDb c (by rw [← z]; exact m))]
        exact e
  · have e : i = ds.length := by omega
    subst e
    exact .inl ⟨wk.stop H' (g2.sF.trans g2.ex), k D vs acc F' H' (g1.trans g2) (back_none g1 hD) nF hH r (hend acc jv)⟩

theorem we_lc1At {N : List Str} {x : Str} {i : Nat} {pos' : Pos} {F H : Hp} {σ : L2.St} (h1 : X.N = N) (h2 : N[i]? = some x) (hc : X.calm = true) (hN : N.Nodup)
    (hi : ∀ R : It → Hp → Prop, (∀ J F' H' ds, Gr Γ F H F' H' → WalkD false J F' ds → LcOk false X elt ifs scope [i] (gName i) [i] Γ ds A → R J H') → wI X (.Name x pos') iter σ H R) (E : En F H σ Γ) {Q : VK}
    (k : ∀ p vs xs F' H', Gr Γ F H F' H' → H p = none → F' p = none → H' p = some (.lst vs) → RpAll F' vs xs → A xs → Q (.ref p) H') {sc : Scope} (hsc : X.env.scope = sc) (ok : blkC N sc scope [(x, i)] = true := by decide +kernel)
    (hl : Blk X scope fun Y => Loc Y.env.scope x := by intro _ _ _ _ _; first | exact Or.inl rfl | exact Or.inr rfl) (hf : Blk X scope fun Y => Y.fn x = true ∨ Y.env.scope.names.lookup x = some .local := by intro _ _ _ _ _; first | exact Or.inl rfl | exact Or.inr rfl)
    (hs : ∀ x, foldedSetIterable iter X.env x = pure x := by intro _; rfl) : we X (.ListComp elt [⟨.Name x pos', iter, ifs, 0⟩] scope pos) σ H Q := by
  subst h1
  subst hsc
  exact we_of (pe_lc (own := [(x, i)]) hc hN pi_wI (blkOk_by ok) (fun s H C cl fp => pg_name (i := i) hN h2 (hl s H C cl fp) (hf s H C cl fp)) (fun s H C cl fp => ⟨fun pins st σ H' Q I h => h s H C cl fp pins st I⟩) (fun s H C cl fp => ⟨fun pins st σ H' Q I h => h s H C cl fp pins st I⟩) hs) (lc_runAt hi (by simp) E k)
end
theorem sqL_same {K : PySem.W.Frag} {F H : Hp} {a : Addr} {xs : List V} (h : SqL K F a xs) (e : Same F H) : SqL K H a xs := h.imp (fun r => r.imp (e _ _) fun ⟨o, q⟩ => ⟨o, e _ _ q⟩) id
theorem rp_ints {F : Hp} : ∀ ns : List Int, RpAll F (ns.map V.int) (ns.map PyData.int)
  | [] => .nil
  | n :: ns => .cons (.int n) (rp_ints ns)
theorem rp_ints' {F : Hp} : ∀ {vs : List V} {ns : List Int}, RpAll F vs (ns.map PyData.int) → vs = ns.map V.int
  | _, [], h => by cases h; rfl
  | _, n :: ns, h => by
    cases h with
    | cons h t => rw [rp_ints' t, rp_int h]; rfl
theorem gr_freeze {Γ : Ctx} {F H F' H' : Hp} {σ : L2.St} {p : Addr} {vs : List V} (E : En F H σ Γ) (g : Gr Γ F H F' H') (n : H p = none) (nF : F' p = none) (hH : H' p = some (.lst vs)) : Gr Γ F H (upd F' p (.lst vs)) H' := by
  refine ⟨fun a u e => ?_, fun a u e => ?_, g.fr, fun a e h => ?_, g.bg⟩
  · rw [upd_ne (ne_of_none (g.sF a u e) nF)]
    exact g.sF a u e
  · by_cases ha : a = p
    · subst ha
      rw [upd_same] at e
      rw [hH, e]
    · rw [upd_ne ha] at e
      exact g.ex a u e
  · rw [upd_ne (fun z => h (by rw [z]; exact n))]
    exact g.nw a e h

section
variable {P : Program} {w : World} {K : PySem.W.Frag} {mg : Str → Option Value} {base : Heap}
def bag0 (cells : List Int) : List PyData := [.int 0, .int 1234567891, .int 0, .list (cells.map PyData.int)]
def spBag (K : PySem.W.Frag) : Sp := fun vs H Q _ => ∃ (F : Hp) (a : Addr) (ns : List Int), vs = [.ref a] ∧ Same F H ∧ SqL K F a (ns.map V.int) ∧ ns.length ≤ 63 ∧
  ∀ (b : Addr) (ws : List V) (F' H' : Hp) (cells : List Int), cells.length ≤ 1000 → Gr [] F H F' H' → H b = none → F' b = none → H' b = some (.lst ws) → RpAll F' ws (bag0 cells) → Q (.ref b) H'
theorem k_law_bag (D : Fd K mg "_law_bag" s_law_bag) (T : Bi mg) : Fk P w K mg base 1 "_law_bag" (spBag K) := by
  obtain ⟨f, fd, F0, hm⟩ := D
  refine ⟨f, fd, ["_law_script"], ?_, hm, F0.kp, F0.binds (fun _ _ _ _ _ _ us hl => match us, hl with | [_], _ => rfl)⟩
  refine F0.ok ns_law_bag (fun vs H Q E h => ?_) (fun cdv A outer s H vs Q E hr h => ?_)
  · obtain ⟨F, a, ns, rfl, _⟩ := h
    rfl
  · obtain ⟨F, a, ns, rfl, sF, hS, hz, fin⟩ := h
    refine ⟨_, pss_one (ps_ret (pe_lst (pa_cons pe_int (pa_cons pe_int (pa_cons pe_int (pa_cons pe_we pa_nil)))))), ?_⟩
    have E0 : En F H (L2.start ["_law_script", "_law_cell"] [.ref a]) [.fn a, .no] := by
      refine ⟨rfl, sF, fun i s ov h1 h2 => ?_, fun i j s t x h1 h2 m1 m2 => ?_⟩
      · match i, h1, h2 with
        | 0, h1, h2 => cases h1; cases h2; rfl
        | 1, h1, h2 => cases h1; exact trivial
      · match i, h1 with
        | 0, h1 => cases h1; cases m1
        | 1, h1 => cases h1; cases m1
    show we (Xo P w K mg base ["_law_script", "_law_cell"] "_law_bag" s_law_bag f cdv A outer s H E) _ _ _ _
    refine we_lc1At (A := fun xs => ∃ cells : List Int, cells.length ≤ 1000 ∧ xs = cells.map PyData.int) (by wtm_at "XN") (by wtm_at "idx") (by wtm_at "calm") (by decide +kernel) (fun R hk => ?_) E0 (fun p vs xs F' H' g n nF hH r hA => ?_) (by wtm_at "XS")
    · refine wI_of (pi_list (pe_slice sl_list (pe_var (i := 0) rfl (Or.inl rfl)) po_none (po_some pe_int))) ?_
      refine ⟨.ref a, rfl, 63, rfl, a, _, rfl, sqL_same hS sF, fun p hp => ⟨p, rfl, ⟨_, .of upd_same⟩, ?_⟩⟩
      have g := Gr.new E0 (o := .lst (cutV (ns.map V.int) none (some 63))) hp
      refine hk _ _ _ (cutD (ns.map PyData.int) none (some 63)) g (walkD_list upd_same (cut_rp (rp_ints ns) none (some 63))) ?_
      have ec : ∃ cs : List Int, cutD (ns.map PyData.int) none (some 63) = cs.map PyData.int ∧ cs.length ≤ 1000 := by
        unfold cutD
        refine ⟨(ns.drop (HT.sIx (ns.map PyData.int).length 0 none)).take (HT.sIx (ns.map PyData.int).length (ns.map PyData.int).length (some 63) - HT.sIx (ns.map PyData.int).length 0 none), ?_, ?_⟩
        · rw [List.map_take, List.map_drop]
        · rw [List.length_take, List.length_drop]
          omega
      obtain ⟨cs, ec, hcz⟩ := ec
      rw [ec]
      refine lc_all (enc := PyData.int) (f := fun n : Int => .int (if n < 0 then -n else n)) (by omega) (fun c hc => tgn_name fun s0 H0 C cl fp => ?_) ?_
      · repeat wtm_at "w"
        rfl
      · exact ⟨cs.map fun n => if n < 0 then -n else n, by rw [List.length_map]; exact hcz, by rw [List.map_map]; rfl⟩
    · obtain ⟨cells, hcz, rfl⟩ := hA
      have g1 := gr_freeze E0 g n nF hH
      have hv : vs = cells.map V.int := rp_ints' r
      refine ⟨by show 4 ≤ sizeLine; decide, fun b hb => ?_⟩
      have E1 := E0.grow g1
      have g2 := g1.trans (Gr.mine E1 (o := .lst [.int 0, .int 1234567891, .int 0, .ref p]) hb)
      have hpb : (upd F' p (.lst vs)) b = none := E1.ex.free hb
      refine fin b _ _ _ cells hcz ⟨g2.sF, g2.ex, fun a o e _ => g2.fr a o e fun c m => by simp at m, g2.nw, fun _ _ m => by simp at m⟩ (back_none g1 hb) hpb upd_same ?_
      exact .cons (.int _) (.cons (.int _) (.cons (.int _) (.cons (.lst upd_same (hv ▸ rp_ints cells)) .nil)))
end
/-- a list of our own that is a bag -/
theorem EnB.toBag {B : Bs} {F H : Hp} {σ : L2.St} {Γ : Ctx} {i : Nat} {b : Addr} {cells : List Int} (E : EnB B F H σ Γ) (hi : Γ[i]? = some (.own b (bag0 cells))) (hz : cells.length ≤ 1000) : ∃ c, EnB B F H σ (Γ.set i (.bag b c)) := by
  obtain ⟨ov, h1, rfl, nF, vs, hH, r⟩ := E.en.at hi
  unfold bag0 at r
  cases r with
  | cons r0 r =>
  cases r with
  | cons r1 r =>
  cases r with
  | cons r2 r =>
  cases r with
  | cons r3 r =>
  cases r
  obtain ⟨c, ws, rfl, hc, rc⟩ := rp_lst r3
  have hil : i < Γ.length := (List.getElem?_eq_some_iff.mp hi).1
  have back : ∀ (j : Nat) s, i ≠ j → (Γ.set i (.bag b c))[j]? = some s → Γ[j]? = some s := fun j s hj e => by
    rw [List.getElem?_set_ne hj] at e
    exact e
  have tr : ∀ (j : Nat) s, (Γ.set i (.bag b c))[j]? = some s → ∃ t, Γ[j]? = some t ∧ t.addrs = s.addrs := fun j s e => by
    by_cases hj : i = j
    · subst hj
      rw [List.getElem?_set_self hil] at e
      cases e
      exact ⟨_, hi, rfl⟩
    · exact ⟨s, back j s hj e, rfl⟩
  refine ⟨c, ⟨⟨by rw [List.length_set]; exact E.en.len, E.en.ex, fun j s ov e1 e2 => ?_, fun j l s1 s2 a e1 e2 m1 m2 => ?_⟩, E.f0, E.fr, E.nw, fun t m q hq => ?_, E.al⟩⟩
  · by_cases hj : i = j
    · subst hj
      rw [List.getElem?_set_self hil] at e1
      rw [h1] at e2
      cases e1
      cases e2
      refine ⟨rfl, nF, ⟨cells, hz, by rw [hc, rp_ints' rc]⟩, 0, 1234567891, 0, ?_, by decide, by decide, by decide, by decide⟩
      rw [hH, rp_int r0, rp_int r1, rp_int r2]
    · exact E.en.sl j s ov (back j s hj e1) e2
  · obtain ⟨t1, f1, g1⟩ := tr j s1 e1
    obtain ⟨t2, f2, g2⟩ := tr l s2 e2
    exact E.en.sep j l t1 t2 a f1 f2 (by rw [g1]; exact m1) (by rw [g2]; exact m2)
  · obtain ⟨j, hj⟩ := ctx_mem m
    obtain ⟨t1, f1, g1⟩ := tr j t hj
    exact E.mv t1 (List.mem_of_getElem? f1) q (by rw [g1]; exact hq)
/-- bag = _law_bag(script) -/
theorem e1_bag {X : Cx} {B : Bs} {Γ : Ctx} {O : Po} {i0 i : Nat} {a : Addr} {ns : List Int} {x y : Str} {pos pos' p p2 : Pos} {k : Nat} (G : Fk X.prog X.w X.K X.mg X.base 1 "_law_bag" (spBag X.K)) (hr : Room k X.A) (hk : 1 ≤ k) (hS : SqL X.K B.F0 a (ns.map V.int)) (hz : ns.length ≤ 63) (h0 : Γ[i0]? = some (.fn a)) (hi : i < Γ.length)
    (hN : X.N.Nodup) (hx : X.N[i0]? = some x) (hy : X.N[i]? = some y) (hv : Vis X.env.scope x) (hl : Loc X.env.scope y) (hf : X.fn y = true ∨ X.env.scope.names.lookup y = some .local)
    (h : ∀ b c, O.nx (Γ.set i (.bag b c))) (hg : Gl X "_law_bag" := by rfl) (hd : (x == ("__debug__" : Str)) = false := by decide) (hcd : (x == ("__classdict__" : Str)) = false := by decide)
    (he : starEach [.Name x p2] X.env = (false, eval (.Name x p2) X.env) :: starEach [] X.env := by rfl) (hpl : (backTo p (starEach [] X.env)).any (·.1) = false := by rfl) {p3 : Pos} (hsw : swapsWith (.Call (.Name "_law_bag" p3) [.Name x p2] [] p) (some (.Name y pos')) pos.line X.env = pure false := by rfl) :
    E1 X B (.Assign [.Name y pos'] (.Call (.Name "_law_bag" p3) [.Name x p2] [] p) pos) Γ O := fun F H σ E D kk => by
  obtain ⟨f, fd, ps, F0, hm, kp, bd⟩ := G
  refine ws_of (ps_set hN hy hl (pe_call F0 (hr.mono hk) hg hm kp bd .nil pass0 (pa_cons (pe_var hx hv hd hcd) pa_nil he) (by decide) he hpl) hsw hf) ?_
  obtain ⟨ov, h1, h2⟩ := E.en.at h0
  obtain rfl : ov = some (.ref a) := h2
  refine ⟨_, h1, ?_⟩
  refine ⟨F, a, ns, rfl, E.en.ex, sqL_same hS E.f0, hz, fun b ws F' H' cells hcz g n nF hH r => ?_⟩
  have g' : Gr Γ F H F' H' := Gr.wide E.en g
  have E2 := E.own i g' n nF hH r
  obtain ⟨c, E3⟩ := E2.toBag (i := i) (by rw [List.getElem?_set_self hi]) hcz
  rw [List.set_set] at E3
  exact kk.nx F' H' _ _ g.sF E3 (h b c)


set_option Elab.async false
set_option linter.all false
set_option maxRecDepth 100000
set_option maxHeartbeats 2000000
set_option pp.maxSteps 400
/-! Wm.AU: defs that show a value: no guard on the stack. -/


/-- a promise kept where no display is under way -/
structure FnG (P : Program) (w : World) (K : PySem.W.Frag) (mg : Str → Option Value) (base : Heap) (k : Nat) (f : Addr) (fd : FuncData) (ps : List Str) (sp : Sp) : Prop where
  len : ∀ vs H Q E, sp vs H Q E → vs.length = ps.length
  run : ∀ (A : Around) (outer : List Env) (s : Shared) (H : Hp) (args : Args) (us : List Value) (vs : List V) (Q : VK) (E : XK), Room k A → A.guards = some [] → Env0 P w K mg base A outer s H → BindsTo s fd args (ps.zip us) → Vals vs us → sp vs H Q E →
    codeAny (model P w) A (.call (.ref f) args) (CR CX0 outer P w H s Q E) s
section
variable {P : Program} {w : World} {K : PySem.W.Frag} {mg : Str → Option Value} {base : Heap}
theorem fnG_of {k : Nat} {f : Addr} {fd : FuncData} {x qual : Str} {st : Stmt} {N ps : List Str} {sp : Sp} (F : Fun K x qual st f fd) (S : FnScope N ps (defScope st)) (len : ∀ vs H Q E, sp vs H Q E → vs.length = ps.length)
    (hbody : ∀ (cdv : Value) (A : Around) (outer : List Env) (s : Shared) (H : Hp) (vs : List V) (Q : VK) (E : XK), Room k (A.deeper (PyProof.Rows.envOfC qual (defScope st) s.heap.objs.size f cdv)) → A.guards = some [] → sp vs H Q E →
      ∃ t, PSs (cxOf CX0 P w K mg base N qual (defScope st) f cdv A outer s H E).nox (defBody st) t ∧ t { nx := fun _ H' => Q .non H', rt := Q } (start N vs) H) : FnG P w K mg base (k + 1) f fd ps sp := by
  obtain ⟨oc, od, kV, doc, pm, an, cdv, ct, osl, rfl, lk, hcd⟩ := F.ex
  refine ⟨len, fun A outer s H args us vs Q E hr hgd e0 hb r hsp => ?_⟩
  obtain ⟨t, ht, hq⟩ := hbody cdv A outer s H vs Q E (hr.deeper _) hgd hsp
  have up : ∀ {b : Addr} {o : Obj}, base.get? b = some o → s.heap.get? b = some o := fun {b o} e => (e0.bs b o e).1
  refine Att.call_fn (e0.mod.kin.keeps fun _ _ => up) (e0.mod.nolimit.keeps fun _ _ => up) lk hcd hr.depth hb (List.all_eq_true.mpr fun y hy => ?_) (fun s1 x => wpAny_mono (ht.nox.run [] s1 (start N vs) H _ (inv_start S hr.hd e0 (len _ _ _ _ hsp) r x) hq) (fun fl s' hs => ?_) fun _ _ hs => hs) S.co S.gen S.kind
  · rcases S.par y.1 (List.of_mem_zip hy).1 with q | q <;> simp [q]
  · cases fl with
    | ret u => exact let ⟨v, _, H', J, rv, q⟩ := hs; ⟨v, H', J.os, J.bare, J.base, J.hok, rv, q⟩
    | next => exact let ⟨_, H', J, q⟩ := hs; ⟨.non, H', J.os, J.bare, J.base, J.hok, rfl, q⟩
    | brk => exact let ⟨_, _, _, q⟩ := hs; q.elim
    | cont => exact let ⟨_, _, _, q⟩ := hs; q.elim
def FkG (P : Program) (w : World) (K : PySem.W.Frag) (mg : Str → Option Value) (base : Heap) (k : Nat) (x : Str) (sp : Sp) : Prop :=
  ∃ f fd ps, FnG P w K mg base k f fd ps sp ∧ mg x = some (.ref f) ∧ PySem.W.keepIn K (.ref f) = true ∧ Binds K fd ps []
theorem fk_pG {x : Str} {st : Stmt} {N ps : List Str} {k : Nat} {sp : Spc} (D : Fd K mg x st) (S : FnScope N ps (defScope st)) (hb : BindN st x ps) (hlen : ∀ ds R, sp ds R → ds.length = ps.length)
    (hbody : ∀ (f : Addr) (cdv : Value) (A : Around) (outer : List Env) (s : Shared) (H : Hp) (E : XK), Room k (A.deeper (PyProof.Rows.envOfC x (defScope st) s.heap.objs.size f cdv)) → A.guards = some [] → ∀ (F : Hp) (ds : List PyData) (R : PyData → Prop), sp ds R →
      Es (Xo P w K mg base N x st f cdv A outer s H E) ⟨F, H, []⟩ (defBody st) (ctx0 N (ds.map .val)) ⟨fun _ => R .none, fun d _ => R d, fun _ => False, fun _ => False⟩) : FkG P w K mg base (k + 1) x (pSp sp) := by
  obtain ⟨f, fd, F0, hm⟩ := D
  refine ⟨f, fd, ps, ?_, hm, F0.kp, F0.binds hb⟩
  refine fnG_of F0 S (fun vs H Q E h => ?_) (fun cdv A outer s H vs Q E hr hgd h => ?_)
  · obtain ⟨F, ds, R, _, r, q, _⟩ := h
    rw [r.length]
    exact hlen ds R q
  · obtain ⟨F, ds, R, sF, r, q, fin⟩ := h
    refine ⟨wss _ (defBody st), pss_wss, ?_⟩
    have hl : (ds.map Sd.val).length = ps.length := by rw [List.length_map]; exact hlen ds R q
    have hpl : ps.length ≤ N.length := by
      have := congrArg List.length S.pre
      rw [List.length_take] at this
      omega
    have hv : ∀ s, s ∈ ds.map Sd.val → s.addrs = [] := fun s m => by
      obtain ⟨d, _, rfl⟩ := List.mem_map.mp m
      rfl
    have E0 : EnB ⟨F, H, []⟩ F H (L2.start N vs) (ctx0 N (ds.map .val)) :=
      ⟨start_en (by rw [r.length, List.length_map]) (by rw [hl]; exact hpl) (vals_en sF r), Same.refl F, fun a o e _ => e, fun a e _ => e, fun s m q hq => absurd hq (by rw [no_addr hv s m]; simp), fun a n => n⟩
    have gr : ∀ {F' H' σ' Γ'}, EnB ⟨F, H, []⟩ F' H' σ' Γ' → Gr [] F H F' H' := fun {F' H' σ' Γ'} E' => ⟨E'.f0, E'.en.ex, fun a o e _ => E'.fr a o e (by simp), E'.nw, fun _ _ m => by simp at m⟩
    exact hbody f cdv A outer s H E hr hgd F ds R q F H _ E0 _ ⟨fun F' H' σ' Γ' _ E' q' => fin .non F' H' .none (gr E') .non q', fun F' H' σ' Γ' v d _ E' r' q' => fin v F' H' d (gr E') r' q', fun _ _ _ _ _ _ z => z.elim, fun _ _ _ _ _ _ z => z.elim⟩
end
section
variable {X : Cx} {Γ : Ctx} {P : PyData → Prop} {e : Expr} {es : List Expr} {S : Spc} {x : Str} {p pos : Pos} {j k : Nat}
theorem pe_callG {f : Addr} {fd : FuncData} {ps : List Str} {sp : Sp} {t : TA} (F : FnG X.prog X.w X.K X.mg X.base k f fd ps sp) (hgd : X.A.guards = some []) (hr : Room k X.A) (hg : Gl X x) (hm : X.mg x = some (.ref f)) (hk : PySem.W.keepIn X.K (.ref f) = true) (hb : Binds X.K fd ps [])
    (ha : PA X (e :: es) t) (hdb : (x == ("__debug__" : Str)) = false := by decide) (he : starEach (e :: es) X.env = (false, eval e X.env) :: starEach es X.env := by rfl) (hpl : (backTo pos (starEach es X.env)).any (·.1) = false := by rfl) :
    PE X (.Call (.Name x p) (e :: es) [] pos) (tCall sp [] E0 t) := by
  refine ⟨fun pins s σ H Q I h => ?_⟩
  refine PySem.wpAny_Call_Name_kw (ld_glob I hg hm ?_ hdb)
  refine PySem.W.callWith_K (h₀ := X.base) I.ok.mod.kin hk (thn (ha.run pos pins s σ H _ I h) fun us s1 ⟨vs, H1, I1, r, q⟩ => ⟨I1.kIn, ?_⟩) he hpl
  have r2 : Vals (vs ++ []) (us ++ []) := r.append .nil
  have hl : (us ++ []).length = ps.length := by rw [← r2.length]; exact F.len _ _ _ _ q
  refine wpAny_call (codeAny_mono (F.run X.A X.stack s1 H1 ⟨us, []⟩ (us ++ []) (vs ++ []) Q E0 hr hgd I1.env0 (hb s1 us I1.kIn hl) r2 q) fun r s' hq => ?_)
  cases r with
  | error e => exact (pass0 (X := X) pins σ H1 s1 e s' I1 hq)
  | ok fl =>
    cases fl with
    | ret u => exact I1.after hq
    | next => exact False.elim hq
    | brk => exact False.elim hq
    | cont => exact False.elim hq
theorem nd_callG (G : FkG X.prog X.w X.K X.mg X.base j x (pSp S)) (hgd : X.A.guards = some []) (hr : Room k X.A) (ha : Na X (e :: es) Γ fun ds => S ds P) (hk : j ≤ k := by decide) (hg : Gl X x := by rfl) (hdb : (x == ("__debug__" : Str)) = false := by decide)
    (he : starEach (e :: es) X.env = (false, eval e X.env) :: starEach es X.env := by rfl) (hpl : (backTo pos (starEach es X.env)).any (·.1) = false := by rfl) : Nd X (.Call (.Name x p) (e :: es) [] pos) Γ P := by
  obtain ⟨f, fd, ps, F0, hm, kp, bd⟩ := G
  intro F H σ E Q q
  refine we_of (pe_callG (k := j) F0 hgd (hr.mono hk) hg hm kp bd pa_wa hdb he hpl) ?_
  refine ha F H σ E _ fun vs F1 H1 ds g r s => ?_
  refine ⟨F1, ds, P, g.ex, by rw [List.append_nil]; exact r, s, fun v F2 H2 d g2 r2 p2 => ?_⟩
  exact q v F2 H2 d (g.trans (Gr.wide (E.grow g) g2)) r2 p2
end
/-! ### shown values -/
mutual
def lf : PyData → Bool
  | .none => true
  | .bool _ => false
  | .int i => decide (-1 ≤ i ∧ i ≤ 100)
  | .str _ => false
  | .list xs => lfAll xs
  | .tuple xs => lfAll xs
  | .dict _ => false
def lfAll : List PyData → Bool
  | [] => true
  | x :: xs => lf x && lfAll xs
end
theorem short_int {i : Int} (h : -1 ≤ i ∧ i ≤ 100) : (PyData.shown (.int i)).length ≤ 8 ∧ i.natAbs.log2 < 1920 := by
  have all : ∀ n : Fin 102, (PyData.shown (.int ((n.1 : Int) - 1))).length ≤ 8 ∧ ((n.1 : Int) - 1).natAbs.log2 < 1920 := by decide +kernel
  have := all ⟨(i + 1).toNat, by omega⟩
  simp only at this
  rwa [show (((i + 1).toNat : Nat) : Int) - 1 = i by omega] at this
mutual
theorem lf_ok : ∀ d : PyData, lf d = true → d.showable = true ∧ d.hasDict = false ∧ d.leavesShort 8 = true ∧ d.plain = true ∧ d.canLay0 = true
  | .none, _ => by simp [PyData.showable, PyData.hasDict, PyData.leavesShort, PyData.plain, PyData.canLay0]
  | .int i, h => by
    have h' : -1 ≤ i ∧ i ≤ 100 := by simpa [lf] using h
    have q := short_int h'
    simp [PyData.showable, PyData.hasDict, PyData.leavesShort, PyData.plain, PyData.canLay0, q.1, q.2]
  | .list xs, h => by
    have q := lfAll_ok xs (by simpa [lf] using h)
    simp [PyData.showable, PyData.hasDict, PyData.leavesShort, PyData.plain, PyData.canLay0, q]
  | .tuple xs, h => by
    have q := lfAll_ok xs (by simpa [lf] using h)
    simp [PyData.showable, PyData.hasDict, PyData.leavesShort, PyData.plain, PyData.canLay0, q]
  | .bool _, h => by simp [lf] at h
  | .str _, h => by simp [lf] at h
  | .dict _, h => by simp [lf] at h
theorem lfAll_ok : ∀ xs : List PyData, lfAll xs = true → PyData.showableAll xs = true ∧ PyData.hasDictAll xs = false ∧ PyData.leavesShortAll 8 xs = true ∧ PyData.plainAll xs = true ∧ PyData.canLayAll0 xs = true
  | [], _ => by simp [PyData.showableAll, PyData.hasDictAll, PyData.leavesShortAll, PyData.plainAll, PyData.canLayAll0]
  | x :: xs, h => by
    have h' : lf x = true ∧ lfAll xs = true := by simpa [lfAll] using h
    have q1 := lf_ok x h'.1
    have q2 := lfAll_ok xs h'.2
    simp [PyData.showableAll, PyData.hasDictAll, PyData.leavesShortAll, PyData.plainAll, PyData.canLayAll0, q1, q2]
end
structure AlOk (d : PyData) : Prop where
  lf : lf d = true
  dsp : PyProof.Rows.isDisplay d = true
  dep : d.depth ≤ 30
  wt : d.weight ≤ 100000
theorem AlOk.size {d : PyData} (h : AlOk d) : d.shown.length ≤ sizeLine := by
  have q := PyData.shown_le 8 (Nat.le_refl _) d (lf_ok d h.lf).2.2.1
  have := h.wt
  refine Nat.le_trans q (Nat.le_trans (m := 10 * 100000 + 8) (by omega) (by decide))
theorem AlOk.shaped {d : PyData} (h : AlOk d) : SeqAt.shaped d = true := by
  show (d.canLay0 && decide (d.depth ≤ 64)) = true
  rw [(lf_ok d h.lf).2.2.2.2, decide_eq_true (Nat.le_trans h.dep (by decide))]
  rfl
theorem AlOk.eqv {d : PyData} (h : AlOk d) : PyData.eqv d d = true := PySem.SeqAt.eqv_refl_plain d (lf_ok d h.lf).2.2.2.1
theorem call_reprD {X : Cx} (hgd : X.A.guards = some []) (hu : X.A.units + 64 < cLine) : CallR X (.builtin "repr") (fun xs H Q => ∃ v d, xs = [v] ∧ Dp X.K H v d ∧ AlOk d ∧ Q (.str d.shown) H) := by
  intro pins s σ H xs us Q I r h
  obtain ⟨v, d, rfl, dp, al, q⟩ := h
  obtain ⟨u, rfl, ru⟩ := Vals.one r
  obtain ⟨as, rd⟩ := Dp.reads I d v u dp ru
  obtain ⟨a, rfl⟩ := PyProof.Rows.isRef_of_reads rd al.dsp
  have q1 := lf_ok d al.lf
  refine repr_of_reads' rd q1.1 (PyData.noDict_hsm q1.2.1) hgd (by have := al.dep; omega) (fun _ _ e => e) (fun h' t tk hk => ?_) al.size
  exact ⟨.str d.shown, H, I.kept (t' := tk) hk, ⟨_, rfl⟩, q⟩
theorem nd_repr {X : Cx} {Γ : Ctx} {P : PyData → Prop} {e : Expr} {p pos : Pos} {k : Nat} (T : Bi X.mg) (hgd : X.A.guards = some []) (hr : Room k X.A) (h : Nd X e Γ fun d => AlOk d ∧ P (.str d.shown)) (hg : Gl X "repr" := by rfl) (he : starEach [e] X.env = (false, eval e X.env) :: starEach [] X.env := by rfl) (hpl : (backTo pos (starEach [] X.env)).any (·.1) = false := by rfl) : Nd X (.Call (.Name "repr" p) [e] [] pos) Γ P :=
  nd_callB T.repr boot_repr' (na_cons (h.mono fun d ⟨al, q⟩ => na_nil ⟨_, call_reprD hgd hr.units, fun F H σ E vs r Q k => by
    obtain ⟨v, rfl, rv⟩ := rp1 r
    exact ⟨v, d, rfl, (rv.mono E.ex d v).dp d v, al, k _ F H _ (.refl E) (.str _) q⟩⟩) he) hg (by decide) (by decide) he hpl
theorem cmp_eqS {X : Cx} {Γ : Ctx} {P : PyData → Prop} {x : Str} (q : P (.bool true)) : CmpOk X Γ .Eq (.str x) (.str x) P := ⟨rEq, op_eq, fun F H σ E v u rv ru Q k => by
  cases rv
  cases ru
  refine ⟨rfl, ?_⟩
  rw [decide_eq_true rfl]
  exact k _ F H _ (.refl E) (.bl _) q⟩

section
variable {P : Program} {w : World} {K : PySem.W.Frag} {mg : Str → Option Value} {base : Heap}
def S_law_alike : Spc := fun ds R => ∃ d : PyData, ds = [d, d] ∧ AlOk d ∧ R (.bool true)
theorem k_law_alike (D : Fd K mg "_law_alike" s_law_alike) (T : Bi mg) : FkG P w K mg base 1 "_law_alike" (pSp S_law_alike) := by
  refine fk_pG D ns_law_alike (fun _ _ _ _ _ _ us hl => match us, hl with | [_, _], _ => rfl) (fun ds R h => ?_) (fun f cdv A outer s H E hr hgd F ds R h => ?_)
  · obtain ⟨d, rfl, al, q⟩ := h
    rfl
  obtain ⟨d, rfl, al, q⟩ := h
  refine es_one (e1_ret ?_)
  repeat wtm_at "x"
  refine cmp_eq hr.units al.shaped al.shaped ?_
  rw [al.eqv]
  refine ⟨_, rfl, ?_⟩
  refine iteT ?_
  refine nd_and1 ?_
  refine nd_cmp ?_
  refine nd_repr (by assumption) hgd hr ?_
  repeat wtm_at "x"
  refine ⟨al, ?_⟩
  refine nd_repr (by assumption) hgd hr ?_
  repeat wtm_at "x"
  refine ⟨al, ?_⟩
  exact cmp_eqS q
end


set_option Elab.async false
set_option linter.all false
set_option maxRecDepth 100000
set_option maxHeartbeats 4000000
set_option pp.maxSteps 400
/-! Wm.AV: the law. -/



def spLaw (K : PySem.W.Frag) : Sp := fun vs H Q _ => ∃ (a : Addr) (ns : List Int), vs = [.ref a] ∧ SqL K H a (ns.map V.int) ∧ ns.length ≤ 63 ∧ ∀ H', Q (.bl true) H'
abbrev nLaw : List Str := ["_law_script", "_law_bag_here", "_law_turn", "_law_task_here", "_law_made", "_law_stretch", "_law_row", "_law_plan", "_law_paper", "_law_due", "_law_one", "_law_other"]
theorem tl_lay (l : Ly) : tlD (l.map some) = lyD l := by
  unfold tlD lyD
  rw [List.map_map]
  rfl
theorem w_int {i : Int} (h : -1 ≤ i ∧ i ≤ 100) : PyData.weight (.int i) ≤ 10 := by
  have all : ∀ n : Fin 102, PyData.weight (.int ((n.1 : Int) - 1)) ≤ 10 := by decide +kernel
  have := all ⟨(i + 1).toNat, by omega⟩
  simp only at this
  rwa [show (((i + 1).toNat : Nat) : Int) - 1 = i by omega] at this
theorem ly_lf : ∀ L : Ly, (∀ v, some v ∈ L → v ≤ 100) → lfAll (L.map oD) = true ∧ PyData.weightAll (L.map oD) ≤ 12 * L.length ∧ PyData.depthAll (L.map oD) = 0
  | [], _ => by simp [lfAll, PyData.weightAll, PyData.depthAll]
  | o :: L, h => by
    obtain ⟨q1, q2, q3⟩ := ly_lf L fun v m => h v (List.mem_cons_of_mem _ m)
    cases o with
    | none =>
      refine ⟨by simp [lfAll, lf, oD, q1], ?_, by simp [oD, PyData.depthAll, PyData.depth, q3]⟩
      simp [oD, PyData.weightAll, PyData.weight]
      omega
    | some v =>
      have hv := h v List.mem_cons_self
      have hw := w_int (i := (v : Int)) ⟨by omega, by omega⟩
      refine ⟨?_, ?_, by simp [oD, PyData.depthAll, PyData.depth, q3]⟩
      · simp [lfAll, lf, oD, q1]
        omega
      · show PyData.weight (.int (v : Int)) + 1 + PyData.weightAll (L.map oD) ≤ 12 * (L.length + 1)
        omega
theorem al_ly {ns : List Nat} {L : Ly} (r : Rt ns L) (hn : ns.length ≤ 60) (hl : L.length ≤ 60) : AlOk (lyD L) := by
  obtain ⟨q1, q2, q3⟩ := ly_lf L fun v m => by have := r.lt v m; omega
  refine ⟨by show lfAll _ = true; exact q1, rfl, ?_, ?_⟩
  · show (PyData.tuple (L.map oD)).depth ≤ 30
    simp only [PyData.depth]
    omega
  · show PyData.weightAll _ ≤ _
    omega
theorem al_ly2 {ns : List Nat} {L : Ly} (r : Rt ns L) (hn : ns.length ≤ 60) (hl : L.length ≤ 60) : AlOk (.list [lyD L, lyD L]) := by
  have h := al_ly r hn hl
  have h1 := h.lf
  have h2 := h.dep
  obtain ⟨q1, q2, q3⟩ := ly_lf L fun v m => by have := r.lt v m; omega
  refine ⟨by simp [lf, lfAll]; exact h1, rfl, ?_, ?_⟩
  · have h3 : (lyD L).depth ≤ 1 := by
      show (PyData.tuple (L.map oD)).depth ≤ 1
      simp only [PyData.depth]
      omega
    simp only [PyData.depth, PyData.depthAll]
    omega
  · show PyData.weightAll (L.map oD) + 1 + (PyData.weightAll (L.map oD) + 1 + 0) ≤ _
    omega
theorem shown_ok {s : Sto} {L : Ly} {P : PyData → Prop} (ht : s.t = L.map some) (q : P (lyD L)) : S_shown s.fs [] P := ⟨s, rfl, rfl, by rw [ht, tl_lay]; exact q⟩
section
variable {P : Program} {w : World} {K : PySem.W.Frag} {mg : Str → Option Value} {base : Heap} {C : Addr}
theorem law_walk {f : Addr} {cdv : Value} {A : Around} {outer : List Env} {s : Shared} {H : Hp} {E : XK} {a : Addr} {is : List Int} (T : Bi mg) (TC : StC K C) (gS : mg "Store" = some (.ref C)) (hgd : A.guards = some []) (hr : Room 9 (A.deeper (PyProof.Rows.envOfC "law" (defScope s_law) s.heap.objs.size f cdv)))
    (hS : SqL K H a (is.map V.int)) (hz : is.length ≤ 63)
    (G_law_bag : Fk P w K mg base 1 "_law_bag" (spBag K)) (G_law_task : Fk P w K mg base 7 "_law_task" (bSp S_law_task)) (G_law_some : Fk P w K mg base 2 "_law_some" (bSp S_law_some)) (G_law_made_plan : Fk P w K mg base 5 "_law_made_plan" (bSp S_law_made_plan))
    (G_cut_row : Fk P w K mg base 9 "cut_row" (pSp S_cut_row)) (G_row_paper : Fk P w K mg base 9 "row_paper" (pSp S_row_paper)) (G_is_row : Fk P w K mg base 7 "is_row" (pSp S_is_row)) (G_law_is_plan : Fk P w K mg base 3 "_law_is_plan" (pSp S_law_is_plan))
    (G_law_is_safe_plan : Fk P w K mg base 4 "_law_is_safe_plan" (pSp S_law_is_safe_plan)) (G_is_safe_plan : Fk P w K mg base 6 "is_safe_plan" (pSp S_is_safe_plan)) (G_law_writes : Fk P w K mg base 1 "_law_writes" (pSp S_law_writes)) (G_law_losses : Fk P w K mg base 2 "_law_losses" (pSp S_law_losses))
    (G_borne_losses : Fk P w K mg base 3 "borne_losses" (pSp S_borne_losses)) (G_law_alike : FkG P w K mg base 1 "_law_alike" (pSp S_law_alike)) (G_init : InitOk P w K mg base C 6 S_init) (G_law_is_led_whole : Fk P w K mg base 5 "_law_is_led_whole" (kSp C S_law_is_led_whole))
    (G_shown : Fk P w K mg base 1 "shown" (rSp C S_shown)) (G_law_led_by : Fk P w K mg base 2 "_law_led_by" (pSp S_law_led_by)) (M_turn : Mth P w K mg base C 3 "turn" (mSp C S_m_turn)) :
    Es (Xo P w K mg base nLaw "law" s_law f cdv A outer s H E) ⟨H, H, []⟩ (defBody s_law) [.fn a, .no, .no, .no, .no, .no, .no, .no, .no, .no, .no, .no] ⟨fun _ => False, fun d _ => d = .bool true, fun _ => False, fun _ => False⟩ := by
  refine es_cons ?_
  refine e1_bag (k := 9) (i0 := 0) (i := 1) G_law_bag hr (by decide) hS hz (by wtm_at "look") (by simp) (show nLaw.Nodup by decide +kernel) rfl rfl (by wtm_at "vis") (by wtm_at "loc") (by wtm_at "loc") (fun b c => ?_)
  refine es_cons ?_
  wtm_at "for1"
  refine ni_range1 (by wtm_at "Brange") ?_
  repeat wtm_at "x"
  refine ⟨by omega, ?_⟩
  refine ⟨fun n Γ2 => ∃ (s2 s3 s4 s5 s6 s7 s8 s9 s10 s11 : Sd), Γ2 = [.fn a, .bag b c, s2, s3, s4, s5, s6, s7, s8, s9, s10, s11], ⟨.no, .no, .no, .no, .no, .no, .no, .no, .no, .no, rfl⟩, ?_, ?_⟩
  · rintro n d Γ2 hd ⟨s2, s3, s4, s5, s6, s7, s8, s9, s10, s11, rfl⟩
    refine es_cons ?_
    wtm_at "set"
    refine nd_callBag (k := 9) (i := 1) G_law_task hr (by wtm_at "look") ?_
    repeat wtm_at "x"
    refine nd_callBag (k := 9) (i := 1) G_law_some hr (by wtm_at "look") ?_
    repeat wtm_at "x"
    refine ⟨_, _, rfl, rfl, by simp, by simp, fun x hx => ?_⟩
    have hu : ∃ u : Nat, u ≤ 12 ∧ x = iD u := by
      simp only [List.mem_cons, List.not_mem_nil, or_false] at hx
      rcases hx with rfl | rfl | rfl | rfl
      · exact ⟨6, by omega, rfl⟩
      · exact ⟨8, by omega, rfl⟩
      · exact ⟨4, by omega, rfl⟩
      · exact ⟨12, by omega, rfl⟩
    obtain ⟨z, hz1, rfl⟩ := hu
    repeat wtm_at "x"
    refine nd_callBag (k := 9) (i := 1) G_law_some hr (by wtm_at "look") ?_
    repeat wtm_at "x"
    refine ⟨_, _, rfl, rfl, by simp, by simp, fun x hx => ?_⟩
    have hu : ∃ u : Nat, u ≤ 12 ∧ x = iD u := by
      simp only [List.mem_cons, List.not_mem_nil, or_false] at hx
      rcases hx with rfl | rfl | rfl | rfl
      · exact ⟨3, by omega, rfl⟩
      · exact ⟨5, by omega, rfl⟩
      · exact ⟨2, by omega, rfl⟩
      · exact ⟨6, by omega, rfl⟩
    obtain ⟨t, ht1, rfl⟩ := hu
    repeat wtm_at "x"
    refine ⟨by omega, by omega, fun ns o w' hk => ?_⟩
    have hk200 : TkOk 200 ns o w' := hk.le (by omega)
    have hoz := hk.sz
    have hwl := hk.len
    have hnl := rt_len hk.n1 hk.old
    refine es_cons ?_
    wtm_at "set"
    refine nd_callBag (k := 9) (i := 1) G_law_made_plan hr (by wtm_at "look") ?_
    repeat wtm_at "x"
    refine ⟨hk200, ?_, fun cs hrow hw hcz => ?_⟩
    · refine es_cons ?_
      refine e1_if (nt_cmp ?_)
      repeat wtm_at "w"
      exact ⟨_, _, _, _, _, _, _, _, _, _, rfl⟩
    have hcz2 : cs.length ≤ 130 := by omega
    refine es_cons ?_
    refine e1_if (nt_cmp ?_)
    repeat wtm_at "w"
    wtm_at "set"
    refine nd_tupc (by assumption) ?_
    repeat wtm_at "x"
    refine ni_tup ?_
    repeat wtm_at "x"
    rw [show (madeP cs).map stD = cs.map (fun c => stD [c]) by unfold madeP; rw [List.map_map]; rfl]
    refine lc_all (enc := fun c => stD [c]) (f := cpD) (by omega) (fun c hc => tgn_name fun s0 H0 C cl fp => ?_) ?_
    · repeat wtm_at "x"
      rfl
    refine ⟨_, rfl, ?_⟩
    refine es_cons ?_
    refine e1_vv (by wtm_at "m2") ?_
    refine nd_call (k := 9) G_cut_row hr ?_
    repeat wtm_at "x"
    refine ⟨hrow, ?_⟩
    refine nd_call (k := 9) G_row_paper hr ?_
    repeat wtm_at "x"
    refine ⟨hrow, fun pp hpp => ?_⟩
    refine es_norm (Γ' := [.fn a, .bag b c, .val d, .val (tkD ns o w'), .val (plD (madeP cs)), s5, .val (stD cs), .val (plD (cutP ns o cs)), .val (stD pp), s9, s10, s11]) (by rfl) ?_
    have sfM := made_safe hrow hw
    have sfC := cut_safe hrow hw
    have plM := made_pl hrow
    have plC := cut_pl hrow
    have hfew := cut_few hrow
    have hall := cut_all hrow
    have hml := made_len cs
    refine es_cons ?_
    refine e1_if ?_
    repeat wtm_at "x"
    refine nd_call (k := 9) G_is_row hr ?_
    repeat wtm_at "x"
    refine ⟨hrow, ?_⟩
    repeat wtm_at "x"
    refine nd_call (k := 9) G_law_is_plan hr ?_
    repeat wtm_at "x"
    refine ⟨by rw [List.length_map]; exact plC, ?_⟩
    repeat wtm_at "w"
    refine nd_call (k := 9) G_law_is_safe_plan hr ?_
    repeat wtm_at "x"
    refine ⟨sfC, by omega, by omega, by omega, ?_⟩
    repeat wtm_at "x"
    refine nd_call (k := 9) G_is_safe_plan hr ?_
    repeat wtm_at "x"
    refine ⟨sfC, plC, by omega, by omega, by omega, ?_⟩
    repeat wtm_at "x"
    refine nd_call (k := 9) G_law_writes hr ?_
    repeat wtm_at "x"
    refine ⟨by omega, ?_⟩
    repeat wtm_at "x"
    rw [hall.2, List.length_map, decide_eq_true rfl]
    repeat wtm_at "w"
    have hpl2 : pp.length = (cutP ns o cs).length - 1 := by rw [hpp]; exact paper_len ns o cs
    have e1 : (((pp.map cpD).length : Nat) : Int) = if ((((cutP ns o cs).map stD).length : Nat) : Int) - 1 > 0 then ((((cutP ns o cs).map stD).length : Nat) : Int) - 1 else 0 := by
      rw [List.length_map, List.length_map, hpl2]
      split <;> omega
    rw [decide_eq_true e1]
    repeat wtm_at "w"
    rw [decide_eq_false (by rw [List.length_map, List.length_map]; omega)]
    first | refine iteF ?_ | refine ⟨_, rfl, iteF ?_⟩
    refine es_nil ?_
    refine es_cons ?_
    refine E1.mono (O := ⟨fun Γ3 => ∃ (s9 : Sd), Γ3 = [.fn a, .bag b c, .val d, .val (tkD ns o w'), .val (plD (madeP cs)), s5, .val (stD cs), .val (plD (cutP ns o cs)), .val (stD pp), s9, s10, s11], fun _ _ => False, fun _ => False, fun _ => False⟩) ?_ ?_ (fun _ _ h => h.elim) (fun _ h => h.elim) (fun _ h => h.elim)
    · refine e1_if (nt_cmp ?_)
      repeat wtm_at "x"
      refine cmp_ne hr.units (sh_flatT (flat_ns ns)) (by rfl) ?_
      rw [show nsD ns = .tuple (ns.map iD) from rfl, eqv_nilT]
      refine ⟨_, rfl, ifB (fun hb => ?_) (fun hb => ?_)⟩
      · have hn : 0 < ns.length := by
          cases ns with
          | nil => cases hb
          | cons _ _ => simp
        have momOk : ∀ (p : List St1), ∃ m, Least m (momL ns o p) := fun p => least_ex (by
          have hm : cnt o 0 ∈ momL ns o p := mem_momL.mpr ⟨o, 0, .inl (lts_mem.mpr ⟨0, Nat.zero_le _, by rw [List.take_zero]; rfl⟩), hn, rfl⟩
          exact List.length_pos_of_mem hm)
        have momLe : ∀ (p : List St1) (m : Nat), Least m (momL ns o p) → m ≤ 32 := fun p m hm => by
          have h0 : cnt o 0 ∈ momL ns o p := mem_momL.mpr ⟨o, 0, .inl (lts_mem.mpr ⟨0, Nat.zero_le _, by rw [List.take_zero]; rfl⟩), hn, rfl⟩
          have h1 := hm.2 _ h0
          have h2 : cnt o 0 ≤ o.length := List.countP_le_length
          omega
        refine es_cons ?_
        wtm_at "set"
        refine nd_lst ?_
        refine na_cons ?_
        refine nd_call (k := 9) G_law_losses hr ?_
        repeat wtm_at "x"
        refine ⟨hn, by omega, by omega, sfM.bd, sfM.szp, fun m1 hm1 => ?_⟩
        refine na_cons ?_
        refine nd_call (k := 9) G_law_losses hr ?_
        repeat wtm_at "x"
        refine ⟨hn, by omega, by omega, sfC.bd, sfC.szp, fun m2 hm2 => ?_⟩
        refine na_nil ?_
        refine ⟨by simp, ?_⟩
        have hle := loss_made hrow hm1 hm2
        have hle1 := momLe _ _ hm1
        have hle2 := momLe _ _ hm2
        refine es_one ?_
        refine e1_if ?_
        repeat wtm_at "x"
        refine nd_callG (k := 9) G_law_alike hgd hr ?_
        refine na_cons ?_
        refine nd_lst ?_
        refine na_cons ?_
        refine nd_call (k := 9) G_borne_losses hr ?_
        repeat wtm_at "x"
        refine ⟨hn, by omega, by omega, sfM.bd, sfM.can, by omega, fun m3 hm3 => ?_⟩
        rw [hm3.uniq hm1]
        refine na_cons ?_
        refine nd_call (k := 9) G_borne_losses hr ?_
        repeat wtm_at "x"
        refine ⟨hn, by omega, by omega, sfC.bd, sfC.can, by omega, fun m4 hm4 => ?_⟩
        rw [hm4.uniq hm2]
        refine na_nil ?_
        refine ⟨by simp, ?_⟩
        repeat wtm_at "x"
        refine ⟨⟨?_, rfl, ?_, ?_⟩, ?_⟩
        · simp [lf, lfAll]
          omega
        · simp [PyData.depth, PyData.depthAll]
        · have w1 := w_int (i := (m1 : Int) - 1) ⟨by omega, by omega⟩
          have w2 := w_int (i := (m2 : Int) - 1) ⟨by omega, by omega⟩
          show PyData.weight (.int ((m1 : Int) - 1)) + 1 + (PyData.weight (.int ((m2 : Int) - 1)) + 1 + 0) ≤ 100000
          omega
        repeat wtm_at "x"
        rw [decide_eq_false (by omega)]
        refine iteF ?_
        refine es_nil ?_
        exact ⟨_, rfl⟩
      · refine es_nil ?_
        exact ⟨_, rfl⟩
    rintro Γ3 ⟨s9', rfl⟩
    have tk : Tk ns o w' := ⟨hk.n1, hk.old, hk.wish, hk.len, by omega, by omega⟩
    refine es_cons ?_
    refine e1_obob (C := C) (by wtm_at "m2") (by decide) ?_
    refine nob_make (k := 8) G_init hr gS ?_
    repeat wtm_at "x"
    refine ⟨ns, o, w', madeP cs, rfl, rfl, tk, plM, sfM.can, sfM.want, by omega, by omega, fun pp1 => ⟨rfl, ?_⟩⟩
    refine nob_make (k := 8) G_init hr gS ?_
    repeat wtm_at "x"
    refine ⟨ns, o, w', cutP ns o cs, rfl, rfl, tk, plC, sfC.can, sfC.want, by omega, by omega, fun pp2 => ⟨rfl, fun x1 d1 x2 d2 => ?_⟩⟩
    refine es_norm (Γ' := [.fn a, .bag b c, .val d, .val (tkD ns o w'), .val (plD (madeP cs)), s5, .val (stD cs), .val (plD (cutP ns o cs)), .val (stD pp), s9', .obj x1 d1 C (Sto.mk pp1 ns o w' (madeP cs) true 0 (o.map some) [] []).fs, .obj x2 d2 C (Sto.mk pp2 ns o w' (cutP ns o cs) true 0 (o.map some) [] []).fs]) (by rfl) ?_
    have ld1 : LeadOk (Sto.mk pp1 ns o w' (madeP cs) true 0 (o.map some) [] []) := ⟨hk.n1, hk.old, sfM, plM, by show o.length ≤ 900; omega, by show (madeP cs).length ≤ 900; omega, by show ns.length ≤ 1000; omega⟩
    have ld2 : LeadOk (Sto.mk pp2 ns o w' (cutP ns o cs) true 0 (o.map some) [] []) := ⟨hk.n1, hk.old, sfC, plC, by show o.length ≤ 900; omega, by show (cutP ns o cs).length ≤ 900; omega, by show ns.length ≤ 1000; omega⟩
    have bM : (madeP cs).length * (2 * o.length + 2) ≤ 130 * 70 := Nat.mul_le_mul (by omega) (by omega)
    have bC : (cutP ns o cs).length * (2 * o.length + 2) ≤ 130 * 70 := Nat.mul_le_mul (by omega) (by omega)
    refine es_cons ?_
    refine e1_ifM (ntm_w ?_)
    refine nwm_or (ntm_not ?_)
    refine ntm_callK (k := 9) G_law_is_led_whole hr (by wtm_at "XN") (by wtm_at "idx") (by wtm_at "look") (by wtm_at "vis") (by wtm_at "idx") (by wtm_at "look") (by wtm_at "vis") ?_
    repeat wtm_at "x"
    refine ⟨by rw [List.length_map], ld1, rfl, rfl, rfl, by show 0 + (madeP cs).length * (2 * o.length + 2) ≤ 80000; omega, fun past1 hp1 => ⟨true, rfl, ?_⟩⟩
    refine iteF ?_
    refine nwm_or1 (ntm_not ?_)
    refine ntm_callK (k := 9) G_law_is_led_whole hr (by wtm_at "XN") (by wtm_at "idx") (by wtm_at "look") (by wtm_at "vis") (by wtm_at "idx") (by wtm_at "look") (by wtm_at "vis") ?_
    repeat wtm_at "x"
    refine ⟨by rw [List.length_map], ld2, rfl, rfl, rfl, by show 0 + (cutP ns o cs).length * (2 * o.length + 2) ≤ 80000; omega, fun past2 hp2 => ⟨true, rfl, ?_⟩⟩
    refine iteF ?_
    refine es_nil ?_
    have eM : bnd (Sto.mk pp1 ns o w' (madeP cs) true 0 (o.map some) [] []) (madeP cs).length = ledC o cs := by
      show ledP o ((madeP cs).take (madeP cs).length) = _
      rw [List.take_length, ledP_made]
    have eC : bnd (Sto.mk pp2 ns o w' (cutP ns o cs) true 0 (o.map some) [] []) (cutP ns o cs).length = ledC o cs := by
      show ledP o ((cutP ns o cs).take (cutP ns o cs).length) = _
      rw [List.take_length, hall.1]
    have rtL : Rt ns (ledC o cs) := by
      have := lay_rt hk.old sfM (madeP cs).length (Nat.le_refl _)
      unfold lay at this
      rwa [List.take_length, ledP_made] at this
    have hLl : (ledC o cs).length = o.length := ledC_len _ _
    refine es_norm (Γ' := [.fn a, .bag b c, .val d, .val (tkD ns o w'), .val (plD (madeP cs)), s5, .val (stD cs), .val (plD (cutP ns o cs)), .val (stD pp), s9', .obj x1 d1 C (Sto.mk pp1 ns o w' (madeP cs) true ((madeP cs).length : Nat) ((bnd (Sto.mk pp1 ns o w' (madeP cs) true 0 (o.map some) [] []) (madeP cs).length).map some) [] past1).fs, .obj x2 d2 C (Sto.mk pp2 ns o w' (cutP ns o cs) true ((cutP ns o cs).length : Nat) ((bnd (Sto.mk pp2 ns o w' (cutP ns o cs) true 0 (o.map some) [] []) (cutP ns o cs).length).map some) [] past2).fs]) (by rfl) ?_
    rw [eM, eC]
    refine es_cons ?_
    refine e1_if ?_
    repeat wtm_at "x"
    refine nd_callG (k := 9) G_law_alike hgd hr ?_
    refine na_cons ?_
    refine nd_lst ?_
    refine na_cons ?_
    refine nd_lendO (i := 10) (j := 0) (by wtm_at "look") (by exact rfl) ?_
    refine nd_rcall (k := 9) G_shown hr (by wtm_at "XN") (by wtm_at "idx") (by wtm_at "look") (by wtm_at "vis") ?_
    refine na_nil ?_
    refine shown_ok (L := ledC o cs) rfl ?_
    refine ⟨lless_ly _, ?_⟩
    refine na_cons ?_
    refine nd_lendO (i := 11) (j := 0) (by wtm_at "look") (by exact rfl) ?_
    refine nd_rcall (k := 9) G_shown hr (by wtm_at "XN") (by wtm_at "idx") (by wtm_at "look") (by wtm_at "vis") ?_
    refine na_nil ?_
    refine shown_ok (L := ledC o cs) rfl ?_
    refine ⟨lless_ly _, ?_⟩
    refine na_nil ?_
    refine ⟨by simp, ?_⟩
    refine na_cons ?_
    refine nd_bin ?_
    refine nd_lst ?_
    refine na_cons ?_
    refine nd_call (k := 9) G_law_led_by hr ?_
    repeat wtm_at "x"
    refine ⟨sfM.bd, sfM.can, ?_⟩
    rw [ledP_made]
    repeat wtm_at "x"
    refine bin_rep (by decide) (by show 1 * 2 ≤ 100000; decide) (by decide) ?_
    refine na_nil ?_
    refine ⟨.list [lyD (ledC o cs), lyD (ledC o cs)], rfl, al_ly2 rtL (by omega) (by omega), ?_⟩
    repeat wtm_at "w"
    refine e1_meth0 (k := 9) M_turn (by assumption) hr (by wtm_at "XN") (by wtm_at "idx") (by wtm_at "look") (by wtm_at "vis") ?_
    refine ⟨Sto.mk pp2 ns o w' (cutP ns o cs) true ((cutP ns o cs).length : Nat) ((ledC o cs).map some) [] past2, rfl, rfl, rfl, rfl, by show past2.length < 90000; have : past2.length ≤ 0 + (cutP ns o cs).length * (2 * o.length + 2) := hp2; omega, ?_⟩
    have hp2' : past2.length ≤ 0 + (cutP ns o cs).length * (2 * o.length + 2) := hp2
    refine es_norm (Γ' := [.fn a, .bag b c, .val d, .val (tkD ns o w'), .val (plD (madeP cs)), s5, .val (stD cs), .val (plD (cutP ns o cs)), .val (stD pp), s9', .obj x1 d1 C (Sto.mk pp1 ns o w' (madeP cs) true ((madeP cs).length : Nat) ((ledC o cs).map some) [] past1).fs, .obj x2 d2 C (Sto.mk pp2 ns o w' (cutP ns o cs) false (((cutP ns o cs).length : Int) - 1) ((ledC o cs).map some) [] (past2 ++ [stateD (Sto.mk pp2 ns o w' (cutP ns o cs) true ((cutP ns o cs).length : Nat) ((ledC o cs).map some) [] past2)])).fs]) (by rfl) ?_
    refine es_one ?_
    refine e1_ifM (ntm_w ?_)
    refine nwm_or (ntm_not ?_)
    refine ntm_callK (k := 9) G_law_is_led_whole hr (by wtm_at "XN") (by wtm_at "idx") (by wtm_at "look") (by wtm_at "vis") (by wtm_at "idx") (by wtm_at "look") (by wtm_at "vis") ?_
    repeat wtm_at "x"
    refine ⟨by rw [List.length_map], ⟨hk.n1, hk.old, sfC, plC, by show o.length ≤ 900; omega, by show (cutP ns o cs).length ≤ 900; omega, by show ns.length ≤ 1000; omega⟩, by show ((cutP ns o cs).length : Int) - 1 = ((cutP ns o cs).length : Int) - 1 - ((0 : Nat) : Int); omega, by show (ledC o cs).map some = (ledP o ((cutP ns o cs).take ((cutP ns o cs).length - 0))).map some; rw [Nat.sub_zero, List.take_length, hall.1], rfl, by show (past2 ++ [_]).length + (cutP ns o cs).length * (2 * o.length + 2) ≤ 80000; rw [List.length_append]; simp only [List.length_cons, List.length_nil]; omega, fun past3 hp3 => ⟨true, rfl, ?_⟩⟩
    refine iteF ?_
    refine nwm_or1 (ntm_nt ?_)
    refine nt_not ?_
    refine nt_val ?_
    refine nd_callG (k := 9) G_law_alike hgd hr ?_
    refine na_cons ?_
    refine nd_lendO (i := 11) (j := 0) (by wtm_at "look") (by exact rfl) ?_
    refine nd_rcall (k := 9) G_shown hr (by wtm_at "XN") (by wtm_at "idx") (by wtm_at "look") (by wtm_at "vis") ?_
    refine na_nil ?_
    refine shown_ok (L := o) (by show (ledP o ((cutP ns o cs).take ((cutP ns o cs).length - (cutP ns o cs).length))).map some = o.map some; rw [Nat.sub_self]; rfl) ?_
    refine ⟨lless_ly _, ?_⟩
    repeat wtm_at "x"
    refine ⟨al_ly hk.old (by omega) (by omega), ?_⟩
    refine ⟨_, rfl, ?_⟩
    refine iteF ?_
    refine es_nil ?_
    exact ⟨_, _, _, _, _, _, _, _, _, _, rfl⟩
  · rintro Γ2 ⟨s2, s3, s4, s5, s6, s7, s8, s9, s10, s11, rfl⟩
    refine es_one (e1_ret ?_)
    repeat wtm_at "x"
    rfl
end


end Wm
set_option Elab.async false
set_option linter.all false
set_option maxRecDepth 100000
set_option maxHeartbeats 4000000
/-! Wm.JN: the head and the law joined (printed by a program of mine). -/
namespace Wm
open PySem PySem.Spec L2
theorem fun_of {K : PySem.W.Frag} {x q : Str} {st : Stmt} {f : Addr} {fd : FuncData} (h : FunD K x q (defArgs st) (defBody st) (defScope st) [] [] f fd) : Fun K x q st f fd := by
  obtain ⟨oc, od, dV, kV, doc, pm, an, cdv, ct, osl, e, l, c, d, _⟩ := h.ex
  rcases d with ⟨_, rfl⟩ | ⟨z, _⟩
  · exact ⟨⟨oc, od, kV, doc, pm, an, cdv, ct, osl, e, l, c⟩, h.kp⟩
  · exact absurd rfl z
section
variable {K : PySem.W.Frag} {h : Heap} {mg : Str → Option Value}
theorem fd_of {x : Str} {st : Stmt} (c : He.SaysD faH fnH K) (X : K.In h) (G : h.Ns mainGlobals mg) (i j : Nat) (hi : fnH[i]? = some (dd x st)) (hj : faH[j]? = some (.glo x)) : Fd K mg x st := by
  obtain ⟨fd, F⟩ := c.def_ i hi
  exact ⟨_, fd, fun_of F, He.glo_ok X G (c.fact j hj)⟩
theorem md_of {x q : Str} {st : Stmt} (c : He.SaysD faH fnH K) (i j : Nat) (hi : fnH[i]? = some (dm x q st)) (hj : faH[j]? = some (.meth "Store" x)) : Md K (He.ga K "Store") x q st := by
  obtain ⟨fd, F⟩ := c.def_ i hi
  exact ⟨_, fd, fun_of F, He.meth_ok (c.fact j hj)⟩
theorem slot_all (f : Str) (j : Nat) (e : slIx f = some j) : (f, j) ∈ slotsH := by
  unfold slIx at e
  unfold slotsH
  split at e
  · rename_i q; cases e; rw [q]; simp
  split at e
  · rename_i q; cases e; rw [q]; simp
  split at e
  · rename_i q; cases e; rw [q]; simp
  split at e
  · rename_i q; cases e; rw [q]; simp
  split at e
  · rename_i q; cases e; rw [q]; simp
  split at e
  · rename_i q; cases e; rw [q]; simp
  split at e
  · rename_i q; cases e; rw [q]; simp
  split at e
  · rename_i q; cases e; rw [q]; simp
  split at e
  · rename_i q; cases e; rw [q]; simp
  · cases e
theorem slot_lt (f : Str) (j : Nat) (m : (f, j) ∈ slotsH) : j < 1000 := by
  have : ∀ q ∈ slotsH, q.2 < 1000 := by decide +kernel
  exact this _ m
theorem stc_of (e : exH K = true) : StC K (He.ga K "Store") := by
  unfold exH at e
  obtain ⟨e1, e⟩ := Bool.and_eq_true_iff.mp e
  obtain ⟨e2, e⟩ := Bool.and_eq_true_iff.mp e
  obtain ⟨e3, e⟩ := Bool.and_eq_true_iff.mp e
  obtain ⟨e4, e⟩ := Bool.and_eq_true_iff.mp e
  refine ⟨⟨e1, e2, e3, He.eqO_ok e4⟩, fun f j q => ?_⟩
  have m := slot_all f j q
  have b := List.all_eq_true.mp e _ m
  unfold slotB at b
  obtain ⟨b1, b⟩ := Bool.and_eq_true_iff.mp b
  obtain ⟨b2, b⟩ := Bool.and_eq_true_iff.mp b
  obtain ⟨b3, b⟩ := Bool.and_eq_true_iff.mp b
  obtain ⟨b4, b5⟩ := Bool.and_eq_true_iff.mp b
  exact ⟨_, He.eqO_ok b1, He.eqO_ok b2, of_decide_eq_true b3, of_decide_eq_true b5, of_decide_eq_true b4, slot_lt f j m⟩
end
theorem bi_of {K : PySem.W.Frag} {h : Heap} {mg : Str → Option Value} (c : He.SaysD faH fnH K) (X : K.In h) (G : h.Ns mainGlobals mg) : Bi mg :=
  ⟨He.free_ok X G (c.fact 71 rfl), He.free_ok X G (c.fact 72 rfl), He.free_ok X G (c.fact 73 rfl), He.free_ok X G (c.fact 74 rfl), He.free_ok X G (c.fact 75 rfl), He.free_ok X G (c.fact 76 rfl), He.free_ok X G (c.fact 77 rfl), He.free_ok X G (c.fact 78 rfl), He.free_ok X G (c.fact 79 rfl), He.free_ok X G (c.fact 80 rfl), He.free_ok X G (c.fact 81 rfl), He.free_ok X G (c.fact 82 rfl), He.free_ok X G (c.fact 83 rfl), He.free_ok X G (c.fact 84 rfl), He.free_ok X G (c.fact 85 rfl), He.free_ok X G (c.fact 86 rfl)⟩
theorem law_all {P : Program} {w : World} {K : PySem.W.Frag} {h : Heap} {mg : Str → Option Value} {base : Heap} (c : He.SaysD faH fnH K) (ex : exH K = true) (X : K.In h) (G : h.Ns mainGlobals mg) :
    ∃ f fd, Fun K "law" "law" s_law f fd ∧ mg "law" = some (.ref f) ∧ FnG P w K mg base 10 f fd ["_law_script"] (spLaw K) := by
  have T := bi_of c X G
  have TC := stc_of ex
  have gS : mg "Store" = some (.ref (He.ga K "Store")) := He.glo_ok X G (c.fact 87 rfl)
  have G_is_integer := k_is_integer (P := P) (w := w) (base := base) (fd_of c X G 0 0 rfl rfl) T
  have G_is_below := k_is_below (P := P) (w := w) (base := base) (fd_of c X G 1 1 rfl rfl) T G_is_integer
  have G_is_needs := k_is_needs (P := P) (w := w) (base := base) (fd_of c X G 2 2 rfl rfl) T G_is_integer
  have G_is_layout := k_is_layout (P := P) (w := w) (base := base) (fd_of c X G 3 3 rfl rfl) T G_is_below
  have G_is_right := k_is_right (P := P) (w := w) (base := base) (fd_of c X G 4 4 rfl rfl) T G_is_layout
  have G_is_task := k_is_task (P := P) (w := w) (base := base) (fd_of c X G 5 5 rfl rfl) T G_is_needs G_is_right
  have G_is_lot := k_is_lot (P := P) (w := w) (base := base) (fd_of c X G 6 6 rfl rfl) T G_is_below
  have G_is_copy := k_is_copy (P := P) (w := w) (base := base) (fd_of c X G 7 7 rfl rfl) T G_is_below
  have G_is_stretch := k_is_stretch (P := P) (w := w) (base := base) (fd_of c X G 8 8 rfl rfl) T G_is_copy G_is_lot
  have G_is_plan := k_is_plan (P := P) (w := w) (base := base) (fd_of c X G 9 9 rfl rfl) T G_is_stretch
  have G_standings := k_standings (P := P) (w := w) (base := base) (fd_of c X G 10 10 rfl rfl) T
  have G_places_of := k_places_of (P := P) (w := w) (base := base) (fd_of c X G 11 11 rfl rfl) T
  have G_can_be_done := k_can_be_done (P := P) (w := w) (base := base) (fd_of c X G 12 12 rfl rfl) T
  have G_led := k_led (P := P) (w := w) (base := base) (fd_of c X G 13 13 rfl rfl) T
  have G_outside := k_outside (P := P) (w := w) (base := base) (fd_of c X G 15 15 rfl rfl) T G_places_of
  have G_left_standings := k_left_standings (P := P) (w := w) (base := base) (fd_of c X G 16 16 rfl rfl) T G_standings G_outside
  have G_lacking := k_lacking (P := P) (w := w) (base := base) (fd_of c X G 17 17 rfl rfl) T G_left_standings
  have G_is_safe := k_is_safe (P := P) (w := w) (base := base) (fd_of c X G 18 18 rfl rfl) T G_lacking
  have G_layouts_through := k_layouts_through (P := P) (w := w) (base := base) (fd_of c X G 19 19 rfl rfl) T G_can_be_done G_led
  have G_does := k_does (P := P) (w := w) (base := base) (fd_of c X G 14 14 rfl rfl) T G_can_be_done G_led
  have G_can_go_safely := k_can_go_safely (P := P) (w := w) (base := base) (fd_of c X G 23 23 rfl rfl) T G_can_be_done G_is_safe
  have G_led_by_copies := k_led_by_copies (P := P) (w := w) (base := base) (fd_of c X G 24 24 rfl rfl) T G_led
  have G_is_row := k_is_row (P := P) (w := w) (base := base) (fd_of c X G 25 25 rfl rfl) T G_is_stretch G_can_go_safely G_led
  have G_is_whole_run := k_is_whole_run (P := P) (w := w) (base := base) (fd_of c X G 26 26 rfl rfl) T G_is_stretch G_can_go_safely G_led_by_copies
  have G_cuts_of := k_cuts_of (P := P) (w := w) (base := base) (fd_of c X G 27 27 rfl rfl) T G_is_whole_run
  have G_cut_row := k_cut_row (P := P) (w := w) (base := base) (fd_of c X G 28 28 rfl rfl) T G_cuts_of
  have G_row_paper := k_row_paper (P := P) (w := w) (base := base) (fd_of c X G 29 29 rfl rfl) T G_cuts_of
  have G_law_is_int := k_law_is_int (P := P) (w := w) (base := base) (fd_of c X G 38 38 rfl rfl) T
  have G_law_standings := k_law_standings (P := P) (w := w) (base := base) (fd_of c X G 39 39 rfl rfl) T
  have G_law_rooms := k_law_rooms (P := P) (w := w) (base := base) (fd_of c X G 40 40 rfl rfl) T G_law_standings
  have G_law_is_right := k_law_is_right (P := P) (w := w) (base := base) (fd_of c X G 41 41 rfl rfl) T G_law_rooms
  have G_law_with_room := k_law_with_room (P := P) (w := w) (base := base) (fd_of c X G 42 42 rfl rfl) T G_law_rooms
  have G_law_can_be_done := k_law_can_be_done (P := P) (w := w) (base := base) (fd_of c X G 43 43 rfl rfl) T
  have G_law_led := k_law_led (P := P) (w := w) (base := base) (fd_of c X G 44 44 rfl rfl) T
  have G_law_is_safe := k_law_is_safe (P := P) (w := w) (base := base) (fd_of c X G 45 45 rfl rfl) T G_law_rooms
  have G_law_led_by := k_law_led_by (P := P) (w := w) (base := base) (fd_of c X G 46 46 rfl rfl) T G_law_can_be_done G_law_led
  have G_law_is_wanted := k_law_is_wanted (P := P) (w := w) (base := base) (fd_of c X G 47 47 rfl rfl) T
  have G_law_is_safe_plan := k_law_is_safe_plan (P := P) (w := w) (base := base) (fd_of c X G 48 48 rfl rfl) T G_law_can_be_done G_law_is_safe G_law_led G_law_is_wanted
  have G_law_writes := k_law_writes (P := P) (w := w) (base := base) (fd_of c X G 49 49 rfl rfl) T
  have G_law_met := k_law_met (P := P) (w := w) (base := base) (fd_of c X G 59 59 rfl rfl) T
  have G_law_source_of := k_law_source_of (P := P) (w := w) (base := base) (fd_of c X G 63 63 rfl rfl) T
  have G_law_is_stretch := k_law_is_stretch (P := P) (w := w) (base := base) (fd_of c X G 66 66 rfl rfl) T G_law_is_int
  have G_law_is_plan := k_law_is_plan (P := P) (w := w) (base := base) (fd_of c X G 67 67 rfl rfl) T G_law_is_stretch
  have G_law_take := k_law_take (P := P) (w := w) (base := base) (fd_of c X G 34 34 rfl rfl) T
  have G_law_some := k_law_some (P := P) (w := w) (base := base) (fd_of c X G 35 35 rfl rfl) T G_law_take
  have G_law_mixed := k_law_mixed (P := P) (w := w) (base := base) (fd_of c X G 36 36 rfl rfl) T G_law_take
  have G_law_needs := k_law_needs (P := P) (w := w) (base := base) (fd_of c X G 50 50 rfl rfl) T G_law_take G_law_some
  have G_law_fit_needs := k_law_fit_needs (P := P) (w := w) (base := base) (fd_of c X G 52 52 rfl rfl) T G_law_take G_law_some G_law_needs
  have G_law_spread := k_law_spread (P := P) (w := w) (base := base) (fd_of c X G 51 51 rfl rfl) T G_law_some G_law_mixed
  have G_law_any_task := k_law_any_task (P := P) (w := w) (base := base) (fd_of c X G 53 53 rfl rfl) T G_law_take G_law_some G_law_fit_needs G_law_spread G_law_is_right
  have G_law_rings := k_law_rings (P := P) (w := w) (base := base) (fd_of c X G 54 54 rfl rfl) T G_law_some G_law_mixed
  have G_law_even_task := k_law_even_task (P := P) (w := w) (base := base) (fd_of c X G 55 55 rfl rfl) T G_law_take G_law_some G_law_fit_needs G_law_spread G_law_mixed G_law_rings
  have G_law_parted_task := k_law_parted_task (P := P) (w := w) (base := base) (fd_of c X G 56 56 rfl rfl) T G_law_take G_law_some G_law_mixed
  have G_law_any_stretch := k_law_any_stretch (P := P) (w := w) (base := base) (fd_of c X G 58 58 rfl rfl) T G_law_take G_law_met G_law_is_safe
  have G_law_led_task := k_law_led_task (P := P) (w := w) (base := base) (fd_of c X G 60 60 rfl rfl) T G_law_take G_law_some G_law_fit_needs G_law_spread G_law_is_right G_law_any_stretch G_law_led
  have G_law_beside := k_law_beside (P := P) (w := w) (base := base) (fd_of c X G 61 61 rfl rfl) T
  have M_state := m_state (P := P) (w := w) (base := base) (md_of c 72 89 rfl rfl) T TC
  have M_places := m_places (P := P) (w := w) (base := base) (md_of c 74 91 rfl rfl) T TC G_places_of
  have M_keep := m_keep (P := P) (w := w) (base := base) (md_of c 73 90 rfl rfl) T TC M_state
  have M_tell := m_tell (P := P) (w := w) (base := base) (md_of c 75 92 rfl rfl) T TC
  have M_drop_whole := m_drop_whole (P := P) (w := w) (base := base) (md_of c 76 93 rfl rfl) T TC
  have M_check_place := m_check_place (P := P) (w := w) (base := base) (md_of c 77 94 rfl rfl) T TC M_places G_is_integer
  have M_write := m_write (P := P) (w := w) (base := base) (md_of c 78 95 rfl rfl) T TC M_check_place M_keep M_tell M_drop_whole
  have M_cut := m_cut (P := P) (w := w) (base := base) (md_of c 79 96 rfl rfl) T TC M_places M_keep M_tell
  have M_left := m_left (P := P) (w := w) (base := base) (md_of c 80 97 rfl rfl) T TC M_places
  have M_mark := m_mark (P := P) (w := w) (base := base) (md_of c 81 98 rfl rfl) T TC M_places M_left M_keep
  have M_turn := m_turn (P := P) (w := w) (base := base) (md_of c 82 99 rfl rfl) T TC M_keep
  have G_shown := k_shown (P := P) (w := w) (base := base) (fd_of c X G 30 30 rfl rfl) T TC
  have G_readers := k_readers (P := P) (w := w) (base := base) (fd_of c X G 31 31 rfl rfl) T TC
  have G_left_to_write := k_left_to_write (P := P) (w := w) (base := base) (fd_of c X G 32 32 rfl rfl) T TC M_left
  have G_init : InitOk P w K mg base (He.ga K "Store") 6 S_init := m_init (let ⟨fd, F⟩ := c.def_ 71 (d := dm "__init__" "Store.__init__" s_Store_init) rfl; ⟨_, fd, fun_of F, He.mkr_ok (c.fact 88 rfl)⟩) T TC G_is_task G_is_plan G_does G_led
  have G_law_is_led_whole := k_law_is_led_whole (P := P) (w := w) (base := base) (fd_of c X G 68 68 rfl rfl) T TC G_law_take G_law_mixed G_left_to_write G_readers M_write M_cut M_mark
  have G_law_stayed_task := k_law_stayed_task (P := P) (w := w) (base := base) (fd_of c X G 57 57 rfl rfl) T G_law_take G_law_mixed G_law_parted_task G_law_even_task
  have G_law_task := k_law_task (P := P) (w := w) (base := base) (fd_of c X G 62 62 rfl rfl) T G_law_take G_law_some G_law_any_task G_law_parted_task G_law_even_task G_law_stayed_task G_law_beside G_law_led_task
  have G_law_next_copies := k_law_next_copies (P := P) (w := w) (base := base) (fd_of c X G 64 64 rfl rfl) T G_law_some G_law_with_room G_law_source_of G_law_led
  have G_law_made_plan := k_law_made_plan (P := P) (w := w) (base := base) (fd_of c X G 65 65 rfl rfl) T G_law_is_wanted G_law_next_copies G_law_led
  have G_law_losses := k_law_losses (P := P) (w := w) (base := base) (fd_of c X G 69 69 rfl rfl) T G_law_standings G_law_led
  have G_borne_losses := k_borne_losses (P := P) (w := w) (base := base) (fd_of c X G 22 22 rfl rfl) T G_layouts_through G_outside G_standings
  have G_first_unsafe := k_first_unsafe (P := P) (w := w) (base := base) (fd_of c X G 20 20 rfl rfl) T G_layouts_through G_lacking
  have G_is_safe_plan := k_is_safe_plan (P := P) (w := w) (base := base) (fd_of c X G 21 21 rfl rfl) T G_is_plan G_first_unsafe G_does
  have G_law_bag := k_law_bag (P := P) (w := w) (base := base) (fd_of c X G 33 33 rfl rfl) T
  have G_law_alike := k_law_alike (P := P) (w := w) (base := base) (fd_of c X G 37 37 rfl rfl) T
  obtain ⟨f, fd, F0, hm⟩ := fd_of c X G 70 70 rfl rfl (x := "law") (st := s_law)
  refine ⟨f, fd, F0, hm, ?_⟩
  refine fnG_of F0 ns_law (fun vs H Q E h => ?_) (fun cdv A outer s H vs Q E hr hgd h => ?_)
  · obtain ⟨a, ns, rfl, _⟩ := h
    rfl
  · obtain ⟨a, ns, rfl, hS, hz, fin⟩ := h
    refine ⟨wss _ (defBody s_law), pss_wss, ?_⟩
    have E0 : EnB ⟨H, H, []⟩ H H (L2.start nLaw [.ref a]) [.fn a, .no, .no, .no, .no, .no, .no, .no, .no, .no, .no, .no] := by
      have noa : ∀ s : Sd, s ∈ [Sd.fn a, .no, .no, .no, .no, .no, .no, .no, .no, .no, .no, .no] → s.addrs = [] := fun s m => by
        simp only [List.mem_cons, List.not_mem_nil, or_false] at m
        rcases m with rfl | rfl | rfl | rfl | rfl | rfl | rfl | rfl | rfl | rfl | rfl | rfl <;> rfl
      refine ⟨⟨rfl, Same.refl H, fun i s ov h1 h2 => ?_, fun i j s t x h1 h2 m1 m2 => ?_⟩, Same.refl H, fun a o e _ => e, fun a e n => absurd e n, fun s m q hq => ?_, fun a n => n⟩
      · cases i with
        | zero => cases h1; cases h2; rfl
        | succ i =>
          have : s = .no := by
            have m := List.mem_of_getElem? (show [Sd.no, .no, .no, .no, .no, .no, .no, .no, .no, .no, .no][i]? = some s from h1)
            simpa using m
          subst this
          exact trivial
      · rw [noa s (List.mem_of_getElem? h1)] at m1
        cases m1
      · rw [noa s m] at hq
        cases hq
    exact law_walk (C := He.ga K "Store") T TC gS hgd hr hS hz G_law_bag G_law_task G_law_some G_law_made_plan G_cut_row G_row_paper G_is_row G_law_is_plan G_law_is_safe_plan G_is_safe_plan G_law_writes G_law_losses G_borne_losses G_law_alike G_init G_law_is_led_whole G_shown G_law_led_by M_turn H H _ E0 _
      ⟨fun _ _ _ _ _ _ z => False.elim z, fun F' H' σ' Γ' v d _ E' r' q' => by
        have q' : d = .bool true := q'
        subst q'
        rw [rp_bl r']
        exact fin H', fun _ _ _ _ _ _ z => z.elim, fun _ _ _ _ _ _ z => z.elim⟩
end Wm

set_option Elab.async false
set_option linter.all false
set_option maxRecDepth 100000
set_option maxHeartbeats 4000000
/-! Wm.FN: the law's call, from the state behind the top. -/
namespace Wm
open PySem PySem.Spec L2
theorem law_run {P : Program} {w : World} {K : PySem.W.Frag} {mg mb : Str → Option Value} {fa a : Addr} {t : Shared} {vs : List Value} {ns : List Int} (c : He.SaysD faH fnH K) (ex : exH K = true) (KX : K.In t.heap) (hm : t.heap.Ns mainGlobals mg) (hfa : mg "law" = some (.ref fa))
    (hb : t.heap.Ns builtinsNs mb) (hbb : ∀ x : Str, x ≠ "__name__" → mb x = bootBuiltins x) (hlim : t.heap.NoLimit) (hg : t.gens = #[]) (ha : t.heap.get? a = some { cls := .type "list", data := .seq vs.toArray }) (hi : PyProof.Rows.IntsAre vs ns) (hl : ns.length ≤ 63)
    {H : Hp} (hO : Only H) (hS : SqL K H a (ns.map V.int)) (hok : HOk P w H t.heap) (one : ∀ b, H b ≠ none → b = a) (hK : H a ≠ none → K.lookup a = none) :
    codeAny (model P w) callerA (.call (.ref fa) ⟨[.ref a], []⟩) (fun r s' => r = .ok (.ret (.bool true)) ∧ OldK t.heap s'.heap ∧ s'.os = t.os ∧ PyProof.Rows.AllBare s'.gens) t := by
  -- what is not tracked stands in the base
  have low : ∀ {b : Addr} {o : Obj}, t.heap.get? b = some o → (b = a → H a = none) → (hidT t.heap H).get? b = some o := fun {b o} e n => hidT_get e (by
    cases q : H b with
    | none => rfl
    | some u =>
      have hba := one b (by rw [q]; simp)
      rw [hba, n hba] at q
      cases q)
  have names : ∀ {b : Addr} {m : Str → Option Value}, t.heap.Ns b m → (hidT t.heap H).Ns b m := fun {b m} ⟨o, es, ep, e, d, r⟩ => ⟨o, es, ep, low e (fun z => by
    subst z
    rw [ha] at e
    cases e
    exact absurd (show Data.seq vs.toArray _ = Data.dict es ep from d) (by simp)), d, r⟩
  have KB : K.In (hidT t.heap H) := fun b o e => low (KX b o e) fun z => by
    subst z
    cases q : H b with
    | none => rfl
    | some u =>
      rw [hK (by rw [q]; simp)] at e
      cases e
  obtain ⟨mc, l1, l2⟩ := hlim
  have env : Env0 P w K mg (hidT t.heap H) callerA [] t H :=
    { frames := rfl, mod := ⟨KB, names hm, ⟨mb, names hb, hbb⟩, ⟨mc, names l1, l2⟩⟩, bs := fun b o e => of_hidT e, bsz := Nat.le_of_eq (hidT_size _ _), funs := trivial, frf := fun b hb => absurd (show b ∈ ([] : List Addr) from hb) (by simp), hok := hok, bare := .of_eq hg }
  obtain ⟨f, fd, F0, hmf, FG⟩ := law_all (P := P) (w := w) (base := hidT t.heap H) c ex KX hm
  have ef : f = fa := by
    rw [hmf] at hfa
    cases hfa
    rfl
  subst ef
  have bd := F0.binds (ps := ["_law_script"]) (fun _ _ _ _ _ _ us hl => match us, hl with | [_], _ => rfl) t [.ref a] KX rfl
  have hr : Room 10 callerA := ⟨rfl, by decide, by decide⟩
  refine codeAny_mono (FG.run callerA [] t H ⟨[.ref a], []⟩ [.ref a] [.ref a] (fun v _ => v = .bl true) E0 hr rfl env bd (.cons rfl .nil) ⟨a, ns, rfl, hS, hl, fun _ => rfl⟩) fun r s' h => ?_
  cases r with
  | error e => exact False.elim h
  | ok fl =>
    cases fl with
    | next => exact False.elim h
    | brk => exact False.elim h
    | cont => exact False.elim h
    | ret u =>
      obtain ⟨v, H', os, bare, un, hok', rv, q⟩ := h
      obtain rfl : v = .bl true := q
      obtain rfl : u = Value.bool true := rv
      refine ⟨rfl, OldK.of_keep fun b o e => ?_, os, bare⟩
      rcases hO b with z | ⟨ob, xs, z⟩
      · exact un.keep b o e z (by intro y; exact absurd (show b ∈ ([] : List Addr) from y) (by simp)) (by simp)
      · have e1 := (hok b _ z).1
        have e2 := (hok' b _ (un.frzs b ob _ z)).1
        rw [e] at e1
        cases e1
        exact e2
theorem law_ends {P : Program} {w : World} {K : PySem.W.Frag} {mg mb : Str → Option Value} {fa a : Addr} {t : Shared} {vs : List Value} {ns : List Int} (c : He.SaysD faH fnH K) (ex : exH K = true) (KX : K.In t.heap) (hm : t.heap.Ns mainGlobals mg) (hfa : mg "law" = some (.ref fa))
    (hb : t.heap.Ns builtinsNs mb) (hbb : ∀ x : Str, x ≠ "__name__" → mb x = bootBuiltins x) (hlim : t.heap.NoLimit) (hg : t.gens = #[]) (ha : t.heap.get? a = some { cls := .type "list", data := .seq vs.toArray }) (hi : PyProof.Rows.IntsAre vs ns) (hl : ns.length ≤ 63) :
    codeAny (model P w) callerA (.call (.ref fa) ⟨[.ref a], []⟩) (fun r s' => r = .ok (.ret (.bool true)) ∧ OldK t.heap s'.heap ∧ s'.os = t.os ∧ PyProof.Rows.AllBare s'.gens) t := by
  have rv := vals_ints hi
  have hz : ns.length ≤ sizeLine := Nat.le_trans hl (by decide)
  cases hk : K.lookup a with
  | some o =>
    have e := KX a o hk
    rw [ha] at e
    cases e
    refine law_run (H := fun _ => none) c ex KX hm hfa hb hbb hlim hg ha hi hl (fun _ => .inl rfl) (.inr ⟨_, vs.toArray, _, hk, rfl, rfl, rfl, ?_, by simpa using rv⟩) (fun b u z => nomatch (show (none : Option HO) = some u from z)) (fun b z => absurd rfl z) (fun z => absurd rfl z)
    rw [List.size_toArray, hi.length]
    exact hz
  | none =>
    have own : ∀ {b : Addr} {u : HO}, (fun b => if b = a then some (HO.frz { cls := .type "list", data := .seq vs.toArray } (.lst (ns.map V.int))) else none) b = some u → b = a ∧ u = HO.frz { cls := .type "list", data := .seq vs.toArray } (.lst (ns.map V.int)) := fun {b u} e => by
      by_cases hba : b = a
      · simp only [hba, if_true] at e
        exact ⟨hba, (Option.some.inj e).symm⟩
      · simp only [hba, if_false] at e
        cases e
    refine law_run (H := fun b => if b = a then some (.frz { cls := .type "list", data := .seq vs.toArray } (.lst (ns.map V.int))) else none) c ex KX hm hfa hb hbb hlim hg ha hi hl (fun b => ?_) (.inl (.inr ⟨{ cls := .type "list", data := .seq vs.toArray }, if_pos rfl⟩)) (fun b u z => ?_) (fun b z => ?_) (fun _ => hk)
    · by_cases hba : b = a
      · exact .inr ⟨_, _, if_pos hba⟩
      · exact .inl (if_neg hba)
    · obtain ⟨rfl, rfl⟩ := own z
      exact ⟨ha, by rw [List.length_map]; exact hz, vs, _, rv, ha⟩
    · by_cases hba : b = a
      · exact hba
      · exact absurd (if_neg hba) z
end Wm
open PySem PySem.W PySem.Calls PyProof.Rows
theorem PySem.Challenge.cw_whilemoved_k22_whole_rows_led_by_stores_holds : PySem.Challenge.rw_whilemoved_k22_whole_rows_led_by_stores.Holds :=
  Wm.holds_of <| Att.attach_call (l := PySem.Challenge.rw_whilemoved_k22_whole_rows_led_by_stores) (n := 63) rfl (by kernel_rfl) fun w s₀ s₁ mg mb fa o pm cd doc a vs ns G Y ho hd hcd hmg hobj hints hlen hg => by
    obtain ⟨K, KX, c, ex⟩ := Y
    have hfa : mg ("law" : PySem.Str) = some (.ref fa) := by
      have e : (HandSHeadRun.topDef Wm.RH.prog Wm.viewAt).name = ("law" : PySem.Str) := by kernel_rfl
      rw [← e]
      exact hmg
    exact Wm.law_ends c ex KX G.T.g hfa G.T.b G.T.builtins G.T.nolimit hg hobj hints hlen

