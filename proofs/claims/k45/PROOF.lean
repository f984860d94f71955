import PyProof.Rows.All
import Wide.All
import OpenK.AllK
import Wide.FinOn
import HandS.ForMost
import HandS.Exc
import HandS.ExcOwn
import HandS.Style
import HandS.Flow
import HandS.Evl
import HandS.HeadHook2
import HandS.TupAny
import HandS.TupMul
import KE.KDictKeyed
import KE.KeyNested
import HandS.Wide
import HandS.IsInst
import HandS.SortInts
import HandS.Conv
import HandS.Deep
import KE.GoesMore
import KE.GoesEnum
import HandS.Iter
import HandS.Words
import HandS.WordsExc
import HandS.Defaults
import HandS.More
import KE.SortData
import KE.DataFind
import KE.KIndexOf
import HandS.SetFor
import HandS.Strs
import KE.GoesZip
import HandS.TryOnly
import HandS.SetBool
import HandS.TupSets
import HandS.Keys
import HandS.TupLe
import HandS.DictComp
import HandS.WordsDict
import HandS.TupLen
import HandS.HeadHook3
import HandS.MapObj
import HandS.ExcValue
import HandS.Head4
import HandS.HeadEnd
import KE.KDictList
import KE.KDictDisplayH
import HandS.ExcInit
import HandS.ExcField
import HandS.StrMore
import HandS.Head0
import HandS.Head1
import HandS.Head2
import HandS.HeadHook1
import KE.KStateDown
import PySem.Challenge.RW_bannedorders_k45_whole_texts_shown
set_option Elab.async false
set_option linter.all false
set_option maxRecDepth 100000
set_option maxHeartbeats 4000000
/-! tuples that have no attributes of their own -/
namespace DL
open Evl (Ex)
open PySem PySem.Spec PyProof.Rows L2
def TpD (K : PySem.W.Frag) (H : Hp) (a : Addr) (xs : List V) : Prop := (∃ o : Obj, o.dict = none ∧ H a = some (.frz o (.tup xs))) ∨
  ∃ (o : Obj) (its : Array Value) (n : Nat), K.lookup a = some o ∧ o.cls = .type "tuple" ∧ o.dict = none ∧ o.data = .seq its n ∧ its.size ≤ sizeLine ∧ Vals xs its.toList
section
variable {K : PySem.W.Frag} {H H' : Hp} {a : Addr} {xs : List V}
theorem TpD.sq (h : TpD K H a xs) : SqT K H a xs := by
  rcases h with ⟨o, _, h⟩ | ⟨o, its, n, h1, h2, h3, h4, h5, h6⟩
  · exact .inl (.inr ⟨o, h⟩)
  · exact .inr ⟨o, its, n, h1, h2, h4, h5, h6⟩
theorem TpD.ex (e : Ex H H') (h : TpD K H a xs) : TpD K H' a xs := by
  rcases h with ⟨o, h1, h⟩ | h
  · exact .inl ⟨o, h1, e _ _ h⟩
  · exact .inr h
theorem TpD.of {o : Obj} (d : o.dict = none) (h : H a = some (.frz o (.tup xs))) : TpD K H a xs := .inl ⟨o, d, h⟩
/-- the object behind it -/
theorem TpD.obj {X : Cx} {pins : List (Addr × Obj)} {σ : L2.St} {s : Shared} (I : Inv X pins σ H s) (h : TpD X.K H a xs) : ∃ (its : List Value) (n : Nat) (sl : Array (Option Value)), Vals xs its ∧ s.heap.get? a = some { cls := .type "tuple", dict := none, data := .seq its.toArray n, slots := sl } ∧ xs.length ≤ sizeLine := by
  rcases h with ⟨o, d, h⟩ | ⟨o, its, n, h1, h2, h3, h4, h5, h6⟩
  · obtain ⟨g, z, its, r, o', g', c, n, dt⟩ := I.hok a _ h
    rw [g] at g'; cases g'
    obtain ⟨oc, od, odt, osl⟩ := o
    simp only at d c dt
    subst d c dt
    exact ⟨its, n, osl, r, g, z⟩
  · obtain ⟨oc, od, odt, osl⟩ := o
    simp only at h2 h3 h4
    subst h2 h3 h4
    refine ⟨its.toList, n, osl, h6, by simpa using I.kIn a _ h1, by rw [h6.length]; simpa using h5⟩
theorem frz_ok {P : Program} {w : World} {h : Heap} {its : List Value} {c : Nat} (hz : xs.length ≤ sizeLine) (r : Vals xs its) (g : h.get? a = some { cls := .type "tuple", data := .seq its.toArray c }) : ObjOk P w H h a (.frz { cls := .type "tuple", data := .seq its.toArray c } (.tup xs)) :=
  ⟨g, hz, its, r, ⟨_, g, rfl, c, rfl⟩⟩
end
/-- a new tuple -/
def NewT (xs : List V) (H : Hp) (Q : VK) : Prop := ∀ p (o : Obj), o.dict = none → H p = none → Q (.ref p) (upd H p (.frz o (.tup xs)))
section
variable {X : Cx} {es : List Expr} {t : TA} {pos : Pos}
theorem newT_push {pins : List (Addr × Obj)} {σ : L2.St} {H : Hp} {s : Shared} {xs : List V} {its : List Value} {tk : Nat} {Q : VK} (I : Inv X pins σ H s) (hz : xs.length ≤ sizeLine) (r : Vals xs its) (q : NewT xs H Q) :
    L2.EP X pins σ Q (.ref s.heap.objs.size) { s with heap := s.heap.push { cls := .type "tuple", data := .seq its.toArray }, toks := tk } :=
  ⟨.ref s.heap.objs.size, upd H s.heap.objs.size (.frz { cls := .type "tuple", data := .seq its.toArray } (.tup xs)), I.laid (t' := tk) (fun b u e => Heap.get?_push_of_some _ e) (Nat.le_refl _) (frz_ok hz r (Heap.get?_push_size _ rfl)), rfl, q _ _ rfl (I.hok.fresh (Nat.le_refl _))⟩
def tTupF (t : TA) : TE := fun σ H Q => t σ H fun xs H1 => xs.length ≤ sizeLine ∧ NewT xs H1 Q
theorem pe_tupF {x1} (h : PA X es t) : PE X (.Tuple es x1 pos) (tTupF t) := by
  refine ⟨fun pins s σ H Q I hq => ?_⟩
  refine wpAny_Tuple_spliced (thn (h.run pos pins s σ H _ I hq) fun us s1 ⟨xs, H1, I1, r, z, q⟩ => ⟨by rw [← r.length]; exact z, ?_⟩)
  exact newT_push (tk := s1.toks) I1 z r q
/-- t + u -/
def rCatF (K : PySem.W.Frag) : R2 := fun x y H Q => ∃ a b xs ys, x = .ref a ∧ y = .ref b ∧ SqT K H a xs ∧ SqT K H b ys ∧ xs.length + ys.length ≤ sizeLine ∧
  (xs = [] → Q (.ref b) H) ∧ (xs ≠ [] → ys = [] → Q (.ref a) H) ∧ (xs ≠ [] → ys ≠ [] → NewT (xs ++ ys) H Q)
theorem op_catF : OpR X (binaryOp .Add) (rCatF X.K) := by
  intro pins s σ H x y v u Q I rx ry h
  obtain ⟨a, b, xs, ys, rfl, rfl, ha, hb, hz, q0, q1, q2⟩ := h
  cases rx
  cases ry
  obtain ⟨its, r1, p1, _⟩ := I.tuple ha
  obtain ⟨its2, r2, p2, _⟩ := I.tuple hb
  by_cases hx : xs = []
  · subst hx
    cases r1
    exact cat_tup0 p1 p2 ⟨.ref b, H, I, rfl, q0 rfl⟩
  · refine HT.cat_tup p1 p2 (fun z => hx (r1.nil_iff.mp z)) (fun z => ⟨.ref a, H, I, rfl, q1 hx (r2.nil_iff.mp z)⟩) (fun z => ?_) (by rw [← r1.length, ← r2.length]; exact hz)
    exact newT_push (tk := s.toks) I (by rw [List.length_append]; exact hz) (r1.append r2) (q2 hx fun w => z (r2.nil_iff.mpr w))
/-- t[lo:hi]: the whole of it is t itself -/
def rSlF (K : PySem.W.Frag) : V → Option Int → Option Int → Hp → VK → Prop := fun x lo hi H Q => ∃ a xs, x = .ref a ∧ SqT K H a xs ∧
  (HT.sIx xs.length 0 lo = 0 ∧ HT.sIx xs.length xs.length hi = xs.length → Q (.ref a) H) ∧ (¬ (HT.sIx xs.length 0 lo = 0 ∧ HT.sIx xs.length xs.length hi = xs.length) → NewT (cutV xs lo hi) H Q)
theorem sl_tupF : SlR X (rSlF X.K) := by
  intro pins s σ H x v vl vu lo hi sl Q I rx hs pl pu h
  obtain ⟨a, xs, rfl, hx, q1, q2⟩ := h
  cases rx
  obtain ⟨its, r, ht, hz⟩ := I.tuple hx
  have hlen : its.toArray.size = xs.length := by rw [List.size_toArray]; exact r.length.symm
  refine ⟨"tuple", _, PyProof.Rows.slot_tuple_getitem.lookup, ht.typeIs, ?_⟩
  by_cases hw : HT.sIx xs.length 0 lo = 0 ∧ HT.sIx xs.length xs.length hi = xs.length
  · exact getItem_tuple_whole ht hs pl pu (by rw [hlen]; exact hw) ⟨.ref a, H, I, rfl, q1 hw⟩
  · refine HT.getItem_tuple_cut ht hs pl pu (by rw [hlen]; exact hw) ?_ (by rw [hlen]; exact hz)
    rw [hlen]
    exact newT_push (tk := s.toks) I (Nat.le_trans (cutV_length xs lo hi) hz) ((r.drop (HT.sIx xs.length 0 lo)).take (HT.sIx xs.length xs.length hi - HT.sIx xs.length 0 lo)) (q2 hw)
/-- tuple(x) -/
theorem call_tuple_F : CallR X (.type "tuple") (fun xs H Q => ∃ p ys, xs = [.ref p] ∧ ((SqL X.K H p ys ∧ NewT ys H Q) ∨ (SqT X.K H p ys ∧ Q (.ref p) H))) := by
  intro pins s σ H xs us Q I r h
  obtain ⟨p, ys, rfl, h⟩ := h
  obtain ⟨u, rfl, rx⟩ := vals1 r
  cases rx
  rcases h with ⟨hq, q⟩ | ⟨hq, q⟩
  · obtain ⟨its, r', pl, hz⟩ := I.list hq
    have hlen := r'.length
    refine call_tuple_list pl.isList (fun h' kp => ?_) (by simp only [List.size_toArray] <;> omega)
    have I1 : Inv X pins σ H { s with heap := h' } := I.kept (t' := s.toks) kp
    exact newT_push (tk := s.toks) I1 hz r' q
  · obtain ⟨its, r', pl, hz⟩ := I.tuple hq
    exact call_tuple_same pl ⟨.ref p, H, I, rfl, q⟩
/-- t * k -/
def rRepF (K : PySem.W.Frag) : R2 := fun x y H Q => ∃ l k xs, x = .ref l ∧ y = .int k ∧ SqT K H l xs ∧ xs ≠ [] ∧ 2 ≤ k ∧ k ≤ 1000 ∧ xs.length ≤ 1000 ∧ NewT (List.replicate k.toNat xs).flatten H Q
theorem op_repF : OpR X (binaryOp .Mult) (rRepF X.K) := by
  intro pins s σ H x y v u Q I rx ry h
  obtain ⟨l, k, xs, rfl, rfl, hT, hne, h1, h2, hz, q⟩ := h
  cases rx
  obtain ⟨t, rfl⟩ := ry
  obtain ⟨its, r, ⟨⟨cls, dd, data, sl⟩, ho, hc, n, hd⟩, hs⟩ := I.tuple hT
  simp only at hc hd
  subst hc hd
  have hle : its.length = xs.length := r.length.symm
  have hn : its ≠ [] := fun e => hne (by
    rw [e] at hle
    exact List.eq_nil_of_length_eq_zero hle.symm)
  have hi : its.toArray.isEmpty = false := by
    cases its with
    | nil => exact absurd rfl hn
    | cons a b => rfl
  have hsz0 : its.toArray.size = xs.length := by rw [List.size_toArray, hle]
  have hm : ((its.toArray.size : Nat) : Int) * k ≤ 1000000 := by
    rw [hsz0]
    have a1 : ((xs.length : Nat) : Int) * k ≤ 1000 * k := Int.mul_le_mul_of_nonneg_right (by omega) (by omega)
    omega
  have flen : (List.replicate k.toNat its).flatten.length ≤ sizeLine := by
    rw [PyProof.Rows.lm_len_rep_flat, hle, sizeLine_eq]
    have a1 : k.toNat * xs.length ≤ 1000 * 1000 := Nat.mul_le_mul (by omega) hz
    omega
  have c0 : (decide (k < -(2 ^ 63)) || decide (k ≥ 2 ^ 63)) = false := by
    rw [decide_eq_false (by omega), decide_eq_false (by omega)] <;> rfl
  have c1 : (its.toArray.isEmpty || k == 1) = false := by
    rw [hi, Bool.false_or]
    exact beq_eq_false_iff_ne.mpr (by omega)
  have c2 : (decide (k ≤ 0) || its.toArray.isEmpty) = false := by
    rw [hi, Bool.or_false]
    exact decide_eq_false (by omega)
  have c4 : Builtin.Tuple.tupleTooMany (((its.toArray.size : Nat) : Int) * k) = false := by
    unfold Builtin.Tuple.tupleTooMany
    rw [sizeLine_eq]
    exact decide_eq_false (by omega)
  refine wpAny_binaryOp_repeat_ref (T := "tuple") (U := "int") (by decide) ⟨_, ho, rfl⟩ (fun s' => typeIs_int s' k t) noFill_tuple_mul F.fills_int_mul F.slot_int_rmul repeat_tuple F.slot_int_index.lookup
    (call_meets F.slot_int_rmul (typeIs_int s k t) F.entry_int_rmul (F.args_int_rmul_2 _ _) (int_rmul_tuple k t l its.toArray n dd sl)
      ⟨ho, rfl, ⟨_, ho, rfl⟩, call_meets F.slot_tuple_mul ⟨_, ho, rfl⟩ F.entry_tuple_mul (F.args_tuple_mul_2 _ _) (tuple_mulW l its.toArray n dd sl k t c0 c1 c2 (by omega) c4 (by rw [size_rep, List.size_toArray]; exact flen)) ⟨ho, ?_⟩⟩)
  rw [size_rep]
  exact newT_push (tk := s.toks) I (by rw [PyProof.Rows.lm_len_rep_flat, sizeLine_eq]; have a1 : k.toNat * xs.length ≤ 1000 * 1000 := Nat.mul_le_mul (by omega) hz; omega) (r.rep k.toNat) q
end
/-! ### dicts whose keys are tuples, nested, and whose values are all True -/
abbrev NK := NestedKey
mutual
def noTx : NK → Bool
  | .none => true
  | .num _ => true
  | .text _ => false
  | .tup ks => noTxs ks
def noTxs : List NK → Bool
  | [] => true
  | k :: ks => noTx k && noTxs ks
end
def goodK (k : NK) : Prop := (∃ l, k = .tup l) ∧ k.depth ≤ 8 ∧ noTx k = true
def trN (p : NK × Addr) : NK × Addr × Value := (p.1, p.2, .bool true)
def RawN (P : Program) (w : World) (h : Heap) (a : Addr) (L : List (NK × Addr)) : Prop :=
  (a == sysModules) = false ∧ L.length ≤ 1000 ∧ ∃ o es ep, h.get? a = some o ∧ o.ExactDict ∧ o.data = .dict es ep ∧ es.toList = (L.map trN).map (entryOfKey (nestedKind P w)) ∧ ((L.map trN).map (·.1)).Nodup
mutual
theorem hash_any (w w' : World) : ∀ k : NK, noTx k = true → k.hash w = k.hash w'
  | .none, _ => rfl
  | .num _, _ => rfl
  | .text _, h => by simp [noTx] at h
  | .tup ks, h => by
    simp only [NestedKey.hash]
    rw [hashes_any w w' ks (by simpa [noTx] using h)]
theorem hashes_any (w w' : World) : ∀ ks : List NK, noTxs ks = true → NestedKey.hashes w ks = NestedKey.hashes w' ks
  | [], _ => rfl
  | k :: ks, h => by
    simp only [noTxs, Bool.and_eq_true] at h
    simp only [NestedKey.hashes]
    rw [hash_any w w' k h.1, hashes_any w w' ks h.2]
end
theorem RawN.any {P : Program} {w : World} {h : Heap} {a : Addr} {L : List (NK × Addr)} (g : ∀ p ∈ L, goodK p.1) (R : RawN P w h a L) (P' : Program) (w' : World) : RawN P' w' h a L := by
  obtain ⟨z, n, o, es, ep, ho, r1, r2, r3, r4⟩ := R
  refine ⟨z, n, o, es, ep, ho, r1, r2, ?_, r4⟩
  rw [r3, List.map_map, List.map_map]
  refine List.map_congr_left fun p hp => ?_
  have e : NestedKey.hash w p.1 = NestedKey.hash w' p.1 := hash_any w w' p.1 (g p hp).2.2
  show (⟨NestedKey.hash w p.1, _, _⟩ : DictEntry) = ⟨NestedKey.hash w' p.1, _, _⟩
  rw [e]
/-- such a dict as a list of one's own is -/
def DicG (a : Addr) (L : List (NK × Addr)) : HO := .ext fun h => ∀ P w, RawN P w h a L
end DL

namespace DL
open Evl (Ex)
open PySem PySem.Spec PyProof.Rows L2

abbrev D := PyData
def line : Nat := 16777216
theorem line_eq : line = sizeLine := by rw [sizeLine_eq]; rfl
inductive Sl where
  | val (d : D)
  | own (k : Option Nat) (d : D)
abbrev S := List (Option Sl)
inductive R where
  | val (d : D)
  | new (d : D)
  | slot (i : Nat)
inductive Out (α : Type) where
  | ok (a : α)
  | err (c : Str) (d : D) (s : S)
  | bad
/-- ties a part of a term, so that simp leaves it alone -/
class Dum {α : Type} (a : α) : Type where
instance {α : Type} (a : α) : Dum a := {}
def Out.bind {α β : Type} (o : Out α) (f : α → Out β) [Dum f] : Out β :=
  match o with
  | .ok a => f a
  | .err c d s => .err c d s
  | .bad => .bad
theorem bind_ok {α β : Type} (a : α) (f : α → Out β) : (Out.ok a).bind f = f a := rfl
theorem bind_err {α β : Type} (c : Str) (d : D) (s : S) (f : α → Out β) : (Out.err c d s : Out α).bind f = .err c d s := rfl
theorem bind_bad {α β : Type} (f : α → Out β) : (Out.bad : Out α).bind f = .bad := rfl
/-- what a function of the language gives back: a value, a new list, a new tuple -/
inductive RD where
  | val (d : D)
  | lst (ds : List D)
  | tup (ds : List D)
def RD.r : RD → R
  | .val d => .val d
  | .lst ds => .new (.list ds)
  | .tup ds => .val (.tuple ds)
def getS (s : S) (i : Nat) : Option Sl := match s[i]? with
  | some o => o
  | none => none
/-- a dict of one's own is read by rules of its own -/
def ownD : D → Option D
  | .dict _ => none
  | .tuple _ => none
  | d => some d
def getR (s : S) : R → Option D
  | .val d => some d
  | .new d => ownD d
  | .slot i => match getS s i with
    | some (.own _ d) => ownD d
    | some (.val d) => some d
    | _ => none
def frz (s : S) : R → Option (D × S)
  | .val d => some (d, s)
  | .new (.list ds) => some (.list ds, s)
  | .new _ => none
  | .slot i => match getS s i with
    | some (.own none (.list ds)) => some (.list ds, s.set i (some (.val (.list ds))))
    | some (.val d) => some (d, s)
    | _ => none
abbrev XE := S → Out (R × S)
abbrev XT := S → Out (Bool × S)
abbrev XA := S → Out (List R × S)
inductive Fl where
  | nx (s : S)
  | rt (r : R) (s : S)
  | bk (s : S)
  | ct (s : S)
abbrev XS := S → Out Fl

/-! ### relations -/
structure En where
  He : Hp
  Fe : Hp
  io : List Addr
/-- the script: no list of ours (it is never changed, compared, handed back) -/
def scrD (ns : List Int) : D := .dict [(.list [], .list (ns.map .int))]
def keyD : Key → D
  | .inl i => .int i
  | .inr x => .str x
mutual
inductive Rp (K : PySem.W.Frag) (H : Hp) : V → D → Prop
  | non : Rp K H .non .none
  | bl (b : Bool) : Rp K H (.bl b) (.bool b)
  | int (i : Int) : Rp K H (.int i) (.int i)
  | str (x : Str) : Rp K H (.str x) (.str x)
  | lst {a : Addr} {xs : List V} {ds : List PyData} : H a = some (.lst xs) → RpAll K H xs ds → ds.length ≤ line → Rp K H (.ref a) (.list ds)
  | tup {a : Addr} {xs : List V} {ds : List PyData} : TpD K H a xs → RpAll K H xs ds → ds.length ≤ line → Rp K H (.ref a) (.tuple ds)
  | scr {a : Addr} {ns : List Int} : SqL K H a (ns.map V.int) → Rp K H (.ref a) (scrD ns)
  | dic {a : Addr} {kvs : List (Key × V)} {ds : List (PyData × PyData)} : H a = some (.dK kvs) → RpKv K H kvs ds → ds.length ≤ line → Rp K H (.ref a) (.dict ds)
inductive RpAll (K : PySem.W.Frag) (H : Hp) : List V → List PyData → Prop
  | nil : RpAll K H [] []
  | cons {v : V} {vs : List V} {d : PyData} {ds : List PyData} : Rp K H v d → RpAll K H vs ds → RpAll K H (v :: vs) (d :: ds)
inductive RpKv (K : PySem.W.Frag) (H : Hp) : List (Key × V) → List (PyData × PyData) → Prop
  | nil : RpKv K H [] []
  | cons {k : Key} {v : V} {d : PyData} {kvs : List (Key × V)} {ds : List (PyData × PyData)} : Rp K H v d → RpKv K H kvs ds → RpKv K H ((k, v) :: kvs) ((keyD k, d) :: ds)
end
mutual
theorem Rp.mono {K : PySem.W.Frag} {H H' : Hp} (e : Ex H H') : ∀ {v : V} {d : D}, Rp K H v d → Rp K H' v d
  | _, _, .non => .non
  | _, _, .bl b => .bl b
  | _, _, .int i => .int i
  | _, _, .str x => .str x
  | _, _, .lst h a z => .lst (e _ _ h) (RpAll.mono e a) z
  | _, _, .tup h a z => .tup (h.ex e) (RpAll.mono e a) z
  | _, _, .scr h => .scr (Evl.ex_l e h)
  | _, _, .dic h a z => .dic (e _ _ h) (RpKv.mono e a) z
theorem RpAll.mono {K : PySem.W.Frag} {H H' : Hp} (e : Ex H H') : ∀ {v : List V} {d : List D}, RpAll K H v d → RpAll K H' v d
  | _, _, .nil => .nil
  | _, _, .cons h t => .cons (Rp.mono e h) (RpAll.mono e t)
theorem RpKv.mono {K : PySem.W.Frag} {H H' : Hp} (e : Ex H H') : ∀ {v : List (Key × V)} {d : List (D × D)}, RpKv K H v d → RpKv K H' v d
  | _, _, .nil => .nil
  | _, _, .cons h t => .cons (Rp.mono e h) (RpKv.mono e t)
end
/-- an error that is kept: its class, its own dict -/
def erH (p C x : Addr) : HO := .ext fun h => ∃ (o : Obj) (vs : Array Value), h.get? p = some o ∧ o.cls = .ref C ∧ o.dict = some x ∧ o.data = .fields vs
def OwnAt (K : PySem.W.Frag) (F H : Hp) (p : Addr) : D → Prop
  | .tuple ds => ∃ (c : Str) (d : D) (x : Addr) (v : V), ds = [.str c, d] ∧ H p = some (erH p (He.ga K c) x) ∧ F x = some (.xd [("value", v)]) ∧ Rp K F v d
  | .list ds => ∃ vs, H p = some (.lst vs) ∧ RpAll K F vs ds ∧ ds.length ≤ line
  | .dict ds => ∃ L : List (NK × Addr), H p = some (DicG p L) ∧ (∀ q ∈ L, goodK q.1 ∧ Rp K F (.ref q.2) q.1.data) ∧ L.length ≤ 900 ∧ ds = L.map fun q => (q.1.data, .bool true)
  | _ => False
structure Ow (K : PySem.W.Frag) (G : En) (k : Option Nat) (F H : Hp) (p : Addr) (d : D) : Prop where
  at_ : OwnAt K F H p d
  nf : F p = none
  ne : match k with
    | none => G.He p = none
    | some j => G.io[j]? = some p
structure SR (K : PySem.W.Frag) (G : En) (F : Hp) (T : List (Addr × D)) (s : S) (σ : L2.St) (H : Hp) : Prop where
  fh : Ex F H
  fe : Ex G.Fe F
  gr : ∀ a o, F a = some o → G.Fe a = some o ∨ G.He a = none
  kp : ∀ a o, G.He a = some o → a ∉ G.io → H a = some o
  ioh : ∀ a ∈ G.io, H a ≠ none
  sl : ∀ i d, getS s i = some (.val d) → ∃ v, σ[i]? = some (some v) ∧ Rp K F v d
  ow : ∀ i k d, getS s i = some (.own k d) → ∃ p, σ[i]? = some (some (.ref p)) ∧ Ow K G k F H p d ∧ ∀ q ∈ T, q.1 ≠ p
  di : ∀ i j k l d e p, getS s i = some (.own k d) → getS s j = some (.own l e) → σ[i]? = some (some (.ref p)) → σ[j]? = some (some (.ref p)) → i = j
  tn : T.Pairwise (fun a b => a.1 ≠ b.1)
  tt : ∀ p ∈ T, Ow K G none F H p.1 p.2
  len : s.length = σ.length

theorem RpAll.length {K : PySem.W.Frag} {H : Hp} : ∀ {v : List V} {d : List D}, RpAll K H v d → v.length = d.length
  | _, _, .nil => rfl
  | _, _, .cons _ t => by rw [List.length_cons, List.length_cons, RpAll.length t]
theorem RpAll.get {K : PySem.W.Frag} {H : Hp} : ∀ {vs : List V} {ds : List D} {i : Nat} {d : D}, RpAll K H vs ds → ds[i]? = some d → ∃ v, vs[i]? = some v ∧ Rp K H v d
  | _, _, _, _, .nil, e => by simp at e
  | _, _, 0, _, .cons r _, e => by simp at e; subst e; exact ⟨_, rfl, r⟩
  | _, _, i + 1, d, .cons _ t, e => by
    obtain ⟨u, h1, h2⟩ := RpAll.get (i := i) (d := d) t (by simpa using e)
    exact ⟨u, by simpa using h1, h2⟩
theorem RpAll.append {K : PySem.W.Frag} {H : Hp} : ∀ {vs ws : List V} {ds es : List D}, RpAll K H vs ds → RpAll K H ws es → RpAll K H (vs ++ ws) (ds ++ es)
  | _, _, _, _, .nil, s => s
  | _, _, _, _, .cons r t, s => .cons r (RpAll.append t s)
theorem RpAll.set {K : PySem.W.Frag} {H : Hp} {v : V} {d : D} (r : Rp K H v d) : ∀ {vs : List V} {ds : List D} (i : Nat), RpAll K H vs ds → RpAll K H (vs.set i v) (ds.set i d)
  | _, _, _, .nil => .nil
  | _, _, 0, .cons _ t => .cons r t
  | _, _, i + 1, .cons q t => .cons q (RpAll.set r i t)
theorem RpAll.take {K : PySem.W.Frag} {H : Hp} : ∀ {vs : List V} {ds : List D} (n : Nat), RpAll K H vs ds → RpAll K H (vs.take n) (ds.take n)
  | _, _, 0, _ => .nil
  | _, _, _ + 1, .nil => .nil
  | _, _, n + 1, .cons r t => .cons r (RpAll.take n t)
theorem RpAll.drop {K : PySem.W.Frag} {H : Hp} : ∀ {vs : List V} {ds : List D} (n : Nat), RpAll K H vs ds → RpAll K H (vs.drop n) (ds.drop n)
  | _, _, 0, r => r
  | _, _, _ + 1, .nil => .nil
  | _, _, n + 1, .cons _ t => RpAll.drop n t
theorem RpAll.reverse {K : PySem.W.Frag} {H : Hp} : ∀ {vs : List V} {ds : List D}, RpAll K H vs ds → RpAll K H vs.reverse ds.reverse
  | _, _, .nil => .nil
  | _, _, .cons r t => by
    rw [List.reverse_cons, List.reverse_cons]
    exact RpAll.append (RpAll.reverse t) (.cons r .nil)

theorem getS_set {s : S} {i j : Nat} {x : Option Sl} {y : Sl} (h : getS (s.set i x) j = some y) : (j = i ∧ x = some y) ∨ (j ≠ i ∧ getS s j = some y) := by
  unfold getS at h ⊢
  by_cases e : j = i
  · subst e
    by_cases hl : j < s.length
    · rw [List.getElem?_set_self hl] at h
      exact .inl ⟨rfl, h⟩
    · rw [List.getElem?_eq_none (by rw [List.length_set]; omega)] at h
      cases h
  · rw [List.getElem?_set_ne (fun q => e q.symm)] at h
    exact .inr ⟨e, h⟩
theorem getS_lt {s : S} {i : Nat} {y : Sl} (h : getS s i = some y) : i < s.length := by
  unfold getS at h
  cases e : s[i]? with
  | none => rw [e] at h; cases h
  | some o => exact (List.getElem?_eq_some_iff.mp e).1

section
variable {K : PySem.W.Frag} {G : En} {F F' : Hp} {T : List (Addr × D)} {s : S} {σ : L2.St} {H H' : Hp} {p : Addr} {v : V} {d : D} {ds : List D} {i : Nat}
theorem OwnAt.mono {p : Addr} {d : D} (e : Ex F F') (h : OwnAt K F H p d) : OwnAt K F' H p d := by
  cases d <;> first | exact h.elim | skip
  · obtain ⟨vs, h1, h2, h3⟩ := h
    exact ⟨vs, h1, RpAll.mono e h2, h3⟩
  · obtain ⟨c, d, x, v, h1, h2, h3, h4⟩ := h
    exact ⟨c, d, x, v, h1, h2, e _ _ h3, Rp.mono e h4⟩
  · obtain ⟨L, h1, h2, h3⟩ := h
    exact ⟨L, h1, fun q hq => ⟨(h2 q hq).1, Rp.mono e (h2 q hq).2⟩, h3⟩
theorem OwnAt.there {p : Addr} {d : D} (h : OwnAt K F H p d) : ∃ o, H p = some o := by
  cases d <;> first | exact h.elim | skip
  · obtain ⟨vs, h1, h2, h3⟩ := h
    exact ⟨_, h1⟩
  · obtain ⟨c, d, x, v, h1, h2, _⟩ := h
    exact ⟨_, h2⟩
  · obtain ⟨L, h1, _⟩ := h
    exact ⟨_, h1⟩
theorem OwnAt.heap {p : Addr} {d : D} (e : H' p = H p) (h : OwnAt K F H p d) : OwnAt K F H' p d := by
  cases d <;> first | exact h.elim | skip
  · obtain ⟨vs, h1, h2⟩ := h
    exact ⟨vs, e.trans h1, h2⟩
  · obtain ⟨c, d, x, v, h1, h2, h3⟩ := h
    exact ⟨c, d, x, v, h1, e.trans h2, h3⟩
  · obtain ⟨vs, h1, h2⟩ := h
    exact ⟨vs, e.trans h1, h2⟩
theorem SR.he (h : SR K G F T s σ H) (n : H p = none) : G.He p = none := by
  cases e : G.He p with
  | none => rfl
  | some o =>
    by_cases hm : p ∈ G.io
    · exact absurd n (h.ioh p hm)
    · rw [h.kp p o e hm] at n
      cases n
theorem SR.nofz (h : SR K G F T s σ H) (n : H p = none) : F p = none := by
  cases e : F p with
  | none => rfl
  | some o =>
    rw [h.fh p o e] at n
    cases n

theorem SR.setVal (h : SR K G F T s σ H) (hd : Rp K F v d) : SR K G F T (s.set i (some (.val d))) (σ.set i (some v)) H := by
  refine ⟨h.fh, h.fe, h.gr, h.kp, h.ioh, fun j e q => ?_, fun j k e q => ?_, fun j l k m e e' p q1 q2 r1 r2 => ?_, h.tn, h.tt, by rw [List.length_set, List.length_set]; exact h.len⟩
  · have hj : j < (s.set i (some (.val d))).length := getS_lt q
    rw [List.length_set] at hj
    rcases getS_set q with ⟨rfl, e1⟩ | ⟨n, e1⟩
    · cases e1
      exact ⟨v, List.getElem?_set_self (by rw [← h.len]; exact hj), hd⟩
    · obtain ⟨w, hw, hq⟩ := h.sl j e e1
      exact ⟨w, by rw [List.getElem?_set_ne (fun z => n z.symm)]; exact hw, hq⟩
  · rcases getS_set q with ⟨_, e1⟩ | ⟨n, e1⟩
    · cases e1
    · obtain ⟨p, hp, r⟩ := h.ow j k e e1
      exact ⟨p, by rw [List.getElem?_set_ne (fun z => n z.symm)]; exact hp, r⟩
  · rcases getS_set q1 with ⟨_, e1⟩ | ⟨n1, e1⟩
    · cases e1
    rcases getS_set q2 with ⟨_, e2⟩ | ⟨n2, e2⟩
    · cases e2
    rw [List.getElem?_set_ne (fun z => n1 z.symm)] at r1
    rw [List.getElem?_set_ne (fun z => n2 z.symm)] at r2
    exact h.di j l k m e e' p e1 e2 r1 r2
theorem SR.forget (h : SR K G F T s σ H) : SR K G F T (s.set i none) σ H := by
  have key : ∀ {j y}, getS (s.set i none) j = some y → getS s j = some y := fun {j y} q => by
    rcases getS_set q with ⟨_, e1⟩ | ⟨n, e1⟩
    · cases e1
    · exact e1
  exact ⟨h.fh, h.fe, h.gr, h.kp, h.ioh, fun j e q => h.sl j e (key q), fun j k e q => h.ow j k e (key q), fun j l k m e e' p q1 q2 => h.di j l k m e e' p (key q1) (key q2), h.tn, h.tt, by rw [List.length_set]; exact h.len⟩
/-- a slot that is forgotten may be written -/
theorem SR.over {x : Option V} (h : SR K G F T s σ H) (n : getS s i = none) : SR K G F T s (σ.set i x) H := by
  have ne : ∀ {j y}, getS s j = some y → i ≠ j := fun {j y} q e => by subst e; rw [n] at q; cases q
  refine ⟨h.fh, h.fe, h.gr, h.kp, h.ioh, fun j e q => ?_, fun j k e q => ?_, fun j l k m e e' p q1 q2 r1 r2 => ?_, h.tn, h.tt, by rw [List.length_set]; exact h.len⟩
  · rw [List.getElem?_set_ne (ne q)]; exact h.sl j e q
  · rw [List.getElem?_set_ne (ne q)]; exact h.ow j k e q
  · rw [List.getElem?_set_ne (ne q1)] at r1
    rw [List.getElem?_set_ne (ne q2)] at r2
    exact h.di j l k m e e' p q1 q2 r1 r2
theorem SR.drop {q : Addr × D} (h : SR K G F (q :: T) s σ H) : SR K G F T s σ H :=
  ⟨h.fh, h.fe, h.gr, h.kp, h.ioh, h.sl, fun j k e z => let ⟨p, a, b, c⟩ := h.ow j k e z; ⟨p, a, b, fun r hr => c r (List.mem_cons_of_mem _ hr)⟩, h.di, (List.pairwise_cons.mp h.tn).2, fun p hp => h.tt p (List.mem_cons_of_mem _ hp), h.len⟩
theorem SR.dropApp : ∀ {T' : List (Addr × D)}, SR K G F (T' ++ T) s σ H → SR K G F T s σ H
  | [], h => h
  | _ :: r, h => SR.dropApp (T' := r) h.drop
theorem SR.setNew (h : SR K G F ((p, d) :: T) s σ H) : SR K G F T (s.set i (some (.own none d))) (σ.set i (some (.ref p))) H := by
  have tp := List.pairwise_cons.mp h.tn
  refine ⟨h.fh, h.fe, h.gr, h.kp, h.ioh, fun j e q => ?_, fun j k e q => ?_, fun j l k m e e' p' q1 q2 r1 r2 => ?_, tp.2, fun p hp => h.tt p (List.mem_cons_of_mem _ hp), by rw [List.length_set, List.length_set]; exact h.len⟩
  · rcases getS_set q with ⟨_, e1⟩ | ⟨n, e1⟩
    · cases e1
    · obtain ⟨w, hw, hq⟩ := h.sl j e e1
      exact ⟨w, by rw [List.getElem?_set_ne (fun z => n z.symm)]; exact hw, hq⟩
  · have hj : j < (s.set i (some (.own none d))).length := getS_lt q
    rw [List.length_set] at hj
    rcases getS_set q with ⟨rfl, e1⟩ | ⟨n, e1⟩
    · cases e1
      exact ⟨p, List.getElem?_set_self (by rw [← h.len]; exact hj), h.tt (p, d) List.mem_cons_self, fun r hr => (tp.1 r hr).symm⟩
    · obtain ⟨p', hp, r, c⟩ := h.ow j k e e1
      exact ⟨p', by rw [List.getElem?_set_ne (fun z => n z.symm)]; exact hp, r, fun r hr => c r (List.mem_cons_of_mem _ hr)⟩
  · have no : ∀ {j k e}, j ≠ i → getS s j = some (.own k e) → (σ.set i (some (.ref p)))[j]? = some (some (.ref p')) → p' = p → False := fun {j k e} n q r z => by
      subst z
      rw [List.getElem?_set_ne (fun z => n z.symm)] at r
      obtain ⟨p2, a, _, c⟩ := h.ow j k e q
      rw [r] at a
      cases a
      exact c (p', d) List.mem_cons_self rfl
    have at' : ∀ {j k e}, getS (s.set i (some (.own none d))) j = some (.own k e) → j = i → (σ.set i (some (.ref p)))[j]? = some (some (.ref p')) → p' = p := fun {j k e} q z r => by
      subst z
      have hj := getS_lt q
      rw [List.length_set, h.len] at hj
      rw [List.getElem?_set_self hj] at r
      cases r
      rfl
    rcases getS_set q1 with ⟨z1, e1⟩ | ⟨n1, e1⟩
    · rcases getS_set q2 with ⟨z2, e2⟩ | ⟨n2, e2⟩
      · exact z1.trans z2.symm
      · exact (no n2 e2 r2 (at' q1 z1 r1)).elim
    · rcases getS_set q2 with ⟨z2, e2⟩ | ⟨n2, e2⟩
      · exact (no n1 e1 r1 (at' q2 z2 r2)).elim
      · rw [List.getElem?_set_ne (fun z => n1 z.symm)] at r1
        rw [List.getElem?_set_ne (fun z => n2 z.symm)] at r2
        exact h.di j l k m e e' p' e1 e2 r1 r2
/-- an object that is tracked in H, kept out of F, is put into F -/
theorem SR.enter {o : HO} (h : SR K G F T s σ H) (ho : H p = some o) (nf : F p = none) (ne : G.He p = none) (ns : ∀ i k d, getS s i = some (.own k d) → σ[i]? ≠ some (some (.ref p))) (nt : ∀ q ∈ T, q.1 ≠ p) :
    Ex F (upd F p o) ∧ SR K G (upd F p o) T s σ H := by
  have ex : Ex F (upd F p o) := Evl.Ex.new nf
  refine ⟨ex, ⟨fun a u q => ?_, h.fe.trans ex, fun a u q => ?_, h.kp, h.ioh, fun j e q => ?_, fun j k e q => ?_, h.di, h.tn, fun q hq => ?_, h.len⟩⟩
  · by_cases e : a = p
    · subst e; rw [upd_same] at q; cases q; exact ho
    · rw [upd_ne e] at q; exact h.fh a u q
  · by_cases e : a = p
    · subst e; exact .inr ne
    · rw [upd_ne e] at q; exact h.gr a u q
  · obtain ⟨w, a, b⟩ := h.sl j e q
    exact ⟨w, a, Rp.mono ex b⟩
  · obtain ⟨p', a, b, c⟩ := h.ow j k e q
    have np : p' ≠ p := fun z => by subst z; exact ns j k e q a
    exact ⟨p', a, ⟨b.at_.mono ex, by rw [upd_ne np]; exact b.nf, b.ne⟩, c⟩
  · have b := h.tt q hq
    exact ⟨b.at_.mono ex, by rw [upd_ne (nt q hq)]; exact b.nf, b.ne⟩
theorem SR.freezeTemp (h : SR K G F ((p, .list ds) :: T) s σ H) : ∃ F', Ex F F' ∧ SR K G F' T s σ H ∧ Rp K F' (.ref p) (.list ds) := by
  have tp := List.pairwise_cons.mp h.tn
  have o := h.tt (p, .list ds) List.mem_cons_self
  obtain ⟨vs, hv, hd, hz⟩ := o.at_
  obtain ⟨e, r⟩ := h.drop.enter hv o.nf o.ne (fun i k d q z => by
    obtain ⟨p', a, _, c⟩ := h.ow i k d q
    rw [z] at a; cases a
    exact c _ List.mem_cons_self rfl) fun q hq => (tp.1 q hq).symm
  exact ⟨_, e, r, .lst upd_same (RpAll.mono e hd) hz⟩
theorem SR.freezeSlot (h : SR K G F T s σ H) (q : getS s i = some (.own none (.list ds))) : ∃ F' p, Ex F F' ∧ SR K G F' T (s.set i (some (.val (.list ds)))) σ H ∧ σ[i]? = some (some (.ref p)) ∧ Rp K F' (.ref p) (.list ds) := by
  obtain ⟨p, hp, o, nt⟩ := h.ow i none _ q
  obtain ⟨vs, hv, hd, hz⟩ := o.at_
  obtain ⟨e, r⟩ := (h.forget (i := i)).enter hv o.nf o.ne (fun j k d z1 z2 => by
    rcases getS_set z1 with ⟨_, e1⟩ | ⟨n, e1⟩
    · cases e1
    · exact n (h.di j i _ _ _ _ p e1 q z2 hp)) nt
  have dp : Rp K (upd F p (.lst vs)) (.ref p) (.list ds) := .lst upd_same (RpAll.mono e hd) hz
  have r2 := r.setVal (i := i) dp
  rw [List.set_set] at r2
  have es : σ.set i (some (V.ref p)) = σ := by
    obtain ⟨hl, he⟩ := List.getElem?_eq_some_iff.mp hp
    rw [← he]
    exact List.set_getElem_self hl
  rw [es] at r2
  exact ⟨_, p, e, r2, hp, dp⟩
theorem ne_ref {j : Nat} {k : Option Nat} {e : D} (h : SR K G F T s σ H) (q : getS s j = some (.own k e)) (n : H p = none) : σ[j]? ≠ some (some (.ref p)) := fun z => by
  obtain ⟨p', a, b, _⟩ := h.ow j k e q
  rw [z] at a; cases a
  obtain ⟨vs, hv⟩ := b.at_.there
  rw [hv] at n; cases n
/-- H grows by a new object -/
theorem SR.grow {o : HO} (h : SR K G F T s σ H) (n : H p = none) : SR K G F T s σ (upd H p o) := by
  refine ⟨h.fh.trans (Evl.Ex.new n), h.fe, h.gr, fun a u q m => Evl.Ex.new n a u (h.kp a u q m), fun a ha => ?_, h.sl, fun j k e q => ?_, h.di, h.tn, fun q hq => ?_, h.len⟩
  · cases e : H a with
    | none => exact absurd e (h.ioh a ha)
    | some u => rw [Evl.Ex.new n a u e]; simp
  · obtain ⟨p', a, b, c⟩ := h.ow j k e q
    obtain ⟨vs, hv⟩ := b.at_.there
    exact ⟨p', a, ⟨b.at_.heap (upd_ne (ne_of_none hv n)), b.nf, b.ne⟩, c⟩
  · have b := h.tt q hq
    obtain ⟨vs, hv⟩ := b.at_.there
    exact ⟨b.at_.heap (upd_ne (ne_of_none hv n)), b.nf, b.ne⟩
theorem SR.newList {vs : List V} (h : SR K G F T s σ H) (n : H p = none) (hd : RpAll K F vs ds) (hz : ds.length ≤ line) : SR K G F ((p, .list ds) :: T) s σ (upd H p (.lst vs)) := by
  have g := h.grow (o := .lst vs) n
  have nt : ∀ q ∈ T, q.1 ≠ p := fun q hq z => by
    obtain ⟨ws, hw⟩ := (h.tt q hq).at_.there
    rw [z, n] at hw; cases hw
  refine ⟨g.fh, g.fe, g.gr, g.kp, g.ioh, g.sl, fun j k e q => ?_, g.di, List.pairwise_cons.mpr ⟨fun q hq z => nt q hq z.symm, g.tn⟩, fun q hq => ?_, g.len⟩
  · obtain ⟨p', a, b, c⟩ := g.ow j k e q
    refine ⟨p', a, b, fun r hr z => ?_⟩
    rcases List.mem_cons.mp hr with rfl | hr
    · exact ne_ref h q n (by rw [show p = p' from z]; exact a)
    · exact c r hr z
  · rcases List.mem_cons.mp hq with rfl | hq
    · exact ⟨⟨vs, upd_same, hd, hz⟩, h.nofz n, h.he n⟩
    · exact g.tt q hq
theorem SR.newTup {vs : List V} {o : Obj} (h : SR K G F T s σ H) (d0 : o.dict = none) (n : H p = none) (hd : RpAll K F vs ds) (hz : ds.length ≤ line) : ∃ F', Ex F F' ∧ SR K G F' T s σ (upd H p (.frz o (.tup vs))) ∧ Rp K F' (.ref p) (.tuple ds) := by
  have g := h.grow (o := .frz o (.tup vs)) n
  obtain ⟨e, r⟩ := g.enter (p := p) upd_same (h.nofz n) (h.he n) (fun i k d q => ne_ref h q n) fun q hq z => by
    obtain ⟨ws, hw⟩ := (h.tt q hq).at_.there
    rw [z, n] at hw; cases hw
  exact ⟨_, e, r, .tup (.of d0 upd_same) (RpAll.mono e hd) hz⟩
/-- an own object is written -/
theorem SR.write {vs : List V} {k : Option Nat} {ds' : List D} (h : SR K G F T s σ H) (q : getS s i = some (.own k d)) (hp : σ[i]? = some (some (.ref p))) (hd : RpAll K F vs ds') (hz : ds'.length ≤ line) :
    SR K G F T (s.set i (some (.own k (.list ds')))) σ (upd H p (.lst vs)) := by
  obtain ⟨p', a, o, nt⟩ := h.ow i k d q
  rw [hp] at a; cases a
  have hi := getS_lt q
  have oth : ∀ {j l e}, getS (s.set i (some (.own k (.list ds')))) j = some (.own l e) → j = i ∨ (j ≠ i ∧ getS s j = some (.own l e)) := fun {j l e} z => by
    rcases getS_set z with ⟨z, _⟩ | z
    · exact .inl z
    · exact .inr z
  have same : ∀ {j l e}, getS (s.set i (some (.own k (.list ds')))) j = some (.own l e) → ∃ e', getS s j = some (.own l e') := fun {j l e} z => by
    rcases getS_set z with ⟨rfl, z2⟩ | ⟨_, z2⟩
    · cases z2; exact ⟨_, q⟩
    · exact ⟨_, z2⟩
  refine ⟨fun b u z => ?_, h.fe, h.gr, fun b u z m => ?_, fun b hb => ?_, fun j e z => ?_, fun j l e z => ?_, fun j j' l m e e' p' z1 z2 => ?_, h.tn, fun r hr => ?_, by rw [List.length_set]; exact h.len⟩
  · have nb : b ≠ p := fun y => by subst y; rw [o.nf] at z; cases z
    rw [upd_ne nb]; exact h.fh b u z
  · have nb : b ≠ p := fun y => by
      subst y
      have := o.ne
      cases k with
      | none => rw [show G.He b = none from this] at z; cases z
      | some j => exact m (List.mem_of_getElem? (show G.io[j]? = some b from this))
    rw [upd_ne nb]; exact h.kp b u z m
  · by_cases nb : b = p
    · rw [nb, upd_same]; simp
    · rw [upd_ne nb]; exact h.ioh b hb
  · rcases getS_set z with ⟨_, z2⟩ | ⟨_, z2⟩
    · cases z2
    · exact h.sl j e z2
  · rcases getS_set z with ⟨rfl, z2⟩ | ⟨n, z2⟩
    · cases z2
      exact ⟨p, hp, ⟨⟨vs, upd_same, hd, hz⟩, o.nf, o.ne⟩, nt⟩
    · obtain ⟨p2, a, b, c⟩ := h.ow j l e z2
      have np : p2 ≠ p := fun y => by subst y; exact n (h.di j i _ _ _ _ p2 z2 q a hp)
      exact ⟨p2, a, ⟨b.at_.heap (upd_ne np), b.nf, b.ne⟩, c⟩
  · obtain ⟨_, y1⟩ := same z1
    obtain ⟨_, y2⟩ := same z2
    exact h.di j j' _ _ _ _ p' y1 y2
  · have b := h.tt r hr
    exact ⟨b.at_.heap (upd_ne (nt r hr)), b.nf, b.ne⟩
end

section
variable {K : PySem.W.Frag} {G : En} {F F' : Hp} {T : List (Addr × D)} {s : S} {σ : L2.St} {H H' : Hp} {p : Addr} {ds ds' : List D}
theorem SR.writeTemp {vs : List V} (h : SR K G F ((p, .list ds) :: T) s σ H) (hd : RpAll K F vs ds') (hz : ds'.length ≤ line) : SR K G F ((p, .list ds') :: T) s σ (upd H p (.lst vs)) := by
  have o := h.tt (p, .list ds) List.mem_cons_self
  have tp := List.pairwise_cons.mp h.tn
  refine ⟨fun b u z => ?_, h.fe, h.gr, fun b u z m => ?_, fun b hb => ?_, h.sl, fun j l e z => ?_, h.di, List.pairwise_cons.mpr ⟨fun q hq => tp.1 q hq, tp.2⟩, fun r hr => ?_, h.len⟩
  · have nb : b ≠ p := fun y => by subst y; rw [o.nf] at z; cases z
    rw [upd_ne nb]; exact h.fh b u z
  · have nb : b ≠ p := fun y => by
      subst y
      have z2 : G.He b = none := o.ne
      rw [z2] at z; cases z
    rw [upd_ne nb]; exact h.kp b u z m
  · by_cases nb : b = p
    · rw [nb, upd_same]; simp
    · rw [upd_ne nb]; exact h.ioh b hb
  · obtain ⟨p2, a, b, c⟩ := h.ow j l e z
    have np : p2 ≠ p := fun y => c _ List.mem_cons_self y.symm
    refine ⟨p2, a, ⟨b.at_.heap (upd_ne np), b.nf, b.ne⟩, fun q hq => ?_⟩
    rcases List.mem_cons.mp hq with rfl | hq
    · exact np.symm
    · exact c q (List.mem_cons_of_mem _ hq)
  · rcases List.mem_cons.mp hr with rfl | hr
    · exact ⟨⟨vs, upd_same, hd, hz⟩, o.nf, o.ne⟩
    · have b := h.tt r (List.mem_cons_of_mem _ hr)
      exact ⟨b.at_.heap (upd_ne (tp.1 r hr).symm), b.nf, b.ne⟩
end

/-! ### results -/
def RV (K : PySem.W.Frag) (F : Hp) (σ : L2.St) (T : List (Addr × D)) : R → V → List (Addr × D) → Prop
  | .val d, v, T' => Rp K F v d ∧ T' = T
  | .new d, v, T' => ∃ p, v = .ref p ∧ T' = (p, d) :: T
  | .slot i, v, T' => σ[i]? = some (some v) ∧ T' = T
/-- what a reader sees: the outermost object in H, its items in F -/
inductive View (K : PySem.W.Frag) (F H : Hp) : V → D → Prop where
  | lst {p : Addr} {vs : List V} {ds : List D} : H p = some (.lst vs) → RpAll K F vs ds → ds.length ≤ line → View K F H (.ref p) (.list ds)
  | scr {p : Addr} {ns : List Int} : SqL K F p (ns.map V.int) → View K F H (.ref p) (scrD ns)
  | dic {p : Addr} {kvs : List (Key × V)} {ds : List (D × D)} : H p = some (.dK kvs) → RpKv K F kvs ds → ds.length ≤ line → View K F H (.ref p) (.dict ds)
  | tup {p : Addr} {vs : List V} {ds : List D} : TpD K F p vs → RpAll K F vs ds → ds.length ≤ line → View K F H (.ref p) (.tuple ds)
  | non : View K F H .non .none
  | bl (b : Bool) : View K F H (.bl b) (.bool b)
  | int (i : Int) : View K F H (.int i) (.int i)
  | str (x : Str) : View K F H (.str x) (.str x)
theorem View.of {K : PySem.W.Frag} {F H : Hp} {v : V} {d : D} (e : Ex F H) (h : Rp K F v d) : View K F H v d := by
  cases h with
  | lst a b z => exact .lst (e _ _ a) b z
  | scr a => exact .scr a
  | dic a b z => exact .dic (e _ _ a) b z
  | tup a b z => exact .tup a b z
  | non => exact .non
  | bl b => exact .bl b
  | int i => exact .int i
  | str x => exact .str x
theorem View.rp {K : PySem.W.Frag} {F H : Hp} {v : V} {d : D} (e : Ex F H) (h : View K F H v d) : Rp K H v d := by
  cases h with
  | lst a b z => exact .lst a (RpAll.mono e b) z
  | scr a => exact .scr (Evl.ex_l e a)
  | dic a b z => exact .dic a (RpKv.mono e b) z
  | tup a b z => exact .tup (a.ex e) (RpAll.mono e b) z
  | non => exact .non
  | bl b => exact .bl b
  | int i => exact .int i
  | str x => exact .str x
section
variable {K : PySem.W.Frag} {G : En} {F F' : Hp} {T T' : List (Addr × D)} {s s' : S} {σ : L2.St} {H H' : Hp} {p : Addr} {v : V} {d : D} {ds : List D} {i : Nat} {r : R}
theorem View.own {d' : D} (h : OwnAt K F H p d') (e : ownD d' = some d) : View K F H (.ref p) d := by
  cases d' <;> first | exact h.elim | skip
  · cases e
    obtain ⟨vs, h1, h2, h3⟩ := h
    exact .lst h1 h2 h3
  · cases e
  · cases e
theorem getR_slot (e : getR s (.slot i) = some d) : (∃ k d', getS s i = some (.own k d') ∧ ownD d' = some d) ∨ getS s i = some (.val d) := by
  have e' : (match getS s i with
    | some (.own _ d) => ownD d
    | some (.val d) => some d
    | _ => none) = some d := e
  split at e'
  · rename_i k d' q
    exact .inl ⟨k, d', q, e'⟩
  · rename_i d' q
    cases e'
    exact .inr q
  · cases e'
/-- T2: the temporaries later on -/
theorem SR.view {T2 : List (Addr × D)} (h : SR K G F T2 s σ H) (rv : RV K F' σ T r v T') (ex : Ex F' F) (sub : ∀ q ∈ T', q ∈ T2) (e : getR s r = some d) : View K F H v d := by
  cases r with
  | val d' => cases e; exact .of h.fh (Rp.mono ex rv.1)
  | new d' =>
    obtain ⟨p, rfl, rfl⟩ := rv
    exact View.own (h.tt (p, d') (sub _ List.mem_cons_self)).at_ e
  | slot i =>
    obtain ⟨hv, rfl⟩ := rv
    rcases getR_slot e with ⟨k, d', q, e⟩ | q
    · obtain ⟨p, a, o, _⟩ := h.ow i k d' q
      rw [a] at hv; cases hv
      exact View.own o.at_ e
    · obtain ⟨w, a, b⟩ := h.sl i d q
      rw [a] at hv; cases hv
      exact .of h.fh b
theorem RV.mono (rv : RV K F σ T r v T') (ex : Ex F F') : RV K F' σ T r v T' := by
  cases r with
  | val d' => exact ⟨Rp.mono ex rv.1, rv.2⟩
  | new d' => exact rv
  | slot i => exact rv
theorem RV.sub (rv : RV K F σ T r v T') : ∃ pre, T' = pre ++ T := by
  cases r with
  | val d' => exact ⟨[], rv.2⟩
  | new d' => obtain ⟨p, _, e⟩ := rv; exact ⟨[(p, d')], e⟩
  | slot i => exact ⟨[], rv.2⟩
end

/-! ### what is wanted of an outcome -/
def ErrP (K : PySem.W.Frag) (G : En) (E : WX) (F : Hp) (c : Str) (d : D) (s' : S) : Prop :=
  ∀ x F' T' σ' H' v, Ex F F' → SR K G F' T' s' σ' H' → H' x = some (.xd [("value", v)]) → Rp K F' v d → E (.ref (He.ga K c)) (some x) σ' H'
def Want {α : Type} (K : PySem.W.Frag) (G : En) (E : WX) (F : Hp) (o : Out α) (ok : α → Prop) : Prop :=
  match o with
  | .ok a => ok a
  | .err c d s' => ErrP K G E F c d s'
  | .bad => False
theorem ErrP.mono {K : PySem.W.Frag} {G : En} {E : WX} {F F' : Hp} {c : Str} {d : D} {s' : S} (e : Ex F F') (h : ErrP K G E F c d s') : ErrP K G E F' c d s' := fun x F2 T' σ' H' v e2 => h x F2 T' σ' H' v (e.trans e2)
theorem Want.mono {α : Type} {K : PySem.W.Frag} {G : En} {E : WX} {F F' : Hp} {o : Out α} {P Q : α → Prop} (h : Want K G E F o P) (e : Ex F F') (f : ∀ a, P a → Q a) : Want K G E F' o Q := by
  cases o with
  | ok a => exact f a h
  | err c d s => exact ErrP.mono e h
  | bad => exact h
theorem Want.bind {α β : Type} {K : PySem.W.Frag} {G : En} {E : WX} {F : Hp} {o : Out α} {f : α → Out β} {P : β → Prop} (h : Want K G E F (o.bind f) P) : Want K G E F o fun a => Want K G E F (f a) P := by
  cases o with
  | ok a => exact h
  | err c d s => exact h
  | bad => exact h
/-- the end of an expression: whatever heap the value comes in -/
def EP (K : PySem.W.Frag) (G : En) (F : Hp) (T : List (Addr × D)) (σ : L2.St) (Q : VK) (x : R × S) : Prop :=
  ∀ F' T' H' v, Ex F F' → SR K G F' T' x.2 σ H' → RV K F' σ T x.1 v T' → Q v H'
def TP (K : PySem.W.Frag) (G : En) (F : Hp) (T : List (Addr × D)) (σ : L2.St) (Q : Bool → Hp → Prop) (x : Bool × S) : Prop :=
  ∀ F' H', Ex F F' → SR K G F' T x.2 σ H' → Q x.1 H'
inductive RVs (K : PySem.W.Frag) (F : Hp) (σ : L2.St) : List (Addr × D) → List R → List V → List (Addr × D) → Prop where
  | nil {T} : RVs K F σ T [] [] T
  | cons {T T1 T2 r rs v vs} : RV K F σ T r v T1 → RVs K F σ T1 rs vs T2 → RVs K F σ T (r :: rs) (v :: vs) T2
def AP (K : PySem.W.Frag) (G : En) (F : Hp) (T : List (Addr × D)) (σ : L2.St) (Q : List V → Hp → Prop) (x : List R × S) : Prop :=
  ∀ F' T' H' vs, Ex F F' → SR K G F' T' x.2 σ H' → RVs K F' σ T x.1 vs T' → Q vs H'
def Snd (K : PySem.W.Frag) (E : WX) (t : TE) (f : XE) : Prop := ∀ G F T s σ H Q, SR K G F T s σ H → Want K G E F (f s) (EP K G F T σ Q) → t σ H Q
def SndT (K : PySem.W.Frag) (E : WX) (t : TT) (f : XT) : Prop := ∀ G F T s σ H Q, SR K G F T s σ H → Want K G E F (f s) (TP K G F T σ Q) → t σ H Q
def SndA (K : PySem.W.Frag) (E : WX) (t : TA) (f : XA) : Prop := ∀ G F T s σ H Q, SR K G F T s σ H → Want K G E F (f s) (AP K G F T σ Q) → t σ H Q
/-- the end of a statement -/
def FP (K : PySem.W.Frag) (G : En) (F : Hp) (Dn : Ends) (x : Fl) : Prop :=
  match x with
  | .nx s' => ∀ F' σ' H', Ex F F' → SR K G F' [] s' σ' H' → Dn.nx σ' H'
  | .bk s' => ∀ F' σ' H', Ex F F' → SR K G F' [] s' σ' H' → Dn.bk σ' H'
  | .ct s' => ∀ F' σ' H', Ex F F' → SR K G F' [] s' σ' H' → Dn.ct σ' H'
  | .rt r s' => ∀ F' T' σ' H' v, Ex F F' → SR K G F' T' s' σ' H' → RV K F' σ' [] r v T' → Dn.rt v H'
def SndS (K : PySem.W.Frag) (E : WX) (t : TS) (f : XS) : Prop := ∀ G F s σ H Dn, SR K G F [] s σ H → Want K G E F (f s) (FP K G F Dn) → t Dn σ H
structure DE (X : Cx) (E : WX) (e : Expr) (t : TE) (f : XE) : Prop where
  pe : PE X e t
  sd : Snd X.K E t f
structure DT (X : Cx) (E : WX) (e : Expr) (t : TT) (f : XT) : Prop where
  pt : PT X e t
  sd : SndT X.K E t f
structure DW (X : Cx) (E : WX) (e : Expr) (t : TT) (f : XT) : Prop where
  pw : PW X e t
  sd : SndT X.K E t f
structure DA (X : Cx) (E : WX) (es : List Expr) (t : TA) (f : XA) : Prop where
  pa : PA X es t
  sd : SndA X.K E t f
structure DS (X : Cx) (E : WX) (st : Stmt) (t : TS) (f : XS) : Prop where
  ps : PS X st t
  sd : SndS X.K E t f
structure DSs (X : Cx) (E : WX) (st : List Stmt) (t : TS) (f : XS) : Prop where
  ps : PSs X st t
  sd : SndS X.K E t f
end DL

namespace DL
open Evl (Ex)
open PySem PySem.Spec PyProof.Rows L2

section
variable {K : PySem.W.Frag} {E : WX} {X : Cx} {G : En} {F F' : Hp} {T T' : List (Addr × D)} {s s' : S} {σ : L2.St} {H H' : Hp} {v : V} {d : D} {ds : List D} {i : Nat} {r : R} {Q : VK}
/-! ### values and names -/
def xVal (d : D) : XE := fun s => .ok (.val d, s)
def xVar (i : Nat) : XE := fun s => match getS s i with
  | some (.val d) => .ok (.val d, s)
  | some (.own _ _) => .ok (.slot i, s)
  | none => .bad
theorem snd_val (h : ∀ F, Rp K F v d) : Snd K E (tC v) (xVal d) := fun G F T s σ H Q sr w => w F T H v (Evl.Ex.refl F) sr ⟨h F, rfl⟩
theorem snd_var : Snd K E (tVar i) (xVar i) := fun G F T s σ H Q sr w => by
  unfold xVar at w
  split at w
  · rename_i d q
    obtain ⟨v, a, b⟩ := sr.sl i d q
    exact ⟨v, a, w F T H v (Evl.Ex.refl F) sr ⟨b, rfl⟩⟩
  · rename_i k d q
    obtain ⟨p, a, b, _⟩ := sr.ow i k d q
    exact ⟨_, a, w F T H _ (Evl.Ex.refl F) sr ⟨a, rfl⟩⟩
  · exact w.elim
theorem dv (i : Nat) {x : Str} {pos : Pos} (hN : X.N[i]? = some x := by rfl) (hv : Vis X.env.scope x := by first | exact Or.inl rfl | exact Or.inr (Or.inl rfl) | exact Or.inr (Or.inr rfl)) (hd : (x == ("__debug__" : Str)) = false := by decide)
    (hcd : (x == ("__classdict__" : Str)) = false := by decide) : DE X E (.Name x pos) (tVar i) (xVar i) := ⟨pe_var hN hv hd hcd, snd_var⟩
theorem de_int {z : Int} {j pos} : DE X E (.Constant (.int z) j pos) (tC (.int z)) (xVal (.int z)) := ⟨pe_int, snd_val fun _ => .int z⟩
theorem de_bl {b : Bool} {j pos} : DE X E (.Constant (.bool b) j pos) (tC (.bl b)) (xVal (.bool b)) := ⟨pe_bl, snd_val fun _ => .bl b⟩
theorem de_non {j pos} : DE X E (.Constant .none j pos) (tC .non) (xVal .none) := ⟨pe_non, snd_val fun _ => .non⟩
theorem de_str {x : Str} {j pos} : DE X E (.Constant (.str x) j pos) (tC (.str x)) (xVal (.str x)) := ⟨pe_str, snd_val fun _ => .str x⟩
/-- a module's constant -/
theorem de_glob {x : Str} {v : V} {u : Value} {d : D} {pos : Pos} (hg : Gl X x) (hm : X.mg x = some u) (rv : RelV v u) (h : ∀ F, Rp X.K F v d) (hd : (x == ("__debug__" : Str)) = false := by decide) : DE X E (.Name x pos) (tC v) (xVal d) :=
  ⟨pe_glob hg hm rv hd, snd_val h⟩

/-! ### what a function of the language gives -/
def Res (K : PySem.W.Frag) (F H : Hp) (Q : VK) : RD → Prop
  | .val d => ∀ v, Rp K F v d → Q v H
  | .lst ds => ds.length ≤ line → ∀ p vs, H p = none → RpAll K F vs ds → Q (.ref p) (upd H p (.lst vs))
  | .tup ds => ds.length ≤ line → (∀ vs, RpAll K F vs ds → NewT vs H Q) ∧ ∀ v, Rp K F v (.tuple ds) → Q v H
theorem res_of {F2 : Hp} {T2 : List (Addr × D)} {rd : RD} (ex : Ex F F2) (sr : SR K G F2 T2 s σ H) (sub : ∃ pre, T2 = pre ++ T) (w : EP K G F T σ Q (rd.r, s)) : Res K F2 H Q rd := by
  obtain ⟨pre, rfl⟩ := sub
  have sr2 := sr.dropApp
  cases rd with
  | val d => exact fun v hd => w F2 T H v ex sr2 ⟨hd, rfl⟩
  | lst ds => exact fun hz p vs n hd => w F2 _ _ _ ex (sr2.newList n hd hz) ⟨p, rfl, rfl⟩
  | tup ds =>
    refine fun hz => ⟨fun vs hd p o d0 n => ?_, fun v hd => w F2 T H v ex sr2 ⟨hd, rfl⟩⟩
    obtain ⟨F3, e3, sr3, hd3⟩ := sr2.newTup d0 n hd hz
    exact w F3 T _ _ (ex.trans e3) sr3 ⟨hd3, rfl⟩
inductive Views (K : PySem.W.Frag) (F H : Hp) : List V → List D → Prop where
  | nil : Views K F H [] []
  | cons {v d vs ds} : View K F H v d → Views K F H vs ds → Views K F H (v :: vs) (d :: ds)
def Op1 (K : PySem.W.Frag) (r : V → Hp → VK → Prop) (h : D → Option RD) : Prop := ∀ F H x a rd Q, Ex F H → View K F H x a → h a = some rd → Res K F H Q rd → r x H Q
def Op2 (K : PySem.W.Frag) (r : R2) (h : D → D → Option RD) : Prop := ∀ F H x y a b rd Q, Ex F H → View K F H x a → View K F H y b → h a b = some rd → Res K F H Q rd → r x y H Q
def OpC (K : PySem.W.Frag) (r : List V → Hp → VK → Prop) (h : List D → Option RD) : Prop := ∀ F H xs ds rd Q, Ex F H → Views K F H xs ds → h ds = some rd → Res K F H Q rd → r xs H Q
def fin (h : Option RD) (s : S) : Out (R × S) := match h with
  | some rd => .ok (rd.r, s)
  | none => .bad
def xOp1 (h : D → Option RD) (fa : XE) : XE := fun s => (fa s).bind fun (ra, s1) => match getR s1 ra with
  | some a => fin (h a) s1
  | none => .bad
def xOp2 (h : D → D → Option RD) (fa fb : XE) : XE := fun s => (fa s).bind fun (ra, s1) => (fb s1).bind fun (rb, s2) => match getR s2 ra, getR s2 rb with
  | some a, some b => fin (h a b) s2
  | _, _ => .bad
theorem want_fin {α : Type} {o : Option RD} {P : R × S → Prop} (w : Want K G E F (fin o s) P) : ∃ rd, o = some rd ∧ P (rd.r, s) := by
  unfold fin at w
  split at w
  · exact ⟨_, rfl, w⟩
  · exact w.elim
theorem snd_op1 {r : V → Hp → VK → Prop} {h : D → Option RD} {ta : TE} {fa : XE} (o : Op1 K r h) (ha : Snd K E ta fa) : Snd K E (tUn r ta) (xOp1 h fa) := fun G F T s σ H Q sr w => by
  refine ha G F T s σ H _ sr (w.bind.mono (Evl.Ex.refl F) fun ⟨ra, s1⟩ w1 F1 T1 H1 v1 e1 sr1 rv1 => ?_)
  dsimp only at w1 sr1 rv1
  split at w1
  · rename_i a qa
    obtain ⟨rd, h1, w2⟩ := want_fin (α := Unit) w1
    exact o F1 H1 v1 a rd Q sr1.fh (sr1.view rv1 (Evl.Ex.refl _) (fun _ q => q) qa) h1 (res_of e1 sr1 rv1.sub w2)
  · exact w1.elim
theorem snd_op2 {r : R2} {h : D → D → Option RD} {ta tb : TE} {fa fb : XE} (o : Op2 K r h) (ha : Snd K E ta fa) (hb : Snd K E tb fb) : Snd K E (tOp r ta tb) (xOp2 h fa fb) := fun G F T s σ H Q sr w => by
  refine ha G F T s σ H _ sr (w.bind.mono (Evl.Ex.refl F) fun ⟨ra, s1⟩ w1 F1 T1 H1 v1 e1 sr1 rv1 => ?_)
  refine hb G F1 T1 s1 σ H1 _ sr1 (w1.bind.mono e1 fun ⟨rb, s2⟩ w2 F2 T2 H2 v2 e2 sr2 rv2 => ?_)
  dsimp only at w2 sr2 rv2
  obtain ⟨p2, q2⟩ := rv2.sub
  obtain ⟨p1, q1⟩ := rv1.sub
  split at w2
  · rename_i a b qa qb
    obtain ⟨rd, h1, w3⟩ := want_fin (α := Unit) w2
    exact o F2 H2 v1 v2 a b rd Q sr2.fh (sr2.view rv1 e2 (fun _ q => by rw [q2]; exact List.mem_append_right _ q) qa) (sr2.view rv2 (Evl.Ex.refl _) (fun _ q => q) qb) h1
      (res_of (e1.trans e2) sr2 ⟨p2 ++ p1, by rw [q2, q1, List.append_assoc]⟩ w3)
  · exact w2.elim

/-! ### argument lists -/
def aNil : XA := fun s => .ok ([], s)
def aCons (fa : XE) (fr : XA) : XA := fun s => (fa s).bind fun (r, s1) => (fr s1).bind fun (rs, s2) => .ok (r :: rs, s2)
theorem RVs.mono {rs : List R} {vs : List V} (h : RVs K F σ T rs vs T') (e : Ex F F') : RVs K F' σ T rs vs T' := by
  induction h with
  | nil => exact .nil
  | cons a _ ih => exact .cons (a.mono e) ih
theorem RVs.sub {rs : List R} {vs : List V} (h : RVs K F σ T rs vs T') : ∃ pre, T' = pre ++ T := by
  induction h with
  | nil => exact ⟨[], rfl⟩
  | cons a _ ih =>
    obtain ⟨p, e⟩ := a.sub
    obtain ⟨q, e2⟩ := ih
    exact ⟨q ++ p, by rw [e2, e, List.append_assoc]⟩
theorem sndA_nil : SndA K E tNil aNil := fun G F T s σ H Q sr w => w F T H [] (Evl.Ex.refl F) sr .nil
theorem sndA_cons {ta : TE} {tr : TA} {fa : XE} {fr : XA} (ha : Snd K E ta fa) (hr : SndA K E tr fr) : SndA K E (tCons ta tr) (aCons fa fr) := fun G F T s σ H Q sr w => by
  refine ha G F T s σ H _ sr (w.bind.mono (Evl.Ex.refl F) fun ⟨ra, s1⟩ w1 F1 T1 H1 v1 e1 sr1 rv1 => ?_)
  refine hr G F1 T1 s1 σ H1 _ sr1 (w1.bind.mono e1 fun ⟨rs, s2⟩ w2 F2 T2 H2 vs e2 sr2 rv2 => ?_)
  exact w2 F2 T2 H2 _ (e1.trans e2) sr2 (.cons (rv1.mono e2) rv2)
theorem da_nil : DA X E [] tNil aNil := ⟨pa_nil, sndA_nil⟩
theorem da_cons {e : Expr} {es : List Expr} {ta : TE} {tr : TA} {fa : XE} {fr : XA} (ha : DE X E e ta fa) (hr : DA X E es tr fr) (hs : starEach (e :: es) X.env = (false, eval e X.env) :: starEach es X.env := by rfl) :
    DA X E (e :: es) (tCons ta tr) (aCons fa fr) := ⟨pa_cons ha.pe hr.pa hs, sndA_cons ha.sd hr.sd⟩
def getRs (s : S) : List R → Option (List D)
  | [] => some []
  | r :: rs => match getR s r, getRs s rs with
    | some d, some ds => some (d :: ds)
    | _, _ => none
theorem SR.views {F0 : Hp} {T2 : List (Addr × D)} (sr : SR K G F T2 s σ H) {rs : List R} {vs : List V} (h : RVs K F0 σ T rs vs T') (ex : Ex F0 F) : ∀ {ds : List D}, (∀ q ∈ T', q ∈ T2) → getRs s rs = some ds → Views K F H vs ds := by
  induction h with
  | nil => intro ds _ e; cases e; exact .nil
  | cons a b ih =>
    rename_i T3 T4 T5 r rs v vs
    intro ds sub e
    unfold getRs at e
    split at e
    · rename_i d ds' q1 q2
      cases e
      obtain ⟨p, ep⟩ := b.sub
      exact .cons (sr.view a ex (fun q hq => sub q (by rw [ep]; exact List.mem_append_right _ hq)) q1) (ih sub q2)
    · cases e
/-- f(..), f of the language -/
def xCB (h : List D → Option RD) (fa : XA) : XE := fun s => (fa s).bind fun (rs, s1) => match getRs s1 rs with
  | some ds => fin (h ds) s1
  | none => .bad
theorem snd_cb {r : List V → Hp → VK → Prop} {h : List D → Option RD} {ta : TA} {fa : XA} (o : OpC K r h) (ha : SndA K E ta fa) : Snd K E (tCB r ta) (xCB h fa) := fun G F T s σ H Q sr w => by
  refine ha G F T s σ H _ sr (w.bind.mono (Evl.Ex.refl F) fun ⟨rs, s1⟩ w1 F1 T1 H1 vs e1 sr1 rv1 => ?_)
  dsimp only at w1 sr1 rv1
  split at w1
  · rename_i ds q
    obtain ⟨rd, h1, w2⟩ := want_fin (α := Unit) w1
    exact o F1 H1 vs ds rd Q sr1.fh (sr1.views rv1 (Evl.Ex.refl _) (fun _ q => q) q) h1 (res_of e1 sr1 rv1.sub w2)
  · exact w1.elim

/-! ### displays -/
/-- from the right -/
def frzs (s : S) : List R → Option (List D × S)
  | [] => some ([], s)
  | r :: rs => match frzs s rs with
    | some (ds, s1) => match frz s1 r with
      | some (d, s2) => some (d :: ds, s2)
      | none => none
    | none => none
theorem SR.frz {F0 : Hp} (sr : SR K G F T' s σ H) (rv : RV K F0 σ T r v T') (ex : Ex F0 F) (e : frz s r = some (d, s')) : ∃ F', Ex F F' ∧ SR K G F' T s' σ H ∧ Rp K F' v d := by
  cases r with
  | val d' =>
    cases e
    obtain ⟨a, rfl⟩ := rv
    exact ⟨F, Evl.Ex.refl F, sr, Rp.mono ex a⟩
  | new d' =>
    obtain ⟨p, rfl, rfl⟩ := rv
    cases d' with
    | list ds =>
      cases e
      exact sr.freezeTemp
    | _ => cases e
  | slot i =>
    obtain ⟨a, rfl⟩ := rv
    have e' : (match getS s i with
      | some (.own none (.list ds)) => some (PyData.list ds, s.set i (some (.val (.list ds))))
      | some (.val d) => some (d, s)
      | _ => none) = some (d, s') := e
    split at e'
    · rename_i ds q
      cases e'
      obtain ⟨F', p, e1, sr', hp, hd⟩ := sr.freezeSlot q
      rw [a] at hp; cases hp
      exact ⟨F', e1, sr', hd⟩
    · rename_i d' q
      cases e'
      obtain ⟨w, b, c⟩ := sr.sl i d q
      rw [a] at b; cases b
      exact ⟨F, Evl.Ex.refl F, sr, c⟩
    · cases e'
theorem SR.frzs {F0 : Hp} {rs : List R} {vs : List V} (rv : RVs K F0 σ T rs vs T') : ∀ {F : Hp} {s s' : S} {ds : List D}, SR K G F T' s σ H → Ex F0 F → frzs s rs = some (ds, s') → ∃ F', Ex F F' ∧ SR K G F' T s' σ H ∧ RpAll K F' vs ds := by
  induction rv with
  | nil => intro F s s' ds sr ex e; cases e; exact ⟨F, Evl.Ex.refl F, sr, .nil⟩
  | cons a b ih =>
    intro F s s' ds sr ex e
    unfold DL.frzs at e
    split at e
    · rename_i ds1 s1 q1
      split at e
      · rename_i d s2 q2
        cases e
        obtain ⟨F1, e1, sr1, h1⟩ := ih sr ex q1
        obtain ⟨F2, e2, sr2, h2⟩ := sr1.frz a (ex.trans e1) q2
        exact ⟨F2, e1.trans e2, sr2, .cons h2 (RpAll.mono e2 h1)⟩
      · cases e
    · cases e
def xTup (fa : XA) : XE := fun s => (fa s).bind fun (rs, s1) => match frzs s1 rs with
  | some (ds, s2) => .ok (.val (.tuple ds), s2)
  | none => .bad
def xLst (fa : XA) : XE := fun s => (fa s).bind fun (rs, s1) => match frzs s1 rs with
  | some (ds, s2) => .ok (.new (.list ds), s2)
  | none => .bad
/-- a display has fewer things than the line -/
theorem snd_tup {ta : TA} {fa : XA} {n : Nat} (ha : SndA K E ta fa) (hl : ∀ s rs s', fa s = .ok (rs, s') → rs.length = n) (hn : n ≤ 1000) : Snd K E (tTupF ta) (xTup fa) := fun G F T s σ H Q sr w => by
  have w0 := w.bind
  cases e0 : fa s with
  | bad => rw [e0] at w0; exact w0.elim
  | err c d s1 => rw [e0] at w0; exact ha G F T s σ H _ sr (by rw [e0]; exact w0)
  | ok x =>
    obtain ⟨rs, s1⟩ := x
    rw [e0] at w0
    refine ha G F T s σ H _ sr ?_
    rw [e0]
    intro F1 T1 H1 vs e1 sr1 rv1
    have w1 := w0
    dsimp only [Want] at w1
    dsimp only at sr1 rv1
    cases q : frzs s1 rs with
    | none => rw [q] at w1; exact w1.elim
    | some y =>
      obtain ⟨ds, s2⟩ := y
      rw [q] at w1
      obtain ⟨F2, e2, sr2, h2⟩ := SR.frzs rv1 sr1 (Evl.Ex.refl _) q
      have hlen : vs.length = n := by
        have a := hl s rs s1 e0
        have : ∀ {T T' : List (Addr × D)} {rs : List R} {vs : List V}, RVs K F1 σ T rs vs T' → vs.length = rs.length := fun {T T' rs vs} z => by
          induction z with
          | nil => rfl
          | cons _ _ ih => rw [List.length_cons, List.length_cons, ih]
        rw [this rv1, a]
      have hz : ds.length ≤ line := by rw [← h2.length, hlen]; unfold line; omega
      refine ⟨by rw [hlen, sizeLine_eq]; omega, fun p o d0 hp => ?_⟩
      obtain ⟨F3, e3, sr3, h3⟩ := sr2.newTup d0 hp h2 hz
      exact w1 F3 T _ _ ((e1.trans e2).trans e3) sr3 ⟨h3, rfl⟩
theorem snd_lst {ta : TA} {fa : XA} {n : Nat} (ha : SndA K E ta fa) (hl : ∀ s rs s', fa s = .ok (rs, s') → rs.length = n) (hn : n ≤ 1000) : Snd K E (tLst ta) (xLst fa) := fun G F T s σ H Q sr w => by
  have w0 := w.bind
  cases e0 : fa s with
  | bad => rw [e0] at w0; exact w0.elim
  | err c d s1 => rw [e0] at w0; exact ha G F T s σ H _ sr (by rw [e0]; exact w0)
  | ok x =>
    obtain ⟨rs, s1⟩ := x
    rw [e0] at w0
    refine ha G F T s σ H _ sr ?_
    rw [e0]
    intro F1 T1 H1 vs e1 sr1 rv1
    have w1 := w0
    dsimp only [Want] at w1
    dsimp only at sr1 rv1
    cases q : frzs s1 rs with
    | none => rw [q] at w1; exact w1.elim
    | some y =>
      obtain ⟨ds, s2⟩ := y
      rw [q] at w1
      obtain ⟨F2, e2, sr2, h2⟩ := SR.frzs rv1 sr1 (Evl.Ex.refl _) q
      have hlen : vs.length = n := by
        have a := hl s rs s1 e0
        have : ∀ {T T' : List (Addr × D)} {rs : List R} {vs : List V}, RVs K F1 σ T rs vs T' → vs.length = rs.length := fun {T T' rs vs} z => by
          induction z with
          | nil => rfl
          | cons _ _ ih => rw [List.length_cons, List.length_cons, ih]
        rw [this rv1, a]
      have hz : ds.length ≤ line := by rw [← h2.length, hlen]; unfold line; omega
      refine ⟨by rw [hlen, sizeLine_eq]; omega, fun p hp => ?_⟩
      exact w1 F2 _ _ _ (e1.trans e2) (sr2.newList hp h2 hz) ⟨p, rfl, rfl⟩
/-- how many things an argument list has -/
def ALen (fa : XA) (n : Nat) : Prop := ∀ s rs s', fa s = .ok (rs, s') → rs.length = n
theorem alen_nil : ALen aNil 0 := fun s rs s' e => by cases e; rfl
theorem alen_cons {fa : XE} {fr : XA} {n : Nat} (h : ALen fr n) : ALen (aCons fa fr) (n + 1) := fun s rs s' e => by
  unfold aCons at e
  cases e1 : fa s with
  | bad => rw [e1] at e; cases e
  | err c d s1 => rw [e1] at e; cases e
  | ok x =>
    obtain ⟨r, s1⟩ := x
    rw [e1, bind_ok] at e
    dsimp only at e
    cases e2 : fr s1 with
    | bad => rw [e2] at e; cases e
    | err c d s1 => rw [e2] at e; cases e
    | ok y =>
      obtain ⟨rs2, s2⟩ := y
      rw [e2, bind_ok] at e
      cases e
      rw [List.length_cons, h s1 rs2 s2 e2]
theorem de_tup {es : List Expr} {ta : TA} {fa : XA} {n : Nat} {x1 pos} (ha : DA X E es ta fa) (hl : ALen fa n := by repeat (first | exact alen_nil | refine alen_cons ?_)) (hn : n ≤ 1000 := by decide) : DE X E (.Tuple es x1 pos) (tTupF ta) (xTup fa) := ⟨pe_tupF ha.pa, snd_tup ha.sd hl hn⟩
theorem de_lst {es : List Expr} {ta : TA} {fa : XA} {n : Nat} {pos} (ha : DA X E es ta fa) (hl : ALen fa n := by repeat (first | exact alen_nil | refine alen_cons ?_)) (hn : n ≤ 1000 := by decide) : DE X E (.List es pos) (tLst ta) (xLst fa) := ⟨pe_lst ha.pa, snd_lst ha.sd hl hn⟩

/-! ### tests -/
def truth (r : Out (R × S)) : Out (Bool × S) := r.bind fun (r, s) => match getR s r with
  | some (.bool b) => .ok (b, s)
  | _ => .bad
def tOf (fa : XE) : XT := fun s => truth (fa s)
theorem sndT_of {ta : TE} {fa : XE} (ha : Snd K E ta fa) : SndT K E (tTest ta) (tOf fa) := fun G F T s σ H Q sr w => by
  refine ha G F T s σ H _ sr (Want.mono (Want.bind w) (Evl.Ex.refl F) fun ⟨ra, s1⟩ w1 F1 T1 H1 v1 e1 sr1 rv1 => ?_)
  dsimp only at w1 sr1 rv1
  split at w1
  · rename_i b q
    obtain ⟨pre, rfl⟩ := rv1.sub
    have vw := sr1.view rv1 (Evl.Ex.refl _) (fun _ q => q) q
    cases vw
    exact ⟨b, rfl, w1 F1 H1 e1 sr1.dropApp⟩
  · exact w1.elim
theorem sndT_B {ta : TE} {fa : XE} (ha : Snd K E ta fa) : SndT K E (tB ta) (tOf fa) := sndT_of ha
def tAnds (fa fb : XT) : XT := fun s => (fa s).bind fun (b, s1) => if b then fb s1 else .ok (false, s1)
def tOrs (fa fb : XT) : XT := fun s => (fa s).bind fun (b, s1) => if b then .ok (true, s1) else fb s1
def tNots (fa : XT) : XT := fun s => (fa s).bind fun (b, s1) => .ok (!b, s1)
theorem sndT_or {ta tb : TT} {fa fb : XT} (ha : SndT K E ta fa) (hb : SndT K E tb fb) : SndT K E (tOr ta tb) (tOrs fa fb) := fun G F T s σ H Q sr w => by
  refine ha G F T s σ H _ sr (Want.mono (Want.bind w) (Evl.Ex.refl F) fun ⟨b, s1⟩ w1 F1 H1 e1 sr1 => ?_)
  dsimp only at w1 sr1
  cases b with
  | false =>
    show tb σ H1 Q
    refine hb G F1 T s1 σ H1 Q sr1 (Want.mono w1 e1 fun x w2 F2 H2 e2 sr2 => w2 F2 H2 (e1.trans e2) sr2)
  | true => exact w1 F1 H1 e1 sr1
theorem sndT_not {ta : TT} {fa : XT} (ha : SndT K E ta fa) : SndT K E (tNot ta) (tNots fa) := fun G F T s σ H Q sr w => by
  refine ha G F T s σ H _ sr (Want.mono (Want.bind w) (Evl.Ex.refl F) fun ⟨b, s1⟩ w1 F1 H1 e1 sr1 => ?_)
  exact w1 F1 H1 e1 sr1
theorem dw_or {a b : Expr} {rest : List Expr} {ta tb : TT} {fa fb : XT} {pos : Pos} (ha : DT X E a ta fa) (hb : DW X E (.BoolOp .Or (b :: rest) pos) tb fb) : DW X E (.BoolOp .Or (a :: b :: rest) pos) (tOr ta tb) (tOrs fa fb) := ⟨pw_or ha.pt hb.pw, sndT_or ha.sd hb.sd⟩
theorem dw_or1 {a : Expr} {ta : TT} {fa : XT} {pos : Pos} (ha : DT X E a ta fa) : DW X E (.BoolOp .Or [a] pos) ta fa := ⟨pw_or1 ha.pt, ha.sd⟩
theorem DW.dt {e : Expr} {t : TT} {f : XT} (h : DW X E e t f) : DT X E e t f := ⟨h.pw.pt, h.sd⟩
theorem dt_not {a : Expr} {ta : TT} {fa : XT} {pos : Pos} (ha : DT X E a ta fa) : DT X E (.UnaryOp .Not a pos) (tNot ta) (tNots fa) := ⟨pt_not ha.pt, sndT_not ha.sd⟩
/-- an expression whose value is a bool, as a test -/
theorem dt_val {a : Expr} {ta : TE} {fa : XE} (ha : DE X E a ta fa) (he : ∀ whole, isTrue a X.env whole = (do let v ← whole; standAt a.pos; holding [v] (truthy v)) := by intro _; rfl) : DT X E a (tB ta) (tOf fa) := ⟨pt_val ha.pe he, sndT_B ha.sd⟩

/-! ### the conditional expression, and, or, not as values -/
def xIf (fc : XT) (fa fb : XE) : XE := fun s => (fc s).bind fun (b, s1) => if b then fa s1 else fb s1
theorem snd_if {tc : TT} {ta tb : TE} {fc : XT} {fa fb : XE} (hc : SndT K E tc fc) (ha : Snd K E ta fa) (hb : Snd K E tb fb) : Snd K E (tIf tc ta tb) (xIf fc fa fb) := fun G F T s σ H Q sr w => by
  refine hc G F T s σ H _ sr (Want.mono (Want.bind w) (Evl.Ex.refl F) fun ⟨b, s1⟩ w1 F1 H1 e1 sr1 => ?_)
  dsimp only at w1 sr1
  cases b with
  | true =>
    show ta σ H1 Q
    exact ha G F1 T s1 σ H1 Q sr1 (Want.mono w1 e1 fun x w2 F2 T2 H2 v2 e2 => w2 F2 T2 H2 v2 (e1.trans e2))
  | false =>
    show tb σ H1 Q
    exact hb G F1 T s1 σ H1 Q sr1 (Want.mono w1 e1 fun x w2 F2 T2 H2 v2 e2 => w2 F2 T2 H2 v2 (e1.trans e2))
theorem de_if {c a b : Expr} {tc : TT} {ta tb : TE} {fc : XT} {fa fb : XE} {pos : Pos} (hc : DT X E c tc fc) (ha : DE X E a ta fa) (hb : DE X E b tb fb) : DE X E (.IfExp c a b pos) (tIf tc ta tb) (xIf fc fa fb) := ⟨pe_ifExp hc.pt ha.pe hb.pe, snd_if hc.sd ha.sd hb.sd⟩
end
end DL

namespace DL
open Evl (Ex)
open PySem PySem.Spec PyProof.Rows L2

section
variable {K : PySem.W.Frag} {E : WX} {X : Cx} {G : En} {F F' : Hp} {T T' : List (Addr × D)} {s s' : S} {σ : L2.St} {H H' : Hp} {v : V} {d : D} {ds : List D} {i : Nat} {r : R} {Q : VK}

/-! ### data without the script: what == takes -/
mutual
def fl : Nat → D → Bool
  | _, .none => true
  | _, .bool _ => true
  | _, .int _ => true
  | _, .str x => PyData.strOk x
  | 0, .list _ => false
  | n + 1, .list ds => flAll n ds
  | 0, .tuple _ => false
  | n + 1, .tuple ds => flAll n ds
  | _, .dict _ => false
def flAll : Nat → List D → Bool
  | _, [] => true
  | n, d :: ds => fl n d && flAll n ds
end
mutual
theorem fl_can : ∀ (n : Nat) (d : D), fl n d = true → d.canLay0 = true ∧ d.depth ≤ n + 1
  | _, .none, _ => ⟨rfl, Nat.le_add_left _ _⟩
  | _, .bool _, _ => ⟨rfl, Nat.le_add_left _ _⟩
  | _, .int _, _ => ⟨rfl, Nat.le_add_left _ _⟩
  | _, .str _, h => ⟨by simpa [fl, PyData.canLay0] using h, Nat.zero_le _⟩
  | 0, .list _, h => by cases h
  | n + 1, .list ds, h => by
    have h := fl_canAll n ds h
    exact ⟨h.1, by show PyData.depthAll ds + 1 ≤ n + 1 + 1; have := h.2; omega⟩
  | 0, .tuple _, h => by cases h
  | n + 1, .tuple ds, h => by
    have h := fl_canAll n ds h
    exact ⟨h.1, by show PyData.depthAll ds + 1 ≤ n + 1 + 1; have := h.2; omega⟩
  | _, .dict _, h => by simp [fl] at h
theorem fl_canAll : ∀ (n : Nat) (ds : List D), flAll n ds = true → PyData.canLayAll0 ds = true ∧ PyData.depthAll ds ≤ n + 1
  | _, [], _ => ⟨rfl, Nat.zero_le _⟩
  | n, d :: ds, h => by
    unfold flAll at h
    have h := Bool.and_eq_true_iff.mp h
    have h1 := fl_can n d h.1
    have h2 := fl_canAll n ds h.2
    exact ⟨Bool.and_eq_true_iff.mpr ⟨h1.1, h2.1⟩, Nat.max_le.mpr ⟨h1.2, h2.2⟩⟩
end
theorem fl_shaped {d : D} (h : fl 60 d = true) : SeqAt.shaped d = true := by
  obtain ⟨h1, h2⟩ := fl_can 60 d h
  unfold SeqAt.shaped
  rw [h1, decide_eq_true (by omega)]
  rfl
mutual
theorem Rp.dp {K : PySem.W.Frag} {H : Hp} {n : Nat} : ∀ {v : V} {d : D}, Rp K H v d → fl n d = true → Dp K H v d
  | _, _, .non, _ => .non
  | _, _, .bl b, _ => .bl b
  | _, _, .int i, _ => .int i
  | _, _, .str x, _ => .str x
  | _, _, .lst h a _, e => by
    cases n with
    | zero => simp [fl] at e
    | succ n => exact .lst (.of h) (RpAll.dp a e)
  | _, _, .tup h a _, e => by
    cases n with
    | zero => simp [fl] at e
    | succ n => exact .tup h.sq (RpAll.dp a e)
  | _, _, .scr h, e => by simp [scrD, fl] at e
theorem RpAll.dp {K : PySem.W.Frag} {H : Hp} {n : Nat} : ∀ {vs : List V} {ds : List D}, RpAll K H vs ds → flAll n ds = true → DpAll K H vs ds
  | _, _, .nil, _ => .nil
  | _, _, .cons a b, e => by
    unfold flAll at e
    have e := Bool.and_eq_true_iff.mp e
    exact .cons (Rp.dp a e.1) (RpAll.dp b e.2)
end
theorem View.dp {x : V} {a : D} (ex : Ex F H) (va : View K F H x a) (e : fl 60 a = true) : Dp K H x a := Rp.dp (va.rp ex) e

/-! ### + - * // % ** -/
def hAdd : D → D → Option RD
  | .int i, .int j => some (.val (.int (i + j)))
  | .list a, .list b => if a.length + b.length ≤ line then some (.lst (a ++ b)) else none
  | .tuple a, .tuple b => if a.length + b.length ≤ line then some (.tup (a ++ b)) else none
  | .str a, .str b => if a.length + b.length ≤ line then some (.val (.str (a ++ b))) else none
  | _, _ => none
def rAddAll (K : PySem.W.Frag) : R2 := fun x y H Q => (rI0 (fun i j => .int (i + j)) x y H Q ∨ rCat x y H Q) ∨ (rCatF K x y H Q ∨ (∃ i j, x = .str i ∧ y = .str j ∧ i.length + j.length ≤ sizeLine ∧ Q (.str (i ++ j)) H))
theorem op_addAll : OpR X (binaryOp .Add) (rAddAll X.K) := (op_add.or op_cat).or (op_catF.or op_add_str)
theorem o_add : Op2 K (rAddAll K) hAdd := by
  intro F H x y a b rd Q ex va vb e q
  cases va <;> cases vb <;> simp only [hAdd, scrD, reduceCtorEq, Option.some.injEq, Option.ite_none_right_eq_some] at e
  · obtain ⟨hl, rfl⟩ := e
    rename_i p vs ds hp hd hz p2 vs2 ds2 hp2 hd2 hz2
    exact .inl (.inr ⟨p, p2, vs, vs2, rfl, rfl, hp, hp2, by rw [hd.length, hd2.length, ← line_eq]; exact hl, fun q1 hq => q (by rw [List.length_append]; exact hl) q1 _ hq (hd.append hd2)⟩)
  · obtain ⟨hl, rfl⟩ := e
    rename_i p vs ds hp hd hz p2 vs2 ds2 hp2 hd2 hz2
    replace q := q (by rw [List.length_append]; exact hl)
    refine .inr (.inl ⟨p, p2, vs, vs2, rfl, rfl, (hp.ex ex).sq, (hp2.ex ex).sq, by rw [hd.length, hd2.length, ← line_eq]; exact hl, fun z => ?_, fun _ z => ?_, fun _ _ => q.1 _ (hd.append hd2)⟩)
    · subst z
      cases hd
      exact q.2 _ (.tup hp2 hd2 hz2)
    · subst z
      cases hd2
      rw [List.append_nil] at q
      exact q.2 _ (.tup hp hd hz)
  · cases e
    exact .inl (.inl ⟨_, _, rfl, rfl, q _ (.int _)⟩)
  · obtain ⟨hl, rfl⟩ := e
    exact .inr (.inr ⟨_, _, rfl, rfl, by rw [← line_eq]; exact hl, q _ (.str _)⟩)

def hSub : D → D → Option RD
  | .int i, .int j => some (.val (.int (i - j)))
  | _, _ => none
theorem o_sub : Op2 K (rI0 fun i j => .int (i - j)) hSub := by
  intro F H x y a b rd Q ex va vb e q
  cases va <;> cases vb <;> simp only [hSub, scrD, reduceCtorEq, Option.some.injEq] at e
  subst e
  exact ⟨_, _, rfl, rfl, q _ (.int _)⟩
def two64 : Nat := 18446744073709551616
def mulOk (i j : Int) : Bool := decide (i.natAbs < two64) || decide (j.natAbs < two64)
def hMul : D → D → Option RD
  | .int i, .int j => if mulOk i j then some (.val (.int (i * j))) else none
  | .list a, .int k => if a.length * k.toNat ≤ line ∧ -1000000 ≤ k ∧ k ≤ 100000000 then some (.lst (List.replicate k.toNat a).flatten) else none
  | .tuple a, .int k => if a ≠ [] ∧ 2 ≤ k ∧ k ≤ 1000 ∧ a.length ≤ 1000 then some (.tup (List.replicate k.toNat a).flatten) else none
  | _, _ => none
def rMulAll (K : PySem.W.Frag) : R2 := fun x y H Q => (rI CMul (fun i j => .int (i * j)) x y H Q) ∨ (rRep x y H Q ∨ rRepF K x y H Q)
theorem op_mulAll : OpR X (binaryOp .Mult) (rMulAll X.K) := op_mul.or (op_rep.or op_repF)
theorem mulOk_c {i j : Int} (h : mulOk i j = true) : CMul i j := by
  unfold mulOk two64 at h
  rw [Bool.or_eq_true, decide_eq_true_eq, decide_eq_true_eq] at h
  rcases h with h | h
  · exact .inl (by omega)
  · exact .inr (by omega)
theorem rep_all {F : Hp} {vs : List V} {ds : List D} (h : RpAll K F vs ds) : ∀ n : Nat, RpAll K F (List.replicate n vs).flatten (List.replicate n ds).flatten
  | 0 => .nil
  | n + 1 => by
    rw [List.replicate_succ, List.replicate_succ, List.flatten_cons, List.flatten_cons]
    exact h.append (rep_all h n)
theorem rep_len {α : Type} (a : List α) (n : Nat) : (List.replicate n a).flatten.length = n * a.length := by
  induction n with
  | zero => simp
  | succ n ih => rw [List.replicate_succ, List.flatten_cons, List.length_append, ih, Nat.succ_mul, Nat.add_comm]
theorem o_mul : Op2 K (rMulAll K) hMul := by
  intro F H x y a b rd Q ex va vb e q
  cases va <;> cases vb <;> simp only [hMul, scrD, reduceCtorEq, Option.some.injEq, Option.ite_none_right_eq_some] at e
  · obtain ⟨⟨h1, h2, h3⟩, rfl⟩ := e
    rename_i p vs ds hp hd hz k
    exact .inr (.inl ⟨p, k, vs, rfl, rfl, hp, by omega, by omega, by rw [hd.length, ← line_eq]; exact h1, fun q1 hq => q (by rw [rep_len, Nat.mul_comm]; exact h1) q1 _ hq (rep_all hd _)⟩)
  · obtain ⟨⟨h0, h1, h2, h3⟩, rfl⟩ := e
    rename_i p vs ds hp hd hz k
    have hm : k.toNat * ds.length ≤ 1000 * 1000 := Nat.mul_le_mul (by omega) h3
    exact .inr (.inr ⟨p, k, vs, rfl, rfl, (hp.ex ex).sq, (fun z => h0 (by subst z; cases hd; rfl)), h1, h2, by rw [hd.length]; exact h3, (q (by rw [rep_len]; unfold line; omega)).1 _ (rep_all hd _)⟩)
  · obtain ⟨h, rfl⟩ := e
    exact .inl ⟨_, _, rfl, rfl, mulOk_c h, q _ (.int _)⟩
/-- // of a divisor above 0 -/
def hDiv : D → D → Option RD
  | .int i, .int j => if 0 < j ∧ j.natAbs.log2 < 9000 then some (.val (.int (i / j))) else none
  | _, _ => none
theorem o_div : Op2 K (rI CDivW fun i j => .int (i / j)) hDiv := by
  intro F H x y a b rd Q ex va vb e q
  cases va <;> cases vb <;> simp only [hDiv, scrD, reduceCtorEq, Option.some.injEq, Option.ite_none_right_eq_some] at e
  obtain ⟨h, rfl⟩ := e
  exact ⟨_, _, rfl, rfl, h, q _ (.int _)⟩
def hMod : D → D → Option RD
  | .int i, .int j => if 0 < j then some (.val (.int (i % j))) else none
  | _, _ => none
theorem o_mod : Op2 K (rI (fun _ j => 0 < j) fun i j => .int (i % j)) hMod := by
  intro F H x y a b rd Q ex va vb e q
  cases va <;> cases vb <;> simp only [hMod, scrD, reduceCtorEq, Option.some.injEq, Option.ite_none_right_eq_some] at e
  obtain ⟨h, rfl⟩ := e
  exact ⟨_, _, rfl, rfl, h, q _ (.int _)⟩
def hPow : D → D → Option RD
  | .int i, .int j => if 0 ≤ j ∧ j ≤ 1000000 ∧ i.natAbs < two64 then some (.val (.int (i ^ j.toNat))) else none
  | _, _ => none
theorem o_pow : Op2 K (rI CPow fun i j => .int (i ^ j.toNat)) hPow := by
  intro F H x y a b rd Q ex va vb e q
  cases va <;> cases vb <;> simp only [hPow, scrD, reduceCtorEq, Option.some.injEq, Option.ite_none_right_eq_some] at e
  obtain ⟨⟨h1, h2, h3⟩, rfl⟩ := e
  exact ⟨_, _, rfl, rfl, ⟨h1, h2, by unfold two64 at h3; omega⟩, q _ (.int _)⟩
def hNeg : D → Option RD
  | .int i => some (.val (.int (-i)))
  | _ => none
theorem o_neg : Op1 K (rU fun i => .int (-i)) hNeg := by
  intro F H x a rd Q ex va e q
  cases va <;> simp only [hNeg, scrD, reduceCtorEq, Option.some.injEq] at e
  subst e
  exact ⟨_, rfl, q _ (.int _)⟩
section
variable {a b : Expr} {ta tb : TE} {fa fb : XE} {pos : Pos}
theorem de_add (ha : DE X E a ta fa) (hb : DE X E b tb fb) : DE X E (.BinOp a .Add b pos) (tOp (rAddAll X.K) ta tb) (xOp2 hAdd fa fb) := ⟨pe_op op_addAll ha.pe hb.pe, snd_op2 o_add ha.sd hb.sd⟩
theorem de_sub (ha : DE X E a ta fa) (hb : DE X E b tb fb) : DE X E (.BinOp a .Sub b pos) (tOp (rI0 fun i j => .int (i - j)) ta tb) (xOp2 hSub fa fb) := ⟨pe_op op_sub ha.pe hb.pe, snd_op2 o_sub ha.sd hb.sd⟩
theorem de_mul (ha : DE X E a ta fa) (hb : DE X E b tb fb) : DE X E (.BinOp a .Mult b pos) (tOp (rMulAll X.K) ta tb) (xOp2 hMul fa fb) := ⟨pe_op op_mulAll ha.pe hb.pe, snd_op2 o_mul ha.sd hb.sd⟩
theorem de_div (ha : DE X E a ta fa) (hb : DE X E b tb fb) : DE X E (.BinOp a .FloorDiv b pos) (tOp (rI CDivW fun i j => .int (i / j)) ta tb) (xOp2 hDiv fa fb) := ⟨pe_op op_fdivW ha.pe hb.pe, snd_op2 o_div ha.sd hb.sd⟩
theorem de_mod (ha : DE X E a ta fa) (hb : DE X E b tb fb) : DE X E (.BinOp a .Mod b pos) (tOp (rI (fun _ j => 0 < j) fun i j => .int (i % j)) ta tb) (xOp2 hMod fa fb) := ⟨pe_op op_mod ha.pe hb.pe, snd_op2 o_mod ha.sd hb.sd⟩
theorem de_pow (ha : DE X E a ta fa) (hb : DE X E b tb fb) : DE X E (.BinOp a .Pow b pos) (tOp (rI CPow fun i j => .int (i ^ j.toNat)) ta tb) (xOp2 hPow fa fb) := ⟨pe_op op_pow ha.pe hb.pe, snd_op2 o_pow ha.sd hb.sd⟩
theorem de_neg (ha : DE X E a ta fa) : DE X E (.UnaryOp .USub a pos) (tUn (rU fun i => .int (-i)) ta) (xOp1 hNeg fa) := ⟨pe_un un_neg ha.pe, snd_op1 o_neg ha.sd⟩
end

/-! ### comparisons -/
def hEq : D → D → Option RD := fun a b => if fl 60 a && fl 60 b then some (.val (.bool (PyData.eqv a b))) else none
def hNe : D → D → Option RD := fun a b => if fl 60 a && fl 60 b then some (.val (.bool (!PyData.eqv a b))) else none
theorem o_eq : Op2 K (rEqD K) hEq := by
  intro F H x y a b rd Q ex va vb e q
  simp only [hEq, Option.ite_none_right_eq_some, Bool.and_eq_true, Option.some.injEq] at e
  obtain ⟨⟨h1, h2⟩, rfl⟩ := e
  exact ⟨a, b, va.dp ex h1, vb.dp ex h2, fl_shaped h1, fl_shaped h2, q _ (.bl _)⟩
theorem o_ne : Op2 K (rNeD K) hNe := by
  intro F H x y a b rd Q ex va vb e q
  simp only [hNe, Option.ite_none_right_eq_some, Bool.and_eq_true, Option.some.injEq] at e
  obtain ⟨⟨h1, h2⟩, rfl⟩ := e
  exact ⟨a, b, va.dp ex h1, vb.dp ex h2, fl_shaped h1, fl_shaped h2, q _ (.bl _)⟩
def hLt : D → D → Option RD
  | .int i, .int j => some (.val (.bool (decide (i < j))))
  | _, _ => none
def hLe : D → D → Option RD
  | .int i, .int j => some (.val (.bool (decide (i ≤ j))))
  | _, _ => none
def hGt : D → D → Option RD
  | .int i, .int j => some (.val (.bool (decide (j < i))))
  | _, _ => none
def hGe : D → D → Option RD
  | .int i, .int j => some (.val (.bool (decide (j ≤ i))))
  | _, _ => none
theorem o_cmp {p : Int → Int → Bool} {h : D → D → Option RD} (hh : ∀ i j, h (.int i) (.int j) = some (.val (.bool (p i j)))) (hn : ∀ a b, h a b ≠ none → ∃ i j, a = .int i ∧ b = .int j) : Op2 K (rI0 fun i j => .bl (p i j)) h := by
  intro F H x y a b rd Q ex va vb e q
  obtain ⟨i, j, rfl, rfl⟩ := hn a b (by rw [e]; simp)
  rw [hh] at e
  cases e
  cases va
  cases vb
  exact ⟨_, _, rfl, rfl, q _ (.bl _)⟩
theorem o_lt : Op2 K (rI0 fun i j => .bl (decide (i < j))) hLt := o_cmp (fun _ _ => rfl) fun a b => by
  cases a <;> cases b <;> simp [hLt]
theorem o_gt : Op2 K (rI0 fun i j => .bl (decide (j < i))) hGt := o_cmp (fun _ _ => rfl) fun a b => by
  cases a <;> cases b <;> simp [hGt]
def hIs : D → D → Option RD
  | a, .none => some (.val (.bool (match a with | .none => true | _ => false)))
  | _, _ => none
def hIsNot : D → D → Option RD
  | a, .none => some (.val (.bool (match a with | .none => false | _ => true)))
  | _, _ => none
theorem o_is : Op2 K (fun x y H Q => y = .non ∧ Q (.bl (decide (x = .non))) H) hIs := by
  intro F H x y a b rd Q ex va vb e q
  cases vb <;> simp only [hIs, scrD, reduceCtorEq, Option.some.injEq] at e
  subst e
  refine ⟨rfl, ?_⟩
  cases va <;> exact q _ (.bl _)
section
variable {a b : Expr} {ta tb : TE} {fa fb : XE} {pos : Pos} {op : CmpOp} {r : R2} {h : D → D → Option RD}
theorem de_cmp (ho : OpR X (compareOp op) r) (o : Op2 X.K r h) (ha : DE X E a ta fa) (hb : DE X E b tb fb) (hm : behindInMarks op b = false := by first | exact nomark _ | rfl) : DE X E (.Compare a [op] [b] pos) (tOp r ta tb) (xOp2 h fa fb) :=
  ⟨pe_cmpR ho ha.pe hb.pe hm, snd_op2 o ha.sd hb.sd⟩
theorem dt_cmp (ho : OpR X (compareOp op) r) (o : Op2 X.K r h) (ha : DE X E a ta fa) (hb : DE X E b tb fb) (hm : behindInMarks op b = false := by first | exact nomark _ | rfl) : DT X E (.Compare a [op] [b] pos) (tTest (tOp r ta tb)) (tOf (xOp2 h fa fb)) :=
  ⟨pt_cmpR ho ha.pe hb.pe hm, sndT_of (snd_op2 o ha.sd hb.sd)⟩
end
/-- a < b < c -/
def xChain (h h' : D → D → Option RD) (fa fb fc : XE) : XE := fun s => (fa s).bind fun (ra, s1) => (fb s1).bind fun (rb, s2) => match getR s2 ra, getR s2 rb with
  | some a, some b => (match h a b with
    | some (.val (.bool true)) => (fc s2).bind fun (rc, s3) => (match getR s3 rb, getR s3 rc with
      | some b', some c => fin (h' b' c) s3
      | _, _ => .bad)
    | some (.val (.bool false)) => .ok (.val (.bool false), s2)
    | _ => .bad)
  | _, _ => .bad
section
variable {a b c : Expr} {ta tb tc : TE} {fa fb fc : XE} {pos : Pos} {op op' : CmpOp} {r r' : R2} {h h' : D → D → Option RD}
end

/-! ### subscripts, slices -/
theorem RpAll.at_ {F : Hp} {vs : List V} {ds : List D} {i : Int} {d : D} (h : RpAll K F vs ds) (e : atI ds i = some d) : ∃ v, atI vs i = some v ∧ Rp K F v d := by
  unfold atI at e ⊢
  rw [h.length]
  cases q : ixN ds.length i with
  | none => rw [q] at e; cases e
  | some j =>
    rw [q] at e
    exact h.get (show ds[j]? = some d from e)
/-- a sign of a text, by its place -/
def hIx : D → D → Option RD
  | .list ds, .int i => (atI ds i).map .val
  | .tuple ds, .int i => (atI ds i).map .val
  | .str z, .int i => if z.length ≤ line then (atI z.cps.toList i).map fun c => .val (.str ⟨#[c]⟩) else none
  | .dict [(.list [], .list ds)], .int i => (match atI ds i with
    | some (.int n) => some (.val (.int n))
    | _ => none)
  | _, _ => none
theorem atI_map {α β : Type} (f : α → β) (xs : List α) (i : Int) : atI (xs.map f) i = (atI xs i).map f := by
  unfold atI
  rw [List.length_map]
  cases ixN xs.length i with
  | none => rfl
  | some j => show (xs.map f)[j]? = (xs[j]?).map f; rw [List.getElem?_map]
theorem o_ix : Op2 K (rIx K) hIx := by
  intro F H x y a b rd Q ex va vb e q
  cases va <;> cases vb <;> simp only [hIx, scrD, reduceCtorEq, Option.map_eq_some_iff, Option.ite_none_right_eq_some] at e
  · obtain ⟨d, h1, rfl⟩ := e
    rename_i p vs ds hp hd hz i
    obtain ⟨v, hv, hr⟩ := hd.at_ h1
    exact .inl ⟨p, vs, i, v, rfl, rfl, .of hp, hv, q v hr⟩
  · rename_i p ns hp i
    rw [atI_map] at e
    cases hn : atI ns i with
    | none => rw [hn] at e; cases e
    | some n =>
      rw [hn] at e
      cases e
      exact .inl ⟨p, _, i, .int n, rfl, rfl, Evl.ex_l ex hp, by rw [atI_map, hn]; rfl, q _ (.int n)⟩
  · rename_i p kvs ds hp hd hz i
    exfalso
    cases hd with
    | nil => cases e
    | cons a b =>
      rename_i k _ _ _ _
      cases k <;> cases e
  · obtain ⟨d, h1, rfl⟩ := e
    rename_i p vs ds hp hd hz i
    obtain ⟨v, hv, hr⟩ := hd.at_ h1
    exact .inr (.inl ⟨p, vs, i, v, rfl, rfl, (hp.ex ex).sq, hv, q v hr⟩)
  · obtain ⟨hl, c, h1, rfl⟩ := e
    exact .inr (.inr ⟨_, _, c, rfl, rfl, by rw [← line_eq]; exact hl, h1, q _ (.str _)⟩)
theorem de_ix {a b : Expr} {ta tb : TE} {fa fb : XE} {pos : Pos} (ha : DE X E a ta fa) (hb : DE X E b tb fb) (hs : PlainIx b := by exact fun _ _ => rfl) : DE X E (.Subscript a b pos) (tOp (rIx X.K) ta tb) (xOp2 hIx fa fb) :=
  ⟨pe_ix ix_seq ha.pe hb.pe hs, snd_op2 o_ix ha.sd hb.sd⟩
/-- a part of a slice -/
abbrev XO := S → Out (Option Int × S)
def OP (K : PySem.W.Frag) (G : En) (F : Hp) (T : List (Addr × D)) (σ : L2.St) (Q : Option Int → Hp → Prop) (x : Option Int × S) : Prop := ∀ F' H', Ex F F' → SR K G F' T x.2 σ H' → Q x.1 H'
def SndO (K : PySem.W.Frag) (E : WX) (t : TO) (f : XO) : Prop := ∀ G F T s σ H Q, SR K G F T s σ H → Want K G E F (f s) (OP K G F T σ Q) → t σ H Q
structure DO (X : Cx) (E : WX) (e : Option Expr) (t : TO) (f : XO) : Prop where
  po : PO X e t
  sd : SndO X.K E t f
def oNone : XO := fun s => .ok (none, s)
def oSome (fa : XE) : XO := fun s => (fa s).bind fun (r, s1) => match getR s1 r with
  | some (.int i) => .ok (some i, s1)
  | _ => .bad
theorem do_none : DO X E none tNoPart oNone := ⟨po_none, fun G F T s σ H Q sr w => w F H (Evl.Ex.refl F) sr⟩
theorem do_some {e : Expr} {te : TE} {fa : XE} (ha : DE X E e te fa) : DO X E (some e) (tPart te) (oSome fa) := ⟨po_some ha.pe, fun G F T s σ H Q sr w => by
  refine ha.sd G F T s σ H _ sr (w.bind.mono (Evl.Ex.refl F) fun ⟨ra, s1⟩ w1 F1 T1 H1 v1 e1 sr1 rv1 => ?_)
  dsimp only at w1 sr1 rv1
  split at w1
  · rename_i i q
    obtain ⟨pre, rfl⟩ := rv1.sub
    have vw := sr1.view rv1 (Evl.Ex.refl _) (fun _ q => q) q
    cases vw
    exact ⟨i, rfl, w1 F1 H1 e1 sr1.dropApp⟩
  · exact w1.elim⟩
def cutD (ds : List D) (lo hi : Option Int) : List D := (ds.drop (HT.sIx ds.length 0 lo)).take (HT.sIx ds.length ds.length hi - HT.sIx ds.length 0 lo)
theorem cutD_length (ds : List D) (lo hi : Option Int) : (cutD ds lo hi).length ≤ ds.length := by
  unfold cutD
  rw [List.length_take, List.length_drop]
  omega
def hSl : D → Option Int → Option Int → Option RD
  | .list ds, lo, hi => some (.lst (cutD ds lo hi))
  | .tuple ds, lo, hi => some (.tup (cutD ds lo hi))
  | .str z, lo, hi => if z.length ≤ line then some (.val (.str (cutS z lo hi))) else none
  | _, _, _ => none
def rSlAll (K : PySem.W.Frag) : V → Option Int → Option Int → Hp → VK → Prop := fun x lo hi H Q => rSlL K x lo hi H Q ∨ (rSlF K x lo hi H Q ∨ rSlS x lo hi H Q)
theorem sl_all : SlR X (rSlAll X.K) := sl_list.or (sl_tupF.or sl_str)
def xSl (fe : XE) (fl fh : XO) : XE := fun s => (fe s).bind fun (r, s1) => (fl s1).bind fun (lo, s2) => (fh s2).bind fun (hi, s3) => match getR s3 r with
  | some d => fin (hSl d lo hi) s3
  | none => .bad
theorem cut_all {vs : List V} {ds : List D} (h : RpAll K F vs ds) (lo hi : Option Int) : RpAll K F (cutV vs lo hi) (cutD ds lo hi) := by
  unfold cutV cutD
  rw [h.length]
  exact (h.drop _).take _
theorem snd_sl {te : TE} {tl th : TO} {fe : XE} {f1 f2 : XO} (he : Snd K E te fe) (h1 : SndO K E tl f1) (h2 : SndO K E th f2) : Snd K E (tSl (rSlAll K) te tl th) (xSl fe f1 f2) := fun G F T s σ H Q sr w => by
  refine he G F T s σ H _ sr (w.bind.mono (Evl.Ex.refl F) fun ⟨ra, s1⟩ w1 F1 T1 H1 v1 e1 sr1 rv1 => ?_)
  refine h1 G F1 T1 s1 σ H1 _ sr1 (w1.bind.mono e1 fun ⟨lo, s2⟩ w2 F2 H2 e2 sr2 => ?_)
  refine h2 G F2 T1 s2 σ H2 _ sr2 (w2.bind.mono (e1.trans e2) fun ⟨hi, s3⟩ w3 F3 H3 e3 sr3 => ?_)
  dsimp only at w3 sr3 rv1
  split at w3
  · rename_i d qd
    have vd := sr3.view rv1 (e2.trans e3) (fun _ q => q) qd
    obtain ⟨rd, h3, w4⟩ := want_fin (α := Unit) w3
    have res := res_of ((e1.trans e2).trans e3) sr3 rv1.sub w4
    cases vd <;> simp only [hSl, scrD, reduceCtorEq, Option.some.injEq, Option.ite_none_right_eq_some] at h3
    · subst h3
      rename_i p vs ds hp hd hz
      exact .inl ⟨p, vs, rfl, .of hp, fun q hq => res (Nat.le_trans (cutD_length ds lo hi) hz) q _ hq (cut_all hd lo hi)⟩
    · subst h3
      rename_i p vs ds hp hd hz
      replace res := res (Nat.le_trans (cutD_length ds lo hi) hz)
      refine .inr (.inl ⟨p, vs, rfl, (hp.ex sr3.fh).sq, fun hw => ?_, fun _ => res.1 _ (cut_all hd lo hi)⟩)
      have ew : cutD ds lo hi = ds := by
        rw [hd.length] at hw
        unfold cutD
        rw [hw.1, hw.2, List.drop_zero, Nat.sub_zero, List.take_length]
      rw [ew] at res
      exact res.2 _ (.tup hp hd hz)
    · obtain ⟨hl, rfl⟩ := h3
      exact .inr (.inr ⟨_, rfl, by rw [← line_eq]; exact hl, res _ (.str _)⟩)
  · exact w3.elim
theorem de_sl {e : Expr} {lo hi : Option Expr} {te : TE} {tl th : TO} {fe : XE} {f1 f2 : XO} {p2 pos : Pos} (he : DE X E e te fe) (h1 : DO X E lo tl f1) (h2 : DO X E hi th f2) : DE X E (.Subscript e (.Slice lo hi none p2) pos) (tSl (rSlAll X.K) te tl th) (xSl fe f1 f2) :=
  ⟨pe_slice sl_all he.pe h1.po h2.po, snd_sl he.sd h1.sd h2.sd⟩
end
end DL

namespace DL
open Evl (Ex)
open PySem PySem.Spec PyProof.Rows L2

section
variable {K : PySem.W.Frag} {E : WX} {X : Cx} {G : En} {F F' : Hp} {T T' : List (Addr × D)} {s s' : S} {σ : L2.St} {H H' : Hp} {v : V} {d : D} {ds : List D} {i : Nat} {r : R} {Q : VK}

theorem FP.mono {Dn : Ends} {x : Fl} (h : FP K G F Dn x) (e : Ex F F') : FP K G F' Dn x := by
  cases x with
  | nx s => exact fun F2 σ' H' e2 => h F2 σ' H' (e.trans e2)
  | bk s => exact fun F2 σ' H' e2 => h F2 σ' H' (e.trans e2)
  | ct s => exact fun F2 σ' H' e2 => h F2 σ' H' (e.trans e2)
  | rt r s => exact fun F2 T' σ' H' v e2 => h F2 T' σ' H' v (e.trans e2)

/-! ### blocks -/
def sNil : XS := fun s => .ok (.nx s)
def sSeq (f g : XS) : XS := fun s => (f s).bind fun fl => match fl with
  | .nx s1 => g s1
  | fl => .ok fl
theorem dss_nil : DSs X E [] tNext sNil := ⟨pss_nil, fun G F s σ H Dn sr w => w F σ H (Evl.Ex.refl F) sr⟩
theorem sndS_seq {t u : TS} {f g : XS} (h1 : SndS K E t f) (h2 : SndS K E u g) : SndS K E (tSeq t u) (sSeq f g) := fun G F s σ H Dn sr w => by
  refine h1 G F s σ H { Dn with nx := u Dn } sr (Want.mono (Want.bind w) (Evl.Ex.refl F) fun fl w1 => ?_)
  cases fl with
  | nx s1 => exact fun F1 σ1 H1 e1 sr1 => h2 G F1 s1 σ1 H1 Dn sr1 (Want.mono w1 e1 fun x wx => wx.mono e1)
  | bk s1 => exact w1
  | ct s1 => exact w1
  | rt r s1 => exact w1
theorem dss_cons {st : Stmt} {rest : List Stmt} {t u : TS} {f g : XS} (h1 : DS X E st t f) (h2 : DSs X E rest u g) : DSs X E (st :: rest) (tSeq t u) (sSeq f g) := ⟨pss_cons h1.ps h2.ps, sndS_seq h1.sd h2.sd⟩
theorem dss_one {st : Stmt} {t : TS} {f : XS} (h1 : DS X E st t f) : DSs X E [st] t f := ⟨pss_one h1.ps, h1.sd⟩
def sPass : XS := fun s => .ok (.nx s)
def sBreak : XS := fun s => .ok (.bk s)
def sCont : XS := fun s => .ok (.ct s)
def sBad : XS := fun _ => .bad
def sExpr (fe : XE) : XS := fun s => (fe s).bind fun (_, s1) => .ok (.nx s1)
theorem ds_expr {e : Expr} {te : TE} {fe : XE} {pos : Pos} (he : DE X E e te fe) (hs : swapsWith e none pos.line X.env = pure false := by rfl) : DS X E (.Expr e pos) (tDrop te) (sExpr fe) := ⟨ps_expr he.pe hs, fun G F s σ H Dn sr w => by
  refine he.sd G F [] s σ H _ sr (w.bind.mono (Evl.Ex.refl F) fun ⟨r, s1⟩ w1 F1 T1 H1 v1 e1 sr1 rv1 => ?_)
  obtain ⟨pre, q⟩ := rv1.sub
  subst q
  exact w1 F1 σ H1 e1 sr1.dropApp⟩
/-- what is handed back: a value, or a list of nobody else's -/
def sRet (fe : XE) : XS := fun s => (fe s).bind fun (r, s1) => match r with
  | .slot i => (match getS s1 i with
    | some (.own none d) => .ok (.rt (.new d) (s1.set i none))
    | some (.val d) => .ok (.rt (.val d) s1)
    | _ => .bad)
  | r => .ok (.rt r s1)
theorem SR.take {p : Addr} (h : SR K G F T s σ H) (q : getS s i = some (.own none d)) (hp : σ[i]? = some (some (.ref p))) : SR K G F ((p, d) :: T) (s.set i none) σ H := by
  obtain ⟨p', a, o, nt⟩ := h.ow i none d q
  rw [hp] at a; cases a
  have f := h.forget (i := i)
  refine ⟨f.fh, f.fe, f.gr, f.kp, f.ioh, f.sl, fun j k e z => ?_, f.di, List.pairwise_cons.mpr ⟨fun r hr z => nt r hr z.symm, f.tn⟩, fun r hr => ?_, f.len⟩
  · obtain ⟨p2, a, b, c⟩ := f.ow j k e z
    refine ⟨p2, a, b, fun r hr => ?_⟩
    rcases List.mem_cons.mp hr with rfl | hr
    · intro y
      have y : p = p2 := y
      subst y
      rcases getS_set z with ⟨_, z2⟩ | ⟨n, z2⟩
      · cases z2
      · exact n (h.di j i _ _ _ _ p z2 q a hp)
    · exact c r hr
  · rcases List.mem_cons.mp hr with rfl | hr
    · exact o
    · exact f.tt r hr
theorem ds_ret {e : Expr} {te : TE} {fe : XE} {pos : Pos} (he : DE X E e te fe) : DS X E (.Return (some e) pos) (tRet te) (sRet fe) := ⟨ps_ret he.pe, fun G F s σ H Dn sr w => by
  refine he.sd G F [] s σ H _ sr (w.bind.mono (Evl.Ex.refl F) fun ⟨r, s1⟩ w1 F1 T1 H1 v1 e1 sr1 rv1 => ?_)
  cases r with
  | val d => exact w1 F1 T1 σ H1 v1 e1 sr1 rv1
  | new d => exact w1 F1 T1 σ H1 v1 e1 sr1 rv1
  | slot i =>
    dsimp only at w1 sr1
    obtain ⟨hv, rfl⟩ := rv1
    split at w1
    · rename_i d q
      obtain ⟨p, a, _⟩ := sr1.ow i none d q
      rw [hv] at a; cases a
      exact w1 F1 _ σ H1 _ e1 (sr1.take q hv) ⟨p, rfl, rfl⟩
    · rename_i d q
      obtain ⟨w, a, b⟩ := sr1.sl i d q
      rw [hv] at a; cases a
      exact w1 F1 [] σ H1 _ e1 sr1 ⟨b, rfl⟩
    · exact w1.elim⟩
def sRetN : XS := fun s => .ok (.rt (.val .none) s)
def sIf (fc : XT) (f g : XS) : XS := fun s => (fc s).bind fun (b, s1) => if b then f s1 else g s1
theorem ds_if {c : Expr} {a b : List Stmt} {tc : TT} {t u : TS} {fc : XT} {f g : XS} {pos : Pos} (hc : DT X E c tc fc) (ha : DSs X E a t f) (hb : DSs X E b u g) : DS X E (.If c a b pos) (tIfS tc t u) (sIf fc f g) := ⟨ps_if hc.pt ha.ps hb.ps, fun G F s σ H Dn sr w => by
  refine hc.sd G F [] s σ H _ sr (Want.mono (Want.bind w) (Evl.Ex.refl F) fun ⟨b, s1⟩ w1 F1 H1 e1 sr1 => ?_)
  dsimp only at w1 sr1
  cases b with
  | true =>
    show t Dn σ H1
    exact ha.sd G F1 s1 σ H1 Dn sr1 (Want.mono w1 e1 fun x wx => wx.mono e1)
  | false =>
    show u Dn σ H1
    exact hb.sd G F1 s1 σ H1 Dn sr1 (Want.mono w1 e1 fun x wx => wx.mono e1)⟩

/-! ### name = e -/
/-- a result to a slot -/
def putR (s : S) (i : Nat) : R → Option S
  | .val d => some (s.set i (some (.val d)))
  | .new d => some (s.set i (some (.own none d)))
  | .slot j => match frz s (.slot j) with
    | some (d, s1) => some (s1.set i (some (.val d)))
    | none => none
theorem SR.put {F0 : Hp} (h : SR K G F T' s σ H) (rv : RV K F0 σ T r v T') (ex : Ex F0 F) (e : putR s i r = some s') : ∃ F', Ex F F' ∧ SR K G F' T s' (σ.set i (some v)) H := by
  cases r with
  | val d =>
    cases e
    obtain ⟨a, rfl⟩ := rv
    exact ⟨F, Evl.Ex.refl F, h.setVal (a.mono ex)⟩
  | new d =>
    cases e
    obtain ⟨p, rfl, rfl⟩ := rv
    exact ⟨F, Evl.Ex.refl F, h.setNew⟩
  | slot j =>
    have e' : (match DL.frz s (.slot j) with
      | some (d, s1) => some (s1.set i (some (.val d)))
      | none => none) = some s' := e
    cases q : DL.frz s (.slot j) with
    | none => rw [q] at e'; cases e'
    | some y =>
      obtain ⟨d, s1⟩ := y
      rw [q] at e'
      cases e'
      obtain ⟨F1, e1, sr1, hd⟩ := h.frz rv ex q
      exact ⟨F1, e1, sr1.setVal hd⟩
def sSet (i : Nat) (fe : XE) : XS := fun s => (fe s).bind fun (r, s1) => match putR s1 i r with
  | some s2 => .ok (.nx s2)
  | none => .bad
theorem sndS_set {te : TE} {fe : XE} (he : Snd K E te fe) : SndS K E (tAsg te (gName i)) (sSet i fe) := fun G F s σ H Dn sr w => by
  refine he G F [] s σ H _ sr (w.bind.mono (Evl.Ex.refl F) fun ⟨r, s1⟩ w1 F1 T1 H1 v1 e1 sr1 rv1 => ?_)
  dsimp only at w1 sr1 rv1
  split at w1
  · rename_i s2 q
    obtain ⟨F2, e2, sr2⟩ := sr1.put rv1 (Evl.Ex.refl _) q
    exact w1 F2 _ H1 (e1.trans e2) sr2
  · exact w1.elim
theorem ds_set {i : Nat} {x : Str} {e : Expr} {te : TE} {fe : XE} {pos pos' : Pos} (hN : X.N.Nodup) (hi : X.N[i]? = some x) (hx : Loc X.env.scope x) (he : DE X E e te fe) (hs : swapsWith e (some (.Name x pos')) pos.line X.env = pure false := by rfl) (hf : X.fn x = true ∨ X.env.scope.names.lookup x = some .local := by first | exact .inl rfl | exact .inr rfl | assumption) :
    DS X E (.Assign [.Name x pos'] e pos) (tAsg te (gName i)) (sSet i fe) := ⟨ps_set hN hi hx he.pe hs hf, sndS_set he.sd⟩
/-- a, b = x, y and a, b, c = x, y, z, told as one after another from the right (no tuple) -/
def putRs (s : S) : List Nat → List R → Option S
  | [], [] => some s
  | i :: is, r :: rs => match putRs s is rs with
    | some s1 => putR s1 i r
    | none => none
  | _, _ => none
theorem SR.puts {F0 : Hp} {rs : List R} {vs : List V} (rv : RVs K F0 σ T rs vs T') : ∀ {is : List Nat} {F : Hp} {s s' : S}, is.Nodup → (∀ i ∈ is, ∀ r ∈ rs, r ≠ .slot i) → SR K G F T' s σ H → Ex F0 F → putRs s is rs = some s' →
    ∃ F', Ex F F' ∧ SR K G F' T s' ((is.zip vs).foldr (fun p σ => σ.set p.1 (some p.2)) σ) H := by
  induction rv with
  | nil =>
    intro is F s s' nd hn sr ex e
    cases is with
    | nil => cases e; exact ⟨F, Evl.Ex.refl F, sr⟩
    | cons i is => cases e
  | cons a b ih =>
    rename_i T3 T4 T5 r rs v vs
    intro is F s s' nd hn sr ex e
    cases is with
    | nil => cases e
    | cons i is =>
      unfold putRs at e
      split at e
      · rename_i s1 q1
        obtain ⟨ni, nd2⟩ := List.nodup_cons.mp nd
        obtain ⟨F1, e1, sr1⟩ := ih nd2 (fun j hj r' hr => hn j (List.mem_cons_of_mem _ hj) r' (List.mem_cons_of_mem _ hr)) sr ex q1
        -- the slots that the rest was put into are none of r's
        have keep : ∀ (l : List (Nat × V)) (σ0 : L2.St) (j : Nat), (∀ p ∈ l, p.1 ≠ j) → (l.foldr (fun p σ => σ.set p.1 (some p.2)) σ0)[j]? = σ0[j]? := fun l σ0 j hl => by
          induction l with
          | nil => rfl
          | cons p l ih2 =>
            rw [List.foldr_cons, List.getElem?_set_ne (hl p List.mem_cons_self)]
            exact ih2 fun q hq => hl q (List.mem_cons_of_mem _ hq)
        have rv2 : RV K F0 ((is.zip vs).foldr (fun p σ => σ.set p.1 (some p.2)) σ) T3 r v T4 := by
          cases r with
          | val d => exact a
          | new d => exact a
          | slot j =>
            refine ⟨?_, a.2⟩
            rw [keep]
            · exact a.1
            · intro p hp z
              have : p.1 ∈ is := (List.of_mem_zip (a := p.1) (b := p.2) hp).1
              rw [z] at this
              exact hn j (List.mem_cons_of_mem _ this) _ List.mem_cons_self rfl
        obtain ⟨F2, e2, sr2⟩ := sr1.put rv2 (ex.trans e1) e
        exact ⟨F2, e1.trans e2, sr2⟩
      · cases e
def noSlot (is : List Nat) : List R → Bool
  | [] => true
  | .slot j :: rs => !(is.contains j) && noSlot is rs
  | _ :: rs => noSlot is rs
theorem noSlot_ok {is : List Nat} : ∀ {rs : List R}, noSlot is rs = true → ∀ i ∈ is, ∀ r ∈ rs, r ≠ .slot i
  | [], _, _, _, _, h => absurd h (by simp)
  | r0 :: rs, h, i, hi, r, hr => by
    rcases List.mem_cons.mp hr with rfl | hr
    · cases r with
      | val d => intro z; cases z
      | new d => intro z; cases z
      | slot j =>
        intro z
        cases z
        unfold noSlot at h
        have := (Bool.and_eq_true_iff.mp h).1
        simp [hi] at this
    · have h2 : noSlot is rs = true := by
        cases r0 with
        | val d => exact h
        | new d => exact h
        | slot j => unfold noSlot at h; exact (Bool.and_eq_true_iff.mp h).2
      exact noSlot_ok h2 i hi r hr
/-- slots that are asked for and stored too: frozen first -/
def sPar (is : List Nat) (fa : XA) : XS := fun s => (fa s).bind fun (rs, s1) => if noSlot is rs then (match putRs s1 is rs with
    | some s2 => .ok (.nx s2)
    | none => .bad)
  else (match frzs s1 rs with
    | some (ds, s2) => (match putRs s2 is (ds.map .val) with
      | some s3 => .ok (.nx s3)
      | none => .bad)
    | none => .bad)
theorem rvs_vals {ds : List D} {vs : List V} (h : RpAll K F vs ds) : RVs K F σ T (ds.map .val) vs T := by
  induction ds generalizing vs with
  | nil => cases h; exact .nil
  | cons d ds ih => cases h with
    | cons a b => exact .cons ⟨a, rfl⟩ (ih b)
theorem noSlot_vals (is : List Nat) : ∀ ds : List D, noSlot is (ds.map .val) = true
  | [] => rfl
  | _ :: ds => noSlot_vals is ds
theorem RVs.len {F0 : Hp} {rs : List R} {vs : List V} (h : RVs K F0 σ T rs vs T') : vs.length = rs.length := by
  induction h with
  | nil => rfl
  | cons _ _ ih => rw [List.length_cons, List.length_cons, ih]
theorem putRs_len : ∀ {is : List Nat} {rs : List R} {s s' : S}, putRs s is rs = some s' → is.length = rs.length
  | [], [], _, _, _ => rfl
  | [], _ :: _, _, _, h => by cases h
  | _ :: _, [], _, _, h => by cases h
  | i :: is, r :: rs, s, s', h => by
    unfold putRs at h
    split at h
    · rename_i s1 q
      rw [List.length_cons, List.length_cons, putRs_len q]
    · cases h
theorem par_ok {F0 : Hp} {is : List Nat} {rs : List R} {vs : List V} {P : Fl → Prop} (nd : is.Nodup) (sr : SR K G F T' s σ H) (rv : RVs K F0 σ T rs vs T') (ex : Ex F0 F)
    (w : Want K G E F (if noSlot is rs then (match putRs s is rs with
      | some s2 => Out.ok (Fl.nx s2)
      | none => .bad) else (match frzs s rs with
      | some (ds, s2) => (match putRs s2 is (ds.map .val) with
        | some s3 => .ok (.nx s3)
        | none => .bad)
      | none => .bad)) P) : ∃ F' s', Ex F F' ∧ SR K G F' T s' ((is.zip vs).foldr (fun p σ => σ.set p.1 (some p.2)) σ) H ∧ is.length = vs.length ∧ P (.nx s') := by
  split at w
  · rename_i hn
    split at w
    · rename_i s2 q
      obtain ⟨F2, e2, sr2⟩ := SR.puts rv nd (noSlot_ok hn) sr ex q
      exact ⟨F2, s2, e2, sr2, (putRs_len q).trans rv.len.symm, w⟩
    · exact w.elim
  · split at w
    · rename_i ds s2 q
      obtain ⟨F1, e1, sr1, h1⟩ := SR.frzs rv sr ex q
      split at w
      · rename_i s3 q3
        obtain ⟨F2, e2, sr2⟩ := SR.puts (rvs_vals h1) nd (noSlot_ok (noSlot_vals is ds)) sr1 (Evl.Ex.refl _) q3
        exact ⟨F2, s3, e1.trans e2, sr2, (putRs_len q3).trans (by rw [List.length_map, h1.length]), w⟩
      · exact w.elim
    · exact w.elim
theorem ds_par2 {i j : Nat} {x y : Str} {a b : Expr} {ta : TA} {fa : XA} {px py pt : Pos} {kt k2 pt2 pos} (hc : X.calm = true) (hN : X.N.Nodup) (hi : X.N[i]? = some x) (hj : X.N[j]? = some y) (hij : i ≠ j)
    (hx : X.env.scope.names.lookup x = some .local) (hy : X.env.scope.names.lookup y = some .local) (ha : DA X E [a, b] ta fa)
    (hw : swappedStores [.Tuple [.Name x px, .Name y py] kt pt] (.Tuple [a, b] k2 pt2) X.env = pure (some [x, y]))
    (hs : swapsWithSole [.Tuple [.Name x px, .Name y py] kt pt] (.Tuple [a, b] k2 pt2) pos.line X.env = pure false := by rfl) :
    DS X E (.Assign [.Tuple [.Name x px, .Name y py] kt pt] (.Tuple [a, b] k2 pt2) pos) (tPar i j ta) (sPar [i, j] fa) := ⟨ps_par hc hN hi hj hij hx hy ha.pa hw hs, fun G F s σ H Dn sr w => by
  refine ha.sd G F [] s σ H _ sr (w.bind.mono (Evl.Ex.refl F) fun ⟨rs, s1⟩ w1 F1 T1 H1 vs e1 sr1 rv1 => ?_)
  dsimp only at w1 sr1 rv1
  obtain ⟨F2, s2, e2, sr2, hl, w3⟩ := par_ok (K := X.K) (E := E) (is := [i, j]) (P := FP X.K G F1 Dn) (by simp [hij]) sr1 rv1 (Evl.Ex.refl _) (Want.mono w1 e1 fun x (wx : FP X.K G F Dn x) => wx.mono e1)
  obtain ⟨v, w, rfl⟩ : ∃ v w, vs = [v, w] := by
    match vs, hl with
    | [v, w], _ => exact ⟨v, w, rfl⟩
  refine ⟨v, w, rfl, ?_⟩
  rw [List.set_comm _ _ hij]
  exact w3 F2 _ H1 e2 sr2⟩
/-! ### targets -/
abbrev XG := D → S → Option S
def SndG (K : PySem.W.Frag) (vs : List Nat) (tg : TG) (g : XG) : Prop := ∀ G F T s σ H x d Q s', SR K G F T s σ H → Rp K F x d → g d s = some s' →
  (∀ σ', SR K G F T s' σ' H → (∀ ws, (∀ i ∈ vs, i ∈ ws) → wipe σ' ws = wipe σ ws) → Q σ' H) → tg x σ H Q
def SndGs (K : PySem.W.Frag) (vs : List Nat) (tg : TGs) (g : List D → S → Option S) : Prop := ∀ G F T s σ H xs ds Q s', SR K G F T s σ H → RpAll K F xs ds → g ds s = some s' →
  (∀ σ', SR K G F T s' σ' H → (∀ ws, (∀ i ∈ vs, i ∈ ws) → wipe σ' ws = wipe σ ws) → Q σ' H) → tg xs σ H Q
structure DG (X : Cx) (vs : List Nat) (e : Expr) (t : TG) (g : XG) : Prop where
  pg : PG X e t
  sd : SndG X.K vs t g
structure DGs (X : Cx) (vs : List Nat) (es : List Expr) (t : TGs) (g : List D → S → Option S) : Prop where
  pg : PGs X es t
  sd : SndGs X.K vs t g
theorem wipe_set {σ : L2.St} {i : Nat} {x : Option V} : ∀ {ws : List Nat}, i ∈ ws → wipe (σ.set i x) ws = wipe σ ws
  | [], h => absurd h (by simp)
  | w :: ws, h => by
    unfold wipe
    by_cases e : i = w
    · subst e
      by_cases hm : i ∈ ws
      · rw [wipe_set hm]
      · have : ∀ (ws : List Nat) (σ : L2.St), i ∉ ws → wipe (σ.set i x) ws = (wipe σ ws).set i x := fun ws => by
          induction ws with
          | nil => intro σ _; rfl
          | cons w ws ih =>
            intro σ hn
            unfold wipe
            rw [ih σ (fun z => hn (List.mem_cons_of_mem _ z)), List.set_comm]
            intro z
            exact hn (by rw [z]; exact List.mem_cons_self)
        rw [this ws σ hm, List.set_set]
    · rcases List.mem_cons.mp h with z | z
      · exact absurd z e
      · rw [wipe_set z]
def gN (i : Nat) : XG := fun d s => some (s.set i (some (.val d)))
theorem dg_name {i : Nat} {x : Str} {pos : Pos} (hN : X.N.Nodup) (hi : X.N[i]? = some x) (hx : Loc X.env.scope x) (hf : X.fn x = true ∨ X.env.scope.names.lookup x = some .local := by first | exact .inl rfl | exact .inr rfl | assumption) : DG X [i] (.Name x pos) (gName i) (gN i) :=
  ⟨pg_name hN hi hx hf, fun G F T s σ H x d Q s' sr hd e q => by
    cases e
    exact q _ (sr.setVal hd) fun ws hw => wipe_set (hw i (by simp))⟩
def gsNil : List D → S → Option S := fun ds s => match ds with
  | [] => some s
  | _ => none
def gsCons (g : XG) (h : List D → S → Option S) : List D → S → Option S := fun ds s => match ds with
  | [] => none
  | d :: r => match g d s with
    | some s1 => h r s1
    | none => none
def gT (g : List D → S → Option S) : XG := fun d s => match d with
  | .tuple ds => g ds s
  | _ => none
theorem dgs_nil : DGs X [] [] gNil gsNil := ⟨pgs_nil, fun G F T s σ H xs ds Q s' sr hd e q => by
  cases hd with
  | nil => cases e; exact ⟨rfl, q σ sr fun _ _ => rfl⟩
  | cons _ _ => cases e⟩
theorem dgs_cons {e : Expr} {es : List Expr} {t : TG} {u : TGs} {g : XG} {h : List D → S → Option S} {vs ws : List Nat} (h1 : DG X vs e t g) (h2 : DGs X ws es u h)
    (hs : (assignEach (e :: es) X.env).map (·.2) = assign e X.env :: (assignEach es X.env).map (·.2) := by rfl) : DGs X (vs ++ ws) (e :: es) (gCons t u) (gsCons g h) := ⟨pgs_cons h1.pg h2.pg hs, fun G F T s σ H xs ds Q s' sr hd e q => by
  cases hd with
  | nil => cases e
  | cons a b =>
    rename_i v vs' d ds'
    have e' : (match g d s with
      | some s1 => h ds' s1
      | none => none) = some s' := e
    split at e'
    · rename_i s1 q1
      refine ⟨v, vs', rfl, h1.sd G F T s σ H v d _ s1 sr a q1 fun σ1 sr1 k1 => ?_⟩
      refine h2.sd G F T s1 σ1 H vs' ds' Q s' sr1 b e' fun σ2 sr2 k2 => ?_
      exact q σ2 sr2 fun zs hz => (k2 zs fun i hi => hz i (List.mem_append_right _ hi)).trans (k1 zs fun i hi => hz i (List.mem_append_left _ hi))
    · cases e'⟩
theorem dg_tup {es : List Expr} {k : Nat} {t : TGs} {n : Nat} {pos : Pos} {vs : List Nat} {g : List D → S → Option S} (hc : X.calm = true) (h : DGs X vs es t g) (hlen : ∀ ds s s', g ds s = some s' → ds.length = n)
    (hn : (assignEach es X.env).length = n := by rfl) (hst : (assignEach es X.env).findIdx? (·.1) = none := by rfl) : DG X vs (.Tuple es k pos) (gTup X.K n t) (gT g) := ⟨pg_tup hc h.pg hn hst, fun G F T s σ H x d Q s' sr hd e q => by
  cases hd with
  | tup a b z =>
    rename_i p xs ds
    have e' : g ds s = some s' := e
    exact ⟨p, xs, rfl, (a.ex sr.fh).sq, b.length.trans (hlen _ _ _ e'), h.sd G F T s σ H xs ds Q s' sr b e' q⟩
  | _ => cases e⟩
theorem gs_len_nil : ∀ ds s s', gsNil ds s = some s' → ds.length = 0 := fun ds s s' e => by
  cases ds with
  | nil => rfl
  | cons _ _ => cases e
theorem gs_len_cons {g : XG} {h : List D → S → Option S} {n : Nat} (hl : ∀ ds s s', h ds s = some s' → ds.length = n) : ∀ ds s s', gsCons g h ds s = some s' → ds.length = n + 1 := fun ds s s' e => by
  cases ds with
  | nil => cases e
  | cons d r =>
    have e' : (match g d s with
      | some s1 => h r s1
      | none => none) = some s' := e
    split at e'
    · rw [List.length_cons, hl _ _ _ e']
    · cases e'
/-- target = e, the target a tuple of names -/
def sTup (g : XG) (fe : XE) : XS := fun s => (fe s).bind fun (r, s1) => match frz s1 r with
  | some (d, s2) => (match g d s2 with
    | some s3 => .ok (.nx s3)
    | none => .bad)
  | none => .bad
theorem ds_asg {tg e : Expr} {te : TE} {tG : TG} {g : XG} {fe : XE} {vs : List Nat} {pos : Pos} (he : DE X E e te fe) (hg : DG X vs tg tG g) (hs : swapsWithSole [tg] e pos.line X.env = pure false := by rfl) (hw : swappedStores [tg] e X.env = pure none := by rfl)
    (h1 : (assignEach [tg] X.env).map (·.2) = [assign tg X.env] := by rfl) : DS X E (.Assign [tg] e pos) (tAsg te tG) (sTup g fe) := ⟨ps_asg he.pe hg.pg hs hw h1, fun G F s σ H Dn sr w => by
  refine he.sd G F [] s σ H _ sr (w.bind.mono (Evl.Ex.refl F) fun ⟨r, s1⟩ w1 F1 T1 H1 v1 e1 sr1 rv1 => ?_)
  dsimp only at w1 sr1 rv1
  split at w1
  · rename_i d s2 q
    obtain ⟨F2, e2, sr2, hd⟩ := sr1.frz rv1 (Evl.Ex.refl _) q
    split at w1
    · rename_i s3 q3
      exact hg.sd G F2 [] s2 σ H1 v1 d _ s3 sr2 hd q3 fun σ3 sr3 _ => w1 F2 σ3 H1 (e1.trans e2) sr3
    · exact w1.elim
  · exact w1.elim⟩
end
end DL

namespace DL
open Evl (Ex)
open PySem PySem.Spec PyProof.Rows L2 PySem.W

section
variable {K : PySem.W.Frag} {E : WX} {X : Cx} {G : En} {F F' : Hp} {T T' : List (Addr × D)} {s s' : S} {σ : L2.St} {H H' : Hp} {v : V} {d : D} {ds : List D} {i : Nat} {r : R} {Q : VK}

/-! ### what is walked -/
def ItemOk (K : PySem.W.Frag) (F H : Hp) (x : V) (H' : Hp) (d : D) : Prop :=
  (H' = H ∧ Rp K F x d) ∨ ∃ p vs es, ∃ o : Obj, o.dict = none ∧ x = .ref p ∧ H p = none ∧ H' = upd H p (.frz o (.tup vs)) ∧ d = .tuple es ∧ RpAll K F vs es ∧ es.length ≤ line
structure Wk (K : PySem.W.Frag) (F : Hp) (J : It) (ds : List D) : Prop where
  go : ∀ i d H, ds[i]? = some d → Ex F H → J.go i H ∧ ∀ x H', J.yld i H x H' → ItemOk K F H x H' d
  stop : ∀ H, Ex F H → J.stop ds.length H
  len : ds.length ≤ line
abbrev XI := S → Out (List D × S)
def IP (K : PySem.W.Frag) (G : En) (F : Hp) (T : List (Addr × D)) (σ : L2.St) (R : It → Hp → Prop) (x : List D × S) : Prop :=
  ∀ F' H' J, Ex F F' → SR K G F' T x.2 σ H' → Wk K F' J x.1 → R J H'
def SndI (K : PySem.W.Frag) (E : WX) (wi : TI) (f : XI) : Prop := ∀ G F T s σ H R, SR K G F T s σ H → Want K G E F (f s) (IP K G F T σ R) → wi σ H R
structure DI (X : Cx) (E : WX) (tg e : Expr) (wi : TI) (f : XI) : Prop where
  pi : PI X tg e wi
  sd : SndI X.K E wi f
def iSeq (K : PySem.W.Frag) (tl : TE) : TI := fun σ H R => tl σ H fun x H1 => (∃ a, x = .ref a ∧ (∃ xs, SqL K H1 a xs) ∧ R (Itl K a) H1) ∨ (∃ a, x = .ref a ∧ (∃ xs, SqT K H1 a xs) ∧ R (Itt K a) H1) ∨ ∃ z, x = .str z ∧ R (Its z) H1
theorem pi_seq {tg l : Expr} {tl : TE} (hl : PE X l tl) : PI X tg l (iSeq X.K tl) := by
  refine ⟨fun pins s σ H R I h => ?_⟩
  refine thn (hl.run pins s σ H _ I h) fun v s1 ⟨x, H1, I1, r1, q1⟩ => ?_
  rcases q1 with ⟨a, e, ⟨xs, hq⟩, q⟩ | ⟨a, e, ⟨xs, hq⟩, q⟩ | ⟨z, e, q⟩
  · subst e
    cases r1
    obtain ⟨its, rv, p, hz⟩ := I1.list hq
    refine wpAny_pyIter_list p.isList ?_
    refine ⟨s1.heap.objs.size, [s1.heap.objs.size], _, _, H1, rfl, I1.kept (t' := s1.toks) fun b o e => Heap.get?_push_of_some _ e, turn_list a _, ⟨_, Heap.get?_push_size _ rfl, rfl, rfl⟩, fun b hb => ?_, q⟩
    have e : b = s1.heap.objs.size := by simpa using hb
    subst e
    exact I1.fpOk (Nat.le_refl _) (I1.hok.fresh (Nat.le_refl _))
  · subst e
    cases r1
    obtain ⟨its, rv, p, hz⟩ := I1.tuple hq
    refine wpAny_pyIter_tuple (show s1.heap.IsTuple a its.toArray from p) ?_
    refine ⟨s1.heap.objs.size, [s1.heap.objs.size], _, _, H1, rfl, I1.kept (t' := s1.toks) fun b o e => Heap.get?_push_of_some _ e, turn_tuple a _, ⟨_, Heap.get?_push_size _ rfl, rfl, rfl⟩, fun b hb => ?_, q⟩
    have e : b = s1.heap.objs.size := by simpa using hb
    subst e
    exact I1.fpOk (Nat.le_refl _) (I1.hok.fresh (Nat.le_refl _))
  · subst e
    obtain ⟨t, rfl⟩ := r1
    cases ha : z.cps.all (· < 128)
    · exact wpAny_pyIter_wide ha (pi_one (tk := s1.toks) I1 _ (turn_str _ z t "str_iterator" (.inr rfl)) ⟨_, Heap.get?_push_size _ rfl, rfl, rfl⟩ q)
    · exact wpAny_pyIter_ascii ha (pi_one (tk := s1.toks) I1 _ (turn_str _ z t "str_ascii_iterator" (.inl rfl)) ⟨_, Heap.get?_push_size _ rfl, rfl, rfl⟩ q)
/-! ### list or tuple (b: a list) -/
def SqB (b : Bool) (K : PySem.W.Frag) (H : Hp) (a : Addr) (xs : List V) : Prop := if b then SqL K H a xs else SqT K H a xs
def IterB (b : Bool) (h : Heap) (it a : Addr) (i : Nat) : Prop := if b then h.IsListIter it a i else h.IsTupleIter it a i
def IsB (b : Bool) (h : Heap) (a : Addr) (items : Array Value) : Prop := if b then h.IsList a items else h.IsTuple a items
theorem SqB.items {b : Bool} {pins : List (Addr × Obj)} {sh : Shared} {a : Addr} {xs : List V} (h : SqB b X.K H a xs) (I : Inv X pins σ H sh) : ∃ its : List Value, Vals xs its ∧ IsB b sh.heap a its.toArray ∧ ∃ ob, sh.heap.get? a = some ob ∧ (ob.cls = .type "list" ∨ ob.cls = .type "tuple") := by
  cases b with
  | true =>
    obtain ⟨its, rv, p, _⟩ := I.list h
    obtain ⟨o, n, e, c, d⟩ := id p
    exact ⟨its, rv, p.isList, o, e, .inl c⟩
  | false =>
    obtain ⟨its, rv, p, _⟩ := I.tuple h
    obtain ⟨o, e, c, d⟩ := id p
    exact ⟨its, rv, p, o, e, .inr c⟩
theorem SqB.inj {b : Bool} {pins : List (Addr × Obj)} {sh : Shared} {a : Addr} {xs ys : List V} (h : SqB b X.K H a xs) (h' : SqB b X.K H a ys) (I : Inv X pins σ H sh) : xs = ys := by
  cases b with
  | true => exact I.list_inj h h'
  | false => exact I.tuple_inj h h'
theorem drawsB {prog : Program} {w : World} {A : Around} (b : Bool) (hh : A.handled = none) (it a : Addr) (hne : a ≠ it) (items : Array Value) :
    Draws prog w A it [it, a] items.size (fun i v => items[i]? = some v) (fun i h => IterB b h it a i ∧ IsB b h a items) := by
  cases b with
  | true => exact Draws.list hh it a hne items
  | false => exact Draws.tuple hh it a hne items
def beginB (b : Bool) (a : Addr) : Obj := { cls := .type (if b then "list_iterator" else "tuple_iterator"), data := .fields #[.ref a, .int 0 0] }
theorem beginsB (b : Bool) (a : Addr) (items : Array Value) : Begins (.ref a) (beginB b a) fun h => IsB b h a items := by
  cases b with
  | true => exact begins_list a items
  | false => exact begins_tuple a items
theorem IterB.at_ {b : Bool} {h h' : Heap} {it a : Addr} {i : Nat} (x : IterB b h it a i) (k : ∀ o, h.get? it = some o → h'.get? it = some o) : IterB b h' it a i := by
  cases b with
  | true => exact Heap.IsListIter.at (show h.IsListIter it a i from x) k
  | false => exact Heap.IsTupleIter.at (show h.IsTupleIter it a i from x) k
theorem IterB.obj {b : Bool} {h : Heap} {it a : Addr} {i : Nat} (x : IterB b h it a i) : ∃ o, h.get? it = some o ∧ (∀ v, o.data ≠ .cell v) ∧ (o.cls = .type "list_iterator" ∨ o.cls = .type "tuple_iterator") := by
  cases b with
  | true =>
    obtain ⟨o, e, c, d⟩ := (show h.IsListIter it a i from x)
    exact ⟨o, e, (fun v z => by rw [d] at z; cases z), .inl c⟩
  | false =>
    obtain ⟨o, e, c, d⟩ := (show h.IsTupleIter it a i from x)
    exact ⟨o, e, (fun v z => by rw [d] at z; cases z), .inr c⟩
theorem IterB.new {b : Bool} {h : Heap} {it a : Addr} (e : h.get? it = some (beginB b a)) : IterB b h it a 0 := by
  cases b with
  | true => exact ⟨_, e, rfl, rfl⟩
  | false => exact ⟨_, e, rfl, rfl⟩

theorem meets_enumerate_new1 {v : Value} {o : Obj} {Hd : Heap → Prop} (B : Begins v o Hd) :
    Meets (Builtin.«enumerate.__new__» ⟨[.type "enumerate", v], []⟩) (fun _ R s => Hd s.heap ∧
      R (.ok (.ret (.ref (s.heap.push o).objs.size))) { s with heap := (s.heap.push o).push { cls := .type "enumerate", data := .fields #[.none, .bool false, .ref s.heap.objs.size, rawInt 0, .none, .none] } }) :=
  .of_wp fun prog w A R s h => by
    obtain ⟨hp, g, d, tk, os⟩ := s; obtain ⟨h1, h⟩ := h
    have hsub := sub_enumerate
    have q1 : ∀ {A' : Around} {E : Value → Shared → Prop} {Q : Value → Shared → Prop}, Q (.ref hp.objs.size) ⟨hp.push o, g, d, tk, os⟩ → wpAny (model prog w) A' (pyIter v) Q E ⟨hp, g, d, tk, os⟩ :=
      fun q => B.iter prog w _ _ ⟨hp, g, d, tk, os⟩ _ h1 q
    wp_walk using q1
    refine wpAny_stack_any fun st => wpAny_pure ?_
    split
    · rename_i c _ _ _ _ _
      cases (c == Value.type "enumerate")
      · wp_walk using q1
        exact ⟨_, rfl, h⟩
      · wp_walk using q1
        exact ⟨_, rfl, h⟩
    · wp_walk using q1
      exact ⟨_, rfl, h⟩
theorem call_enumerate_any {prog : Program} {w : World} {A : Around} {Ex : Value → Shared → Prop} {sh : Shared} {v : Value} {o : Obj} {Hd : Heap → Prop} {Q : Value → Shared → Prop} (B : Begins v o Hd) (h1 : Hd sh.heap)
    (h : ∀ h', IsEnum h' (sh.heap.objs.size + 1) sh.heap.objs.size 0 .none → h'.get? sh.heap.objs.size = some o → h'.objs.size = sh.heap.objs.size + 2 →
      (∀ b o, sh.heap.get? b = some o → h'.get? b = some o) → Q (.ref (sh.heap.objs.size + 1)) { sh with heap := h' }) :
    wpAny (model prog w) A (call (.type "enumerate") [v]) Q Ex sh := by
  refine callType_new F.called_enumerate (by decide) (F.typeCall_enumerate_1 _) (F.newCall_enumerate_1 _) (fun obj => F.args_object_init_2 obj _) F.entry_enumerate_new
    (meets_enumerate_new1 B) ⟨h1, ?_⟩
  have hz : (sh.heap.push o).objs.size = sh.heap.objs.size + 1 := Heap.size_push ..
  show _ ∧ _
  rw [hz]
  have he : IsEnum ((sh.heap.push o).push { cls := .type "enumerate", data := .fields #[.none, .bool false, .ref sh.heap.objs.size, rawInt 0, .none, .none] }) (sh.heap.objs.size + 1) sh.heap.objs.size 0 .none := by
    have := Heap.get?_push_size (sh.heap.push o) (o := { cls := .type "enumerate", data := .fields #[.none, .bool false, .ref sh.heap.objs.size, rawInt 0, .none, .none] }) rfl
    rw [hz] at this; exact this
  exact ⟨⟨_, he, rfl⟩, h _ he (Heap.get?_push_of_some _ (Heap.get?_push_size _ B.free)) (by rw [Heap.size_push, hz]) fun b o x => Heap.get?_push_of_some _ (Heap.get?_push_of_some _ x)⟩
def IteB (b : Bool) (K : PySem.W.Frag) (a : Addr) : It :=
  ⟨fun i H => ∃ (xs : List V) (x : V), SqB b K H a xs ∧ xs[i]? = some x, fun i H v H' => ∃ T x, ∃ o : Obj, o.dict = none ∧ v = .ref T ∧ H T = none ∧ H' = upd H T (.frz o (.tup [.int (i : Nat), x])) ∧ ∀ xs, SqB b K H a xs → xs[i]? = some x, fun i H => ∃ xs : List V, SqB b K H a xs ∧ xs.length = i⟩
theorem turn_enumB {P : Program} {w : World} {K : PySem.W.Frag} {elts : List Expr} {kk : Nat} {tpos : Pos} (b : Bool) (a e it : Addr) :
    Turn P w K (.Tuple elts kk tpos) (IteB b K a) [e, it] e (fun i h => (∃ old, IsEnum h e it ((i : Nat) : Int) old) ∧ IterB b h it a i ∧ e ≠ it) where
  mem := by simp
  obj := fun i h st c hb => by
    obtain ⟨⟨old, he⟩, hi, _⟩ := st
    obtain ⟨o, ho, hd, _⟩ := hi.obj
    have e' : c = e ∨ c = it := by simpa using hb
    rcases e' with z | z
    · rw [z]; exact ⟨_, he, fun v q => nomatch q⟩
    · rw [z]; exact ⟨o, ho, hd⟩
  keep := fun i h h' st k => let ⟨⟨old, he⟩, hi, hne⟩ := st; ⟨⟨old, k e (by simp) _ he⟩, hi.at_ fun o q => k it (by simp) o q, hne⟩
  item := by
    intro X hP hw hK hc i pins s σ H E I hf st hg
    subst hP hw hK
    obtain ⟨⟨old, he⟩, hit, hne⟩ := st
    obtain ⟨xs, x, hq, hx⟩ := hg
    obtain ⟨its, rv, p, ob, hob, hoc⟩ := hq.items I
    obtain ⟨u, hu, ru⟩ := rv.get hx
    have hel : e < s.heap.objs.size := Heap.lt_size he
    obtain ⟨oi, hoi, _, hci⟩ := hit.obj
    have hil : it < s.heap.objs.size := Heap.lt_size hoi
    have nai : a ≠ it := fun z => by
      subst z
      rw [hob] at hoi; cases hoi
      rcases hoc with q | q <;> rcases hci with q' | q' <;> (rw [q] at q'; exact absurd (Value.type.inj q') (by decide))
    have nea : e ≠ a := fun z => by
      subst z
      have he' : s.heap.get? e = some _ := he
      rw [hob] at he'; cases he'
      rcases hoc with q | q <;> exact absurd (Value.type.inj q) (by decide)
    refine wpAny_pyNext_enum_itemC (drawsB (prog := X.prog) (w := X.w) (A := X.A.in1) b (I.ok.hd hc) it a nai its.toArray) he ⟨hit, p⟩ (by have := (List.getElem?_eq_some_iff.mp hu).1; rw [List.size_toArray]; exact this) hne (by simp [hne, nea]) fun x' h' tk hP ho hst' hT hsz hk => ?_
    have ex : x' = u := by
      have q : its.toArray[i]? = some x' := hP
      rw [List.getElem?_toArray, hu] at q
      exact (Option.some.inj q).symm
    subst ex
    refine ⟨_, rfl, wpAny_letOwnedTupleGo_enum (s := { s with heap := h', toks := tk + 1 }) ho fun h'' he' sb => ?_⟩
    have hT2 : h''.get? s.heap.objs.size = some { cls := .type "tuple", data := .seq #[.int i tk, x'] } := (sb.2 _ (Nat.ne_of_gt hel)).trans hT
    have new : ObjOk X.prog X.w (upd H s.heap.objs.size (.frz { cls := .type "tuple", data := .seq [Value.int i tk, x'].toArray } (.tup [.int (i : Nat), x]))) h'' s.heap.objs.size (.frz { cls := .type "tuple", data := .seq [Value.int i tk, x'].toArray } (.tup [.int (i : Nat), x])) :=
      frz_ok (by show 2 ≤ sizeLine; decide) (.cons ⟨_, rfl⟩ (.cons ru .nil)) hT2
    have I1 : Inv X pins σ (upd H s.heap.objs.size (.frz { cls := .type "tuple", data := .seq [Value.int i tk, x'].toArray } (.tup [.int (i : Nat), x]))) { s with heap := h'', toks := tk + 1 } :=
      I.turnedNew (ch := [e, it]) (fun b ob hb q => (sb.2 b (fun z => hb (by simp [z]))).trans (hk b ob (fun z => hb (by simp [z])) (fun z => hb (by simp [z])) q)) hf (Nat.le_refl _) new
    refine ⟨.ref s.heap.objs.size, _, I1, rfl, ⟨_, x, _, rfl, rfl, I.hok.fresh (Nat.le_refl _), rfl, fun ys hy => by rw [hy.inj hq I]; exact hx⟩, ⟨⟨x', ?_⟩, hst'.1.at_ fun o q => (sb.2 it (Ne.symm hne)).trans q, hne⟩, fun b hb => ?_⟩
    · have e1 : ((i + 1 : Nat) : Int) = (i : Int) + 1 := by omega
      rw [e1]; exact he'
    · have hb' : b < s.heap.objs.size := by
        have e' : b = e ∨ b = it := by simpa using hb
        rcases e' with z | z
        · rw [z]; exact hel
        · rw [z]; exact hil
      rw [upd_ne (Nat.ne_of_lt hb')]
      exact (hf b hb).1
  done := by
    intro X hP hw hK hc i pins s σ H E I hf st hg
    subst hP hw hK
    obtain ⟨⟨old, he⟩, hit, hne⟩ := st
    obtain ⟨xs, hq, hx⟩ := hg
    obtain ⟨its, rv, p, ob, hob, hoc⟩ := hq.items I
    obtain ⟨oi, hoi, _, hci⟩ := hit.obj
    have nai : a ≠ it := fun z => by
      subst z
      rw [hob] at hoi; cases hoi
      rcases hoc with q | q <;> rcases hci with q' | q' <;> (rw [q] at q'; exact absurd (Value.type.inj q') (by decide))
    obtain ⟨f0, f1, f2, f3, f4, f5⟩ := hf it (by simp)
    have hl := rv.length
    have es : its.toArray.size = i := by rw [List.size_toArray]; omega
    refine wpAny_pyNext_enum_endD (drawsB (prog := X.prog) (w := X.w) (A := X.A.in1) b (I.ok.hd hc) it a nai its.toArray) he (by rw [es]; exact ⟨hit, p⟩) fun h' eb => ⟨rfl, I.turned (t' := s.toks) (fun b o hb q => eb b o hb q) f0 f1 f3 f4 f5⟩
  self := fun A i s Q E st h => let ⟨⟨_, he⟩, _⟩ := st; wpAny_pyIter_enum he h
def iEnumB (K : PySem.W.Frag) (ta : TA) : TI := fun σ H R => ta σ H fun vs H1 => ∃ b a xs, vs = [.ref a] ∧ SqB b K H1 a xs ∧ R (IteB b K a) H1
theorem pi_enumB {e : Expr} {ta : TA} {p pos tpos : Pos} {elts : List Expr} {kk : Nat} (hg : Gl X "enumerate") (hm : X.mg "enumerate" = none) (ha : PA X [e] ta) (hs : starEach [e] X.env = [(false, eval e X.env)] := by rfl) :
    PI X (.Tuple elts kk tpos) (.Call (.Name "enumerate" p) [e] [] pos) (iEnumB X.K ta) := by
  refine ⟨fun pins s σ H R I h => ?_⟩
  refine Call_ (ld_blt I hg hm boot_enumerate (PyProof.Rows.callWith_type1 (thn (ha.run pos pins s σ H _ I h) fun us s1 ⟨vs, H1, I1, r1, q1⟩ => ?_) hs rfl))
  obtain ⟨b, a, xs, ex, hq, q⟩ := q1
  subst ex
  cases r1 with
  | cons r rr =>
    cases rr
    cases r
    obtain ⟨its, rv, p', _⟩ := hq.items I1
    refine call_enumerate_any (beginsB b a its.toArray) p' fun h' he hit hsz hk => wpAny_pyIter_enum he ?_
    have I2 : Inv X pins σ H1 { s1 with heap := h' } := I1.kept (t' := s1.toks) hk
    refine ⟨s1.heap.objs.size + 1, [s1.heap.objs.size + 1, s1.heap.objs.size], _, _, H1, rfl, I2, turn_enumB b a (s1.heap.objs.size + 1) s1.heap.objs.size, ⟨⟨.none, he⟩, .new hit, Nat.succ_ne_self _⟩, fun c hb => ?_, q⟩
    have e' : c = s1.heap.objs.size + 1 ∨ c = s1.heap.objs.size := by simpa using hb
    have hle : s1.heap.objs.size ≤ c := by
      rcases e' with z | z
      · rw [z]; exact Nat.le_add_right _ _
      · rw [z]; exact Nat.le_refl _
    exact I1.fpOk hle (I1.hok.fresh hle)
end
end DL

namespace DL
open Evl (Ex)
open PySem PySem.Spec PyProof.Rows L2

section
variable {K : PySem.W.Frag} {E : WX} {X : Cx} {G : En} {F F' : Hp} {T T' : List (Addr × D)} {s s' : S} {σ : L2.St} {H H' : Hp} {v : V} {d : D} {ds : List D} {i : Nat} {r : R} {Q : VK}

/-! ### sequences, ranges, enumerate as what is walked -/
theorem wk_list {p : Addr} {vs : List V} (h : F p = some (.lst vs)) (hd : RpAll K F vs ds) (hz : ds.length ≤ line) : Wk K F (Itl K p) ds where
  go := fun i d H e ex => by
    obtain ⟨x, hx, hr⟩ := hd.get e
    refine ⟨⟨vs, x, .of (ex _ _ h), hx⟩, fun y H' q => ?_⟩
    obtain ⟨rfl, q2⟩ := q
    have := q2 vs (.of (ex _ _ h))
    rw [hx] at this
    cases this
    exact .inl ⟨rfl, hr⟩
  stop := fun H ex => ⟨vs, .of (ex _ _ h), by rw [hd.length]; exact Nat.le_refl _⟩
  len := hz
theorem wk_tup {p : Addr} {vs : List V} (h : TpD K F p vs) (hd : RpAll K F vs ds) (hz : ds.length ≤ line) : Wk K F (Itt K p) ds where
  go := fun i d H e ex => by
    obtain ⟨x, hx, hr⟩ := hd.get e
    refine ⟨⟨vs, x, (h.ex ex).sq, hx⟩, fun y H' q => ?_⟩
    obtain ⟨rfl, q2⟩ := q
    have := q2 vs (h.ex ex).sq
    rw [hx] at this
    cases this
    exact .inl ⟨rfl, hr⟩
  stop := fun H ex => ⟨vs, (h.ex ex).sq, by rw [hd.length]; exact Nat.le_refl _⟩
  len := hz
def signs (z : Str) : List D := z.cps.toList.map fun c => .str ⟨#[c]⟩
theorem wk_str {z : Str} (hz : z.length ≤ line) : Wk K F (Its z) (signs z) where
  go := fun i d H e ex => by
    unfold signs at e
    rw [List.getElem?_map, Option.map_eq_some_iff] at e
    obtain ⟨c, hc, rfl⟩ := e
    have hi : i < z.cps.size := by
      have := (List.getElem?_eq_some_iff.mp hc).1
      simpa using this
    refine ⟨hi, fun y H' q => ?_⟩
    obtain ⟨rfl, c', h1, rfl⟩ := q
    have : c' = c := by
      rw [Array.getElem?_toList] at hc
      rw [hc] at h1
      exact (Option.some.inj h1).symm
    subst this
    exact .inl ⟨rfl, .str _⟩
  stop := fun H ex => by
    show z.cps.size ≤ _
    unfold signs
    simp
  len := by
    unfold signs
    rw [List.length_map]
    have : z.cps.toList.length = z.length := by simp [Str.length]
    rw [this]; exact hz
def seqOf : D → Option (List D)
  | .list ds => some ds
  | .tuple ds => some ds
  | .str z => if z.length ≤ line then some (signs z) else none
  | _ => none
def xSeq (fa : XE) : XI := fun s => (fa s).bind fun (r, s1) => match frz s1 r with
  | some (d, s2) => (match seqOf d with
    | some ds => .ok (ds, s2)
    | none => .bad)
  | none => .bad
theorem di_seq {tg e : Expr} {te : TE} {fa : XE} (ha : DE X E e te fa) : DI X E tg e (iSeq X.K te) (xSeq fa) := ⟨pi_seq ha.pe, fun G F T s σ H R sr w => by
  refine ha.sd G F T s σ H _ sr (w.bind.mono (Evl.Ex.refl F) fun ⟨r, s1⟩ w1 F1 T1 H1 v1 e1 sr1 rv1 => ?_)
  dsimp only at w1 sr1 rv1
  split at w1
  · rename_i d s2 q
    obtain ⟨F2, e2, sr2, hd⟩ := sr1.frz rv1 (Evl.Ex.refl _) q
    cases hd with
    | lst a b z =>
      rename_i p vs ds
      exact .inl ⟨p, rfl, ⟨vs, .of (sr2.fh _ _ a)⟩, w1 F2 H1 _ (e1.trans e2) sr2 (wk_list a b z)⟩
    | tup a b z =>
      rename_i p vs ds
      exact .inr (.inl ⟨p, rfl, ⟨vs, (a.ex sr2.fh).sq⟩, w1 F2 H1 _ (e1.trans e2) sr2 (wk_tup a b z)⟩)
    | str z =>
      refine .inr (.inr ⟨z, rfl, ?_⟩)
      by_cases hz : z.length ≤ line
      · simp only [seqOf, hz, if_true] at w1
        exact w1 F2 H1 _ (e1.trans e2) sr2 (wk_str hz)
      · simp only [seqOf, hz, if_false] at w1
        exact w1.elim
    | _ => exact w1.elim
  · exact w1.elim⟩
/-- lo, lo + c, .. -/
def rgD (lo c : Int) (n : Nat) : List D := (List.range n).map fun i : Nat => .int (lo + (i : Int) * c)
theorem rgD_get {lo c : Int} {n i : Nat} {d : D} (e : (rgD lo c n)[i]? = some d) : i < n ∧ d = .int (lo + (i : Int) * c) := by
  unfold rgD at e
  rw [List.getElem?_map, Option.map_eq_some_iff] at e
  obtain ⟨j, hj, rfl⟩ := e
  obtain ⟨h1, h2⟩ := List.getElem?_eq_some_iff.mp hj
  rw [List.length_range] at h1
  rw [List.getElem_range] at h2
  subst h2
  exact ⟨h1, rfl⟩
theorem rgD_len (lo c : Int) (n : Nat) : (rgD lo c n).length = n := by unfold rgD; rw [List.length_map, List.length_range]
theorem wk_rng {lo : Int} {n : Nat} (hz : n ≤ line) : Wk K F (Itr lo n) (rgD lo 1 n) where
  go := fun i d H e ex => by
    obtain ⟨hi, rfl⟩ := rgD_get e
    refine ⟨hi, fun y H' q => ?_⟩
    obtain ⟨rfl, rfl⟩ := q
    rw [Int.mul_one]
    exact .inl ⟨rfl, .int _⟩
  stop := fun H ex => by rw [rgD_len]; exact Nat.le_refl _
  len := by rw [rgD_len]; exact hz
theorem Views.one {xs : List V} {d : D} (h : Views K F H xs [d]) : ∃ x, xs = [x] ∧ View K F H x d := by
  cases h with
  | cons a b => cases b; exact ⟨_, rfl, a⟩
theorem Views.two {xs : List V} {d e : D} (h : Views K F H xs [d, e]) : ∃ x y, xs = [x, y] ∧ View K F H x d ∧ View K F H y e := by
  cases h with
  | cons a b =>
    obtain ⟨y, rfl, q⟩ := b.one
    exact ⟨_, y, rfl, a, q⟩
theorem Views.three {xs : List V} {d e f : D} (h : Views K F H xs [d, e, f]) : ∃ x y z, xs = [x, y, z] ∧ View K F H x d ∧ View K F H y e ∧ View K F H z f := by
  cases h with
  | cons a b =>
    obtain ⟨y, z, rfl, q, r⟩ := b.two
    exact ⟨_, y, z, rfl, a, q, r⟩

def rg1Ok (j : Int) : Bool := decide (j ≤ 16777216) && decide (-1000000000 ≤ j)
def rg2Ok (i j : Int) : Bool := decide (j ≤ 1000000000) && decide (-1000000000 ≤ j) && decide (i ≤ 1000000000) && decide (-1000000000 ≤ i) && decide ((j - i).toNat ≤ 16777216)
def xRng1 (fa : XE) : XI := fun s => (fa s).bind fun (r, s1) => match getR s1 r with
  | some (.int j) => if rg1Ok j then .ok (rgD 0 1 j.toNat, s1) else .bad
  | _ => .bad
def xRng2 (fa fb : XE) : XI := fun s => (fa s).bind fun (r, s1) => (fb s1).bind fun (q, s2) => match getR s2 r, getR s2 q with
  | some (.int i), some (.int j) => if rg2Ok i j then .ok (rgD i 1 (j - i).toNat, s2) else .bad
  | _, _ => .bad
/-- range(i, j, -1) -/
def xRng3 (fa fb fc : XE) : XI := fun s => (fa s).bind fun (r, s1) => (fb s1).bind fun (q, s2) => (fc s2).bind fun (u, s3) => match getR s3 r, getR s3 q, getR s3 u with
  | some (.int i), some (.int j), some (.int c) => if c == -1 && rg2Ok j i then .ok (rgD i (-1) (i - j).toNat, s3) else .bad
  | _, _, _ => .bad
theorem sndI_rng1 {ta : TE} {fa : XE} (ha : Snd K E ta fa) : SndI K E (iRng1 (tCons ta tNil)) (xRng1 fa) := fun G F T s σ H R sr w => by
  refine ha G F T s σ H _ sr (w.bind.mono (Evl.Ex.refl F) fun ⟨r, s1⟩ w1 F1 T1 H1 v1 e1 sr1 rv1 => ?_)
  dsimp only at w1 sr1 rv1
  split at w1
  · rename_i j q
    split at w1
    · rename_i hj
      unfold rg1Ok at hj
      simp only [Bool.and_eq_true, decide_eq_true_eq] at hj
      obtain ⟨pre, rfl⟩ := rv1.sub
      have vw := sr1.view rv1 (Evl.Ex.refl _) (fun _ q => q) q
      cases vw
      exact ⟨j, rfl, by omega, by omega, w1 F1 H1 _ e1 sr1.dropApp (wk_rng (by unfold line; omega))⟩
    · exact w1.elim
  · exact w1.elim
section
variable {tg a b c : Expr} {ta tb tc : TE} {fa fb fc : XE} {p pos : Pos}
theorem di_rng1 (hg : Gl X "range") (hm : X.mg "range" = none) (ha : DE X E a ta fa) (hs : starEach [a] X.env = [(false, eval a X.env)] := by rfl) : DI X E tg (.Call (.Name "range" p) [a] [] pos) (iRng1 (tCons ta tNil)) (xRng1 fa) :=
  ⟨pi_range1 hg hm (pa_cons ha.pe pa_nil hs) hs, sndI_rng1 ha.sd⟩
end
/-- enumerate(e) -/
def enumD : Nat → List D → List D
  | _, [] => []
  | k, d :: ds => .tuple [.int (k : Int), d] :: enumD (k + 1) ds
theorem enumD_get {ds : List D} : ∀ {k i : Nat} {d : D}, (enumD k ds)[i]? = some d → ∃ e, ds[i]? = some e ∧ d = .tuple [.int ((k + i : Nat) : Int), e] := by
  induction ds with
  | nil => intro k i d e; cases e
  | cons a r ih =>
    intro k i d e
    cases i with
    | zero => cases e; exact ⟨a, rfl, rfl⟩
    | succ i =>
      obtain ⟨e1, h1, h2⟩ := ih (k := k + 1) (i := i) e
      exact ⟨e1, h1, by rw [h2]; congr 4; omega⟩
theorem enumD_len {ds : List D} : ∀ k, (enumD k ds).length = ds.length := by
  induction ds with
  | nil => intro k; rfl
  | cons a r ih => intro k; show (enumD (k + 1) r).length + 1 = _; rw [ih]; rfl
theorem wk_enum {b : Bool} {p : Addr} {vs : List V} (h : ∀ H, Ex F H → SqB b K H p vs) (hd : RpAll K F vs ds) (hz : ds.length ≤ line) : Wk K F (IteB b K p) (enumD 0 ds) where
  go := fun i d H e ex => by
    obtain ⟨d1, h1, rfl⟩ := enumD_get e
    obtain ⟨x, hx, hr⟩ := hd.get h1
    refine ⟨⟨vs, x, h H ex, hx⟩, fun y H' q => ?_⟩
    obtain ⟨Tp, x', ob, d0, rfl, hT, rfl, q2⟩ := q
    have := q2 vs (h H ex)
    rw [hx] at this
    cases this
    refine .inr ⟨Tp, _, _, ob, d0, rfl, hT, rfl, rfl, .cons ?_ (.cons hr .nil), by simp [line]⟩
    rw [Nat.zero_add]
    exact .int _
  stop := fun H ex => ⟨vs, h H ex, by rw [hd.length, enumD_len]⟩
  len := by rw [enumD_len]; exact hz
def xEnum (fa : XE) : XI := fun s => (fa s).bind fun (r, s1) => match frz s1 r with
  | some (.list ds, s2) => .ok (enumD 0 ds, s2)
  | some (.tuple ds, s2) => .ok (enumD 0 ds, s2)
  | _ => .bad
theorem sndI_enum {ta : TE} {fa : XE} (ha : Snd K E ta fa) : SndI K E (iEnumB K (tCons ta tNil)) (xEnum fa) := fun G F T s σ H R sr w => by
  refine ha G F T s σ H _ sr (w.bind.mono (Evl.Ex.refl F) fun ⟨r, s1⟩ w1 F1 T1 H1 v1 e1 sr1 rv1 => ?_)
  dsimp only at w1 sr1 rv1
  split at w1
  · rename_i ds s2 q
    obtain ⟨F2, e2, sr2, hd⟩ := sr1.frz rv1 (Evl.Ex.refl _) q
    cases hd with
    | lst a b z =>
      rename_i p vs
      exact ⟨true, p, vs, rfl, .of (sr2.fh _ _ a), w1 F2 H1 _ (e1.trans e2) sr2 (wk_enum (b := true) (fun H ex => .of (ex _ _ a)) b z)⟩
  · rename_i ds s2 q
    obtain ⟨F2, e2, sr2, hd⟩ := sr1.frz rv1 (Evl.Ex.refl _) q
    cases hd with
    | tup a b z =>
      rename_i p vs
      exact ⟨false, p, vs, rfl, (a.ex sr2.fh).sq, w1 F2 H1 _ (e1.trans e2) sr2 (wk_enum (b := false) (fun H ex => (a.ex ex).sq) b z)⟩
  · exact w1.elim
theorem di_enum {e : Expr} {te : TE} {fa : XE} {p pos tpos : Pos} {elts : List Expr} {kk : Nat} (hg : Gl X "enumerate") (hm : X.mg "enumerate" = none) (ha : DE X E e te fa) (hs : starEach [e] X.env = [(false, eval e X.env)] := by rfl) :
    DI X E (.Tuple elts kk tpos) (.Call (.Name "enumerate" p) [e] [] pos) (iEnumB X.K (tCons te tNil)) (xEnum fa) := ⟨pi_enumB hg hm (pa_cons ha.pe pa_nil hs) hs, sndI_enum ha.sd⟩

/-! ### for -/
def forD (g : XG) (body : XS) : List D → S → Out Fl
  | [], s => .ok (.nx s)
  | d :: ds, s => match g d s with
    | none => .bad
    | some s1 => (body s1).bind fun fl => match fl with
      | .nx s2 => forD g body ds s2
      | .ct s2 => forD g body ds s2
      | .bk s2 => .ok (.nx s2)
      | .rt r s2 => .ok (.rt r s2)
def sFor (fi : XI) (g : XG) (body : XS) [Dum (fi, g, body)] : XS := fun s => (fi s).bind fun (ds, s1) => forD g body ds s1
/-- an item as it comes -/
theorem SR.item {F0 : Hp} {x : V} (sr : SR K G F T s σ H) (e0 : Ex F0 F) (io : ItemOk K F0 H x H' d) : ∃ F', Ex F F' ∧ SR K G F' T s σ H' ∧ Rp K F' x d := by
  rcases io with ⟨rfl, hr⟩ | ⟨p, vs, es, o, d0, rfl, hn, rfl, rfl, hr, hz⟩
  · exact ⟨F, Evl.Ex.refl F, sr, Rp.mono e0 hr⟩
  · exact sr.newTup d0 hn (RpAll.mono e0 hr) hz
theorem ds_for {tg iter : Expr} {body : List Stmt} {wi : TI} {tG : TG} {tb : TS} {fi : XI} {g : XG} {fb : XS} {vs : List Nat} {pos : Pos} (hp : PassesOwn (model X.prog X.w) X.A X.env X.xe) (hc : X.calm = true) (hi : DI X E tg iter wi fi) (hg : DG X vs tg tG g) (hb : DSs X E body tb fb)
    (hs : ∀ x, foldedSetIterable iter X.env x = pure x := by intro _; rfl) : DS X E (.For tg iter body [] pos) (tFor wi tG tb) (sFor fi g fb) := ⟨ps_for hp hc hi.pi hg.pg hb.ps hs, fun G F s σ H Dn sr w => by
  refine hi.sd G F [] s σ H _ sr (w.bind.mono (Evl.Ex.refl F) fun ⟨ds, s1⟩ w1 F1 H1 J e1 sr1 wk => ?_)
  dsimp only at w1 sr1 wk
  have w1' : Want X.K G E F1 (forD g fb ds s1) (FP X.K G F1 Dn) := Want.mono w1 e1 fun x (wx : FP X.K G F Dn x) => wx.mono e1
  refine ⟨fun i m σ H => m = ds.length - i ∧ i ≤ ds.length ∧ ∃ F2 s2, Ex F1 F2 ∧ SR X.K G F2 [] s2 σ H ∧ Want X.K G E F2 (forD g fb (ds.drop i) s2) (FP X.K G F2 Dn), ⟨ds.length, by simp, Nat.zero_le _, F1, s1, Evl.Ex.refl _, sr1, w1'⟩, ?_⟩
  rintro i m σ2 H2 ⟨rfl, hi2, F2, s2, e2, sr2, w2⟩
  by_cases hlt : i < ds.length
  · obtain ⟨d, hd⟩ : ∃ d, ds[i]? = some d := ⟨ds[i], List.getElem?_eq_getElem hlt⟩
    have ed : ds.drop i = d :: ds.drop (i + 1) := by
      rw [List.drop_eq_getElem_cons hlt]
      rw [List.getElem?_eq_getElem hlt] at hd
      cases hd
      rfl
    obtain ⟨go, yld⟩ := wk.go i d H2 hd (e2.trans sr2.fh)
    refine .inr ⟨go, fun σ' H' => ∃ m', m' < ds.length - i ∧ m' = ds.length - (i + 1) ∧ i + 1 ≤ ds.length ∧ ∃ F3 s3, Ex F1 F3 ∧ SR X.K G F3 [] s3 σ' H' ∧ Want X.K G E F3 (forD g fb (ds.drop (i + 1)) s3) (FP X.K G F3 Dn), fun σ' H' h => ?_, fun x H' y => ?_⟩
    · obtain ⟨m', h1, h2⟩ := h
      exact ⟨m', h1, h2⟩
    · obtain ⟨F3, e3, sr3, hx⟩ := sr2.item e2 (yld x H' y)
      rw [ed] at w2
      unfold forD at w2
      split at w2
      · exact w2.elim
      · rename_i s3 q3
        refine hg.sd G F3 [] s2 σ2 H' x d _ s3 sr3 hx q3 fun σ3 sr4 _ => ?_
        refine hb.sd G F3 s3 σ3 H' _ sr4 (Want.mono (Want.bind w2) e3 fun fl wf => ?_)
        cases fl with
        | nx s4 => exact fun F4 σ4 H4 e4 sr5 => ⟨ds.length - (i + 1), by omega, rfl, hlt, F4, s4, (e2.trans e3).trans e4, sr5, Want.mono wf (e3.trans e4) fun x (wx : FP X.K G F2 Dn x) => wx.mono (e3.trans e4)⟩
        | ct s4 => exact fun F4 σ4 H4 e4 sr5 => ⟨ds.length - (i + 1), by omega, rfl, hlt, F4, s4, (e2.trans e3).trans e4, sr5, Want.mono wf (e3.trans e4) fun x (wx : FP X.K G F2 Dn x) => wx.mono (e3.trans e4)⟩
        | bk s4 => exact fun F4 σ4 H4 e4 sr5 => wf F4 σ4 H4 (e3.trans e4) sr5
        | rt r s4 => exact fun F4 T4 σ4 H4 v4 e4 sr5 rv => wf F4 T4 σ4 H4 v4 (e3.trans e4) sr5 rv
  · have ei : i = ds.length := by omega
    subst ei
    rw [List.drop_length] at w2
    exact .inl ⟨wk.stop H2 (e2.trans sr2.fh), w2 F2 σ2 H2 (Evl.Ex.refl _) sr2⟩⟩

/-! ### names forgotten -/
def forget (is : List Nat) (s : S) : S := is.foldl (fun s i => s.set i none) s
theorem SR.forgets : ∀ {is : List Nat} {s : S}, SR K G F T s σ H → SR K G F T (DL.forget is s) σ H
  | [], _, h => h
  | i :: is, s, h => SR.forgets (is := is) (s := s.set i none) h.forget
/-! ### while -/
def whileN (fc : XT) (fb : XS) : Nat → S → Option (Out Fl)
  | 0, _ => none
  | n + 1, s => match fc s with
    | .bad => some .bad
    | .err c d s1 => some (.err c d s1)
    | .ok (false, s1) => some (.ok (.nx s1))
    | .ok (true, s1) => match fb s1 with
      | .bad => some .bad
      | .err c d s2 => some (.err c d s2)
      | .ok (.nx s2) => whileN fc fb n s2
      | .ok (.ct s2) => whileN fc fb n s2
      | .ok (.bk s2) => some (.ok (.nx s2))
      | .ok (.rt r s2) => some (.ok (.rt r s2))
theorem whileN_mono {fc : XT} {fb : XS} : ∀ {n m : Nat} {s : S} {r : Out Fl}, n ≤ m → whileN fc fb n s = some r → whileN fc fb m s = some r
  | 0, _, _, _, _, h => by cases h
  | n + 1, 0, _, _, h, _ => by omega
  | n + 1, m + 1, s, r, h, e => by
    unfold whileN at e ⊢
    cases hc : fc s with
    | bad => rw [hc] at e; exact e
    | err c d s1 => rw [hc] at e; exact e
    | ok x =>
      obtain ⟨b, s1⟩ := x
      rw [hc] at e
      cases b with
      | false => exact e
      | true =>
        dsimp only at e ⊢
        cases hb : fb s1 with
        | bad => rw [hb] at e; exact e
        | err c d s2 => rw [hb] at e; exact e
        | ok fl =>
          rw [hb] at e
          cases fl with
          | nx s2 => exact whileN_mono (Nat.le_of_succ_le_succ h) e
          | ct s2 => exact whileN_mono (Nat.le_of_succ_le_succ h) e
          | bk s2 => exact e
          | rt r2 s2 => exact e
open Classical in
noncomputable def sWhile (fc : XT) (fb : XS) [Dum (fc, fb)] : XS := fun s => if h : ∃ n r, whileN fc fb n s = some r then Classical.choose (Classical.choose_spec h) else .bad
theorem sWhile_of {fc : XT} {fb : XS} {n : Nat} {s : S} {r : Out Fl} (h : whileN fc fb n s = some r) : sWhile fc fb s = r := by
  have hx : ∃ n r, whileN fc fb n s = some r := ⟨n, r, h⟩
  unfold sWhile
  rw [dif_pos hx]
  have h2 := Classical.choose_spec (Classical.choose_spec hx)
  have a := whileN_mono (Nat.le_max_left n (Classical.choose hx)) h
  have b := whileN_mono (Nat.le_max_right n (Classical.choose hx)) h2
  rw [a] at b
  exact (Option.some.inj b).symm
theorem sWhile_some {fc : XT} {fb : XS} {s : S} (h : sWhile fc fb s ≠ .bad) : ∃ n, whileN fc fb n s = some (sWhile fc fb s) := by
  by_cases hx : ∃ n r, whileN fc fb n s = some r
  · obtain ⟨n, r, e⟩ := hx
    exact ⟨n, by rw [sWhile_of e]; exact e⟩
  · exfalso
    apply h
    unfold sWhile
    rw [dif_neg hx]
/-- one turn -/
theorem sWhile_eq (fc : XT) (fb : XS) (s : S) : sWhile fc fb s = (fc s).bind fun (b, s1) => if b then (fb s1).bind fun fl => (match fl with
    | .nx s2 => sWhile fc fb s2
    | .ct s2 => sWhile fc fb s2
    | .bk s2 => .ok (.nx s2)
    | .rt r s2 => .ok (.rt r s2)) else .ok (.nx s1) := by
  cases hc : fc s with
  | bad => exact sWhile_of (n := 1) (by unfold whileN; rw [hc]; rfl)
  | err c d s1 => exact sWhile_of (n := 1) (by unfold whileN; rw [hc]; rfl)
  | ok x =>
    obtain ⟨b, s1⟩ := x
    rw [bind_ok]
    dsimp only
    cases b with
    | false => exact sWhile_of (n := 1) (by unfold whileN; rw [hc]; rfl)
    | true =>
      rw [if_pos rfl]
      cases hb : fb s1 with
      | bad => exact sWhile_of (n := 1) (by unfold whileN; rw [hc]; dsimp only; rw [hb]; rfl)
      | err c d s2 => exact sWhile_of (n := 1) (by unfold whileN; rw [hc]; dsimp only; rw [hb]; rfl)
      | ok fl =>
        rw [bind_ok]
        have key : ∀ s2, (∀ n, whileN fc fb (n + 1) s = whileN fc fb n s2) → sWhile fc fb s = sWhile fc fb s2 := fun s2 hk => by
          by_cases hx : ∃ n r, whileN fc fb n s2 = some r
          · obtain ⟨n, r, e⟩ := hx
            rw [sWhile_of e]
            exact sWhile_of (n := n + 1) (by rw [hk]; exact e)
          · have hy : ¬ ∃ n r, whileN fc fb n s = some r := fun ⟨n, r, e⟩ => by
              cases n with
              | zero => cases e
              | succ n => exact hx ⟨n, r, by rw [← hk]; exact e⟩
            unfold sWhile
            rw [dif_neg hx, dif_neg hy]
        cases fl with
        | nx s2 => exact key s2 fun n => by conv => lhs; unfold whileN; rw [hc]; dsimp only; rw [hb]
        | ct s2 => exact key s2 fun n => by conv => lhs; unfold whileN; rw [hc]; dsimp only; rw [hb]
        | bk s2 => exact sWhile_of (n := 1) (by unfold whileN; rw [hc]; dsimp only; rw [hb])
        | rt r s2 => exact sWhile_of (n := 1) (by unfold whileN; rw [hc]; dsimp only; rw [hb])
theorem ds_while {c : Expr} {body : List Stmt} {tc : TT} {tb : TS} {fc : XT} {fb : XS} {pos : Pos} (hp : PassesOwn (model X.prog X.w) X.A X.env X.xe) (hc : DT X E c tc fc) (hb : DSs X E body tb fb) : DS X E (.While c body [] pos) (tWhile tc tb) (sWhile fc fb) := ⟨ps_while hp hc.pt hb.ps, fun G F s σ H Dn sr w => by
  obtain ⟨n, hn⟩ := sWhile_some (fc := fc) (fb := fb) (s := s) (fun z => by rw [z] at w; exact w.elim)
  refine ⟨fun m σ H => ∃ F2 s2 r, Ex F F2 ∧ SR X.K G F2 [] s2 σ H ∧ whileN fc fb m s2 = some r ∧ Want X.K G E F2 r (FP X.K G F2 Dn), ⟨n, F, s, _, Evl.Ex.refl F, sr, hn, w⟩, ?_⟩
  rintro m σ2 H2 ⟨F2, s2, r, e2, sr2, hw, w2⟩
  cases m with
  | zero => cases hw
  | succ m =>
    unfold whileN at hw
    refine hc.sd G F2 [] s2 σ2 H2 _ sr2 ?_
    cases hcs : fc s2 with
    | bad => rw [hcs] at hw; cases hw; exact w2
    | err c d s3 => rw [hcs] at hw; cases hw; exact w2
    | ok x =>
      obtain ⟨b, s3⟩ := x
      rw [hcs] at hw
      intro F3 H3 e3 sr3
      cases b with
      | false =>
        cases hw
        exact w2 F3 σ2 H3 e3 sr3
      | true =>
        rw [if_pos rfl]
        dsimp only at hw
        refine ⟨fun σ' H' => ∃ m', m' < m + 1 ∧ ∃ F4 s4 r4, Ex F F4 ∧ SR X.K G F4 [] s4 σ' H' ∧ whileN fc fb m' s4 = some r4 ∧ Want X.K G E F4 r4 (FP X.K G F4 Dn), fun σ' H' h => h, ?_⟩
        refine hb.sd G F3 s3 σ2 H3 _ sr3 ?_
        cases hbs : fb s3 with
        | bad => rw [hbs] at hw; cases hw; exact (show False from w2).elim
        | err c d s4 => rw [hbs] at hw; cases hw; exact ErrP.mono e3 w2
        | ok fl =>
          rw [hbs] at hw
          cases fl with
          | nx s4 => exact fun F4 σ4 H4 e4 sr4 => ⟨m, Nat.lt_succ_self _, F4, s4, r, (e2.trans e3).trans e4, sr4, hw, Want.mono w2 (e3.trans e4) fun x (wx : FP X.K G F2 Dn x) => wx.mono (e3.trans e4)⟩
          | ct s4 => exact fun F4 σ4 H4 e4 sr4 => ⟨m, Nat.lt_succ_self _, F4, s4, r, (e2.trans e3).trans e4, sr4, hw, Want.mono w2 (e3.trans e4) fun x (wx : FP X.K G F2 Dn x) => wx.mono (e3.trans e4)⟩
          | bk s4 => cases hw; exact fun F4 σ4 H4 e4 sr4 => w2 F4 σ4 H4 (e3.trans e4) sr4
          | rt r4 s4 => cases hw; exact fun F4 T4 σ4 H4 v4 e4 sr4 rv => w2 F4 T4 σ4 H4 v4 (e3.trans e4) sr4 rv⟩
end
end DL

namespace DL
open Evl (Ex)
open PySem PySem.Spec PyProof.Rows L2 PySem.W

section
variable {K : PySem.W.Frag} {E : WX} {X : Cx} {G : En} {F F' : Hp} {T T' : List (Addr × D)} {s s' : S} {σ σ' : L2.St} {H H' : Hp} {v : V} {d : D} {ds : List D} {i : Nat} {r : R} {Q : VK}
/-! ### states that agree where something is known -/
theorem SR.agree (h : SR K G F T s σ H) (ha : ∀ i y, getS s i = some y → σ'[i]? = σ[i]?) (hl : σ'.length = σ.length) : SR K G F T s σ' H :=
  ⟨h.fh, h.fe, h.gr, h.kp, h.ioh, fun j e q => by rw [ha j _ q]; exact h.sl j e q, fun j k e q => by rw [ha j _ q]; exact h.ow j k e q,
    fun j l k m e e' p q1 q2 r1 r2 => h.di j l k m e e' p q1 q2 (by rw [← ha j _ q1]; exact r1) (by rw [← ha l _ q2]; exact r2), h.tn, h.tt, by rw [hl]; exact h.len⟩
theorem getS_forget : ∀ {is : List Nat} {s : S} {j : Nat} {y : Sl}, getS (DL.forget is s) j = some y → j ∉ is ∧ getS s j = some y
  | [], _, _, _, h => ⟨by simp, h⟩
  | i :: is, s, j, y, h => by
    obtain ⟨a, b⟩ := getS_forget (is := is) (s := s.set i none) h
    rcases getS_set b with ⟨_, e⟩ | ⟨n, e⟩
    · cases e
    · exact ⟨fun z => by
        rcases List.mem_cons.mp z with z | z
        · exact n z
        · exact a z, e⟩
def Cl (vs : List Nat) (s : S) : Prop := ∀ i ∈ vs, getS s i = none
theorem cl_forget (vs : List Nat) (s : S) : Cl vs (DL.forget vs s) := fun i hi => by
  cases e : getS (DL.forget vs s) i with
  | none => rfl
  | some y => exact absurd hi (getS_forget e).1
theorem SR.wiped {vs : List Nat} (h : SR K G F T s σ H) : SR K G F T (DL.forget vs s) (wipe σ vs) H :=
  (h.forgets (is := vs)).agree (fun i y e => wipe_out (getS_forget e).1) (wipe_length σ vs)
theorem SR.rewiped {vs : List Nat} {σ2 : L2.St} (h : SR K G F T s σ2 H) (e : wipe σ2 vs = wipe σ vs) : SR K G F T (DL.forget vs s) (wipe σ vs) H := by
  rw [← e]; exact h.wiped
def clean (vs : List Nat) (s : S) : Bool := vs.all fun i => (getS s i).isNone
/-- the names of a block behind it: values are known again -/
def back (s1 : S) : List Nat → S → S
  | [], s => s
  | i :: is, s => match getS s1 i with
    | some (.val d) => (back s1 is s).set i (some (.val d))
    | _ => back s1 is s
theorem SR.back {G0 : En} {F0 : Hp} {T0 : List (Addr × D)} {H0 : Hp} {s1 : S} (h0 : SR K G0 F0 T0 s1 σ H0) (e : Ex F0 F) : ∀ {vs : List Nat} {s : S}, SR K G F T s σ H → SR K G F T (DL.back s1 vs s) σ H
  | [], _, h => h
  | i :: is, s, h => by
    have ih := SR.back h0 e (vs := is) h
    unfold DL.back
    split
    · rename_i d q
      obtain ⟨w, a, b⟩ := h0.sl i d q
      have r := ih.setVal (i := i) (Rp.mono e b)
      have es : σ.set i (some w) = σ := by
        obtain ⟨hl, he⟩ := List.getElem?_eq_some_iff.mp a
        rw [← he]
        exact List.set_getElem_self hl
      rw [es] at r
      exact r
    · exact ih

/-! ### tests of a clause -/
structure DTs (X : Cx) (E : WX) (es : List Expr) (t : TT) (f : XT) : Prop where
  pt : PTs X es t
  sd : SndT X.K E t f
def tTrue : XT := fun s => .ok (true, s)
theorem dts_nil : DTs X E [] tYes tTrue := ⟨pts_nil, fun G F T s σ H Q sr w => w F H (Evl.Ex.refl F) sr⟩
theorem dts_one {c : Expr} {t : TT} {f : XT} (h : DT X E c t f) : DTs X E [c] t f := ⟨pts_one h.pt, h.sd⟩

/-! ### [e for x in xs if t] -/
/-- one thing more -/
def lcAdd (vs : List Nat) (acc : List D) (r : R) (s : S) : Out (List D × S) := match frz s r with
  | some (d, s') => .ok (acc ++ [d], DL.forget vs s')
  | none => .bad
def lcTurn (vs : List Nat) (ft : XT) (fe : XE) (acc : List D) (s : S) : Out (List D × S) := (ft s).bind fun (b, s1) => if b then ((fe s1).bind fun (r, s2) => lcAdd vs acc r s2) else .ok (acc, DL.forget vs s1)
def lcD (vs : List Nat) (g : XG) (ft : XT) (fe : XE) : List D → List D → S → Out (List D × S)
  | [], acc, s => .ok (acc, s)
  | d :: ds, acc, s => match g d s with
    | none => .bad
    | some s1 => (lcTurn vs ft fe acc s1).bind fun (acc', s2) => lcD vs g ft fe ds acc' s2
def xLc (vs : List Nat) (fi : XI) (g : XG) (ft : XT) (fe : XE) [Dum (vs, fi, g, ft, fe)] : XE := fun s => (fi s).bind fun (ds, s1) => (lcD vs g ft fe ds [] (DL.forget vs s1)).bind fun (acc, s2) => if acc.length ≤ line then .ok (.new (.list acc), back s1 vs s2) else .bad
theorem lc_sound {wi : TI} {g : TG} {tt : TT} {te : TE} {fi : XI} {xg : XG} {ft : XT} {fe : XE} {vs gs : List Nat} (hi : SndI K E wi fi) (hg : SndG K gs g xg) (ht : SndT K E tt ft) (he : Snd K E te fe) (hv : ∀ i ∈ gs, i ∈ vs) : Snd K E (tLc wi g tt te vs) (xLc vs fi xg ft fe) := fun G F T s σ H Q sr w => by
  refine hi G F T s σ H _ sr (w.bind.mono (Evl.Ex.refl F) fun ⟨ds, s1⟩ w1 F1 H1 J e1 sr1 wk Dd hD => ?_)
  dsimp only at w1 sr1 wk
  have sr0 := ((sr1.newList (ds := []) (vs := []) hD .nil (Nat.zero_le _)).wiped (vs := vs))
  refine ⟨fun i m H => m = ds.length - i ∧ i ≤ ds.length ∧ ∃ F2 s2 acc, Ex F1 F2 ∧ acc.length ≤ i ∧ Cl vs s2 ∧ SR K G F2 ((Dd, .list acc) :: T) s2 (wipe σ vs) H ∧ Want K G E F2 (lcD vs xg ft fe (ds.drop i) acc s2) fun x => ∀ F3 H3, Ex F2 F3 → x.1.length ≤ ds.length → SR K G F3 ((Dd, .list x.1) :: T) x.2 (wipe σ vs) H3 → Cl vs x.2 → Q (.ref Dd) H3,
    ⟨ds.length, by simp, Nat.zero_le _, F1, DL.forget vs s1, [], Evl.Ex.refl _, Nat.zero_le _, cl_forget vs s1, sr0, ?_⟩, ?_⟩
  · refine Want.mono w1.bind e1 fun ⟨acc, s2⟩ w2 F3 H3 e3 hz sr3 hn => ?_
    dsimp only at w2 sr3 hn hz
    have hz2 : acc.length ≤ line := Nat.le_trans hz wk.len
    rw [if_pos hz2] at w2
    have srs : SR K G F3 ((Dd, .list acc) :: T) s2 σ H3 := sr3.agree (fun i y e => by
      refine (wipe_out fun m => ?_).symm
      rw [hn i m] at e; cases e) (wipe_length σ vs).symm
    exact w2 F3 _ H3 _ (e1.trans e3) (SR.back sr1 e3 srs) ⟨Dd, rfl, rfl⟩
  rintro i m H2 ⟨rfl, hi2, F2, s2, acc, e2, hacc, hcl, sr2, w2⟩
  by_cases hlt : i < ds.length
  · obtain ⟨d, hd⟩ : ∃ d, ds[i]? = some d := ⟨ds[i], List.getElem?_eq_getElem hlt⟩
    have ed : ds.drop i = d :: ds.drop (i + 1) := by
      rw [List.drop_eq_getElem_cons hlt]
      rw [List.getElem?_eq_getElem hlt] at hd
      cases hd
      rfl
    obtain ⟨go, yld⟩ := wk.go i d H2 hd (e2.trans sr2.fh)
    refine .inr ⟨go, fun H' => ∃ m', m' < ds.length - i ∧ m' = ds.length - (i + 1) ∧ i + 1 ≤ ds.length ∧ ∃ F3 s3 acc', Ex F1 F3 ∧ acc'.length ≤ i + 1 ∧ Cl vs s3 ∧ SR K G F3 ((Dd, .list acc') :: T) s3 (wipe σ vs) H' ∧ Want K G E F3 (lcD vs xg ft fe (ds.drop (i + 1)) acc' s3) fun x => ∀ F4 H4, Ex F3 F4 → x.1.length ≤ ds.length → SR K G F4 ((Dd, .list x.1) :: T) x.2 (wipe σ vs) H4 → Cl vs x.2 → Q (.ref Dd) H4,
      fun H' h => ?_, fun x H' y => ?_⟩
    · obtain ⟨m', h1, h2⟩ := h
      exact ⟨m', h1, h2⟩
    · obtain ⟨F3, e3, sr3, hx⟩ := sr2.item e2 (yld x H' y)
      rw [ed] at w2
      unfold lcD at w2
      split at w2
      · exact w2.elim
      · rename_i s3 q3
        refine hg G F3 _ s2 (wipe σ vs) H' x d _ s3 sr3 hx q3 fun σ3 sr4 kw => ?_
        have ww : wipe σ3 vs = wipe σ vs := by
          rw [kw vs hv]
          have : ∀ (us : List Nat) (σ : L2.St), wipe (wipe σ us) us = wipe σ us := fun us σ => by
            apply List.ext_getElem?
            intro j
            by_cases hj : j ∈ us
            · have key : ∀ (us : List Nat) (τ : L2.St), τ.length = σ.length → j ∈ us → (wipe τ us)[j]? = if j < σ.length then some none else none := fun us => by
                induction us with
                | nil => intro τ _ hm; cases hm
                | cons u us ih =>
                  intro τ hl hm
                  unfold wipe
                  by_cases eu : u = j
                  · subst eu
                    rw [List.getElem?_set_self', ]
                    by_cases hlt : u < σ.length
                    · rw [if_pos hlt, List.getElem?_eq_getElem (by rw [wipe_length, hl]; exact hlt)]
                      rfl
                    · rw [if_neg hlt, List.getElem?_eq_none (by rw [wipe_length, hl]; omega)]
                      rfl
                  · rw [List.getElem?_set_ne eu]
                    exact ih τ hl ((List.mem_cons.mp hm).resolve_left fun z => eu z.symm)
              rw [key us _ (wipe_length σ us) hj, key us σ rfl hj]
            · rw [wipe_out hj]
          exact this vs σ
        refine ⟨ww, ?_⟩
        have w3 := Want.bind w2
        unfold lcTurn at w3
        refine ht G F3 _ s3 σ3 H' _ sr4 (Want.mono (Want.bind w3) e3 fun ⟨b, s5⟩ w5 F5 H5 e5 sr5 => ?_)
        dsimp only at w5 sr5
        cases b with
        | false =>
          rw [if_neg (by simp)]
          rw [if_neg (by simp)] at w5
          exact ⟨ds.length - (i + 1), by omega, rfl, hlt, F5, _, acc, (e2.trans e3).trans e5, by omega, cl_forget _ _, sr5.rewiped ww, Want.mono w5 (e3.trans e5) fun x wx F6 H6 e6 => wx F6 H6 ((e3.trans e5).trans e6)⟩
        | true =>
          rw [if_pos rfl]
          rw [if_pos rfl] at w5
          refine he G F5 _ s5 σ3 H5 _ sr5 (Want.mono (Want.bind w5) (e3.trans e5) fun ⟨r, s6⟩ w6 F6 T6 H6 v6 e6 sr6 rv6 => ?_)
          dsimp only at w6 sr6 rv6
          unfold lcAdd at w6
          split at w6
          · rename_i d7 s7 q7
            obtain ⟨F7, e7, sr7, hd7⟩ := sr6.frz rv6 (Evl.Ex.refl _) q7
            obtain ⟨av, hav, hr, hz⟩ := (sr7.tt (Dd, .list acc) List.mem_cons_self).at_
            have hz1 : acc.length + 1 ≤ line := by have := wk.len; omega
            refine ⟨av, hav, by rw [hr.length, ← line_eq]; omega, ds.length - (i + 1), by omega, rfl, hlt, F7, _, acc ++ [d7], ((e2.trans e3).trans e5).trans (e6.trans e7), by rw [List.length_append]; simp; omega, cl_forget _ _, (sr7.writeTemp (ds' := acc ++ [d7]) (hr.append (.cons hd7 .nil)) (by rw [List.length_append]; exact hz1)).rewiped ww, Want.mono w6 ((e3.trans e5).trans (e6.trans e7)) fun x wx F8 H8 e8 => wx F8 H8 (((e3.trans e5).trans (e6.trans e7)).trans e8)⟩
          · exact w6.elim
  · have ei : i = ds.length := by omega
    subst ei
    rw [List.drop_length] at w2
    have w2' : ∀ F3 H3, Ex F2 F3 → acc.length ≤ ds.length → SR K G F3 ((Dd, .list acc) :: T) s2 (wipe σ vs) H3 → (∀ i ∈ vs, getS s2 i = none) → Q (.ref Dd) H3 := w2
    exact .inl ⟨wk.stop H2 (e2.trans sr2.fh), w2' F2 H2 (Evl.Ex.refl _) hacc sr2 hcl⟩
/-! ### readings that only the meaning gives -/
def canE (K : PySem.W.Frag) (E : WX) (f : XE) : TE := fun σ H Q => ∃ G F T s, SR K G F T s σ H ∧ Want K G E F (f s) (EP K G F T σ Q)
def canT (K : PySem.W.Frag) (E : WX) (f : XT) : TT := fun σ H Q => ∃ G F T s, SR K G F T s σ H ∧ Want K G E F (f s) (TP K G F T σ Q)
def canG (K : PySem.W.Frag) (vs : List Nat) (g : XG) : TG := fun x σ H Q => ∃ G F T s d s', SR K G F T s σ H ∧ Rp K F x d ∧ g d s = some s' ∧ ∀ σ', SR K G F T s' σ' H → (∀ ws, (∀ i ∈ vs, i ∈ ws) → wipe σ' ws = wipe σ ws) → Q σ' H
theorem can_sd {f : XE} : Snd K E (canE K E f) f := fun G F T s σ H Q sr w => ⟨G, F, T, s, sr, w⟩
theorem canT_sd {f : XT} : SndT K E (canT K E f) f := fun G F T s σ H Q sr w => ⟨G, F, T, s, sr, w⟩
theorem canG_sd {vs : List Nat} {g : XG} : SndG K vs (canG K vs g) g := fun G F T s σ H x d Q s' sr hd e q => ⟨G, F, T, s, d, s', sr, hd, e, q⟩
theorem DE.can {e : Expr} {t : TE} {f : XE} (h : DE X E e t f) : PE X e (canE X.K E f) := ⟨fun pins s σ H Q I ⟨G, F, T, st, sr, w⟩ => h.pe.run pins s σ H Q I (h.sd G F T st σ H Q sr w)⟩
theorem DTs.can {e : List Expr} {t : TT} {f : XT} (h : DTs X E e t f) : PTs X e (canT X.K E f) := ⟨fun pins s σ H Q I ⟨G, F, T, st, sr, w⟩ => h.pt.run pins s σ H Q I (h.sd G F T st σ H Q sr w)⟩
theorem DG.can {vs : List Nat} {e : Expr} {t : TG} {g : XG} (h : DG X vs e t g) : PG X e (canG X.K vs g) := ⟨fun pins s σ H x u Q I r ⟨G, F, T, st, d, s', sr, hd, ee, q⟩ => h.pg.run pins s σ H x u Q I r (h.sd G F T st σ H x d Q s' sr hd ee q)⟩
theorem de_lc {elt tg iter : Expr} {ifs : List Expr} {scope : Scope} {own : List (Str × Nat)} {gs : List Nat} {pos : Pos} {wi : TI} {fi : XI} {xg : XG} {ft : XT} {fe : XE} (hc : X.calm = true) (hN : X.N.Nodup) (hi : DI X E tg iter wi fi) (ok : BlkOk X.N X.env.scope scope own)
    (hg : ∀ (s : Shared) (H : Hp) (C : Addr) (cl : List (Str × Addr)) (fp : List Addr), ∃ g, DG (X.blk s H scope (compEnvC scope cl C X.env) fp) gs tg g xg) (ht : ∀ (s : Shared) (H : Hp) (C : Addr) (cl : List (Str × Addr)) (fp : List Addr), ∃ tt, DTs (X.blk s H scope (compEnvC scope cl C X.env) fp) E ifs tt ft)
    (he : ∀ (s : Shared) (H : Hp) (C : Addr) (cl : List (Str × Addr)) (fp : List Addr), ∃ te, DE (X.blk s H scope (compEnvC scope cl C X.env) fp) E elt te fe) (hv : ∀ i ∈ gs, i ∈ own.map (·.2) := by decide) (hs : ∀ x, foldedSetIterable iter X.env x = pure x := by intro _; rfl) :
    DE X E (.ListComp elt [⟨tg, iter, ifs, 0⟩] scope pos) (tLc wi (canG X.K gs xg) (canT X.K E ft) (canE X.K E fe) (own.map (·.2))) (xLc (own.map (·.2)) fi xg ft fe) :=
  ⟨pe_lc hc hN hi.pi ok (fun s H C cl fp => let ⟨_, h⟩ := hg s H C cl fp; h.can) (fun s H C cl fp => let ⟨_, h⟩ := ht s H C cl fp; h.can) (fun s H C cl fp => let ⟨_, h⟩ := he s H C cl fp; h.can) hs,
    lc_sound hi.sd canG_sd canT_sd can_sd hv⟩
theorem ds_setLc {i : Nat} {y : Str} {py : Pos} {elt tg iter : Expr} {ifs : List Expr} {scope : Scope} {own : List (Str × Nat)} {gs : List Nat} {pos spos : Pos} {wi : TI} {fi : XI} {xg : XG} {ft : XT} {fe : XE} (hc : X.calm = true) (hN : X.N.Nodup) (hy : X.N[i]? = some y) (hyl : X.env.scope.names.lookup y = some .local)
    (hsw : swapsWith (.ListComp elt [⟨tg, iter, ifs, 0⟩] scope pos) (some (.Name y py)) spos.line X.env = pure true) (hi : DI X E tg iter wi fi) (ok : BlkOk X.N X.env.scope scope own)
    (hg : ∀ (s : Shared) (H : Hp) (C : Addr) (cl : List (Str × Addr)) (fp : List Addr), ∃ g, DG (X.blk s H scope (compEnvC scope cl C X.env) fp) gs tg g xg) (ht : ∀ (s : Shared) (H : Hp) (C : Addr) (cl : List (Str × Addr)) (fp : List Addr), ∃ tt, DTs (X.blk s H scope (compEnvC scope cl C X.env) fp) E ifs tt ft)
    (he : ∀ (s : Shared) (H : Hp) (C : Addr) (cl : List (Str × Addr)) (fp : List Addr), ∃ te, DE (X.blk s H scope (compEnvC scope cl C X.env) fp) E elt te fe) (hv : ∀ i ∈ gs, i ∈ own.map (·.2) := by decide) (hs : ∀ x, foldedSetIterable iter X.env x = pure x := by intro _; rfl) :
    DS X E (.Assign [.Name y py] (.ListComp elt [⟨tg, iter, ifs, 0⟩] scope pos) spos) (tAsg (tLc wi (canG X.K gs xg) (canT X.K E ft) (canE X.K E fe) (own.map (·.2))) (gName i)) (sSet i (xLc (own.map (·.2)) fi xg ft fe)) :=
  ⟨ps_setLc hc hN hy hyl hsw hi.pi ok (fun s H C cl fp => let ⟨_, h⟩ := hg s H C cl fp; h.can) (fun s H C cl fp => let ⟨_, h⟩ := ht s H C cl fp; h.can) (fun s H C cl fp => let ⟨_, h⟩ := he s H C cl fp; h.can) hs,
    sndS_set (lc_sound hi.sd canG_sd canT_sd can_sd hv)⟩
end
end DL

namespace DL
open Evl (Ex)
open PySem PySem.Spec PyProof.Rows L2 PySem.W

section
variable {K : PySem.W.Frag} {E : WX} {X : Cx} {G : En} {F F' : Hp} {T T' : List (Addr × D)} {s s' : S} {σ σ' : L2.St} {H H' : Hp} {v : V} {d : D} {ds : List D} {i : Nat} {r : R} {Q : VK}
/-! ### a range handed to list, tuple -/
abbrev TRg := L2.St → Hp → (Int → Int → Nat → Hp → Prop) → Prop
def RgCx (i j c : Int) (n : Nat) : Prop := Builtin.Range.small i j c = true ∧ Builtin.Range.rangeSize i j c = n ∧ n ≤ 2 ^ 24
def PRc (X : Cx) (e : Expr) (t : TRg) : Prop := ∀ (pins : List (Addr × Obj)) (s : Shared) (σ : L2.St) (H : Hp) (Q : Int → Int → Nat → Hp → Prop), Inv X pins σ H s → t σ H Q →
  wpAny (model X.prog X.w) X.A (eval e X.env) (fun x s' => ∃ r a b c n t u v H', x = .ref r ∧ IsRange s'.heap r a b c t u v ∧ RgCx a b c n ∧ Inv X pins σ H' s' ∧ Q a c n H') X.xe s
def tRc2 (ta : TA) : TRg := fun σ H Q => ta σ H fun vs H1 => ∃ i j, vs = [.int i, .int j] ∧ RgOk i j ∧ Q i 1 (j - i).toNat H1
section
variable {a b c : Expr} {ta : TA} {p pos : Pos}
theorem prc_2 (hg : Gl X "range") (hm : X.mg "range" = none) (ha : PA X [a, b] ta) (hs : starEach [a, b] X.env = (false, eval a X.env) :: starEach [b] X.env := by rfl) (hpl : (backTo pos (starEach [b] X.env)).any (·.1) = false := by rfl) : PRc X (.Call (.Name "range" p) [a, b] [] pos) (tRc2 ta) := by
  intro pins s σ H Q I h
  refine Call_ (ld_blt I hg hm boot_range (PyProof.Rows.callWith_type1 (thn (ha.run pos pins s σ H _ I h) fun us s1 ⟨vs, H1, I1, r1, q1⟩ => ?_) hs hpl))
  obtain ⟨i, j, e, ⟨b1, b2, b3, b4, b5⟩, q⟩ := q1
  subst e
  cases r1 with
  | cons r rr =>
    cases rr with
    | cons r' rr =>
      cases rr
      obtain ⟨t, rfl⟩ := r
      obtain ⟨t', rfl⟩ := r'
      exact call_range_2 ⟨_, i, j, 1, _, _, _, _, H1, rfl, IsRange.new _ _ _ _ _ _ _, ⟨small_one b1 b2 b3 b4, rangeSize_nat i j, b5⟩, I1.kept fun b u e => Heap.get?_push_of_some _ e, q⟩
end
def rgVc (a c : Int) (n : Nat) : List V := (List.range n).map fun i => V.int (a + (i : Nat) * c)
theorem vals_rgc {a c : Int} {n : Nat} {acc : Array Value} (h : ItemsOf (fun i v => ∃ t, v = .int (a + i * c) t) acc n) : Vals (rgVc a c n) acc.toList := by
  have e : acc.toList.length = n := by rw [Array.length_toList]; exact h.1
  unfold rgVc
  rw [← e]
  refine vals_of_get acc.toList _ fun j u hj => ?_
  obtain ⟨t, rfl⟩ := h.2 j u (by rw [← hj, Array.getElem?_toList])
  exact ⟨t, rfl⟩
theorem rgVc_len (a c : Int) (n : Nat) : (rgVc a c n).length = n := by unfold rgVc; rw [List.length_map, List.length_range]
def tLstRc (te : TRg) : TE := fun σ H Q => te σ H fun a c n H1 => ∀ q, H1 q = none → Q (.ref q) (upd H1 q (.lst (rgVc a c n)))
section
variable {e : Expr} {te : TRg} {p pos : Pos}
theorem pe_listRc (hc : X.calm = true) (hg : Gl X "list") (hm : X.mg "list" = none) (he : PRc X e te) (na : starEach [e] X.env = (false, eval e X.env) :: starEach [] X.env := by rfl) : PE X (.Call (.Name "list" p) [e] [] pos) (tLstRc te) := by
  refine ⟨fun pins s σ H Q I h => ?_⟩
  refine Call_ (ld_blt I hg hm boot_list (PyProof.Rows.callWith_type1 (args_cons (thn (he pins s σ H _ I h) fun x s1 ⟨r, a, b, c, n, t, u, v, H1, ex, hr, ok, I1, q⟩ => args_nil ?_) na) na))
  subst ex
  obtain ⟨b1, b2, b3⟩ := ok
  refine call_list_range (n := n) (I1.ok.hd hc) hr b1 b2 b3 fun h' tk acc c' hk e' hi => ?_
  refine ⟨.ref s1.heap.objs.size, upd H1 s1.heap.objs.size (.lst (rgVc a c n)), I1.laid hk (Nat.le_refl _) (show ObjOk X.prog X.w _ _ _ (.lst (rgVc a c n)) from ⟨?_, acc.toList, c', vals_rgc hi, ?_⟩), rfl, q _ (I1.hok.fresh (Nat.le_refl _))⟩
  · rw [rgVc_len, sizeLine_eq]; omega
  · rw [Array.toArray_toList]; exact e'
end
def SndRg (K : PySem.W.Frag) (E : WX) (t : TRg) (f : XI) : Prop := ∀ G F T s σ H Q, SR K G F T s σ H → Want K G E F (f s) (fun x => ∀ F' H' a c n, Ex F F' → SR K G F' T x.2 σ H' → x.1 = rgD a c n → n ≤ line → Q a c n H') → t σ H Q
structure DRg (X : Cx) (E : WX) (e : Expr) (t : TRg) (f : XI) : Prop where
  pr : PRc X e t
  sd : SndRg X.K E t f
theorem sndRg_2 {ta tb : TE} {fa fb : XE} (ha : Snd K E ta fa) (hb : Snd K E tb fb) : SndRg K E (tRc2 (tCons ta (tCons tb tNil))) (xRng2 fa fb) := fun G F T s σ H R sr w => by
  refine ha G F T s σ H _ sr (w.bind.mono (Evl.Ex.refl F) fun ⟨r, s1⟩ w1 F1 T1 H1 v1 e1 sr1 rv1 => ?_)
  refine hb G F1 T1 s1 σ H1 _ sr1 (w1.bind.mono e1 fun ⟨q, s2⟩ w2 F2 T2 H2 v2 e2 sr2 rv2 => ?_)
  dsimp only at w2 sr2 rv2
  obtain ⟨p2, q2⟩ := rv2.sub
  obtain ⟨p1, q1⟩ := rv1.sub
  split at w2
  · rename_i i j qi qj
    split at w2
    · rename_i hj
      unfold rg2Ok at hj
      simp only [Bool.and_eq_true, decide_eq_true_eq] at hj
      have va := sr2.view rv1 e2 (fun _ q => by rw [q2]; exact List.mem_append_right _ q) qi
      have vb := sr2.view rv2 (Evl.Ex.refl _) (fun _ q => q) qj
      cases va
      cases vb
      have sr3 := sr2
      rw [q2, q1] at sr3
      exact ⟨i, j, rfl, ⟨by omega, by omega, by omega, by omega, by omega⟩, w2 F2 H2 i 1 _ (e1.trans e2) sr3.dropApp.dropApp rfl (by unfold line; omega)⟩
    · exact w2.elim
  · exact w2.elim
section
variable {a b c : Expr} {ta tb tc : TE} {fa fb fc : XE} {p pos : Pos}
theorem drg_2 (hg : Gl X "range") (hm : X.mg "range" = none) (ha : DE X E a ta fa) (hb : DE X E b tb fb) (hs : starEach [a, b] X.env = (false, eval a X.env) :: starEach [b] X.env := by rfl) (hs2 : starEach [b] X.env = [(false, eval b X.env)] := by rfl) (hpl : (backTo pos (starEach [b] X.env)).any (·.1) = false := by rfl) : DRg X E (.Call (.Name "range" p) [a, b] [] pos) (tRc2 (tCons ta (tCons tb tNil))) (xRng2 fa fb) :=
  ⟨prc_2 hg hm (pa_cons ha.pe (pa_cons hb.pe pa_nil hs2) hs) hs hpl, sndRg_2 ha.sd hb.sd⟩
end
def xLstI (fi : XI) : XE := fun s => (fi s).bind fun (ds, s1) => .ok (.new (.list ds), s1)
def xTupI (fi : XI) : XE := fun s => (fi s).bind fun (ds, s1) => .ok (.val (.tuple ds), s1)
theorem rp_rgc {a c : Int} {n : Nat} : RpAll K F (rgVc a c n) (rgD a c n) := by
  unfold rgVc rgD
  generalize List.range n = l
  induction l with
  | nil => exact .nil
  | cons x l ih => exact .cons (.int _) ih
section
variable {e : Expr} {te : TRg} {fi : XI} {p pos : Pos}
theorem de_listR (hc : X.calm = true) (hg : Gl X "list") (hm : X.mg "list" = none) (he : DRg X E e te fi) (na : starEach [e] X.env = (false, eval e X.env) :: starEach [] X.env := by rfl) : DE X E (.Call (.Name "list" p) [e] [] pos) (tLstRc te) (xLstI fi) := ⟨pe_listRc hc hg hm he.pr na, fun G F T s σ H Q sr w => by
  refine he.sd G F T s σ H _ sr (w.bind.mono (Evl.Ex.refl F) fun ⟨ds, s1⟩ w1 F1 H1 a c n e1 sr1 hd hn q hq => ?_)
  dsimp only at w1 sr1 hd
  subst hd
  exact w1 F1 _ _ _ e1 (sr1.newList hq rp_rgc (by rw [rgD_len]; exact hn)) ⟨q, rfl, rfl⟩⟩
end
end
end DL

namespace DL
open Evl (Ex)
open PySem PySem.Spec PyProof.Rows L2 PySem.W

/-! ### walks of a tuple -/
section
variable {prog : Program} {w : World} {A : Around} {E : Value → Shared → Prop} {s : Shared} {l : Addr} {items : Array Value} {its : List Value} {ns : List Int} {Q : Value → Shared → Prop}
end

section
variable {X : Cx}
theorem CallR.or {f : Value} {r r' : List V → Hp → VK → Prop} (h : CallR X f r) (h' : CallR X f r') : CallR X f (fun vs H Q => r vs H Q ∨ r' vs H Q) := by
  intro pins s σ H vs us Q I rv q
  rcases q with q | q
  · exact h pins s σ H vs us Q I rv q
  · exact h' pins s σ H vs us Q I rv q
end
end DL

namespace DL
open Evl (Ex)
open PySem PySem.Spec PyProof.Rows L2 PySem.W

section
variable {K : PySem.W.Frag} {E : WX} {X : Cx} {G : En} {F F' : Hp} {T T' : List (Addr × D)} {s s' : S} {σ σ' : L2.St} {H H' : Hp} {v : V} {d : D} {ds : List D} {i : Nat} {r : R} {Q : VK}
/-! ### lists of ints, of bools -/
def intsOf : List D → Option (List Int)
  | [] => some []
  | .int i :: r => (intsOf r).map (i :: ·)
  | _ => none
def boolsOf : List D → Option (List Bool)
  | [] => some []
  | .bool i :: r => (boolsOf r).map (i :: ·)
  | _ => none
theorem Rp.ints {vs : List V} {ns : List Int} (h : RpAll K F vs (ns.map .int)) : vs = ns.map V.int := by
  induction ns generalizing vs with
  | nil => cases h; rfl
  | cons n r ih => cases h with
    | cons a b => cases a; rw [ih b]; rfl
theorem Rp.bools {vs : List V} {ns : List Bool} (h : RpAll K F vs (ns.map .bool)) : vs = ns.map V.bl := by
  induction ns generalizing vs with
  | nil => cases h; rfl
  | cons n r ih => cases h with
    | cons a b => cases a; rw [ih b]; rfl
theorem boolsOf_eq : ∀ {ds : List D} {ns : List Bool}, boolsOf ds = some ns → ds = ns.map .bool
  | [], ns, e => by cases e; rfl
  | .bool i :: r, ns, e => by
    have e' : (boolsOf r).map (i :: ·) = some ns := e
    obtain ⟨m, h1, rfl⟩ := Option.map_eq_some_iff.mp e'
    rw [boolsOf_eq h1]; rfl
  | .int _ :: _, _, e => by cases e
  | .none :: _, _, e => by cases e
  | .str _ :: _, _, e => by cases e
  | .list _ :: _, _, e => by cases e
  | .tuple _ :: _, _, e => by cases e
  | .dict _ :: _, _, e => by cases e
/-- the greatest, the least -/
def maxI : List Int → Int
  | [] => 0
  | [a] => a
  | a :: b :: r => let m := maxI (b :: r); if m ≤ a then a else m
def minI : List Int → Int
  | [] => 0
  | [a] => a
  | a :: b :: r => let m := minI (b :: r); if a ≤ m then a else m
def srt (ns : List Int) : List Int := ns.mergeSort (fun a b => decide (a ≤ b))
theorem srt_perm (ns : List Int) : (srt ns).Perm ns := List.mergeSort_perm _ _
theorem srt_pw (ns : List Int) : (srt ns).Pairwise (· ≤ ·) := by
  have h := List.pairwise_mergeSort (le := fun a b : Int => decide (a ≤ b)) (fun a b c h1 h2 => by simp only [decide_eq_true_eq] at *; omega) (fun a b => by simp only [Bool.or_eq_true, decide_eq_true_eq]; omega) ns
  exact h.imp fun {a b} q => by simpa using q
theorem srt_eq {ns ms : List Int} (hp : ms.Perm ns) (hs : ms.Pairwise (· ≤ ·)) : ms = srt ns :=
  List.Perm.eq_of_pairwise (fun a b _ _ h1 h2 => Int.le_antisymm h1 h2) hs (srt_pw ns) (hp.trans (srt_perm ns).symm)

/-! ### the functions of the language -/
def vi (i : Int) : Option RD := some (.val (.int i))
def vb (b : Bool) : Option RD := some (.val (.bool b))
def itemsOf : D → Option (List D)
  | .list ds => some ds
  | .tuple ds => some ds
  | _ => none
def hLen : List D → Option RD
  | [.list ds] => vi ds.length
  | [.tuple ds] => vi ds.length
  | [.str z] => if z.length ≤ line then vi z.length else none
  | [.dict [(.list [], .list ds)]] => vi ds.length
  | _ => none
def hInt : List D → Option RD
  | [.int i] => vi i
  | [.bool b] => vi (if b then 1 else 0)
  | _ => none
def hAbs : List D → Option RD
  | [.int i] => vi (if i < 0 then -i else i)
  | _ => none
def hMax2 : List D → Option RD
  | [.int i, .int j] => vi (if j > i then j else i)
  | _ => none
def hMin2 : List D → Option RD
  | [.int i, .int j] => vi (if j < i then j else i)
  | _ => none
def h1L (f : List D → Option RD) : List D → Option RD
  | [.list ds] => f ds
  | [.tuple ds] => f ds
  | _ => none
def hAll : List D → Option RD
  | [.list ds] => match boolsOf ds with
    | some bs => vb (bs.all id)
    | none => none
  | _ => none
def hList : List D → Option RD
  | [.list ds] => some (.lst ds)
  | [.tuple ds] => some (.lst ds)
  | _ => none
def hTuple : List D → Option RD
  | [.list ds] => some (.tup ds)
  | [.tuple ds] => some (.tup ds)
  | _ => none
theorem Res.int {i : Int} (h : Res K F H Q (.val (.int i))) : Q (.int i) H := h _ (.int i)
theorem Res.bool {b : Bool} (h : Res K F H Q (.val (.bool b))) : Q (.bl b) H := h _ (.bl b)
theorem RpKv.head {kvs : List (Key × V)} {k d : D} {ds : List (D × D)} (h : RpKv K F kvs ((k, d) :: ds)) : ∃ q, k = keyD q := by
  cases h
  exact ⟨_, rfl⟩
theorem opc_len : OpC K (fun xs H Q => ∃ x n, xs = [x] ∧ LenV K x H n ∧ Q (.int n) H) hLen := fun F H xs ds rd Q ex hv e hr => by
  unfold hLen at e
  split at e
  · obtain ⟨x, rfl, q⟩ := hv.one
    cases q with
    | lst a b c => cases e; exact ⟨_, _, rfl, .inl ⟨_, .of a, rfl⟩, by rw [b.length]; exact hr.int⟩
  · obtain ⟨x, rfl, q⟩ := hv.one
    cases q with
    | tup a b c => cases e; exact ⟨_, _, rfl, .inr ⟨_, (a.ex ex).sq, rfl⟩, by rw [b.length]; exact hr.int⟩
  · rename_i z
    obtain ⟨x, rfl, q⟩ := hv.one
    cases q
    split at e
    · rename_i hz
      cases e
      exact ⟨_, _, rfl, ⟨by rw [← line_eq]; exact hz, rfl⟩, hr.int⟩
    · cases e
  · obtain ⟨x, rfl, q⟩ := hv.one
    cases q with
    | scr a =>
      cases e
      rename_i p ns
      refine ⟨_, _, rfl, .inl ⟨_, Evl.ex_l ex a, rfl⟩, ?_⟩
      have := hr.int
      rw [List.length_map] at this ⊢
      exact this
    | dic a b c =>
      obtain ⟨q, hq⟩ := b.head
      cases q <;> cases hq
  · cases e
theorem opc_int : OpC K (fun xs H Q => (∃ i, xs = [.int i] ∧ Q (.int i) H) ∨ ∃ k, xs = [.bl k] ∧ Q (.int (if k then 1 else 0)) H) hInt := fun F H xs ds rd Q ex hv e hr => by
  unfold hInt at e
  split at e
  · obtain ⟨x, rfl, q⟩ := hv.one
    cases q; cases e
    exact .inl ⟨_, rfl, hr.int⟩
  · obtain ⟨x, rfl, q⟩ := hv.one
    cases q; cases e
    exact .inr ⟨_, rfl, hr.int⟩
  · cases e
theorem opc_abs : OpC K (fun xs H Q => ∃ i, xs = [.int i] ∧ Q (.int (if i < 0 then -i else i)) H) hAbs := fun F H xs ds rd Q ex hv e hr => by
  unfold hAbs at e
  split at e
  · obtain ⟨x, rfl, q⟩ := hv.one
    cases q; cases e
    exact ⟨_, rfl, hr.int⟩
  · cases e
theorem opc_max2 : OpC K (fun xs H Q => ∃ i j, xs = [.int i, .int j] ∧ Q (.int (if j > i then j else i)) H) hMax2 := fun F H xs ds rd Q ex hv e hr => by
  unfold hMax2 at e
  split at e
  · obtain ⟨x, y, rfl, q, q2⟩ := hv.two
    cases q; cases q2; cases e
    exact ⟨_, _, rfl, hr.int⟩
  · cases e
theorem opc_min2 : OpC K (fun xs H Q => ∃ i j, xs = [.int i, .int j] ∧ Q (.int (if j < i then j else i)) H) hMin2 := fun F H xs ds rd Q ex hv e hr => by
  unfold hMin2 at e
  split at e
  · obtain ⟨x, y, rfl, q, q2⟩ := hv.two
    cases q; cases q2; cases e
    exact ⟨_, _, rfl, hr.int⟩
  · cases e
theorem opc_all : OpC K (rAll K) hAll := fun F H xs ds rd Q ex hv e hr => by
  unfold hAll at e
  split at e
  · obtain ⟨x, rfl, q⟩ := hv.one
    cases q with
    | lst a b c =>
      split at e
      · rename_i bs hb
        cases e
        have eds := boolsOf_eq hb
        subst eds
        have evs := Rp.bools b
        subst evs
        exact ⟨_, bs, rfl, .of a, hr.bool⟩
      · cases e
  · cases e
theorem opc_tuple : OpC K (fun xs H Q => ∃ p ys, xs = [.ref p] ∧ ((SqL K H p ys ∧ NewT ys H Q) ∨ (SqT K H p ys ∧ Q (.ref p) H))) hTuple := fun F H xs ds rd Q ex hv e hr => by
  unfold hTuple at e
  split at e
  · obtain ⟨x, rfl, q⟩ := hv.one
    cases q with
    | lst a b c => cases e; exact ⟨_, _, rfl, .inl ⟨.of a, (hr c).1 _ b⟩⟩
  · obtain ⟨x, rfl, q⟩ := hv.one
    cases q with
    | tup a b c => cases e; exact ⟨_, _, rfl, .inr ⟨(a.ex ex).sq, (hr c).2 _ (.tup a b c)⟩⟩
  · cases e

/-! ### the calls -/
section
variable {x : Str} {p pos : Pos} {e : Expr} {es : List Expr} {ta : TA} {fa : XA}
theorem de_callB {id : String} {r : List V → Hp → VK → Prop} {h : List D → Option RD} (hc : CallR X (.builtin id) r) (o : OpC X.K r h) (hg : Gl X x) (hm : X.mg x = none) (hv : bootBuiltins x = some (.builtin id)) (ha : DA X E (e :: es) ta fa) (hn : x ≠ "__name__" := by decide) (hdb : (x == ("__debug__" : Str)) = false := by decide)
    (he : starEach (e :: es) X.env = (false, eval e X.env) :: starEach es X.env := by rfl) (hpl : (backTo pos (starEach es X.env)).any (·.1) = false := by rfl) : DE X E (.Call (.Name x p) (e :: es) [] pos) (tCB r ta) (xCB h fa) :=
  ⟨pe_callB hc hg hm hv ha.pa hn hdb he hpl, snd_cb o ha.sd⟩
theorem de_callTy {T : String} {r : List V → Hp → VK → Prop} {h : List D → Option RD} (hc : CallR X (.type T) r) (o : OpC X.K r h) (hg : Gl X x) (hm : X.mg x = none) (hv : bootBuiltins x = some (.type T)) (ha : DA X E (e :: es) ta fa) (hn : x ≠ "__name__" := by decide) (hdb : (x == ("__debug__" : Str)) = false := by decide)
    (he : starEach (e :: es) X.env = (false, eval e X.env) :: starEach es X.env := by rfl) (hpl : (backTo pos (starEach es X.env)).any (·.1) = false := by rfl) : DE X E (.Call (.Name x p) (e :: es) [] pos) (tCB r ta) (xCB h fa) :=
  ⟨pe_callTy hc hg hm hv ha.pa hn hdb he hpl, snd_cb o ha.sd⟩
end
/-! ### isinstance -/
inductive Ty6 where | int | bool | str | tup | lst
def Ty6.name : Ty6 → String
  | .int => "int"
  | .bool => "bool"
  | .str => "str"
  | .tup => "tuple"
  | .lst => "list"
def tyName : D → String
  | .none => "NoneType"
  | .bool _ => "bool"
  | .int _ => "int"
  | .str _ => "str"
  | .tuple _ => "tuple"
  | .dict ((.list _, _) :: _) => "list"
  | .dict _ => "dict"
  | .list _ => "list"
def isTy : Ty6 → D → Bool
  | .int, .int _ => true
  | .int, .bool _ => true
  | .bool, .bool _ => true
  | .str, .str _ => true
  | .tup, .tuple _ => true
  | .lst, .list _ => true
  | .lst, .dict ((.list _, _) :: _) => true
  | _, _ => false
theorem tyX_l {p : Addr} {vs : List V} (h : SqL K H p vs) : TyX K H (.ref p) (.type "list") := by
  rcases h with h | ⟨o, its, n, h1, h2, _⟩
  · rcases h with h | ⟨o, h⟩
    · exact .base (.lst h)
    · exact .base (.frz h)
  · exact .kList h1 h2
theorem tyX_t {p : Addr} {vs : List V} (h : SqT K H p vs) : TyX K H (.ref p) (.type "tuple") := by
  rcases h with h | ⟨o, its, n, h1, h2, _⟩
  · rcases h with h | ⟨o, h⟩
    · exact .base (.tup h)
    · exact .fTuple h
  · exact .kTuple h1 h2
theorem tyName_dic {kvs : List (Key × V)} {ds : List (D × D)} (h : RpKv K F kvs ds) : tyName (.dict ds) = "dict" := by
  cases h with
  | nil => rfl
  | cons a b =>
    rename_i k _ _ _ _
    cases k <;> rfl
theorem view_ty (ex : Ex F H) (h : View K F H v d) : TyX K H v (.type (tyName d)) := by
  cases h with
  | lst a b c => exact tyX_l (.of a)
  | scr a => exact tyX_l (Evl.ex_l ex a)
  | dic a b c =>
    have e : tyName (.dict _) = "dict" := tyName_dic b
    rw [e]
    exact .base (.dK a)
  | tup a b c => exact tyX_t ((a.ex ex).sq)
  | non => exact .base .non
  | bl b => exact .base (.bl b)
  | int i => exact .base (.int i)
  | str x => exact .base (.str x)
theorem TyX.mono {H H' : Hp} {v : V} {t : Value} (e : Ex H H') (h : TyX K H v t) : TyX K H' v t := by
  cases h with
  | base b => cases b with
    | non => exact .base .non
    | bl x => exact .base (.bl x)
    | int x => exact .base (.int x)
    | str x => exact .base (.str x)
    | flt x => exact .base (.flt x)
    | lst q => exact .base (.lst (e _ _ q))
    | frz q => exact .base (.frz (e _ _ q))
    | tup q => exact .base (.tup (e _ _ q))
    | dK q => exact .base (.dK (e _ _ q))
    | dT q => exact .base (.dT (e _ _ q))
    | ins q a b c d f => exact .base (.ins (e _ _ q) a b c d f)
  | byt b => exact .byt b
  | set q => exact .set (e _ _ q)
  | kList a b => exact .kList a b
  | kTuple a b => exact .kTuple a b
  | kDict a b => exact .kDict a b
  | fTuple q => exact .fTuple (e _ _ q)
  | fDict q => exact .fDict (e _ _ q)
theorem isTy_dic {kvs : List (Key × V)} {ds : List (D × D)} (h : RpKv K F kvs ds) (T : Ty6) : isTy T (.dict ds) = false := by
  cases h with
  | nil => cases T <;> rfl
  | cons a b =>
    rename_i k _ _ _ _
    cases k <;> cases T <;> rfl
theorem kitB_ok (T : Ty6) (h : View K F H v d) : kitB (tyName d) T.name = some (isTy T d) := by
  cases h with
  | dic a b c =>
    rw [tyName_dic b, isTy_dic b T]
    cases T <;> (dsimp only [Ty6.name]; decide +kernel)
  | _ => cases T <;> (dsimp only [tyName, Ty6.name, isTy, scrD]; decide +kernel)
def xIsi (g : D → Bool) (fa : XE) : XE := fun s => (fa s).bind fun (r, s1) => match getR s1 r with
  | some d => .ok (.val (.bool (g d)), s1)
  | none => .bad
section
variable {a : Expr} {ta : TE} {fa : XE} {p p2 pos : Pos}
theorem de_isi (T : Ty6) {x : Str} (hg : Gl X "isinstance") (hm : X.mg "isinstance" = none) (ha : DE X E a ta fa) (hg2 : Gl X x) (hm2 : X.mg x = none) (hv2 : bootBuiltins x = some (.type T.name)) (hn : x ≠ "__name__" := by decide) (hd : (x == ("__debug__" : Str)) = false := by decide)
    (he : starEach [a, .Name x p2] X.env = (false, eval a X.env) :: starEach [.Name x p2] X.env := by rfl) (he2 : starEach [.Name x p2] X.env = [(false, eval (.Name x p2) X.env)] := by rfl) (hpl : (backTo pos (starEach [.Name x p2] X.env)).any (·.1) = false := by rfl) :
    DE X E (.Call (.Name "isinstance" p) [a, .Name x p2] [] pos) (tCB (rIsi X.K) (tCons ta (tCons (tC (.ty T.name)) tNil))) (xIsi (isTy T) fa) :=
  ⟨pe_callB call_isi hg hm (by decide +kernel) (pa_cons ha.pe (pa_cons (pe_bltn hg2 hm2 hv2 rfl hn hd) pa_nil he2) he) (he := he) (hpl := hpl), fun G F T' s σ H Q sr w => by
    refine ha.sd G F T' s σ H _ sr (w.bind.mono (Evl.Ex.refl F) fun ⟨r, s1⟩ w1 F1 T1 H1 v1 e1 sr1 rv1 => ?_)
    dsimp only at w1 sr1 rv1
    split at w1
    · rename_i d q
      have vw := sr1.view rv1 (Evl.Ex.refl _) (fun _ q => q) q
      obtain ⟨pre, rfl⟩ := rv1.sub
      exact ⟨v1, .ty T.name, _, _, _, rfl, .ty _, view_ty sr1.fh vw, kit_ty (kitB_ok T vw), w1 F1 _ H1 _ e1 sr1.dropApp ⟨.bl _, rfl⟩⟩
    · exact w1.elim⟩
end
end
end DL

namespace DL
open Evl (Ex)
open PySem PySem.Spec PyProof.Rows L2 PySem.W

section
variable {K : PySem.W.Frag} {E : WX} {X : Cx} {G : En} {F F' : Hp} {T T' : List (Addr × D)} {s s' : S} {σ σ' : L2.St} {H H' : Hp} {v : V} {d : D} {ds : List D} {i : Nat} {r : R} {Q : VK}
/-! ### methods that change a list of our own -/
def OpM (K : PySem.W.Frag) (r : V → List V → Hp → VK → Prop) (h : List D → List D → Option (List D × D)) : Prop := ∀ F H p vs xs as es ys d Q, Ex F H → H p = some (.lst vs) → RpAll K F vs xs → xs.length ≤ line → RpAll K F as es → h xs es = some (ys, d) → ys.length ≤ line →
  (∀ ws v, RpAll K F ws ys → Rp K F v d → Q v (upd H p (.lst ws))) → r (.ref p) as H Q
/-- the own list in slot i -/
def ownL (s : S) (i : Nat) : Option (Option Nat × List D) := match getS s i with
  | some (.own k (.list ds)) => some (k, ds)
  | _ => none
theorem ownL_eq {k : Option Nat} (h : ownL s i = some (k, ds)) : getS s i = some (.own k (.list ds)) := by
  unfold ownL at h
  split at h
  · rename_i k' ds' q
    cases h
    exact q
  · cases h
def xMut (i : Nat) (h : List D → List D → Option (List D × D)) (fa : XA) : XE := fun s => match ownL s i with
  | none => .bad
  | some _ => (fa s).bind fun (rs, s1) => match frzs s1 rs with
    | none => .bad
    | some (es, s2) => match ownL s2 i with
      | none => .bad
      | some (k, xs) => match h xs es with
        | none => .bad
        | some (ys, d) => if ys.length ≤ line then .ok (.val d, s2.set i (some (.own k (.list ys)))) else .bad
theorem snd_mut {r : V → List V → Hp → VK → Prop} {h : List D → List D → Option (List D × D)} {ta : TA} {fa : XA} (o : OpM K r h) (ha : SndA K E ta fa) : Snd K E (tBM K "list" r (tVar i) ta) (xMut i h fa) := fun G F T s σ H Q sr w => by
  unfold xMut at w
  split at w
  · exact w.elim
  rename_i kd q0
  obtain ⟨k0, ds0⟩ := kd
  obtain ⟨p, hp, o0, _⟩ := sr.ow i k0 _ (ownL_eq q0)
  obtain ⟨vs0, hv0, _⟩ := o0.at_
  refine ⟨.ref p, hp, .inl ⟨rfl, vs0, .of hv0⟩, ?_⟩
  refine ha G F T s σ H _ sr (w.bind.mono (Evl.Ex.refl F) fun ⟨rs, s1⟩ w1 F1 T1 H1 vs e1 sr1 rv1 => ?_)
  dsimp only at w1 sr1 rv1
  split at w1
  · exact w1.elim
  rename_i es s2 q2
  obtain ⟨F2, e2, sr2, ha2⟩ := SR.frzs rv1 sr1 (Evl.Ex.refl _) q2
  split at w1
  · exact w1.elim
  rename_i k xs q3
  split at w1
  · exact w1.elim
  rename_i ys d q4
  split at w1
  · rename_i hz
    have g3 := ownL_eq q3
    obtain ⟨p', hp', o3, _⟩ := sr2.ow i k _ g3
    rw [hp] at hp'; cases hp'
    obtain ⟨vs3, hv3, hr3, hz3⟩ := o3.at_
    refine o F2 H1 p vs3 xs vs es ys d Q sr2.fh hv3 hr3 hz3 ha2 q4 hz fun ws v hw hv => ?_
    exact w1 F2 T _ v (e1.trans e2) (sr2.write g3 hp hw hz) ⟨hv, rfl⟩
  · exact w1.elim
section
variable {x : Str} {e : Expr} {es : List Expr} {ta : TA} {fa : XA} {name : Str} {px apos cpos : Pos} {id : String} {r : V → List V → Hp → VK → Prop} {h : List D → List D → Option (List D × D)}
theorem de_mut (pa : PlainAttrs "list") (slot : Slot "list" name id) (hty : typeOf (.builtin id) = pure (.type "method_descriptor")) (hm : MtR X id r) (o : OpM X.K r h) (ho : PE X (.Name x px) (tVar i)) (ha : DA X E (e :: es) ta fa)
    (hbase : attributeBase (.Name x px) name X.env (eval (.Name x px) X.env) = eval (.Name x px) X.env := by rfl)
    (hfew : ((backTo cpos (starEach (e :: es) X.env)).all (fun x => !x.1) && (backToKw cpos (keywordEach [] X.env)).all (fun x => x.1.isSome)
      && decide ((e :: es).length + ([] : List Keyword).length + (if ([] : List Keyword).isEmpty then 0 else 1) < 30)) = true := by rfl)
    (hline : (apos.endLine == cpos.line) = true := by rfl) (hs : starEach (e :: es) X.env = (false, eval e X.env) :: starEach es X.env := by rfl) (hplain : (backTo cpos (starEach es X.env)).any (·.1) = false := by rfl) :
    DE X E (.Call (.Attribute (.Name x px) name apos) (e :: es) [] cpos) (tBM X.K "list" r (tVar i) ta) (xMut i h fa) :=
  ⟨pe_bm pa slot hty hm ho ha.pa hbase hfew hline hs hplain, snd_mut o ha.sd⟩
end
def mApp : List D → List D → Option (List D × D)
  | xs, [d] => if xs.length < line then some (xs ++ [d], .none) else none
  | _, _ => none
def mExt : List D → List D → Option (List D × D)
  | xs, [.list ys] => some (xs ++ ys, .none)
  | _, _ => none
def mIns : List D → List D → Option (List D × D)
  | xs, [.int j, d] => if xs.length < line ∧ 0 ≤ j ∧ j < 1000000000 then some (xs.take j.toNat ++ [d] ++ xs.drop j.toNat, .none) else none
  | _, _ => none
def mPop : List D → List D → Option (List D × D)
  | xs, [] => (xs[xs.length - 1]?).map fun d => (xs.dropLast, d)
  | _, _ => none
def mPopAt : List D → List D → Option (List D × D)
  | xs, [.int j] => match ixN xs.length j with
    | some k => (xs[k]?).map fun d => (xs.eraseIdx k, d)
    | none => none
  | _, _ => none
def mRev : List D → List D → Option (List D × D)
  | xs, [] => some (xs.reverse, .none)
  | _, _ => none
theorem RpAll.one {vs : List V} (h : RpAll K F vs [d]) : ∃ v, vs = [v] ∧ Rp K F v d := by
  cases h with
  | cons a b => cases b; exact ⟨_, rfl, a⟩
theorem RpAll.two {vs : List V} {e : D} (h : RpAll K F vs [d, e]) : ∃ v w, vs = [v, w] ∧ Rp K F v d ∧ Rp K F w e := by
  cases h with
  | cons a b => obtain ⟨w, rfl, q⟩ := b.one; exact ⟨_, w, rfl, a, q⟩
theorem RpAll.zero {vs : List V} (h : RpAll K F vs []) : vs = [] := by cases h; rfl
theorem RpAll.dropLast : ∀ {vs : List V} {ds : List D}, RpAll K F vs ds → RpAll K F vs.dropLast ds.dropLast
  | _, _, .nil => .nil
  | _, _, .cons a .nil => .nil
  | _, _, .cons a (.cons b t) => .cons a (RpAll.dropLast (.cons b t))
theorem RpAll.erase : ∀ {vs : List V} {ds : List D} (k : Nat), RpAll K F vs ds → RpAll K F (vs.eraseIdx k) (ds.eraseIdx k)
  | _, _, _, .nil => .nil
  | _, _, 0, .cons a t => t
  | _, _, k + 1, .cons a t => .cons a (RpAll.erase k t)
theorem opm_app : OpM K rAppend mApp := fun F H p vs xs as es ys d Q ex hp hr hz ha e hy q => by
  unfold mApp at e
  split at e
  · split at e
    · rename_i hlt
      cases e
      obtain ⟨v, rfl, hv⟩ := ha.one
      exact ⟨p, vs, v, rfl, rfl, hp, by rw [hr.length, ← line_eq]; exact hlt, q _ _ (hr.append (.cons hv .nil)) .non⟩
    · cases e
  · cases e
theorem opm_popAt : OpM K rPopAt mPopAt := fun F H p vs xs as es ys d Q ex hp hr hz ha e hy q => by
  unfold mPopAt at e
  split at e
  · split at e
    · rename_i j k hk
      obtain ⟨d', h1, h2⟩ := Option.map_eq_some_iff.mp e
      cases h2
      obtain ⟨v, hv, hd⟩ := hr.get h1
      obtain ⟨k1, k2, k3, k4⟩ := ixN_seq hk
      obtain ⟨u, rfl, hu⟩ := ha.one
      cases hu
      have hl : xs.length ≤ 16777216 := hz
      exact ⟨p, vs, _, k, v, rfl, rfl, hp, by omega, by omega, by rw [hr.length]; exact k1, hv, q _ _ (hr.erase k) hd⟩
    · cases e
  · cases e
/-! ### xs[i] = e -/
def sSub (i : Nat) (fe fi : XE) : XS := fun s => (fe s).bind fun (r, s1) => match ownL s1 i with
  | none => .bad
  | some _ => (fi s1).bind fun (q, s2) => match getR s2 q with
  | some (.int j) => (match frz s2 r with
    | some (d, s3) => (match ownL s3 i with
      | some (k, xs) => (match ixN xs.length j with
        | some m => .ok (.nx (s3.set i (some (.own k (.list (xs.set m d))))))
        | none => .bad)
      | none => .bad)
    | none => .bad)
  | _ => .bad
theorem ds_sub {x : Str} {e a : Expr} {te ta : TE} {fe fa : XE} {px ps pos : Pos} (he : DE X E e te fe) (ho : PE X (.Name x px) (tVar i)) (ha : DE X E a ta fa)
    (hb : ∀ v, assign (.Subscript (.Name x px) a ps) X.env v = (do
      let ov ← holding [v] (eval (.Name x px) X.env)
      let iv ← holding [v, ov] (eval a X.env)
      standAt ps
      holding [v, ov, iv] (setItem ov iv v)
      release [v, ov, iv] []) := by intro _; rfl) (hs : swapsWithSole [.Subscript (.Name x px) a ps] e pos.line X.env = pure false := by rfl) (hw : swappedStores [.Subscript (.Name x px) a ps] e X.env = pure none := by rfl)
    (h1 : (assignEach [.Subscript (.Name x px) a ps] X.env).map (·.2) = [assign (.Subscript (.Name x px) a ps) X.env] := by rfl) : DS X E (.Assign [.Subscript (.Name x px) a ps] e pos) (tAsg te (gSub (tVar i) ta rSetL)) (sSub i fe fa) :=
  ⟨ps_asg he.pe (pg_sub ho ha.pe set_list hb) hs hw h1, fun G F s σ H Dn sr w => by
    refine he.sd G F [] s σ H _ sr (w.bind.mono (Evl.Ex.refl F) fun ⟨r, s1⟩ w1 F1 T1 H1 v1 e1 sr1 rv1 => ?_)
    dsimp only at w1 sr1 rv1
    split at w1
    · exact w1.elim
    rename_i kd q0
    obtain ⟨k0, ds0⟩ := kd
    obtain ⟨p, hp, o0, _⟩ := sr1.ow i k0 _ (ownL_eq q0)
    refine ⟨.ref p, hp, ?_⟩
    refine ha.sd G F1 T1 s1 σ H1 _ sr1 (w1.bind.mono e1 fun ⟨q, s2⟩ w2 F2 T2 H2 v2 e2 sr2 rv2 => ?_)
    dsimp only at w2 sr2 rv2
    split at w2
    · rename_i j qj
      have vw := sr2.view rv2 (Evl.Ex.refl _) (fun _ q => q) qj
      cases vw
      obtain ⟨pre, rfl⟩ := rv2.sub
      have sr2' := sr2.dropApp
      split at w2
      · rename_i d s3 q3
        obtain ⟨F3, e3, sr3, hd⟩ := sr2'.frz rv1 e2 q3
        split at w2
        · rename_i k xs q4
          split at w2
          · rename_i m q5
            have g4 := ownL_eq q4
            obtain ⟨p', hp', o3, _⟩ := sr3.ow i k _ g4
            rw [hp] at hp'; cases hp'
            obtain ⟨vs3, hv3, hr3, hz3⟩ := o3.at_
            refine ⟨p, vs3, j, m, rfl, rfl, hv3, by rw [hr3.length]; exact q5, ?_⟩
            exact w2 F3 σ _ ((e1.trans e2).trans e3) (sr3.write g4 hp (RpAll.set hd m hr3) (by rw [List.length_set]; exact hz3))
          · exact w2.elim
        · exact w2.elim
      · exact w2.elim
    · exact w2.elim⟩

/-! ### x op= e, x[i] op= e, of ints -/
def sAug (i : Nat) (f : Int → Int → Int) (fe : XE) : XS := fun s => match getS s i with
  | some (.val (.int a)) => (fe s).bind fun (r, s1) => match getR s1 r with
    | some (.int b) => .ok (.nx (s1.set i (some (.val (.int (f a b))))))
    | _ => .bad
  | _ => .bad
def sAugS (i : Nat) (f : Int → Int → Int) (fi fe : XE) : XS := fun s => match ownL s i with
  | none => .bad
  | some _ => (fi s).bind fun (q, s1) => match getR s1 q, ownL s1 i with
    | some (.int j), some (_, xs) => (match atI xs j with
      | some (.int a) => (fe s1).bind fun (r, s2) => (match getR s2 r, ownL s2 i with
        | some (.int b), some (k, ys) => (match ixN ys.length j with
          | some m => .ok (.nx (s2.set i (some (.own k (.list (ys.set m (.int (f a b))))))))
          | none => .bad)
        | _, _ => .bad)
      | _ => .bad)
    | _, _ => .bad
end
end DL

namespace DL
open Evl (Ex)
open PySem PySem.Spec PyProof.Rows L2 PySem.W

/-! ### t[::-1] of a tuple -/
section
variable {prog : Program} {w : World} {A : Around} {E : Value → Shared → Prop} {s : Shared}
theorem rev_adjust (n : Nat) : Builtin.Slice.sliceAdjust none none (-1) (n : Int) = ((n : Int) - 1, -1) := by
  unfold Builtin.Slice.sliceAdjust
  rfl
theorem rev_places (n : Nat) : Builtin.Slice.slicePlaces ((n : Int) - 1) (-1) (-1) = n := by
  unfold Builtin.Slice.slicePlaces
  have h1 : ¬ ((-1 : Int) > 0) := by omega
  simp only [h1, if_false]
  by_cases h : (n : Int) - 1 > -1
  · simp only [h, if_true]
    have e : ((n : Int) - 1 - -1 - 1) / (- -1) = (n : Int) - 1 := by
      rw [show (- -1 : Int) = 1 by decide, Int.ediv_one]
      omega
    rw [e]
    omega
  · simp only [h, if_false]
    omega
theorem applied_rev {sl : Addr} {t : Tok} {n : Nat} {Q : Int × Int × Nat → Shared → Prop} (hs : s.heap.IsSliceOf sl .none .none (.int (-1) t)) (h : Q ((n : Int) - 1, -1, n) s) : wpAny (model prog w) A (Builtin.Slice.sliceApplied (.ref sl) (pure (n : Int))) Q E s := by
  obtain ⟨os, hos, hcs, hds⟩ := id hs
  unfold Builtin.Slice.sliceApplied Builtin.Slice.sliceFields
  refine wpAny_bind (wpAny_bind (wpAny_field hos hds (x := .none) rfl (wpAny_bind (wpAny_field hos hds (x := .none) rfl (wpAny_bind (wpAny_field hos hds (x := .int (-1) t) rfl (wpAny_pure ?_)))))))
  refine wpAny_bind (HT.slicePart_ (.int (-1) t) ?_)
  show wpAny _ _ (if ((-1 : Int) == 0) = true then _ else _) _ _ s
  rw [if_neg (by decide)]
  refine wpAny_bind (HT.slicePart_ .none (wpAny_bind (HT.slicePart_ .none (wpAny_bind (wpAny_pure ?_)))))
  show wpAny _ _ (match Builtin.Slice.sliceAdjust none none (-1) (n : Int) with | (lo, hi) => pure (lo, (-1 : Int), Builtin.Slice.slicePlaces lo hi (-1))) _ _ s
  rw [rev_adjust n]
  show wpAny _ _ (pure ((n : Int) - 1, (-1 : Int), Builtin.Slice.slicePlaces ((n : Int) - 1) (-1) (-1))) _ _ s
  rw [rev_places]
  exact wpAny_pure h
theorem fmap_some {α β : Type} {f : α → Option β} {g : α → β} : ∀ {l : List α}, (∀ k ∈ l, f k = some (g k)) → l.filterMap f = l.map g
  | [], _ => rfl
  | a :: l, h => by
    rw [List.filterMap_cons, h a List.mem_cons_self, List.map_cons, fmap_some fun k hk => h k (List.mem_cons_of_mem _ hk)]
theorem rev_pick (xs : Array Value) : ((List.range xs.size).filterMap fun (k : Nat) => xs[((xs.size : Int) - 1 + (k : Int) * (-1)).toNat]?) = xs.toList.reverse := by
  apply List.ext_getElem?
  intro i
  have e : ((List.range xs.size).filterMap fun (k : Nat) => xs[((xs.size : Int) - 1 + (k : Int) * (-1)).toNat]?) = (List.range xs.size).map fun k => (xs[xs.size - 1 - k]?).getD default := by
    refine fmap_some fun k hk => ?_
    have hk := List.mem_range.mp hk
    have e1 : ((xs.size : Int) - 1 + (k : Int) * (-1)).toNat = xs.size - 1 - k := by omega
    rw [e1]
    have : xs.size - 1 - k < xs.size := by omega
    simp [this]
  rw [e, List.getElem?_map]
  by_cases hi : i < xs.size
  · rw [List.getElem?_range hi, List.getElem?_reverse (by simpa using hi)]
    have : xs.size - 1 - i < xs.size := by omega
    simp [this]
  · rw [List.getElem?_eq_none (by rw [List.length_range]; omega), List.getElem?_eq_none (by simp; omega)]
    rfl
theorem getItem_tuple_rev {t sl : Addr} {items : Array Value} {tk : Tok} {Q : Value → Shared → Prop} (ht : IsTup s.heap t items) (hs : s.heap.IsSliceOf sl .none .none (.int (-1) tk))
    (h : Q (.ref s.heap.objs.size) { s with heap := s.heap.push { cls := .type "tuple", data := .seq items.toList.reverse.toArray } })
    (hsz : items.size ≤ sizeLine) : wpAny (model prog w) A (getItem (.ref t) (.ref sl)) Q E s := by
  have htake : sizeOk (.seq items.toList.reverse.toArray) := by
    show items.toList.reverse.toArray.size ≤ sizeLine
    rw [List.size_toArray, List.length_reverse, Array.length_toList]
    exact hsz
  obtain ⟨os, hos, hcs, hds⟩ := id hs
  have hTs : s.TypeIs (.ref sl) "slice" := ⟨os, hos, hcs⟩
  unfold getItem
  try with_reducible refine wpAny_holding ?_
  first | refine wpAny_bind (wpAny_pure ?_) | skip
  refine wpAny_bind (wpAny_sequenceKey ht.typeIs (by decide) ?_)
  refine wpAny_bind (wpAny_callSpecial?_slot (name := Str.ofString "__getitem__") ht.typeIs PyProof.Rows.slot_tuple_getitem
    (wpAny_call_entry PyProof.Rows.slot_tuple_getitem ht.typeIs entry_tuple_getitem ?_ (args_tuple_getitem _ _)))
  show wpAny _ _ (Builtin.Tuple.tupleItemsOf (.ref t) >>= _) _ _ s
  refine wpAny_bind (tupleItemsOf_ ht ?_)
  refine wpAny_bind (wpAny_typeOf hTs ?_)
  rw [if_pos (by decide)]
  refine wpAny_bind (applied_rev hs ?_)
  have hno : ¬ ((((items.size : Int) - 1) == 0 && (-1 : Int) == 1 && items.size == items.size) = true) := by
    intro q
    rw [Bool.and_eq_true, Bool.and_eq_true] at q
    exact absurd q.1.2 (by decide)
  show wpAny _ _ (if (((items.size : Int) - 1) == 0 && (-1 : Int) == 1 && items.size == items.size) = true then _ else _) _ _ s
  rw [if_neg hno, rev_pick]
  first
    | exact wpAny_bind (m := Builtin.Tuple.tupleExact _) (wpAny_newObj_type (wpAny_pure ⟨_, rfl, wpAny_pure h⟩) htake)
    | exact wpAny_bind (m := Builtin.Tuple.tupleExact _) (wpAny_newObj_type (wpAny_bind (wpAny_pure (wpAny_pure ⟨_, rfl, wpAny_pure h⟩))) htake)
    | exact wpAny_bind (wpAny_bind (m := Builtin.Tuple.tupleExact _) (wpAny_newObj_type (wpAny_pure (wpAny_pure ⟨_, rfl, wpAny_pure h⟩)) htake))
    | exact wpAny_bind (wpAny_bind (m := Builtin.Tuple.tupleExact _) (wpAny_newObj_type (wpAny_pure ⟨_, rfl, wpAny_pure h⟩) htake))
end

section
variable {K : PySem.W.Frag} {E : WX} {X : Cx} {G : En} {F F' : Hp} {T T' : List (Addr × D)} {s s' : S} {σ σ' : L2.St} {H H' : Hp} {v : V} {d : D} {ds : List D} {i : Nat} {r : R} {Q : VK}
def rStep (K : PySem.W.Frag) : R2 := fun x y H Q => (∃ a xs, x = .ref a ∧ y = .int (-1) ∧ SqL K H a xs ∧ ∀ p, H p = none → Q (.ref p) (upd H p (.lst xs.reverse))) ∨ (∃ a xs, x = .ref a ∧ y = .int 1 ∧ SqL K H a xs ∧ ∀ p, H p = none → Q (.ref p) (upd H p (.lst xs))) ∨
  (∃ a xs, x = .ref a ∧ y = .int (-1) ∧ SqT K H a xs ∧ NewT xs.reverse H Q)
theorem pick_one (items : Array Value) : slicePick items none none (some 1) = items := (show slicePick items none none (some 1) = slicePick items none none none from rfl).trans (slicePick_all items)
theorem pe_step {e c : Expr} {te tc : TE} {p3 pos : Pos} (he : PE X e te) (hc : PE X c tc) (hsub : ∀ v u, subscripted (.Slice none none (some c) p3) false v u = operate [v, u] (getItem v u) := by intro _ _; rfl) : PE X (.Subscript e (.Slice none none (some c) p3) pos) (tOp (rStep X.K) te tc) := by
  refine ⟨fun pins s σ H Q I h => ?_⟩
  refine Subscript_ (thn (he.run pins s σ H _ I h) fun v s1 ⟨x, H1, I1, r1, q1⟩ => ?_)
  refine wpAny_Slice (thn (po_none.run pins s1 σ H1 (fun o H2 => o = none ∧ H2 = H1) I1 ⟨rfl, rfl⟩) fun vl s2 ⟨l, H2, I2, pl, el, e2⟩ => ?_)
  subst el e2
  refine thn (po_none.run pins s2 σ H2 (fun o H3 => o = none ∧ H3 = H2) I2 ⟨rfl, rfl⟩) fun vu s3 ⟨u, H3, I3, pu, eu, e3⟩ => ?_
  subst eu e3
  refine thn (hc.run pins s3 σ H3 _ I3 q1) fun vs s4 ⟨y, H4, I4, ry, q⟩ => ?_
  have I5 : Inv X pins σ H4 { s4 with heap := s4.heap.push { cls := .type "slice", data := .fields #[vl, vu, vs] } } := I4.kept (t' := s4.toks) fun b ob q => Heap.get?_push_of_some _ q
  show wpAny (model X.prog X.w) X.A (subscriptTail e (.Slice none none (some c) p3) v (.ref s4.heap.objs.size)) (L2.EP X pins σ Q) X.xe { s4 with heap := s4.heap.push { cls := .type "slice", data := .fields #[vl, vu, vs] } }
  rcases q with ⟨a, xs, ex, ey, hx, q⟩ | ⟨a, xs, ex, ey, hx, q⟩ | ⟨a, xs, ex, ey, hx, q⟩
  · subst ex ey
    cases r1
    obtain ⟨tk, rfl⟩ := ry
    obtain ⟨its, r, ht, hz⟩ := I5.list hx
    have hlen := r.length
    refine tail_any (ops := [.ref a, .ref s4.heap.objs.size]) ht.isList.typeIs (PySem.slot_list_getitem.lookup) ?_ (hsub _ _)
    refine wpAny_getItem_list_slice ht.isList (Heap.IsSliceOf.new _ vl vu _) pl pu (.int (-1) tk) (by decide) ?_ (by rw [List.size_toArray]; omega)
    rw [PySem.W.krv_pick]
    refine ⟨.ref _, _, I5.laid (t' := s4.toks) (o := .lst xs.reverse) (fun b ob q => Heap.get?_push_of_some _ q) (Nat.le_refl _) ?_, rfl, q _ (I5.hok.fresh (Nat.le_refl _))⟩
    exact ⟨by rw [List.length_reverse]; exact hz, _, 0, r.reverse, Heap.get?_push_size _ rfl⟩
  · subst ex ey
    cases r1
    obtain ⟨tk, rfl⟩ := ry
    obtain ⟨its, r, ht, hz⟩ := I5.list hx
    have hlen := r.length
    refine tail_any (ops := [.ref a, .ref s4.heap.objs.size]) ht.isList.typeIs (PySem.slot_list_getitem.lookup) ?_ (hsub _ _)
    refine wpAny_getItem_list_slice ht.isList (Heap.IsSliceOf.new _ vl vu _) pl pu (.int 1 tk) (by decide) ?_ (by rw [List.size_toArray]; omega)
    rw [pick_one]
    refine ⟨.ref _, _, I5.laid (t' := s4.toks) (o := .lst xs) (fun b ob q => Heap.get?_push_of_some _ q) (Nat.le_refl _) ?_, rfl, q _ (I5.hok.fresh (Nat.le_refl _))⟩
    exact ⟨hz, _, 0, r, Heap.get?_push_size _ rfl⟩
  · subst ex ey
    cases r1
    obtain ⟨tk, rfl⟩ := ry
    obtain ⟨its, r, ht, hz⟩ := I5.tuple hx
    have hlen := r.length
    cases pl
    cases pu
    refine tail_any (ops := [.ref a, .ref s4.heap.objs.size]) (show Heap.IsTuple _ a its.toArray from ht).typeIs PyProof.Rows.slot_tuple_getitem.lookup ?_ (hsub _ _)
    refine getItem_tuple_rev ht (Heap.IsSliceOf.new _ _ _ _) ?_ (by rw [List.size_toArray]; omega)
    exact newT_push (tk := s4.toks) I5 (by rw [List.length_reverse]; exact hz) r.reverse q
def hStep : D → D → Option RD
  | .list ds, .int c => if c = -1 then some (.lst ds.reverse) else if c = 1 then some (.lst ds) else none
  | .tuple ds, .int c => if c = -1 then some (.tup ds.reverse) else none
  | _, _ => none
theorem op2_step : Op2 K (rStep K) hStep := fun F H x y a b rd Q ex hx hy e hr => by
  unfold hStep at e
  split at e
  · cases hy
    cases hx with
    | lst h1 h2 h3 =>
      split at e
      · rename_i hc
        subst hc
        cases e
        exact .inl ⟨_, _, rfl, rfl, .of h1, fun p hp => hr (by rw [List.length_reverse]; exact h3) p _ hp h2.reverse⟩
      · split at e
        · rename_i hc
          subst hc
          cases e
          exact .inr (.inl ⟨_, _, rfl, rfl, .of h1, fun p hp => hr h3 p _ hp h2⟩)
        · cases e
  · cases hy
    cases hx with
    | tup h1 h2 h3 =>
      split at e
      · rename_i hc
        subst hc
        cases e
        exact .inr (.inr ⟨_, _, rfl, rfl, (h1.ex ex).sq, (hr (by rw [List.length_reverse]; exact h3)).1 _ h2.reverse⟩)
      · cases e
  · cases e
theorem de_step {e c : Expr} {te tc : TE} {fe fc : XE} {p3 pos : Pos} (he : DE X E e te fe) (hc : DE X E c tc fc) (hsub : ∀ v u, subscripted (.Slice none none (some c) p3) false v u = operate [v, u] (getItem v u) := by intro _ _; rfl) : DE X E (.Subscript e (.Slice none none (some c) p3) pos) (tOp (rStep X.K) te tc) (xOp2 hStep fe fc) :=
  ⟨pe_step he.pe hc.pe hsub, snd_op2 op2_step he.sd hc.sd⟩

/-! ### and, or, not as values -/
def xAnd (fa fb : XE) : XE := fun s => (truth (fa s)).bind fun (b, s1) => if b then fb s1 else .ok (.val (.bool false), s1)
def xOr (fa fb : XE) : XE := fun s => (truth (fa s)).bind fun (b, s1) => if b then .ok (.val (.bool true), s1) else fb s1
def xNot (fa : XE) : XE := fun s => (truth (fa s)).bind fun (b, s1) => .ok (.val (.bool (!b)), s1)
theorem snd_truth {ta : TE} {fa : XE} {k : Bool → Hp → Prop} (ha : Snd K E ta fa) (sr : SR K G F T s σ H) (w : Want K G E F (truth (fa s)) (TP K G F T σ k)) : ta σ H fun x H1 => ∃ c, x = .bl c ∧ k c H1 := by
  unfold truth at w
  refine ha G F T s σ H _ sr (Want.mono (Want.bind w) (Evl.Ex.refl F) fun ⟨ra, s1⟩ w1 F1 T1 H1 v1 e1 sr1 rv1 => ?_)
  dsimp only at w1 sr1 rv1
  split at w1
  · rename_i b q
    obtain ⟨pre, rfl⟩ := rv1.sub
    have vw := sr1.view rv1 (Evl.Ex.refl _) (fun _ q => q) q
    cases vw
    exact ⟨b, rfl, w1 F1 H1 e1 sr1.dropApp⟩
  · exact w1.elim
section
variable {a b : Expr} {rest : List Expr} {ta tb : TE} {fa fb : XE} {pos : Pos}
theorem de_one {op} (h : DE X E a ta fa) : DE X E (.BoolOp op [a] pos) ta fa := ⟨pe_one h.pe, h.sd⟩
theorem de_and (ha : DE X E a ta fa) (hb : DE X E (.BoolOp .And (b :: rest) pos) tb fb) : DE X E (.BoolOp .And (a :: b :: rest) pos) (tAndV ta tb) (xAnd fa fb) := ⟨pe_and ha.pe hb.pe, fun G F T s σ H Q sr w => by
  refine snd_truth (k := fun c H1 => if c = true then tb σ H1 Q else Q (.bl false) H1) ha.sd sr (Want.mono (Want.bind w) (Evl.Ex.refl F) fun ⟨c, s1⟩ w1 F1 H1 e1 sr1 => ?_)
  dsimp only at w1 sr1
  cases c with
  | true => exact hb.sd G F1 T s1 σ H1 Q sr1 (Want.mono w1 e1 fun x wx F2 T2 H2 v2 e2 => wx F2 T2 H2 v2 (e1.trans e2))
  | false => exact w1 F1 T H1 _ e1 sr1 ⟨.bl false, rfl⟩⟩
theorem de_not (ha : DE X E a ta fa) : DE X E (.UnaryOp .Not a pos) (tNotV ta) (xNot fa) := ⟨pe_not ha.pe, fun G F T s σ H Q sr w => by
  refine snd_truth (k := fun c H1 => Q (.bl (!c)) H1) ha.sd sr (Want.mono (Want.bind w) (Evl.Ex.refl F) fun ⟨c, s1⟩ w1 F1 H1 e1 sr1 => ?_)
  exact w1 F1 T H1 _ e1 sr1 ⟨.bl _, rfl⟩⟩
end
end
end DL

namespace DL
open Evl (Ex)
open PySem PySem.Spec PyProof.Rows L2 PySem.W

/-! ### what a def does -/
inductive Rt where
  | val (d : D)
  | new (d : D)
/-- what a def comes to; io: what the lists that it may change hold then -/
inductive FOut where
  | ret (r : Rt) (io : List D)
  | err (c : Str) (d : D) (io : List D)
  | bad
/-- the values of the arguments; true: a list that the def may change -/
inductive AR (K : PySem.W.Frag) (F H : Hp) : List Bool → List V → List D → Prop where
  | nil : AR K F H [] [] []
  | val {m v d vs ds} : Rp K F v d → AR K F H m vs ds → AR K F H (false :: m) (v :: vs) (d :: ds)
  | io {m p d vs ds} : OwnAt K F H p d → F p = none → AR K F H m vs ds → AR K F H (true :: m) (.ref p :: vs) (d :: ds)
def ioA : List Bool → List V → List Addr
  | false :: m, _ :: vs => ioA m vs
  | true :: m, .ref p :: vs => p :: ioA m vs
  | true :: m, _ :: vs => ioA m vs
  | _, _ => []
inductive IoR (K : PySem.W.Frag) (F H : Hp) : List Addr → List D → Prop where
  | nil : IoR K F H [] []
  | cons {p d ps ds} : OwnAt K F H p d → F p = none → IoR K F H ps ds → IoR K F H (p :: ps) (d :: ds)
structure Ext (K : PySem.W.Frag) (F H F' H' : Hp) (ioa : List Addr) (ios : List D) : Prop where
  ex : Ex F F'
  fh : Ex F' H'
  kp : ∀ a o, H a = some o → a ∉ ioa → H' a = some o
  gr : ∀ a o, F' a = some o → F a = some o ∨ H a = none
  io : IoR K F' H' ioa ios
def RR (K : PySem.W.Frag) (F' H H' : Hp) : Rt → V → Prop
  | .val d, v => Rp K F' v d
  | .new d, v => ∃ p, v = .ref p ∧ OwnAt K F' H' p d ∧ F' p = none ∧ H p = none
def Aft (K : PySem.W.Frag) (F H : Hp) (ioa : List Addr) (Q : VK) (E : XK) : FOut → Prop
  | .ret r ios => ∀ F' H' v, Ext K F H F' H' ioa ios → RR K F' H H' r v → Q v H'
  | .err c d ios => ∀ F' H' v x, Ext K F H F' H' ioa ios → H' x = some (.xd [("value", v)]) → Rp K F' v d → E (.ref (He.ga K c)) (some x) H'
  | .bad => False
/-- the promise of a def -/
def spD (K : PySem.W.Frag) (m : List Bool) (fn : List D → FOut) : Sp := fun vs H Q E => ∃ F ds, Ex F H ∧ AR K F H m vs ds ∧ (ioA m vs).Nodup ∧ Aft K F H (ioA m vs) Q E (fn ds)
def initS : List Bool → Nat → List D → S
  | false :: m, j, d :: ds => some (.val d) :: initS m j ds
  | true :: m, j, d :: ds => some (.own (some j) d) :: initS m (j + 1) ds
  | _, _, _ => []
/-- what the changed lists hold -/
def ioOut : List Bool → Nat → Nat → S → Option (List D)
  | [], _, _, _ => some []
  | false :: m, i, j, s => ioOut m (i + 1) j s
  | true :: m, i, j, s => match getS s i with
    | some (.own (some k) d) => if k = j then (ioOut m (i + 1) (j + 1) s).map (d :: ·) else none
    | _ => none
def endF (m : List Bool) : Out Fl → FOut
  | .bad => .bad
  | .err c d s => match ioOut m 0 0 s with
    | some ios => .err c d ios
    | none => .bad
  | .ok (.nx s) => match ioOut m 0 0 s with
    | some ios => .ret (.val .none) ios
    | none => .bad
  | .ok (.rt (.val d) s) => match ioOut m 0 0 s with
    | some ios => .ret (.val d) ios
    | none => .bad
  | .ok (.rt (.new d) s) => match ioOut m 0 0 s with
    | some ios => .ret (.new d) ios
    | none => .bad
  | .ok _ => .bad
/-- a body as a function -/
def runF (m : List Bool) (n : Nat) (fb : XS) : List D → FOut := fun ds => endF m (fb (initS m 0 ds ++ List.replicate (n - ds.length) none))

section
variable {K : PySem.W.Frag} {E : WX} {X : Cx} {G : En} {F F' : Hp} {T T' : List (Addr × D)} {s s' : S} {σ σ' : L2.St} {H H' : Hp} {v : V} {d : D} {ds : List D} {i : Nat} {r : R} {Q : VK} {m : List Bool} {vs : List V}
theorem AR.len (h : AR K F H m vs ds) : vs.length = m.length ∧ ds.length = m.length := by
  induction h with
  | nil => exact ⟨rfl, rfl⟩
  | val _ _ ih => exact ⟨by simp [ih.1], by simp [ih.2]⟩
  | io _ _ _ ih => exact ⟨by simp [ih.1], by simp [ih.2]⟩
theorem getS_succ {o : Option Sl} {r : S} {i : Nat} : getS (o :: r) (i + 1) = getS r i := by
  unfold getS
  rw [List.getElem?_cons_succ]
theorem getS_rep {n i : Nat} : getS (List.replicate n none) i = none := by
  unfold getS
  by_cases h : i < n
  · rw [List.getElem?_replicate, if_pos h]
  · rw [List.getElem?_replicate, if_neg h]
theorem init_get {n j : Nat} (h : AR K F H m vs ds) : ∀ {j i : Nat} {y : Sl}, getS (initS m j ds ++ List.replicate n none) i = some y → ∃ v d, vs[i]? = some v ∧ ds[i]? = some d ∧
    ((y = .val d ∧ Rp K F v d) ∨ ∃ p l, y = .own (some (j + l)) d ∧ v = .ref p ∧ (ioA m vs)[l]? = some p ∧ OwnAt K F H p d ∧ F p = none) := by
  induction h with
  | nil =>
    intro j i y e
    exact absurd e (by rw [show initS [] j [] ++ List.replicate n none = List.replicate n none from rfl, getS_rep]; simp)
  | val hr _ ih =>
    intro j i y e
    cases i with
    | zero =>
      cases e
      exact ⟨_, _, rfl, rfl, .inl ⟨rfl, hr⟩⟩
    | succ i =>
      obtain ⟨v, d, h1, h2, h3⟩ := ih (j := j) (i := i) (by rw [← getS_succ]; exact e)
      exact ⟨v, d, h1, h2, h3⟩
  | io ho hf _ ih =>
    intro j i y e
    cases i with
    | zero =>
      cases e
      exact ⟨_, _, rfl, rfl, .inr ⟨_, 0, rfl, rfl, rfl, ho, hf⟩⟩
    | succ i =>
      obtain ⟨v, d, h1, h2, h3⟩ := ih (j := j + 1) (i := i) (by rw [← getS_succ]; exact e)
      refine ⟨v, d, h1, h2, ?_⟩
      rcases h3 with h3 | ⟨p, l, a, b, c, e⟩
      · exact .inl h3
      · refine .inr ⟨p, l + 1, ?_, b, c, e⟩
        rw [a]
        congr 2
        omega
theorem init_ge {n : Nat} : ∀ {m : List Bool} {ds : List D} {j i k : Nat} {d : D}, getS (initS m j ds ++ List.replicate n none) i = some (.own (some k) d) → j ≤ k
  | [], ds, j, i, k, d, e => absurd e (by rw [show initS [] j ds ++ List.replicate n none = List.replicate n none from by cases ds <;> rfl, getS_rep]; simp)
  | b :: m, [], j, i, k, d, e => absurd e (by rw [show initS (b :: m) j [] ++ List.replicate n none = List.replicate n none from by cases b <;> rfl, getS_rep]; simp)
  | false :: m, d0 :: ds, j, 0, k, d, e => by cases e
  | false :: m, d0 :: ds, j, i + 1, k, d, e => init_ge (m := m) (ds := ds) (i := i) (by rw [← getS_succ]; exact e)
  | true :: m, d0 :: ds, j, 0, k, d, e => by cases e; exact Nat.le_refl _
  | true :: m, d0 :: ds, j, i + 1, k, d, e => Nat.le_of_succ_le (init_ge (m := m) (ds := ds) (j := j + 1) (i := i) (by rw [← getS_succ]; exact e))
theorem init_inj {n : Nat} : ∀ {m : List Bool} {ds : List D} {j a b k : Nat} {d e : D}, getS (initS m j ds ++ List.replicate n none) a = some (.own (some k) d) → getS (initS m j ds ++ List.replicate n none) b = some (.own (some k) e) → a = b
  | [], ds, j, a, b, k, d, e, h, _ => absurd h (by rw [show initS [] j ds ++ List.replicate n none = List.replicate n none from by cases ds <;> rfl, getS_rep]; simp)
  | c :: m, [], j, a, b, k, d, e, h, _ => absurd h (by rw [show initS (c :: m) j [] ++ List.replicate n none = List.replicate n none from by cases c <;> rfl, getS_rep]; simp)
  | false :: m, d0 :: ds, j, 0, b, k, d, e, h, _ => by cases h
  | false :: m, d0 :: ds, j, a + 1, 0, k, d, e, h, h2 => by cases h2
  | false :: m, d0 :: ds, j, a + 1, b + 1, k, d, e, h, h2 => congrArg Nat.succ (init_inj (m := m) (ds := ds) (a := a) (b := b) (by rw [← getS_succ]; exact h) (by rw [← getS_succ]; exact h2))
  | true :: m, d0 :: ds, j, 0, 0, k, d, e, _, _ => rfl
  | true :: m, d0 :: ds, j, 0, b + 1, k, d, e, h, h2 => by
    cases h
    have := init_ge (m := m) (ds := ds) (j := j + 1) (i := b) (by rw [← getS_succ]; exact h2)
    omega
  | true :: m, d0 :: ds, j, a + 1, 0, k, d, e, h, h2 => by
    cases h2
    have := init_ge (m := m) (ds := ds) (j := j + 1) (i := a) (by rw [← getS_succ]; exact h)
    omega
  | true :: m, d0 :: ds, j, a + 1, b + 1, k, d, e, h, h2 => congrArg Nat.succ (init_inj (m := m) (ds := ds) (j := j + 1) (a := a) (b := b) (by rw [← getS_succ]; exact h) (by rw [← getS_succ]; exact h2))
theorem ioA_mem (h : AR K F H m vs ds) : ∀ a ∈ ioA m vs, H a ≠ none := by
  induction h with
  | nil => intro a ha; cases ha
  | val _ _ ih => exact ih
  | io ho hf _ ih =>
    intro a ha
    rcases List.mem_cons.mp ha with rfl | ha
    · obtain ⟨vs, hv⟩ := ho.there
      rw [hv]; simp
    · exact ih a ha
theorem initS_len (h : AR K F H m vs ds) (j : Nat) : (initS m j ds).length = ds.length := by
  induction h generalizing j with
  | nil => rfl
  | val _ _ ih => show (initS _ j _).length + 1 = _; rw [ih]; rfl
  | io _ _ _ ih => show (initS _ (j + 1) _).length + 1 = _; rw [ih]; rfl
/-- at the entry of a def -/
theorem SR.entry {N : List Str} (hx : Ex F H) (h : AR K F H m vs ds) (nd : (ioA m vs).Nodup) (hN : vs.length ≤ N.length) : SR K ⟨H, F, ioA m vs⟩ F [] (initS m 0 ds ++ List.replicate (N.length - ds.length) none) (start N vs) H := by
  have hl := h.len
  have st : ∀ {i : Nat} {v : V}, vs[i]? = some v → (start N vs)[i]? = some (some v) := fun {i v} e => by
    unfold L2.start
    obtain ⟨hi, he⟩ := List.getElem?_eq_some_iff.mp e
    rw [List.getElem?_append_left (by rw [List.length_map]; exact hi), List.getElem?_map, e]
    rfl
  refine ⟨hx, Evl.Ex.refl F, fun a o q => .inl q, fun a o q _ => q, ioA_mem h, fun i d q => ?_, fun i k d q => ?_, fun i j k l d e p q1 q2 r1 r2 => ?_, .nil, (fun p hp => nomatch hp), ?_⟩
  · obtain ⟨v, d', h1, h2, h3⟩ := init_get (j := 0) h q
    rcases h3 with ⟨h3, h4⟩ | ⟨p, l, a, _⟩
    · cases h3
      exact ⟨v, st h1, h4⟩
    · cases a
  · obtain ⟨v, d', h1, h2, h3⟩ := init_get (j := 0) h q
    rcases h3 with ⟨h3, _⟩ | ⟨p, l, a, b, c, e, f⟩
    · cases h3
    · cases a
      subst b
      exact ⟨p, st h1, ⟨e, f, by simpa using c⟩, fun q hq => by cases hq⟩
  · obtain ⟨v, d', h1, h2, h3⟩ := init_get (j := 0) h q1
    obtain ⟨v', d'', h1', h2', h3'⟩ := init_get (j := 0) h q2
    rcases h3 with ⟨h3, _⟩ | ⟨p1, l1, a1, b1, c1, e1, f1⟩
    · cases h3
    rcases h3' with ⟨h3', _⟩ | ⟨p2, l2, a2, b2, c2, e2, f2⟩
    · cases h3'
    cases a1
    cases a2
    subst b1 b2
    rw [st h1] at r1; cases r1
    rw [st h1'] at r2; cases r2
    have hl1 : l1 < (ioA m vs).length := (List.getElem?_eq_some_iff.mp c1).1
    have ell : l1 = l2 := (List.getElem?_inj hl1 nd).mp (c1.trans c2.symm)
    subst ell
    exact init_inj q1 q2
  · rw [List.length_append, initS_len h, List.length_replicate]
    unfold L2.start
    rw [List.length_append, List.length_map, List.length_replicate, hl.1, hl.2]
/-- the changed lists at the end -/
theorem ioOut_ok {ioa : List Addr} (hG : G.io = ioa) (sr : SR K G F T s σ H) : ∀ {m : List Bool} {i j : Nat} {ios : List D}, ioOut m i j s = some ios → (m.filter id).length + j = ioa.length → IoR K F H (ioa.drop j) ios
  | [], i, j, ios, e, hl => by
    cases e
    have : j = ioa.length := by simpa using hl
    rw [this, List.drop_length]
    exact .nil
  | false :: m, i, j, ios, e, hl => ioOut_ok hG sr (m := m) (i := i + 1) (j := j) e (by simpa using hl)
  | true :: m, i, j, ios, e, hl => by
    have e' : (match getS s i with
      | some (.own (some k) d) => if k = j then (ioOut m (i + 1) (j + 1) s).map (d :: ·) else none
      | _ => none) = some ios := e
    split at e'
    · rename_i k d q
      split at e'
      · rename_i hk
        subst hk
        obtain ⟨ios', h1, rfl⟩ := Option.map_eq_some_iff.mp e'
        have ih := ioOut_ok hG sr (m := m) (i := i + 1) (j := k + 1) h1 (by simp at hl ⊢; omega)
        obtain ⟨p, hp, o, _⟩ := sr.ow i _ d q
        have hp2 : ioa[k]? = some p := by rw [← hG]; exact o.ne
        obtain ⟨hk, ek⟩ := List.getElem?_eq_some_iff.mp hp2
        rw [List.drop_eq_getElem_cons hk, ek]
        exact .cons o.at_ o.nf ih
      · cases e'
    · cases e'
theorem ioA_len (h : AR K F H m vs ds) : (m.filter id).length = (ioA m vs).length := by
  induction h with
  | nil => rfl
  | val _ _ ih => exact ih
  | io _ _ _ ih => exact congrArg Nat.succ ih
/-- a def's body: the reading comes to the promise -/
theorem body_ok {N : List Str} {t : TS} {fb : XS} {E : XK} (hb : SndS K (fun c d _ H => E c d H) t fb) (hN : m.length ≤ N.length) (h : spD K m (runF m N.length fb) vs H Q E) : t { nx := fun _ H' => Q .non H', rt := Q } (start N vs) H := by
  obtain ⟨F, ds, hx, ha, nd, w⟩ := h
  have hl := ha.len
  have sr := SR.entry (N := N) hx ha nd (by rw [hl.1]; exact hN)
  refine hb ⟨H, F, ioA m vs⟩ F _ (start N vs) H _ sr ?_
  unfold runF at w
  have ext : ∀ {F' H' : Hp} {T' : List (Addr × D)} {s' : S} {σ' : L2.St} {ios : List D}, Ex F F' → SR K ⟨H, F, ioA m vs⟩ F' T' s' σ' H' → ioOut m 0 0 s' = some ios → Ext K F H F' H' (ioA m vs) ios := fun {F' H' T' s' σ' ios} e sr' q =>
    ⟨e, sr'.fh, sr'.kp, sr'.gr, by
      have := ioOut_ok (ioa := ioA m vs) rfl sr' q (by rw [ioA_len ha]; rfl)
      simpa using this⟩
  cases q : fb (initS m 0 ds ++ List.replicate (N.length - ds.length) none) with
  | bad => rw [q] at w; exact w
  | err c d s' =>
    rw [q] at w
    intro x F' T' σ' H' v e sr' hx' hv
    have w' : Aft K F H (ioA m vs) Q E (match ioOut m 0 0 s' with
      | some ios => .err c d ios
      | none => .bad) := w
    split at w'
    · rename_i ios q2
      exact w' F' H' v x (ext e sr' q2) hx' hv
    · exact w'.elim
  | ok fl =>
    rw [q] at w
    cases fl with
    | nx s' =>
      intro F' σ' H' e sr'
      have w' : Aft K F H (ioA m vs) Q E (match ioOut m 0 0 s' with
        | some ios => .ret (.val .none) ios
        | none => .bad) := w
      split at w'
      · rename_i ios q2
        exact w' F' H' .non (ext e sr' q2) .non
      · exact w'.elim
    | bk s' => exact w.elim
    | ct s' => exact w.elim
    | rt r s' =>
      intro F' T' σ' H' v e sr' rv
      cases r with
      | slot i => exact w.elim
      | val d =>
        have w' : Aft K F H (ioA m vs) Q E (match ioOut m 0 0 s' with
          | some ios => .ret (.val d) ios
          | none => .bad) := w
        split at w'
        · rename_i ios q2
          exact w' F' H' v (ext e sr' q2) rv.1
        · exact w'.elim
      | new d =>
        have w' : Aft K F H (ioA m vs) Q E (match ioOut m 0 0 s' with
          | some ios => .ret (.new d) ios
          | none => .bad) := w
        split at w'
        · rename_i ios q2
          obtain ⟨p, rfl, rfl⟩ := rv
          have o := sr'.tt (p, d) List.mem_cons_self
          exact w' F' H' _ (ext e sr' q2) ⟨p, rfl, o.at_, o.nf, o.ne⟩
        · exact w'.elim
end
end DL

namespace DL
open Evl (Ex)
open PySem PySem.Spec PyProof.Rows L2 PySem.W

/-! ### the arguments of a call -/
def argD (s : S) : Bool → R → Option D
  | false, .val d => some d
  | false, .new (.list ds) => some (.list ds)
  | false, .slot i => match getS s i with
    | some (.own _ (.list ds)) => some (.list ds)
    | some (.val d) => some d
    | _ => none
  | true, .slot i => match getS s i with
    | some (.own _ (.list ds)) => some (.list ds)
    | _ => none
  | _, _ => none
def argsD (s : S) : List Bool → List R → Option (List D)
  | [], [] => some []
  | b :: m, r :: rs => match argD s b r, argsD s m rs with
    | some d, some ds => some (d :: ds)
    | _, _ => none
  | _, _ => none
def ioIx : List Bool → List R → List Nat
  | true :: m, .slot i :: rs => i :: ioIx m rs
  | _ :: m, _ :: rs => ioIx m rs
  | _, _ => []
def isOwn (s : S) (i : Nat) : Bool := match getS s i with
  | some (.own _ _) => true
  | _ => false
def boIx (s : S) : List Bool → List R → List Nat
  | false :: m, .slot i :: rs => if isOwn s i then i :: boIx s m rs else boIx s m rs
  | _ :: m, _ :: rs => boIx s m rs
  | _, _ => []
def nodupB : List Nat → Bool
  | [] => true
  | i :: is => !is.contains i && nodupB is
theorem nodupB_ok : ∀ {is : List Nat}, nodupB is = true → is.Nodup
  | [], _ => .nil
  | i :: is, h => by
    unfold nodupB at h
    obtain ⟨h1, h2⟩ := Bool.and_eq_true_iff.mp h
    exact List.nodup_cons.mpr ⟨by simpa using h1, nodupB_ok h2⟩
def disB (a b : List Nat) : Bool := a.all fun i => !b.contains i
theorem disB_ok {a b : List Nat} (h : disB a b = true) {i : Nat} (ha : i ∈ a) (hb : i ∈ b) : False := by
  have := List.all_eq_true.mp h i ha
  simp [hb] at this
def putIo (s : S) : List Nat → List D → Option S
  | [], [] => some s
  | i :: is, d :: ds => match getS s i with
    | some (.own k _) => putIo (s.set i (some (.own k d))) is ds
    | _ => none
  | _, _ => none
def frzIx (s : S) : List Nat → Option S
  | [] => some s
  | i :: is => match getS s i with
    | some (.own none (.list ds)) => frzIx (s.set i (some (.val (.list ds)))) is
    | some (.val _) => frzIx s is
    | _ => none
mutual
/-- no list in it -/
def nl : D → Bool
  | .tuple ds => nls ds
  | .list _ => false
  | .dict _ => false
  | _ => true
def nls : List D → Bool
  | [] => true
  | d :: ds => nl d && nls ds
end
def nlI : D → Bool
  | .list ds => nls ds
  | _ => false
def nlR : Rt → Bool
  | .val d => nl d
  | .new d => nlI d
def Rt.r : Rt → R
  | .val d => .val d
  | .new d => .new d
def postS (s1 : S) (io bo : List Nat) (ios : List D) (cl : Bool) : Option S := match putIo s1 io ios with
  | none => none
  | some s2 => if cl then some s2 else frzIx s2 bo
def xPost (s1 : S) (io bo : List Nat) : FOut → Out (R × S)
  | .bad => .bad
  | .ret r ios => match postS s1 io bo ios (nlR r && ios.all nlI) with
    | some s2 => .ok (r.r, s2)
    | none => .bad
  | .err c d ios => match postS s1 io bo ios (nl d && ios.all nlI) with
    | some s2 => .err c d s2
    | none => .bad
/-- f(..) -/
def xCall (m : List Bool) (fn : List D → FOut) (fa : XA) : XE := fun s => (fa s).bind fun (rs, s1) => match argsD s1 m rs with
  | none => .bad
  | some ds => if nodupB (ioIx m rs) && disB (ioIx m rs) (boIx s1 m rs) then xPost s1 (ioIx m rs) (boIx s1 m rs) (fn ds) else .bad

/-- arguments, the own ones by what F tells of them -/
inductive ARx (K : PySem.W.Frag) (F Fc H : Hp) : List Bool → List V → List D → Prop where
  | nil : ARx K F Fc H [] [] []
  | val {m v d vs ds} : Rp K Fc v d → ARx K F Fc H m vs ds → ARx K F Fc H (false :: m) (v :: vs) (d :: ds)
  | io {m p d vs ds} : OwnAt K F H p d → F p = none → ARx K F Fc H m vs ds → ARx K F Fc H (true :: m) (.ref p :: vs) (d :: ds)
inductive IoIs (s : S) (σ : L2.St) : List Nat → List Addr → Prop where
  | nil : IoIs s σ [] []
  | cons {i k d p is ps} : getS s i = some (.own k d) → σ[i]? = some (some (.ref p)) → IoIs s σ is ps → IoIs s σ (i :: is) (p :: ps)
section
variable {K : PySem.W.Frag} {E : WX} {X : Cx} {G : En} {F Fc F' F1 Fs : Hp} {T T' T1 : List (Addr × D)} {s s' s1 s2 s3 : S} {σ σ' : L2.St} {H H' H1 : Hp} {v : V} {d : D} {ds ios : List D} {i : Nat} {r : R} {Q : VK} {m : List Bool} {vs : List V} {rs : List R} {p : Addr} {is bs : List Nat} {ioa : List Addr}
mutual
theorem Rp.minus {B : List Addr} (hB : ∀ b ∈ B, ∃ vs, F' b = some (.lst vs)) (hF : ∀ a o, a ∉ B → F' a = some o → Fs a = some o) : ∀ {v : V} {d : D}, Rp K F' v d → nl d = true → Rp K Fs v d
  | _, _, .non, _ => .non
  | _, _, .bl b, _ => .bl b
  | _, _, .int i, _ => .int i
  | _, _, .str x, _ => .str x
  | _, _, .lst h a z, e => by simp [nl] at e
  | _, _, .tup (a := a) (xs := xs) h r z, e => by
    refine .tup ?_ (RpAll.minus hB hF r (by simpa [nl] using e)) z
    rcases h with h | h
    · refine .inl ?_
      have na : ∀ o, F' a = some o → (∀ vs, o ≠ .lst vs) → a ∉ B := fun o ho hn hb => by
        obtain ⟨vs, hv⟩ := hB a hb
        rw [ho] at hv
        exact hn vs (Option.some.inj hv)
      obtain ⟨o, d0, h⟩ := h
      exact ⟨o, d0, hF a _ (na _ h fun vs z => by cases z) h⟩
    · exact .inr h
  | _, _, .scr h, e => by simp [scrD, nl] at e
theorem RpAll.minus {B : List Addr} (hB : ∀ b ∈ B, ∃ vs, F' b = some (.lst vs)) (hF : ∀ a o, a ∉ B → F' a = some o → Fs a = some o) : ∀ {vs : List V} {ds : List D}, RpAll K F' vs ds → nls ds = true → RpAll K Fs vs ds
  | _, _, .nil, _ => .nil
  | _, _, .cons h t, e => by
    simp only [nls, Bool.and_eq_true] at e
    exact .cons (Rp.minus hB hF h e.1) (RpAll.minus hB hF t e.2)
end
theorem OwnAt.minus {B : List Addr} (hB : ∀ b ∈ B, ∃ vs, F' b = some (.lst vs)) (hF : ∀ a o, a ∉ B → F' a = some o → Fs a = some o) (h : OwnAt K F' H p d) (e : nlI d = true) : OwnAt K Fs H p d := by
  cases d <;> first | exact h.elim | skip
  · obtain ⟨vs, h1, h2, h3⟩ := h
    exact ⟨vs, h1, RpAll.minus hB hF h2 e, h3⟩
  · simp [nlI] at e
  · simp [nlI] at e
/-- lent: what the callee sees as given -/
structure Lent (K : PySem.W.Frag) (F H : Hp) (Fc : Hp) (B : List Addr) : Prop where
  ex : Ex F Fc
  fh : Ex Fc H
  out : ∀ a o, Fc a = some o → F a = some o ∨ a ∈ B
  at_ : ∀ b ∈ B, F b = none ∧ ∃ vs, Fc b = some (.lst vs)
theorem Lent.refl (h : Ex F H) : Lent K F H F [] := ⟨Evl.Ex.refl F, h, fun a o e => .inl e, fun b hb => nomatch hb⟩
theorem Lent.add {B : List Addr} {ds : List D} (h : Lent K F H Fc B) (ho : OwnAt K F H p (.list ds)) (nf : F p = none) : ∃ Fc', Ex Fc Fc' ∧ Lent K F H Fc' (p :: B) ∧ Rp K Fc' (.ref p) (.list ds) := by
  obtain ⟨vs, hv, hr, hz⟩ := ho
  have e1 : Ex Fc (upd Fc p (.lst vs)) := fun a o q => by
    by_cases e : a = p
    · subst e
      rw [upd_same]
      have := h.fh a o q
      rw [hv] at this
      exact this
    · rw [upd_ne e]; exact q
  refine ⟨_, e1, ⟨h.ex.trans e1, fun a o q => ?_, fun a o q => ?_, fun b hb => ?_⟩, .lst upd_same (RpAll.mono (h.ex.trans e1) hr) hz⟩
  · by_cases e : a = p
    · subst e; rw [upd_same] at q; rw [← q]; exact hv
    · rw [upd_ne e] at q; exact h.fh a o q
  · by_cases e : a = p
    · exact .inr (by rw [e]; exact List.mem_cons_self)
    · rw [upd_ne e] at q
      rcases h.out a o q with z | z
      · exact .inl z
      · exact .inr (List.mem_cons_of_mem _ z)
  · rcases List.mem_cons.mp hb with rfl | hb
    · exact ⟨nf, vs, upd_same⟩
    · obtain ⟨a, ws, b⟩ := h.at_ _ hb
      exact ⟨a, ws, e1 _ _ b⟩
theorem ARx.mono {Fc' : Hp} (e : Ex Fc Fc') (h : ARx K F Fc H m vs ds) : ARx K F Fc' H m vs ds := by
  induction h with
  | nil => exact .nil
  | val a _ ih => exact .val (Rp.mono e a) ih
  | io a b _ ih => exact .io a b ih
theorem ARx.ar {B : List Addr} (l : Lent K F H Fc B) (h : ARx K F Fc H m vs ds) (hd : ∀ a ∈ ioA m vs, a ∉ B) : AR K Fc H m vs ds := by
  induction h with
  | nil => exact .nil
  | val a _ ih => exact .val a (ih hd)
  | io a b _ ih =>
    rename_i m p d vs ds _
    have hp := hd p List.mem_cons_self
    refine .io (a.mono l.ex) ?_ (ih fun q hq => hd q (List.mem_cons_of_mem _ hq))
    cases e : Fc p with
    | none => rfl
    | some o =>
      rcases l.out p o e with z | z
      · rw [b] at z; cases z
      · exact absurd z hp
/-- whose a lent list is -/
def Whose (s : S) (σ : L2.St) (bs : List Nat) (T T1 : List (Addr × D)) (b : Addr) : Prop := (∃ i k d, i ∈ bs ∧ getS s i = some (.own k d) ∧ σ[i]? = some (some (.ref b))) ∨ ((∃ d, (b, d) ∈ T1) ∧ ∀ q ∈ T, q.1 ≠ b)
theorem args_ok {F0 : Hp} (sr : SR K G F T1 s σ H) (ex : Ex F0 F) : ∀ {T : List (Addr × D)} {rs : List R} {vs : List V} {m : List Bool} {ds : List D}, RVs K F0 σ T rs vs T1 → argsD s m rs = some ds →
    ∃ Fc B, Lent K F H Fc B ∧ ARx K F Fc H m vs ds ∧ (∀ b ∈ B, Whose s σ (boIx s m rs) T T1 b) ∧ IoIs s σ (ioIx m rs) (ioA m vs) ∧ ∀ i ∈ boIx s m rs, ∀ k d, getS s i = some (.own k d) → ∃ p, σ[i]? = some (some (.ref p)) ∧ Rp K Fc (.ref p) d := by
  intro T rs vs m ds rv
  induction rv generalizing m ds with
  | nil =>
    intro e
    cases m with
    | nil => cases e; exact ⟨F, [], .refl sr.fh, .nil, (fun b hb => nomatch hb), .nil, fun i hi => nomatch hi⟩
    | cons b m => cases e
  | cons a b ih =>
    rename_i T2 T3 T4 r rs v vs
    intro e
    cases m with
    | nil => cases e
    | cons mb m =>
      have e' : (match argD s mb r, argsD s m rs with
        | some d, some ds => some (d :: ds)
        | _, _ => none) = some ds := e
      split at e'
      · rename_i d ds' q1 q2
        cases e'
        obtain ⟨Fc, B, l, ar, wh, io, bw⟩ := ih sr q2
        have bwm : ∀ {Fc'}, Ex Fc Fc' → ∀ i ∈ boIx s m rs, ∀ k d, getS s i = some (.own k d) → ∃ p, σ[i]? = some (some (.ref p)) ∧ Rp K Fc' (.ref p) d := fun {Fc'} e i hi k d g => by
          obtain ⟨p, h1, h2⟩ := bw i hi k d g
          exact ⟨p, h1, Rp.mono e h2⟩
        obtain ⟨pre2, hpre2⟩ := b.sub
        have sub34 : ∀ q ∈ T3, q ∈ T4 := fun q hq => by rw [hpre2]; exact List.mem_append_right _ hq
        have sub23 : ∀ q ∈ T2, q ∈ T3 := fun q hq => by
          obtain ⟨pre1, hp1⟩ := a.sub
          rw [hp1]; exact List.mem_append_right _ hq
        have whm : ∀ {bs}, (∀ i ∈ boIx s m rs, i ∈ bs) → ∀ b ∈ B, Whose s σ bs T2 T4 b := fun {bs} hs b hb => by
          rcases wh b hb with ⟨i, k, d, h1, h2, h3⟩ | ⟨h1, h2⟩
          · exact .inl ⟨i, k, d, hs i h1, h2, h3⟩
          · exact .inr ⟨h1, fun q hq => h2 q (sub23 q hq)⟩
        cases mb with
        | false =>
          cases r with
          | val d0 =>
            cases q1
            exact ⟨Fc, B, l, .val (Rp.mono (ex.trans l.ex) a.1) ar, whm fun i hi => hi, io, bw⟩
          | new d0 =>
            obtain ⟨ds0, rfl⟩ : ∃ ds0, d0 = .list ds0 := by
              cases d0 with
              | list ds0 => exact ⟨ds0, rfl⟩
              | _ => cases q1
            cases q1
            obtain ⟨p, rfl, rfl⟩ := a
            have o := sr.tt (p, .list ds0) (sub34 _ List.mem_cons_self)
            obtain ⟨Fc', e1, l', rp⟩ := l.add o.at_ o.nf
            refine ⟨Fc', _, l', .val rp (ar.mono e1), fun b hb => ?_, io, bwm e1⟩
            rcases List.mem_cons.mp hb with rfl | hb
            · refine .inr ⟨⟨_, sub34 _ List.mem_cons_self⟩, fun q hq => ?_⟩
              have tn := sr.tn
              rw [hpre2] at tn
              have := (List.pairwise_append.mp tn).2.1
              exact ((List.pairwise_cons.mp this).1 q hq).symm
            · exact whm (fun i hi => hi) b hb
          | slot i =>
            obtain ⟨hv, rfl⟩ := a
            have q1' : (match getS s i with
              | some (.own _ (.list ds)) => some (PyData.list ds)
              | some (.val d) => some d
              | _ => none) = some d := q1
            split at q1'
            · rename_i k ds0 g
              cases q1'
              obtain ⟨p, hp, o, _⟩ := sr.ow i k _ g
              rw [hv] at hp; cases hp
              obtain ⟨Fc', e1, l', rp⟩ := l.add o.at_ o.nf
              have hown : isOwn s i = true := by unfold isOwn; rw [g]
              have hbo : boIx s (false :: m) (.slot i :: rs) = i :: boIx s m rs := by
                show (if isOwn s i then i :: boIx s m rs else boIx s m rs) = _
                rw [if_pos hown]
              refine ⟨Fc', _, l', .val rp (ar.mono e1), fun b hb => ?_, io, ?_⟩
              · rw [hbo]
                rcases List.mem_cons.mp hb with rfl | hb
                · exact .inl ⟨i, k, _, List.mem_cons_self, g, hv⟩
                · exact whm (fun i hi => List.mem_cons_of_mem _ hi) b hb
              · rw [hbo]
                intro i2 hi2 k2 d2 g2
                rcases List.mem_cons.mp hi2 with rfl | hi2
                · rw [g] at g2; cases g2
                  exact ⟨p, hv, rp⟩
                · exact bwm e1 i2 hi2 k2 d2 g2
            · rename_i d0 g
              cases q1'
              obtain ⟨w, hw, hd⟩ := sr.sl i _ g
              rw [hv] at hw; cases hw
              have hown : isOwn s i = false := by unfold isOwn; rw [g]
              have hbo : boIx s (false :: m) (.slot i :: rs) = boIx s m rs := by
                show (if isOwn s i then i :: boIx s m rs else boIx s m rs) = _
                rw [hown]; rfl
              exact ⟨Fc, B, l, .val (Rp.mono l.ex hd) ar, by rw [hbo]; exact whm fun i hi => hi, io, by rw [hbo]; exact bw⟩
            · cases q1'
        | true =>
          cases r with
          | val d0 => cases q1
          | new d0 => cases q1
          | slot i =>
            obtain ⟨hv, rfl⟩ := a
            have q1' : (match getS s i with
              | some (.own _ (.list ds)) => some (PyData.list ds)
              | _ => none) = some d := q1
            split at q1'
            · rename_i k ds0 g
              cases q1'
              obtain ⟨p, hp, o, _⟩ := sr.ow i k _ g
              rw [hv] at hp; cases hp
              exact ⟨Fc, B, l, .io o.at_ o.nf ar, whm fun i hi => hi, .cons g hv io, bw⟩
            · cases q1'
      · cases e'
theorem IoR.mem : ∀ {ps : List Addr} {ds : List D}, IoR K F H ps ds → ∀ a ∈ ps, F a = none ∧ ∃ o, H a = some o
  | _, _, .nil, a, h => nomatch h
  | _, _, .cons o n t, a, h => by
    rcases List.mem_cons.mp h with rfl | h
    · exact ⟨n, o.there⟩
    · exact t.mem a h
theorem IoR.get : ∀ {ps : List Addr} {ds : List D} {l : Nat} {p : Addr} {d : D}, IoR K F H ps ds → ps[l]? = some p → ds[l]? = some d → OwnAt K F H p d
  | _, _, 0, _, _, .cons o n t, h1, h2 => by cases h1; cases h2; exact o
  | _, _, l + 1, _, _, .cons o n t, h1, h2 => t.get (by simpa using h1) (by simpa using h2)
  | _, _, _, _, _, .nil, h1, _ => by simp at h1
theorem IoIs.get : ∀ {is : List Nat} {ps : List Addr} {p : Addr}, IoIs s σ is ps → p ∈ ps → ∃ i k d, i ∈ is ∧ getS s i = some (.own k d) ∧ σ[i]? = some (some (.ref p))
  | _, _, _, .nil, h => nomatch h
  | _, _, p, .cons a b t, h => by
    rcases List.mem_cons.mp h with rfl | h
    · exact ⟨_, _, _, List.mem_cons_self, a, b⟩
    · obtain ⟨i, k, d, h1, h2⟩ := t.get h
      exact ⟨i, k, d, List.mem_cons_of_mem _ h1, h2⟩
theorem IoIs.at_ : ∀ {is : List Nat} {ps : List Addr} {l i : Nat}, IoIs s σ is ps → is[l]? = some i → ∃ k d p, ps[l]? = some p ∧ getS s i = some (.own k d) ∧ σ[i]? = some (some (.ref p))
  | _, _, 0, i, .cons a b t, h => by cases h; exact ⟨_, _, _, rfl, a, b⟩
  | _, _, l + 1, i, .cons a b t, h => by
    obtain ⟨k, d, p, h1, h2⟩ := t.at_ (l := l) (by simpa using h)
    exact ⟨k, d, p, by simpa using h1, h2⟩
  | _, _, _, _, .nil, h => by simp at h
theorem IoIs.nodup (sr : SR K G F T s σ H) : ∀ {is : List Nat} {ps : List Addr}, IoIs s σ is ps → is.Nodup → ps.Nodup
  | _, _, .nil, _ => .nil
  | _, _, .cons (i := i) (p := p) a b t, n => by
    obtain ⟨n1, n2⟩ := List.nodup_cons.mp n
    refine List.nodup_cons.mpr ⟨fun hp => ?_, t.nodup sr n2⟩
    obtain ⟨j, k, d, h1, h2, h3⟩ := t.get hp
    exact n1 (by rw [sr.di i j _ _ _ _ p a h2 b h3]; exact h1)
theorem putIo_get : ∀ {is : List Nat} {ds : List D} {s s' : S} {i : Nat} {y : Sl}, putIo s is ds = some s' → is.Nodup → getS s' i = some y →
    (i ∉ is ∧ getS s i = some y) ∨ ∃ (l : Nat) (k : Option Nat) (d0 d : D), is[l]? = some i ∧ ds[l]? = some d ∧ getS s i = some (.own k d0) ∧ y = .own k d
  | [], [], s, s', i, y, e, _, h => by cases e; exact .inl ⟨by simp, h⟩
  | [], _ :: _, s, s', i, y, e, _, h => by cases e
  | _ :: _, [], s, s', i, y, e, _, h => by cases e
  | j :: is, d :: ds, s, s', i, y, e, n, h => by
    have e' : (match getS s j with
      | some (.own k _) => putIo (s.set j (some (.own k d))) is ds
      | _ => none) = some s' := e
    obtain ⟨n1, n2⟩ := List.nodup_cons.mp n
    split at e'
    · rename_i k d0 g
      rcases putIo_get e' n2 h with ⟨h1, h2⟩ | ⟨l, k', d1, d2, h1, h2, h3, h4⟩
      · rcases getS_set h2 with ⟨rfl, z⟩ | ⟨z1, z2⟩
        · cases z
          exact .inr ⟨0, k, d0, d, rfl, rfl, g, rfl⟩
        · exact .inl ⟨fun hm => by
            rcases List.mem_cons.mp hm with q | q
            · exact z1 q
            · exact h1 q, z2⟩
      · rcases getS_set h3 with ⟨rfl, z⟩ | ⟨z1, z2⟩
        · exact absurd (List.mem_of_getElem? h1) n1
        · exact .inr ⟨l + 1, k', d1, d2, by simpa using h1, by simpa using h2, z2, h4⟩
    · cases e'
theorem putIo_len : ∀ {is : List Nat} {ds : List D} {s s' : S}, putIo s is ds = some s' → s'.length = s.length
  | [], [], s, s', e => by cases e; rfl
  | [], _ :: _, s, s', e => by cases e
  | _ :: _, [], s, s', e => by cases e
  | j :: is, d :: ds, s, s', e => by
    have e' : (match getS s j with
      | some (.own k _) => putIo (s.set j (some (.own k d))) is ds
      | _ => none) = some s' := e
    split at e'
    · rw [putIo_len e', List.length_set]
    · cases e'
theorem frzIx_get : ∀ {bs : List Nat} {s s' : S} {i : Nat} {y : Sl}, frzIx s bs = some s' → getS s' i = some y →
    (getS s i = some y ∧ (i ∈ bs → ∃ d, y = .val d)) ∨ (i ∈ bs ∧ ∃ ds, getS s i = some (.own none (.list ds)) ∧ y = .val (.list ds))
  | [], s, s', i, y, e, h => by cases e; exact .inl ⟨h, fun z => nomatch z⟩
  | j :: bs, s, s', i, y, e, h => by
    have e' : (match getS s j with
      | some (.own none (.list ds)) => frzIx (s.set j (some (.val (.list ds)))) bs
      | some (.val _) => frzIx s bs
      | _ => none) = some s' := e
    split at e'
    · rename_i ds g
      rcases frzIx_get e' h with ⟨h1, h2⟩ | ⟨h1, ds', h2, h3⟩
      · rcases getS_set h1 with ⟨rfl, z⟩ | ⟨z1, z2⟩
        · cases z
          exact .inr ⟨List.mem_cons_self, ds, g, rfl⟩
        · refine .inl ⟨z2, fun hm => h2 ?_⟩
          rcases List.mem_cons.mp hm with q | q
          · exact absurd q z1
          · exact q
      · rcases getS_set h2 with ⟨rfl, z⟩ | ⟨z1, z2⟩
        · cases z
        · exact .inr ⟨List.mem_cons_of_mem _ h1, ds', z2, h3⟩
    · rename_i d g
      rcases frzIx_get e' h with ⟨h1, h2⟩ | ⟨h1, ds', h2, h3⟩
      · refine .inl ⟨h1, fun hm => ?_⟩
        rcases List.mem_cons.mp hm with q | q
        · subst q
          rw [g] at h1
          cases h1
          exact ⟨_, rfl⟩
        · exact h2 q
      · exact .inr ⟨List.mem_cons_of_mem _ h1, ds', h2, h3⟩
    · cases e'
theorem frzIx_len : ∀ {bs : List Nat} {s s' : S}, frzIx s bs = some s' → s'.length = s.length
  | [], s, s', e => by cases e; rfl
  | j :: bs, s, s', e => by
    have e' : (match getS s j with
      | some (.own none (.list ds)) => frzIx (s.set j (some (.val (.list ds)))) bs
      | some (.val _) => frzIx s bs
      | _ => none) = some s' := e
    split at e'
    · rw [frzIx_len e', List.length_set]
    · exact frzIx_len e'
    · cases e'
/-- what was lent and not handed on: its owner has it again, or all have it -/
theorem frzIx_own : ∀ {bs : List Nat} {s s' : S} {i : Nat} {k : Option Nat} {d : D}, frzIx s bs = some s' → i ∈ bs → getS s i = some (.own k d) → k = none
  | j :: bs, s, s', i, k, d, e, hm, g0 => by
    have e' : (match getS s j with
      | some (.own none (.list ds)) => frzIx (s.set j (some (.val (.list ds)))) bs
      | some (.val _) => frzIx s bs
      | _ => none) = some s' := e
    split at e'
    · rename_i ds g
      by_cases q : i = j
      · subst q; rw [g] at g0; cases g0; rfl
      · refine frzIx_own e' ((List.mem_cons.mp hm).resolve_left q) (d := d) ?_
        unfold getS
        rw [List.getElem?_set_ne (fun z => q z.symm)]
        exact g0
    · rename_i d' g
      by_cases q : i = j
      · subst q; rw [g] at g0; cases g0
      · exact frzIx_own e' ((List.mem_cons.mp hm).resolve_left q) g0
    · cases e'
/-- behind a call -/
theorem SR.post {B : List Addr} (sr : SR K G F T1 s σ H) (sub : ∃ pre, T1 = pre ++ T) (l : Lent K F H Fc B) (wh : ∀ b ∈ B, Whose s σ bs T T1 b) (io : IoIs s σ is ioa) (nd : is.Nodup) (x : Ext K Fc H F' H' ioa ios) (h1 : Ex F Fs) (h2 : Ex Fs F')
    (hB : ∀ b ∈ B, Fs b = none ∨ G.He b = none) (hp : putIo s is ios = some s2)
    (hs : ∀ i y, getS s' i = some y → getS s2 i = some y ∨ ∃ d, y = .val d) (hv : ∀ i d, getS s' i = some (.val d) → ∃ v, σ[i]? = some (some v) ∧ Rp K Fs v d)
    (ho : ∀ i k d p, getS s' i = some (.own k d) → σ[i]? = some (some (.ref p)) → p ∈ B → Fs p = none) (hi : ∀ (l : Nat) (p : Addr) (d : D), ioa[l]? = some p → ios[l]? = some d → OwnAt K Fs H' p d) (hT : ∀ q ∈ T, q.1 ∉ B) (len : s'.length = s.length) : SR K G Fs T s' σ H' := by
  obtain ⟨pre, rfl⟩ := sub
  have sr0 := sr.dropApp
  have ioG : ∀ a ∈ ioa, G.He a = none ∨ a ∈ G.io := fun a ha => by
    obtain ⟨i, k, d, _, g, hv⟩ := io.get ha
    obtain ⟨p, hp, o, _⟩ := sr0.ow i k d g
    rw [hv] at hp; cases hp
    have := o.ne
    cases k with
    | none => exact .inl this
    | some j => exact .inr (List.mem_of_getElem? this)
  have nT : ∀ q ∈ T, q.1 ∉ ioa := fun q hq hm => by
    obtain ⟨i, k, d, _, g, hv⟩ := io.get hm
    obtain ⟨p, hp, o, c⟩ := sr0.ow i k d g
    rw [hv] at hp
    have := c q hq
    cases hp
    exact this rfl
  -- a place that F does not show, is not lent and held something: Fs does not show it
  have nf : ∀ p, F p = none → p ∉ B → H p ≠ none → Fs p = none := fun p n nb hn => by
    cases e : Fs p with
    | none => rfl
    | some o =>
      rcases x.gr p o (h2 p o e) with q | q
      · rcases l.out p o q with z | z
        · rw [n] at z; cases z
        · exact absurd z nb
      · exact absurd q hn
  have old : ∀ {i k d}, getS s' i = some (.own k d) → ∃ d0, getS s i = some (.own k d0) := fun {i k d} g => by
    rcases hs i _ g with g2 | ⟨d', z⟩
    · rcases putIo_get hp nd g2 with ⟨_, g3⟩ | ⟨l, k', d0, d1, _, _, g3, z⟩
      · exact ⟨d, g3⟩
      · cases z; exact ⟨d0, g3⟩
    · cases z
  refine ⟨fun a o e => x.fh a o (h2 a o e), sr.fe.trans h1, fun a o e => ?_, fun a o e m => ?_, fun a ha => ?_, hv, fun i k d g => ?_, fun i j k l d e p g1 g2 r1 r2 => ?_, sr0.tn, fun q hq => ?_, len.trans sr.len⟩
  · rcases x.gr a o (h2 a o e) with q | q
    · rcases l.out a o q with z | z
      · exact sr.gr a o z
      · rcases hB a z with w | w
        · rw [w] at e; cases e
        · exact .inr w
    · exact .inr (sr.he q)
  · refine x.kp a o (sr.kp a o e m) fun hm => ?_
    rcases ioG a hm with z | z
    · rw [z] at e; cases e
    · exact m z
  · by_cases hm : a ∈ ioa
    · obtain ⟨_, vs, hv⟩ := x.io.mem a hm
      rw [hv]; simp
    · cases e : H a with
      | none => exact absurd e (sr.ioh a ha)
      | some o => rw [x.kp a o e hm]; simp
  · obtain ⟨d0, g0⟩ := old g
    obtain ⟨p, hpp, o, c⟩ := sr0.ow i k d0 g0
    have fs : Fs p = none := by
      by_cases hb : p ∈ B
      · exact ho i k d p g hpp hb
      · obtain ⟨vs, hvs⟩ := o.at_.there
        exact nf p o.nf hb (by rw [hvs]; simp)
    refine ⟨p, hpp, ⟨?_, fs, o.ne⟩, c⟩
    rcases hs i _ g with g2 | ⟨d', z⟩
    · rcases putIo_get hp nd g2 with ⟨h3, g3⟩ | ⟨l, k', d1, d2, h3, h4, g3, z⟩
      · rw [g0] at g3; cases g3
        have np : p ∉ ioa := fun hm => by
          obtain ⟨j, k', d', hj, gj, hvj⟩ := io.get hm
          exact h3 (by rw [sr0.di i j _ _ _ _ p g0 gj hpp hvj]; exact hj)
        obtain ⟨vs, hvs⟩ := o.at_.there
        exact (o.at_.mono h1).heap (by rw [x.kp p _ hvs np, hvs])
      · cases z
        obtain ⟨k2, d3, p2, hl, g4, hv4⟩ := io.at_ h3
        rw [hpp] at hv4; cases hv4
        exact hi l p d hl h4
    · cases z
  · obtain ⟨d0, g0⟩ := old g1
    obtain ⟨e0, g0'⟩ := old g2
    exact sr0.di i j _ _ _ _ p g0 g0' r1 r2
  · have o := sr0.tt q hq
    obtain ⟨vs, hvs⟩ := o.at_.there
    have fs : Fs q.1 = none := nf q.1 o.nf (hT q hq) (by rw [hvs]; simp)
    exact ⟨(o.at_.mono h1).heap (by rw [x.kp q.1 _ hvs (nT q hq), hvs]), fs, o.ne⟩
end
end DL

namespace DL
open Evl (Ex)
open PySem PySem.Spec PyProof.Rows L2 PySem.W

section
variable {K : PySem.W.Frag} {E : WX} {X : Cx} {G : En} {F Fc F' F1 Fs : Hp} {T T' T1 : List (Addr × D)} {s s' s1 s2 s3 : S} {σ σ' : L2.St} {H H' H1 : Hp} {v : V} {d : D} {ds ios : List D} {i : Nat} {r : R} {Q : VK} {m : List Bool} {vs : List V} {rs : List R} {p : Addr} {is bs : List Nat} {ioa : List Addr}
theorem putIo_out : ∀ {is : List Nat} {ds : List D} {s s' : S} {i : Nat}, putIo s is ds = some s' → i ∉ is → getS s' i = getS s i
  | [], [], s, s', i, e, _ => by cases e; rfl
  | [], _ :: _, s, s', i, e, _ => by cases e
  | _ :: _, [], s, s', i, e, _ => by cases e
  | j :: is, d :: ds, s, s', i, e, n => by
    have e' : (match getS s j with
      | some (.own k _) => putIo (s.set j (some (.own k d))) is ds
      | _ => none) = some s' := e
    split at e'
    · rw [putIo_out e' fun z => n (List.mem_cons_of_mem _ z)]
      unfold getS
      rw [List.getElem?_set_ne]
      intro z
      exact n (by rw [z]; exact List.mem_cons_self)
    · cases e'
theorem whose_not {B : Addr} (sr : SR K G F T1 s σ H) (sub : ∃ pre, T1 = pre ++ T) (w : Whose s σ bs T T1 B) {j : Nat} {k : Option Nat} {e : D} (hj : j ∉ bs) (g : getS s j = some (.own k e)) (hv : σ[j]? = some (some (.ref B))) : False := by
  rcases w with ⟨i, k', d, h1, h2, h3⟩ | ⟨⟨d, h1⟩, h2⟩
  · exact hj (by rw [← sr.di i j _ _ _ _ B h2 g h3 hv]; exact h1)
  · obtain ⟨p, hp, _, c⟩ := sr.ow j k e g
    rw [hv] at hp; cases hp
    exact c _ h1 rfl
theorem whose_T {B : Addr} (sr : SR K G F T1 s σ H) (sub : ∃ pre, T1 = pre ++ T) (w : Whose s σ bs T T1 B) : ∀ q ∈ T, q.1 ≠ B := by
  rcases w with ⟨i, k', d, h1, h2, h3⟩ | ⟨⟨d, h1⟩, h2⟩
  · intro q hq e
    obtain ⟨p, hp, _, c⟩ := sr.ow i _ _ h2
    rw [h3] at hp; cases hp
    obtain ⟨pre, rfl⟩ := sub
    exact c q (List.mem_append_right _ hq) e
  · exact h2
theorem call_post {B : List Addr} {cl : Bool} (sr : SR K G F T1 s σ H) (sub : ∃ pre, T1 = pre ++ T) (l : Lent K F H Fc B) (wh : ∀ b ∈ B, Whose s σ bs T T1 b) (io : IoIs s σ is ioa) (nd : is.Nodup) (dis : ∀ i ∈ is, i ∉ bs) (x : Ext K Fc H F' H' ioa ios)
    (bw : ∀ i ∈ bs, ∀ k d, getS s i = some (.own k d) → ∃ p, σ[i]? = some (some (.ref p)) ∧ Rp K Fc (.ref p) d) (hp : postS s is bs ios cl = some s') (hc : cl = true → ios.all nlI = true) :
    ∃ Fs, Ex F Fs ∧ SR K G Fs T s' σ H' ∧ (∀ v d, Rp K F' v d → (cl = true → nl d = true) → Rp K Fs v d) ∧ (∀ p d, OwnAt K F' H' p d → (cl = true → nlI d = true) → OwnAt K Fs H' p d) ∧ Ex Fs F' := by
  unfold postS at hp
  split at hp
  · cases hp
  rename_i s2 q2
  have l2 : s2.length = s.length := putIo_len q2
  split at hp
  · rename_i hcl
    cases hp
    have hB : ∀ b ∈ B, ∃ vs, F' b = some (.lst vs) := fun b hb => by
      obtain ⟨_, vs, hv⟩ := l.at_ b hb
      exact ⟨vs, x.ex _ _ hv⟩
    let Fs : Hp := fun a => if a ∈ B then none else F' a
    have hFs : ∀ a o, a ∉ B → F' a = some o → Fs a = some o := fun a o n e => by show (if a ∈ B then none else F' a) = _; rw [if_neg n]; exact e
    have hFB : ∀ a ∈ B, Fs a = none := fun a ha => by show (if a ∈ B then none else F' a) = _; rw [if_pos ha]
    have h2 : Ex Fs F' := fun a o e => by
      by_cases hm : a ∈ B
      · rw [hFB a hm] at e; cases e
      · have e' : (if a ∈ B then none else F' a) = some o := e
        rw [if_neg hm] at e'; exact e'
    have h1 : Ex F Fs := fun a o e => hFs a o (fun hb => by rw [(l.at_ a hb).1] at e; cases e) (x.ex _ _ (l.ex _ _ e))
    refine ⟨Fs, h1, ?_, fun v d h n => Rp.minus hB hFs h (n hcl), fun p d h n => OwnAt.minus hB hFs h (n hcl), h2⟩
    refine SR.post sr sub l wh io nd x h1 h2 (fun b hb => .inl (hFB b hb)) q2 (fun i y g => .inl g) (fun i d g => ?_) (fun i k d p g hv hb => hFB p hb) (fun l p d e1 e2 => ?_) (fun q hq hb => whose_T sr sub (wh _ hb) q hq rfl) l2
    · rcases putIo_get q2 nd g with ⟨_, g2⟩ | ⟨l, k, d0, d1, _, _, _, z⟩
      · obtain ⟨v, a, b⟩ := sr.sl i d g2
        exact ⟨v, a, Rp.mono h1 b⟩
      · cases z
    · exact OwnAt.minus hB hFs (x.io.get e1 e2) (List.all_eq_true.mp (hc hcl) d (List.mem_of_getElem? e2))
  · rename_i hcl
    have h1 : Ex F F' := l.ex.trans x.ex
    have back : ∀ {j : Nat} {y : Sl}, j ∈ bs → getS s2 j = some y → getS s j = some y := fun {j y} hj g => by
      rw [← putIo_out q2 fun hm => dis j hm hj]; exact g
    refine ⟨F', h1, ?_, fun v d h _ => h, fun p d h _ => h, Evl.Ex.refl _⟩
    refine SR.post sr sub l wh io nd x h1 (Evl.Ex.refl _) (fun b hb => .inr ?_) q2 (fun i y g => ?_) (fun i d g => ?_) (fun i k d p g hv hb => ?_) (fun l p d e1 e2 => x.io.get e1 e2) (fun q hq hb => whose_T sr sub (wh _ hb) q hq rfl) ((frzIx_len hp).trans l2)
    · rcases wh b hb with ⟨i, k, d, a1, a2, a3⟩ | ⟨⟨d, a1⟩, a2⟩
      · have g2 : getS s2 i = some (.own k d) := by rw [putIo_out q2 fun hm => dis i hm a1]; exact a2
        have := frzIx_own hp a1 g2
        subst this
        obtain ⟨p, hpp, o, _⟩ := sr.ow i _ _ a2
        rw [a3] at hpp; cases hpp
        exact o.ne
      · exact (sr.tt _ a1).ne
    · rcases frzIx_get hp g with ⟨g2, _⟩ | ⟨_, ds, _, z⟩
      · exact .inl g2
      · exact .inr ⟨_, z⟩
    · rcases frzIx_get hp g with ⟨g2, _⟩ | ⟨hm, ds, g2, z⟩
      · rcases putIo_get q2 nd g2 with ⟨_, g3⟩ | ⟨l, k, d0, d1, _, _, _, z⟩
        · obtain ⟨v, a, b⟩ := sr.sl i d g3
          exact ⟨v, a, Rp.mono h1 b⟩
        · cases z
      · cases z
        obtain ⟨p, a, b⟩ := bw i hm _ _ (back hm g2)
        exact ⟨_, a, Rp.mono x.ex b⟩
    · exfalso
      rcases frzIx_get hp g with ⟨g2, nb⟩ | ⟨_, ds, _, z⟩
      · have hnb : i ∉ bs := fun hm => by obtain ⟨d', z⟩ := nb hm; cases z
        rcases putIo_get q2 nd g2 with ⟨_, g3⟩ | ⟨l, k', d0, d1, _, _, g3, z⟩
        · exact whose_not sr sub (wh p hb) hnb g3 hv
        · cases z
          exact whose_not sr sub (wh p hb) hnb g3 hv
      · cases z
theorem SR.addTemp (sr : SR K G F T s σ H) (o : OwnAt K F H p d) (nf : F p = none) (ne : G.He p = none) (ns : ∀ i k d, getS s i = some (.own k d) → σ[i]? ≠ some (some (.ref p))) (nt : ∀ q ∈ T, q.1 ≠ p) : SR K G F ((p, d) :: T) s σ H := by
  refine ⟨sr.fh, sr.fe, sr.gr, sr.kp, sr.ioh, sr.sl, fun i k e g => ?_, sr.di, List.pairwise_cons.mpr ⟨fun q hq z => nt q hq z.symm, sr.tn⟩, fun q hq => ?_, sr.len⟩
  · obtain ⟨p', a, b, c⟩ := sr.ow i k e g
    refine ⟨p', a, b, fun q hq z => ?_⟩
    rcases List.mem_cons.mp hq with rfl | hq
    · exact ns i k e g (by rw [show p = p' from z]; exact a)
    · exact c q hq z
  · rcases List.mem_cons.mp hq with rfl | hq
    · exact ⟨o, nf, ne⟩
    · exact sr.tt q hq
theorem call_sp {fn : List D → FOut} {F0 : Hp} {T1 : List (Addr × D)} {H1 : Hp} {vs : List V} {rs : List R} {s1 : S} {F1 : Hp} (e1 : Ex F0 F1) (sr1 : SR K G F1 T1 s1 σ H1) (rv1 : RVs K F1 σ T rs vs T1) (w1 : Want K G E F0 (match argsD s1 m rs with
  | none => Out.bad
  | some ds => if nodupB (ioIx m rs) && disB (ioIx m rs) (boIx s1 m rs) then xPost s1 (ioIx m rs) (boIx s1 m rs) (fn ds) else .bad) (EP K G F0 T σ Q)) : spD K m fn vs H1 Q (WE E σ) := by
  split at w1
  · exact w1.elim
  rename_i ds qd
  split at w1
  · rename_i hok
    obtain ⟨hnd, hdis⟩ := Bool.and_eq_true_iff.mp hok
    have nd := nodupB_ok hnd
    have dis : ∀ i ∈ ioIx m rs, i ∉ boIx s1 m rs := fun i h1 h2 => disB_ok hdis h1 h2
    obtain ⟨Fc, B, l, arx, wh, io, bw⟩ := args_ok sr1 (Evl.Ex.refl _) rv1 qd
    have sub := rv1.sub
    have hioB : ∀ a ∈ ioA m vs, a ∉ B := fun a h1 h2 => by
      obtain ⟨i, k, d, hi, g, hv⟩ := io.get h1
      exact whose_not sr1 sub (wh a h2) (dis i hi) g hv
    refine ⟨Fc, ds, l.fh, arx.ar l hioB, io.nodup sr1 nd, ?_⟩
    have other : ∀ {s' : S} {ios : List D} {cl : Bool}, postS s1 (ioIx m rs) (boIx s1 m rs) ios cl = some s' → ∀ {i k d p}, getS s' i = some (.own k d) → σ[i]? = some (some (.ref p)) → H1 p ≠ none := fun {s' ios cl} hp {i k d p} g hv => by
      have key : ∃ d0, getS s1 i = some (.own k d0) := by
        unfold postS at hp
        split at hp
        · cases hp
        rename_i s2 q2
        have k2 : getS s2 i = some (.own k d) → ∃ d0, getS s1 i = some (.own k d0) := fun g2 => by
          rcases putIo_get q2 nd g2 with ⟨_, g3⟩ | ⟨l, k', d0, d1, _, _, g3, z⟩
          · exact ⟨_, g3⟩
          · cases z; exact ⟨_, g3⟩
        split at hp
        · cases hp; exact k2 g
        · rcases frzIx_get hp g with ⟨g2, _⟩ | ⟨_, ds, _, z⟩
          · exact k2 g2
          · cases z
      obtain ⟨d0, g0⟩ := key
      obtain ⟨p', hp', o, _⟩ := sr1.ow i k d0 g0
      rw [hv] at hp'; cases hp'
      obtain ⟨vs, hvs⟩ := o.at_.there
      rw [hvs]; simp
    unfold xPost at w1
    cases qf : fn ds with
    | bad => rw [qf] at w1; exact w1.elim
    | ret r ios =>
      rw [qf] at w1
      intro F' H' v x rr
      dsimp only at w1
      split at w1
      · rename_i s2 q2
        obtain ⟨Fs, h1, srs, kr, ko, h2⟩ := call_post sr1 sub l wh io nd dis x bw q2 (fun e => (Bool.and_eq_true_iff.mp e).2)
        cases r with
        | val d => exact w1 Fs T H' v (e1.trans h1) srs ⟨kr v d rr (fun e => (Bool.and_eq_true_iff.mp e).1), rfl⟩
        | new d =>
          obtain ⟨p, rfl, o, nf, hn⟩ := rr
          have fs : Fs p = none := by
            cases e : Fs p with
            | none => rfl
            | some ob => rw [h2 p ob e] at nf; cases nf
          obtain ⟨pre, hpre⟩ := sub
          refine w1 Fs ((p, d) :: T) H' _ (e1.trans h1) (srs.addTemp (ko p d o (fun e => (Bool.and_eq_true_iff.mp e).1)) fs (sr1.he hn) (fun i k d' g hv => other q2 g hv hn) fun q hq e => ?_) ⟨p, rfl, rfl⟩
          have o1 := sr1.tt q (by rw [hpre]; exact List.mem_append_right _ hq)
          obtain ⟨vs, hvs⟩ := o1.at_.there
          rw [e, hn] at hvs; cases hvs
      · exact w1.elim
    | err c d ios =>
      rw [qf] at w1
      intro F' H' v x ext hx hv
      dsimp only at w1
      split at w1
      · rename_i s2 q2
        obtain ⟨Fs, h1, srs, kr, ko, h2⟩ := call_post sr1 sub l wh io nd dis ext bw q2 (fun e => (Bool.and_eq_true_iff.mp e).2)
        exact w1 x Fs T σ H' v (e1.trans h1) srs hx (kr v d hv (fun e => (Bool.and_eq_true_iff.mp e).1))
      · exact w1.elim
  · exact w1.elim

theorem snd_call {fn : List D → FOut} {ta : TA} {fa : XA} (ha : SndA K E ta fa) : Snd K E (tCallS (spD K m fn) (WE E) ta) (xCall m fn fa) := fun G F T s σ H Q sr w => by
  refine ha G F T s σ H _ sr (w.bind.mono (Evl.Ex.refl F) fun ⟨rs, s1⟩ w1 F1 T1 H1 vs e1 sr1 rv1 => ?_)
  exact call_sp e1 sr1 rv1 w1

/-! ### calls and defs -/
abbrev PassS (CX : CXT) (X : Cx) (E : WX) : Prop := ∀ σ, PassesAt CX X σ (WE E σ)
section
variable {CX : CXT} {k : Nat} {f : Addr} {fd : FuncData} {ps : List Str} {fn : List D → FOut} {x : Str} {p pos : Pos} {e : Expr} {es : List Expr} {ta : TA} {fa : XA}
theorem de_call (Fn : FnOk X.prog X.w X.K X.mg X.base CX k f fd ps (spD X.K m fn)) (hr : Room k X.A) (hg : Gl X x) (hm : X.mg x = some (.ref f)) (hk : PySem.W.keepIn X.K (.ref f) = true) (hb : Binds X.K fd ps []) (hx : PassS CX X E) (ha : DA X E (e :: es) ta fa)
    (hdb : (x == ("__debug__" : Str)) = false := by decide) (he : starEach (e :: es) X.env = (false, eval e X.env) :: starEach es X.env := by rfl) (hpl : (backTo pos (starEach es X.env)).any (·.1) = false := by rfl) :
    DE X E (.Call (.Name x p) (e :: es) [] pos) (tCallS (spD X.K m fn) (WE E) ta) (xCall m fn fa) := ⟨pe_callS Fn hr hg hm hk hb hx ha.pa hdb he hpl, snd_call ha.sd⟩
end
/-- a def that nothing is let out of -/
theorem fn_ok0 {P : Program} {w : World} {mg : Str → Option Value} {base : Heap} {x qual : Str} {params : Arguments} {body : List Stmt} {scope : Scope} {f : Addr} {fd : FuncData} {N ps : List Str} {k : Nat} {fb : XS} (Fd : FunD K x qual params body scope [] [] f fd) (S : FnScope N ps scope) (hm : m.length = ps.length) (hN : m.length ≤ N.length)
    (hb : ∀ (cdv : Value) (A : Around) (outer : List Env) (s : Shared) (H : Hp) (E : XK), Room k (A.deeper (envOfC qual scope s.heap.objs.size f cdv)) → ∃ t, DSs (cxOf CX0 P w K mg base N qual scope f cdv A outer s H E).nox (fun c d _ H => E c d H) body t fb) :
    FnOk P w K mg base CX0 (k + 1) f fd ps (spD K m (runF m N.length fb)) :=
  Fd.ok S (fun vs H Q E ⟨F, ds, _, h, _⟩ => h.len.1.trans hm) fun cdv A outer s H vs Q E hr hsp => by
    obtain ⟨t, h⟩ := hb cdv A outer s H E hr
    exact ⟨t, PSs.nox h.ps, body_ok h.sd hN hsp⟩
/-- no promise: any def keeps it -/
theorem fn_bad {P : Program} {w : World} {mg : Str → Option Value} {base : Heap} {CX : CXT} {f : Addr} {fd : FuncData} {ps : List Str} {k : Nat} : FnOk P w K mg base CX k f fd ps (spD K m fun _ => .bad) :=
  ⟨fun vs H Q E ⟨F, ds, _, _, _, h⟩ => h.elim, fun A outer s H args us vs Q E _ _ _ _ ⟨F, ds, _, _, _, h⟩ => h.elim⟩
end
end DL

namespace DL
open Evl (Ex)
open PySem PySem.Spec PyProof.Rows L2 PySem.W

/-! ### f(k = v, ..) -/
def permL {α : Type} (ix : List Nat) (l : List α) : List α := ix.filterMap (l[·]?)
section
variable {K : PySem.W.Frag} {E : WX} {X : Cx} {G : En} {F Fc F' F1 Fs : Hp} {T T' T1 : List (Addr × D)} {s s' s1 s2 s3 : S} {σ σ' : L2.St} {H H' H1 : Hp} {v : V} {d : D} {ds ios : List D} {i : Nat} {r : R} {Q : VK} {m : List Bool} {vs : List V} {rs : List R} {p : Addr} {is bs : List Nat} {ioa : List Addr}
theorem ar_vals : ∀ {n : Nat} {vs : List V} {ds : List D}, AR K F H (List.replicate n false) vs ds → RpAll K F vs ds ∧ vs.length = n
  | 0, _, _, .nil => ⟨.nil, rfl⟩
  | n + 1, _, _, .val a b => ⟨.cons a (ar_vals (n := n) b).1, congrArg Nat.succ (ar_vals (n := n) b).2⟩
theorem vals_ar : ∀ {n : Nat} {vs : List V} {ds : List D}, RpAll K F vs ds → vs.length = n → AR K F H (List.replicate n false) vs ds
  | 0, _, _, .nil, _ => .nil
  | n + 1, _, _, .nil, h => by cases h
  | 0, _, _, .cons a b, h => by cases h
  | n + 1, _, _, .cons a b, h => .val a (vals_ar b (Nat.succ.inj h))
theorem ioA_vals : ∀ (n : Nat) (vs : List V), ioA (List.replicate n false) vs = []
  | 0, _ => by simp [ioA]
  | n + 1, [] => by simp [ioA, List.replicate_succ]
  | n + 1, v :: vs => ioA_vals n vs
theorem RpAll.perm {ix : List Nat} (h : RpAll K F vs ds) (hi : ∀ i ∈ ix, i < vs.length) : RpAll K F (permL ix vs) (permL ix ds) ∧ (permL ix vs).length = ix.length := by
  induction ix with
  | nil => exact ⟨.nil, rfl⟩
  | cons i ix ih =>
    obtain ⟨a, b⟩ := ih fun j hj => hi j (List.mem_cons_of_mem _ hj)
    have hlt := hi i List.mem_cons_self
    have hd : ds[i]? = some (ds[i]'(by rw [← h.length]; exact hlt)) := List.getElem?_eq_getElem _
    obtain ⟨v, hv, hr⟩ := h.get hd
    have e1 : permL (i :: ix) vs = v :: permL ix vs := by unfold permL; rw [List.filterMap_cons, hv]
    have e2 : permL (i :: ix) ds = ds[i]'(by rw [← h.length]; exact hlt) :: permL ix ds := by unfold permL; rw [List.filterMap_cons, hd]
    rw [e1, e2]
    exact ⟨.cons hr a, by rw [List.length_cons, b, List.length_cons]⟩
structure DK (X : Cx) (E : WX) (kws : List Keyword) (t : TA) (f : XA) : Prop where
  pk : PK X kws t
  sd : SndA X.K E t f
theorem dk_nil : DK X E [] tNil aNil := ⟨pk_nil, sndA_nil⟩
theorem dk_cons {nm : Option Str} {e : Expr} {kpos : Pos} {kws : List Keyword} {te : TE} {fe : XE} {t : TA} {fr : XA} (ha : DE X E e te fe) (hr : DK X E kws t fr) : DK X E (⟨nm, e, kpos⟩ :: kws) (tCons te t) (aCons fe fr) := ⟨pk_cons ha.pe hr.pk, sndA_cons ha.sd hr.sd⟩
/-- how the keywords fill the parameters -/
def KB (K : PySem.W.Frag) (fd : FuncData) (ps ks : List Str) (ix : List Nat) : Prop := ∀ (s : Shared) (ws : List Value), ws.length = ks.length → BindsTo s fd ⟨[], ks.zip ws⟩ (ps.zip (permL ix ws))
theorem kb_of {x qual : Str} {params : Arguments} {body : List Stmt} {scope : Scope} {f : Addr} {fd : FuncData} {ps ks : List Str} {ix : List Nat} (Fd : FunD K x qual params body scope [] [] f fd)
    (h : ∀ (kV doc pm : Value) (an : Option Addr) (cdv ct : Value) (ws : List Value), ws.length = ks.length → bindArgs (PySem.W.fnOf x qual params body scope .none kV doc pm an cdv ct) ⟨[], ks.zip ws⟩ = pure (ps.zip (permL ix ws))) : KB K fd ps ks ix := fun s ws hl => by
  obtain ⟨oc, od, dV, kV, doc, pm, an, cdv, ct, osl, rfl, lk, hcd, hD, hK⟩ := Fd.ex
  rcases hD with ⟨_, rfl⟩ | ⟨e, _⟩
  · exact .of_eq (h kV doc pm an cdv ct ws hl)
  · exact absurd rfl e
def tCallKw (sp : Sp) (n : Nat) (ix : List Nat) (E : WX) (tk : TA) : TE := fun σ H Q => tk σ H fun zs H2 => zs.length = n ∧ sp (permL ix zs) H2 Q (WE E σ)
theorem Vals.permL {vs : List V} {us : List Value} (h : Vals vs us) (ix : List Nat) : Vals (DL.permL ix vs) (DL.permL ix us) := by
  induction ix with
  | nil => exact .nil
  | cons i ix ih =>
    unfold DL.permL at ih ⊢
    rw [List.filterMap_cons, List.filterMap_cons]
    cases e : vs[i]? with
    | none =>
      have : us[i]? = none := by
        rw [List.getElem?_eq_none_iff] at e ⊢
        rw [← h.length]; exact e
      rw [this]
      exact ih
    | some v =>
      obtain ⟨u, hu, hr⟩ := h.get e
      rw [hu]
      exact .cons hr ih
section
variable {CX : CXT} {k : Nat} {f : Addr} {fd : FuncData} {ps ks : List Str} {fn : List D → FOut} {x : Str} {p pos : Pos} {kws : List Keyword} {tk : TA} {fk : XA} {ix : List Nat} {sp : Sp}
theorem pe_callKw (Fn : FnOk X.prog X.w X.K X.mg X.base CX k f fd ps sp) (hr : Room k X.A) (hg : Gl X x) (hm : X.mg x = some (.ref f)) (hk : PySem.W.keepIn X.K (.ref f) = true) (hb : KB X.K fd ps ks ix) (hx : PassS CX X E)
    (hkw : PK X kws tk) (hall : (backToKw pos (keywordEach kws X.env)).all (·.1.isSome) = true := by rfl) (hks : (backToKw pos (keywordEach kws X.env)).filterMap (·.1) = ks := by rfl)
    (hdb : (x == ("__debug__" : Str)) = false := by decide)
    (hpl : ((backTo pos (starEach [] X.env)).any (·.1) || (backToKw pos (keywordEach kws X.env)).any (·.1.isNone)) = false := by rfl) :
    PE X (.Call (.Name x p) [] kws pos) (tCallKw sp ks.length ix E tk) := by
  refine ⟨fun pins s σ H Q I h => ?_⟩
  refine wpAny_Call_Name_kw (ld_glob I hg hm ?_ hdb)
  refine PySem.W.callWith_KW0 (h₀ := X.base) I.ok.mod.kin hk hall (thn (hkw.run pos pins s σ H _ I h) fun ws s2 ⟨zs, H2, I2, rz, l2, q2⟩ => ⟨I2.kIn, ?_⟩) hpl
  rw [hks]
  have r2 := Vals.permL rz ix
  refine wpAny_call (codeAny_mono (Fn.run X.A X.stack s2 H2 ⟨[], ks.zip ws⟩ (permL ix ws) (permL ix zs) Q (WE E σ) hr I2.env0 (hb s2 ws (rz.length.symm.trans l2)) r2 q2) fun r s' hq => ?_)
  cases r with
  | error e => exact hx σ pins H2 s2 e s' I2 hq
  | ok fl =>
    cases fl with
    | ret u => exact I2.after hq
    | next => exact False.elim hq
    | brk => exact False.elim hq
    | cont => exact False.elim hq
theorem snd_callKw {n : Nat} (hm : m = List.replicate n false) (hn : ix.length = n) (hix : ∀ i ∈ ix, i < n) {tk : TA} {fk : XA} (ha : SndA K E tk fk) : Snd K E (tCallKw (spD K m fn) n ix E tk) (xCall m (fun ds => fn (permL ix ds)) fk) := fun G F T s σ H Q sr w => by
  refine ha G F T s σ H _ sr (w.bind.mono (Evl.Ex.refl F) fun ⟨rs, s1⟩ w1 F1 T1 H1 vs e1 sr1 rv1 => ?_)
  obtain ⟨Fc, ds, hx, ar, nd, aft⟩ := call_sp (fn := fun ds => fn (permL ix ds)) e1 sr1 rv1 w1
  subst hm
  obtain ⟨rp, hl⟩ := ar_vals ar
  obtain ⟨rp2, hl2⟩ := rp.perm (ix := ix) (by rw [hl]; exact hix)
  rw [ioA_vals] at nd aft
  refine ⟨hl, Fc, permL ix ds, hx, vals_ar rp2 (hl2.trans hn), ?_, ?_⟩
  · rw [ioA_vals]; exact nd
  · rw [ioA_vals]; exact aft
theorem de_callKw (Fn : FnOk X.prog X.w X.K X.mg X.base CX k f fd ps (spD X.K m fn)) (hr : Room k X.A) (hg : Gl X x) (hm : X.mg x = some (.ref f)) (hk : PySem.W.keepIn X.K (.ref f) = true) (hb : KB X.K fd ps ks ix) (hx : PassS CX X E)
    (hkw : DK X E kws tk fk) (hmn : m = List.replicate ks.length false := by rfl) (hn : ix.length = ks.length := by rfl) (hix : ∀ i ∈ ix, i < ks.length := by decide) (hall : (backToKw pos (keywordEach kws X.env)).all (·.1.isSome) = true := by rfl) (hks : (backToKw pos (keywordEach kws X.env)).filterMap (·.1) = ks := by rfl)
    (hdb : (x == ("__debug__" : Str)) = false := by decide)
    (hpl : ((backTo pos (starEach [] X.env)).any (·.1) || (backToKw pos (keywordEach kws X.env)).any (·.1.isNone)) = false := by rfl) :
    DE X E (.Call (.Name x p) [] kws pos) (tCallKw (spD X.K m fn) ks.length ix E tk) (xCall m (fun ds => fn (permL ix ds)) fk) :=
  ⟨pe_callKw Fn hr hg hm hk hb hx hkw.pk hall hks hdb hpl, snd_callKw hmn hn hix hkw.sd⟩
end
end
end DL

namespace DL
open Evl (Ex)
open PySem PySem.Spec PyProof.Rows L2 PySem.W

section
variable {K : PySem.W.Frag} {E : WX} {X : Cx} {G : En} {F Fc F' F1 Fs : Hp} {T T' T1 : List (Addr × D)} {s s' s1 s2 s3 : S} {σ σ' : L2.St} {H H' H1 : Hp} {v : V} {d : D} {ds ios : List D} {i : Nat} {r : R} {Q : VK}
/-! ### a, b, .. = x, y, .. by way of a tuple -/
def setsL (is : List Nat) (vs : List V) (σ : L2.St) : L2.St := (is.zip vs).foldl (fun σ p => σ.set p.1 (some p.2)) σ
def setsR (is : List Nat) (vs : List V) (σ : L2.St) : L2.St := (is.zip vs).foldr (fun p σ => σ.set p.1 (some p.2)) σ
theorem setsR_comm {x : Option V} : ∀ {is : List Nat} {vs : List V} {σ : L2.St}, i ∉ is → setsR is vs (σ.set i x) = (setsR is vs σ).set i x
  | [], _, _, _ => rfl
  | _ :: _, [], _, _ => rfl
  | j :: is, v :: vs, σ, h => by
    show (setsR is vs (σ.set i x)).set j (some v) = ((setsR is vs σ).set j (some v)).set i x
    rw [setsR_comm fun z => h (List.mem_cons_of_mem _ z), List.set_comm]
    intro z
    exact h (by rw [z]; exact List.mem_cons_self)
theorem sets_eq : ∀ {is : List Nat} {vs : List V} {σ : L2.St}, is.Nodup → setsL is vs σ = setsR is vs σ
  | [], _, _, _ => rfl
  | _ :: _, [], _, _ => rfl
  | j :: is, v :: vs, σ, h => by
    obtain ⟨h1, h2⟩ := List.nodup_cons.mp h
    show setsL is vs (σ.set j (some v)) = (setsR is vs σ).set j (some v)
    rw [sets_eq h2, setsR_comm h1]
structure GNs (X : Cx) (is : List Nat) (es : List Expr) (t : TGs) : Prop where
  pg : PGs X es t
  sd : ∀ vs σ H Q, vs.length = is.length → Q (setsL is vs σ) H → t vs σ H Q
theorem gns_nil : GNs X [] [] gNil := ⟨pgs_nil, fun vs σ H Q hl q => by
  cases vs with
  | nil => exact ⟨rfl, q⟩
  | cons _ _ => cases hl⟩
theorem gns_cons {x : Str} {pos : Pos} {es : List Expr} {t : TGs} {is : List Nat} (hN : X.N.Nodup) (hi : X.N[i]? = some x) (hx : Loc X.env.scope x) (h : GNs X is es t) (hf : X.fn x = true ∨ X.env.scope.names.lookup x = some .local := by first | exact .inl rfl | exact .inr rfl | assumption)
    (hs : (assignEach (.Name x pos :: es) X.env).map (·.2) = assign (.Name x pos) X.env :: (assignEach es X.env).map (·.2) := by rfl) : GNs X (i :: is) (.Name x pos :: es) (gCons (gName i) t) := ⟨pgs_cons (pg_name hN hi hx hf) h.pg hs, fun vs σ H Q hl q => by
  cases vs with
  | nil => cases hl
  | cons v vs => exact ⟨v, vs, rfl, h.sd vs _ H Q (Nat.succ.inj hl) q⟩⟩
theorem ds_parT {is : List Nat} {es as : List Expr} {tgs : TGs} {ta : TA} {fa : XA} {n : Nat} {kt k2 : Nat} {pt pt2 pos : Pos} (hc : X.calm = true) (nd : is.Nodup) (hg : GNs X is es tgs) (ha : DA X E as ta fa) (hl : ALen fa n) (hn : n ≤ 1000) (hln : is.length = n)
    (hn1 : (assignEach es X.env).length = n := by rfl) (hst : (assignEach es X.env).findIdx? (·.1) = none := by rfl)
    (hs : swapsWithSole [.Tuple es kt pt] (.Tuple as k2 pt2) pos.line X.env = pure false := by rfl) (hw : swappedStores [.Tuple es kt pt] (.Tuple as k2 pt2) X.env = pure none := by rfl)
    (h1 : (assignEach [.Tuple es kt pt] X.env).map (·.2) = [assign (.Tuple es kt pt) X.env] := by rfl) : DS X E (.Assign [.Tuple es kt pt] (.Tuple as k2 pt2) pos) (tAsg (tTupF ta) (gTup X.K n tgs)) (sPar is fa) :=
  ⟨ps_asg (pe_tupF ha.pa) (pg_tup hc hg.pg hn1 hst) hs hw h1, fun G F s σ H Dn sr w => by
    have w0 := w.bind
    cases e0 : fa s with
    | bad => rw [e0] at w0; exact w0.elim
    | err c d s1 => rw [e0] at w0; exact ha.sd G F [] s σ H _ sr (by rw [e0]; exact w0)
    | ok x =>
      obtain ⟨rs, s1⟩ := x
      rw [e0] at w0
      refine ha.sd G F [] s σ H _ sr ?_
      rw [e0]
      intro F1 T1 H1 vs e1 sr1 rv1
      have w1 := w0
      dsimp only [Want] at w1
      dsimp only at sr1 rv1
      have hlv : vs.length = n := by rw [rv1.len, hl s rs s1 e0]
      refine ⟨by rw [hlv, sizeLine_eq]; omega, fun p ob d0 hp => ?_⟩
      obtain ⟨F2, s2, e2, sr2, hl2, w3⟩ := par_ok (K := X.K) (E := E) (is := is) (P := FP X.K G F1 Dn) nd (sr1.grow (o := .frz ob (.tup vs)) hp) rv1 (Evl.Ex.refl _) (Want.mono w1 e1 fun x (wx : FP X.K G F Dn x) => wx.mono e1)
      refine ⟨p, vs, rfl, (TpD.of d0 upd_same).sq, hlv, hg.sd vs σ _ _ (by rw [hlv, hln]) ?_⟩
      rw [sets_eq nd]
      exact w3 F2 _ _ e2 sr2⟩
/-- a comparison with the heads of both -/
theorem op_eqA {k : Nat} (hr : Room k X.A) : OpR X (compareOp .Eq) (rEqD X.K) := op_eqD hr.units
theorem op_neA {k : Nat} (hr : Room k X.A) : OpR X (compareOp .NotEq) (rNeD X.K) := op_neD hr.units
end
theorem pass00 {X : Cx} {E : WX} : PassS L2.CX0 X E := fun _ _ _ _ _ _ _ h => h.elim
abbrev FnP (K : PySem.W.Frag) (x : Str) (st : Stmt) (f : Addr) (fd : FuncData) : Prop := FunD K x x (defArgs st) (defBody st) (defScope st) [] [] f fd
section
variable {X : Cx}
end
end DL

namespace DL
open Evl (Ex)
open PySem PySem.Spec PyProof.Rows L2 PySem.W

section
variable {K : PySem.W.Frag} {E : WX} {X : Cx} {G : En} {F F' : Hp} {T T' : List (Addr × D)} {s s' : S} {σ σ' : L2.St} {H H' : Hp} {v : V} {d : D} {ds : List D} {i : Nat} {r : R} {Q : VK}
/-! ### in, not in -/
def rInT (K : PySem.W.Frag) (neg : Bool) : R2 := fun x y H Q => ∃ d ds, Dp K H x d ∧ (Dp K H y (.list ds) ∨ Dp K H y (.tuple ds)) ∧ SeqAt.shaped d = true ∧ SeqAt.shaped (.list ds) = true ∧ Q (.bl (if neg then !ds.any fun z => PyData.eqv z d else ds.any fun z => PyData.eqv z d)) H
theorem op_inA {k : Nat} (hr : Room k X.A) : OpR X (compareOp .In) (rInT X.K false) := by
  intro pins s σ H x y v u Q I rx ry h
  have hu : X.A.units + 65 < cLine := by have := hr.un; omega
  obtain ⟨d, ds, hd, he, sd, se, q⟩ := h
  obtain ⟨as, r1⟩ := Dp.reads I d x v hd rx
  rcases he with he | he
  · obtain ⟨bs, r2⟩ := Dp.reads I (.list ds) y u he ry
    exact SeqAt.in_list_reads r2 r1 (SeqAt.canLay_of_shaped se) (SeqAt.canLay_of_shaped sd) (room_in_shaped sd hu) ⟨.bl _, H, I, rfl, q⟩
  · obtain ⟨bs, r2⟩ := Dp.reads I (.tuple ds) y u he ry
    exact SeqAt.in_tuple_reads r2 r1 (SeqAt.canLay_of_shaped (d := .list ds) se) (SeqAt.canLay_of_shaped sd) (room_in_shaped sd hu) ⟨.bl _, H, I, rfl, q⟩
def inD (d : D) (ds : List D) : Bool := ds.any fun z => PyData.eqv z d
def hIn (a b : D) : Option RD := match itemsOf b with
  | some ds => if fl 60 a && fl 60 b then some (.val (.bool (inD a ds))) else none
  | none => none
theorem items_cases {b : D} {ds : List D} (h : itemsOf b = some ds) : b = .list ds ∨ b = .tuple ds := by
  cases b <;> simp [itemsOf] at h <;> subst h
  · exact .inl rfl
  · exact .inr rfl
theorem fl_tl {n : Nat} {ds : List D} (h : fl n (.tuple ds) = true) : fl n (.list ds) = true := by
  cases n with
  | zero => simp [fl] at h
  | succ n => simpa [fl] using h
theorem o_inAny {neg : Bool} {F H : Hp} {x y : V} {a b : D} {ds : List D} (ex : Ex F H) (va : View K F H x a) (vb : View K F H y b) (hi : itemsOf b = some ds) (hf : (fl 60 a && fl 60 b) = true) (q : Q (.bl (if neg then !inD a ds else inD a ds)) H) : rInT K neg x y H Q := by
  obtain ⟨h1, h2⟩ := Bool.and_eq_true_iff.mp hf
  rcases items_cases hi with rfl | rfl
  · exact ⟨a, ds, va.dp ex h1, .inl (vb.dp ex h2), fl_shaped h1, fl_shaped h2, q⟩
  · exact ⟨a, ds, va.dp ex h1, .inr (vb.dp ex h2), fl_shaped h1, fl_shaped (fl_tl h2), q⟩
theorem o_in : Op2 K (rInT K false) hIn := by
  intro F H x y a b rd Q ex va vb e q
  unfold hIn at e
  split at e
  · rename_i ds hi
    split at e
    · rename_i hf
      cases e
      exact o_inAny ex va vb hi hf (q _ (.bl _))
    · cases e
  · cases e
/-! ### methods that read a tuple or a list -/
section
variable {o e : Expr} {es : List Expr} {to : TE} {t : TA} {fo : XE} {fa : XA} {name : Str} {apos cpos : Pos} {T id : String} {r : V → List V → Hp → VK → Prop}
end
/-- the receiver: a value that stays -/
def xMeth (h : D → List D → Option RD) (fo : XE) (fa : XA) : XE := fun s => (fo s).bind fun (r, s1) => match getR s1 r with
  | some (.tuple d0) => (fa s1).bind fun (rs, s2) => (match getR s2 r, getRs s2 rs with
    | some (.tuple d), some ds => fin (h (.tuple d) ds) s2
    | _, _ => .bad)
  | _ => .bad
section
variable {o e : Expr} {es : List Expr} {to : TE} {t : TA} {fo : XE} {fa : XA} {apos cpos : Pos}
end
end
end DL

namespace DL
open Evl (Ex)
open PySem PySem.Spec PyProof.Rows L2 PySem.W

section
variable {K : PySem.W.Frag} {E : WX} {X : Cx} {G : En} {F F' : Hp} {T T' : List (Addr × D)} {s s' : S} {σ σ' : L2.St} {H H' : Hp} {v : V} {d : D} {ds : List D} {i : Nat} {r : R} {Q : VK}
/-! ### sorted of a list of tuples -/
def leD (a b : D) : Bool := !dataLt b a
def tup1 : D → Bool
  | .tuple (_ :: _) => true
  | _ => false
def sortOk (ds : List D) : Bool := (ds.all fun d => ds.all fun e => alike d e) && (ds.all tup1 && flAll 60 ds)
theorem leD_eq : dataLe false (fun d : D => d) = leD := by
  funext a b
  rw [dataLe_eq]
  rfl
theorem flAll_mem {n : Nat} : ∀ {ds : List D} {d : D}, flAll n ds = true → d ∈ ds → fl n d = true
  | e :: ds, d, h, hm => by
    unfold flAll at h
    obtain ⟨h1, h2⟩ := Bool.and_eq_true_iff.mp h
    rcases List.mem_cons.mp hm with rfl | hm
    · exact h1
    · exact flAll_mem h2 hm
theorem vals_each {P : V → D → Prop} : ∀ {us : List Value} {ds : List D}, EachIs (fun u d => ∃ v, RelV v u ∧ P v d) us ds → ∃ vs, Vals vs us ∧ EachIs P vs ds
  | _, _, .nil => ⟨[], .nil, .nil⟩
  | _, _, .cons ⟨v, r, p⟩ t => by
    obtain ⟨vs, h1, h2⟩ := vals_each t
    exact ⟨v :: vs, .cons r h1, .cons p h2⟩
theorem reads_each {h : Heap} : ∀ {us : List Value} {ds : List D} {as : List Addr}, ReadsAll h us ds as → EachIs (fun u d => ∃ as, Reads h u d as) us ds
  | _, _, _, .nil => .nil
  | _, _, _, .cons a b => .cons ⟨_, a⟩ (reads_each b)
theorem fl_depth {n : Nat} {d : D} (h : fl n d = true) : d.depth ≤ n + 1 := (fl_can n d h).2
theorem rp_each : ∀ {vs : List V} {ds : List D}, EachIs (fun v d => Rp K F v d) vs ds → RpAll K F vs ds
  | _, _, .nil => .nil
  | _, _, .cons a b => .cons a (rp_each b)
/-! ### isinstance of three classes -/
section
variable {a : Expr} {ta : TE} {fa : XE} {p pos : Pos}
end
end
end DL

namespace DL
open Evl (Ex)
open PySem PySem.Spec PyProof.Rows L2 PySem.W

section
variable {K : PySem.W.Frag} {E : WX} {X : Cx} {G : En} {F F' : Hp} {T T' : List (Addr × D)} {s s' : S} {σ σ' : L2.St} {H H' : Hp} {v : V} {d : D} {ds : List D} {i : Nat} {r : R} {Q : VK}
/-! ### zip of two, each a list or a tuple -/
theorem IsB.push {b : Bool} {h : Heap} {a : Addr} {items : Array Value} (x : IsB b h a items) (o : Obj) : IsB b (h.push o) a items := by
  cases b with
  | true => exact Heap.IsList.push (show h.IsList a items from x) o
  | false => exact Heap.IsTuple.push (show h.IsTuple a items from x) o
theorem IsB.lt {b : Bool} {h : Heap} {a : Addr} {items : Array Value} (x : IsB b h a items) : a < h.objs.size := by
  cases b with
  | true => obtain ⟨o, e, _⟩ := (show h.IsList a items from x); exact Heap.lt_size e
  | false => obtain ⟨o, e, _⟩ := (show h.IsTuple a items from x); exact Heap.lt_size e
def zipD : List D → List D → List D
  | a :: as, b :: bs => .tuple [a, b] :: zipD as bs
  | _, _ => []
def xZip (fa fb : XE) : XI := fun s => (fa s).bind fun (r, s1) => (fb s1).bind fun (q, s2) => match frzs s2 [r, q] with
  | some ([a, b], s3) => (match itemsOf a, itemsOf b with
    | some ds, some es => .ok (zipD ds es, s3)
    | _, _ => .bad)
  | _ => .bad
end
end DL

namespace DL
open Evl (Ex)
open PySem PySem.Spec PyProof.Rows L2 PySem.W

section
variable {K : PySem.W.Frag} {E : WX} {X : Cx} {G : En} {F F' : Hp} {T T' : List (Addr × D)} {s s' : S} {σ σ' : L2.St} {H H' : Hp} {v : V} {d : D} {ds : List D} {i j : Nat} {r : R} {Q : VK}
/-! ### a[i], b[j] = x, y -/
def stIx (i : Nat) (fi : XE) (d : D) : S → Out S := fun s => match ownL s i with
  | none => .bad
  | some _ => (fi s).bind fun (q, s2) => match getR s2 q with
    | some (.int k) => (match ownL s2 i with
      | some (kk, xs) => (match ixN xs.length k with
        | some m => .ok (s2.set i (some (.own kk (.list (xs.set m d)))))
        | none => .bad)
      | none => .bad)
    | _ => .bad
def sSub2 (i : Nat) (fi : XE) (j : Nat) (fj : XE) (fa : XE) : XS := fun s => (fa s).bind fun (r, s1) => match r with
  | .val (.tuple [d, e]) => (stIx i fi d s1).bind fun s2 => (stIx j fj e s2).bind fun s3 => .ok (.nx s3)
  | _ => .bad
end

/-! ### constants of a module -/
section
variable {K : PySem.W.Frag} {h : Heap} {mg : Str → Option Value}
mutual
def datB (K : PySem.W.Frag) : Nat → Value → D → Bool
  | _, .none, .none => true
  | _, .bool b, .bool c => b == c
  | _, .int i _, .int j => decide (i = j)
  | _, .str x _, .str y => decide (x = y)
  | n + 1, .ref a, .tuple ds => match K.lookup a with
    | some ⟨.type c, none, .seq its _, _⟩ => decide (c = "tuple") && (decide (its.size ≤ 1000) && datAll K n its.toList ds)
    | _ => false
  | _, _, _ => false
def datAll (K : PySem.W.Frag) : Nat → List Value → List D → Bool
  | _, [], [] => true
  | n, u :: us, d :: ds => datB K n u d && datAll K n us ds
  | _, _, _ => false
end
theorem datAll_ok {n : Nat} (hb : ∀ (u : Value) (d : D), datB K n u d = true → ∃ v, RelV v u ∧ ∀ F, Rp K F v d) : ∀ (us : List Value) (ds : List D), datAll K n us ds = true → ∃ vs, Vals vs us ∧ ∀ F, RpAll K F vs ds
  | [], [], _ => ⟨[], .nil, fun _ => .nil⟩
  | u :: us, d :: ds, e => by
    unfold datAll at e
    obtain ⟨h1, h2⟩ := Bool.and_eq_true_iff.mp e
    obtain ⟨v, r1, r2⟩ := hb u d h1
    obtain ⟨vs, q1, q2⟩ := datAll_ok hb us ds h2
    exact ⟨v :: vs, .cons r1 q1, fun F => .cons (r2 F) (q2 F)⟩
  | [], _ :: _, e => by simp [datAll] at e
  | _ :: _, [], e => by simp [datAll] at e
theorem datB_ok (n : Nat) : ∀ (u : Value) (d : D), datB K n u d = true → ∃ v, RelV v u ∧ ∀ F, Rp K F v d := by
  induction n with
  | zero =>
    intro u d e
    cases d with
    | none => cases u <;> first | exact ⟨.non, rfl, fun _ => .non⟩ | (simp [datB] at e)
    | bool c =>
      cases u <;> simp [datB] at e
      subst e
      exact ⟨.bl _, rfl, fun _ => .bl _⟩
    | int j =>
      cases u <;> simp [datB] at e
      subst e
      exact ⟨.int _, ⟨_, rfl⟩, fun _ => .int _⟩
    | str y =>
      cases u <;> simp [datB] at e
      subst e
      exact ⟨.str _, ⟨_, rfl⟩, fun _ => .str _⟩
    | list ds => cases u <;> simp [datB] at e
    | tuple ds => cases u <;> simp [datB] at e
    | dict ds => cases u <;> simp [datB] at e
  | succ n ih =>
    intro u d e
    cases d with
    | none => cases u <;> first | exact ⟨.non, rfl, fun _ => .non⟩ | (simp [datB] at e)
    | bool c =>
      cases u <;> simp [datB] at e
      subst e
      exact ⟨.bl _, rfl, fun _ => .bl _⟩
    | int j =>
      cases u <;> simp [datB] at e
      subst e
      exact ⟨.int _, ⟨_, rfl⟩, fun _ => .int _⟩
    | str y =>
      cases u <;> simp [datB] at e
      subst e
      exact ⟨.str _, ⟨_, rfl⟩, fun _ => .str _⟩
    | list ds => cases u <;> simp [datB] at e
    | dict ds => cases u <;> simp [datB] at e
    | tuple ds =>
      cases u <;> simp only [datB, Bool.false_eq_true] at e
      split at e
      · rename_i a _ c its m sl q
        obtain ⟨h1, h2⟩ := Bool.and_eq_true_iff.mp e
        obtain ⟨h3, h4⟩ := Bool.and_eq_true_iff.mp h2
        obtain ⟨vs, hv, hr⟩ := datAll_ok ih its.toList ds h4
        have hz : its.size ≤ 1000 := of_decide_eq_true h3
        have hl : ds.length ≤ line := by
          have : ds.length = its.toList.length := by rw [← (hr (fun _ => none)).length, hv.length]
          rw [this]; unfold line; simp; omega
        exact ⟨.ref a, rfl, fun F => .tup (.inr ⟨_, its, m, q, congrArg Value.type (of_decide_eq_true h1), rfl, rfl, by rw [sizeLine_eq]; omega, hv⟩) (hr F) hl⟩
      · cases e
def conB (K : PySem.W.Frag) (c : Str × D) : Bool := match PySem.W.nsIn K mainGlobals c.1 with
  | some (some u) => datB K 20 u c.2
  | _ => false
/-- what is known of a constant -/
structure Con (K : PySem.W.Frag) (mg : Str → Option Value) (x : Str) (d : D) where
  u : Value
  v : V
  m : mg x = some u
  r : RelV v u
  p : ∀ F, Rp K F v d
theorem con_ok (X : K.In h) (G : h.Ns mainGlobals mg) {x : Str} {d : D} (c : conB K (x, d) = true) : Nonempty (Con K mg x d) := by
  unfold conB at c
  dsimp only at c
  split at c
  · rename_i u q
    obtain ⟨v, r, p⟩ := datB_ok 20 u d c
    exact ⟨⟨u, v, PySem.W.mg_of X G q, r, p⟩⟩
  · cases c
abbrev AlC : Type := He.AlD × Bool
def obsC (fa : List He.Fa) (fn : List He.DefD) (cs : List (Str × D)) (K : PySem.W.Frag) : AlC := (He.obsD fa fn K, cs.all (conB K))
def valC (fn : List He.DefD) : AlC := (He.valD fn, true)
def SaysC (fa : List He.Fa) (fn : List He.DefD) (cs : List (Str × D)) (K : PySem.W.Frag) : Prop := obsC fa fn cs K = valC fn
def obsCG (n : Nat) (fa : List He.Fa) (fn : List He.DefD) (cs : List (Str × D)) (g : Addr → Option Obj) : AlC := obsC fa fn cs (He.frG g (He.asD g n))
def hookC (n : Nat) (fa : List He.Fa) (fn : List He.DefD) (cs : List (Str × D)) : PySem.W.Hook where
  α := AlC
  obs := fun s => obsCG n fa fn cs s.heap.get?
  val := fun _ => valC fn
  says := fun _ h => ∃ K : PySem.W.Frag, K.In h ∧ SaysC fa fn cs K
  of := fun _ _ e => ⟨_, He.frG_in, e⟩
  keeps := fun _ _ _ ⟨K, hK, c⟩ k => ⟨K, PySem.W.Frag.In.keeps hK k, c⟩
theorem obsCG_eq {n : Nat} {fa : List He.Fa} {fn : List He.DefD} {cs : List (Str × D)} {g : Addr → Option Obj} {s : Shared} (h : ∀ a, g a = s.heap.get? a) : obsCG n fa fn cs g = (hookC n fa fn cs).obs s := by
  have e : g = s.heap.get? := funext h
  rw [e] <;> rfl
section
variable {fa : List He.Fa} {fn : List He.DefD} {cs : List (Str × D)}
theorem SaysC.d (c : SaysC fa fn cs K) : He.SaysD fa fn K := congrArg (fun z : AlC => z.1) c
theorem SaysC.con (c : SaysC fa fn cs K) (i : Nat) {q : Str × D} (h : cs[i]? = some q := by rfl) : conB K q = true := by
  have e : cs.all (conB K) = true := congrArg (fun z : AlC => z.2) c
  exact List.all_eq_true.mp e q (List.mem_of_getElem? h)
end
end
end DL

namespace DL
open Evl (Ex)
open PySem PySem.Spec PyProof.Rows L2 PySem.W

section
variable {K : PySem.W.Frag} {E : WX} {X : Cx} {G : En} {F F' : Hp} {T T' : List (Addr × D)} {s s' : S} {σ σ' : L2.St} {H H' : Hp} {v : V} {d : D} {ds : List D} {i j : Nat} {r : R} {Q : VK}
/-! ### x = y, y asked for no more -/
def sMove (i j : Nat) : XS := fun s => match getS s j with
  | some (.own none d) => .ok (.nx ((s.set j none).set i (some (.own none d))))
  | some (.val d) => .ok (.nx (s.set i (some (.val d))))
  | _ => .bad
end
end DL

namespace DL
open Evl (Ex)
open PySem PySem.Spec PyProof.Rows L2 PySem.W

/-- f([..]): a fresh list is handed to a def that changes it; the list is dropped -/
def xCallN (fn : List D → FOut) (fa : XA) : XE := fun s => (fa s).bind fun (rs, s1) => match rs with
  | [.new (.list ds)] => match fn [.list ds] with
    | .bad => .bad
    | .ret r _ => .ok (r.r, s1)
    | .err c d _ => .err c d s1
  | _ => .bad
section
variable {K : PySem.W.Frag} {E : WX} {X : Cx} {G : En} {F Fc F' F1 Fs : Hp} {T T' T1 : List (Addr × D)} {s s' s1 s2 s3 : S} {σ σ' : L2.St} {H H' H1 : Hp} {v : V} {d : D} {ds ios : List D} {i : Nat} {r : R} {Q : VK} {m : List Bool} {vs : List V} {rs : List R} {p : Addr} {is bs : List Nat} {ioa : List Addr}
section
variable {CX : CXT} {k : Nat} {f : Addr} {fd : FuncData} {ps : List Str} {fn : List D → FOut} {x : Str} {p pos : Pos} {e : Expr} {es : List Expr} {ta : TA} {fa : XA}
end
end
end DL

namespace DL
open Evl (Ex)
open PySem PySem.Spec PyProof.Rows L2 PySem.W
/-- list(script) too -/
def hListS : List D → Option RD
  | [.dict [(.list [], .list ds)]] => if ds.length ≤ line then some (.lst ds) else none
  | ds => hList ds
end DL

namespace DL
open Evl (Ex)
open PySem PySem.Spec PyProof.Rows L2 PySem.W

/-! ### [e for x in xs if t for y in ys if u] -/
def lcAdd2 (vs : List Nat) (acc : List D) (r : R) (s : S) : Out (List D × S) := if acc.length < line then lcAdd vs acc r s else .bad
def lcTurn2 (vs : List Nat) (ft : XT) (fe : XE) (acc : List D) (s : S) : Out (List D × S) := (ft s).bind fun (b, s1) => if b then ((fe s1).bind fun (r, s2) => lcAdd2 vs acc r s2) else .ok (acc, DL.forget vs s1)
section
variable {K : PySem.W.Frag} {E : WX} {X : Cx} {G : En} {F F' F1 : Hp} {T T' : List (Addr × D)} {s s' : S} {σ σ' : L2.St} {H H' : Hp} {v : V} {d : D} {ds : List D} {i : Nat} {r : R} {Q : VK}
def canI (K : PySem.W.Frag) (E : WX) (f : XI) : TI := fun σ H R => ∃ G F T s, SR K G F T s σ H ∧ Want K G E F (f s) (IP K G F T σ R)
theorem DI.can {tg e : Expr} {t : TI} {f : XI} (h : DI X E tg e t f) : PI X tg e (canI X.K E f) := ⟨fun pins s σ H R I ⟨G, F, T, st, sr, w⟩ => h.pi.run pins s σ H R I (h.sd G F T st σ H R sr w)⟩
section
variable {elt tg iter tg1 iter1 : Expr} {ifs ifs1 : List Expr} {scope : Scope} {own : List (Str × Nat)} {vs1 gs gs1 : List Nat} {pos : Pos} {wi : TI} {fi fi1 : XI} {xg xg1 : XG} {ft ft1 : XT} {fe : XE}
end
end
end DL

namespace DL
open Evl (Ex)
open PySem PySem.Spec PyProof.Rows L2 PySem.W

/-! ### count of a list of ints -/
def hCountL : D → List D → Option RD
  | .list ds, [.int k] => match intsOf ds with
    | some ns => some (.val (.int ((ns.count k : Nat) : Int)))
    | none => none
  | _, _ => none
def xMethL (h : D → List D → Option RD) (fo : XE) (fa : XA) : XE := fun s => (fo s).bind fun (r, s1) => match getR s1 r with
  | some (.list d0) => (fa s1).bind fun (rs, s2) => (match getR s2 r, getRs s2 rs with
    | some (.list d), some ds => fin (h (.list d) ds) s2
    | _, _ => .bad)
  | _ => .bad
section
variable {K : PySem.W.Frag} {E : WX} {X : Cx} {G : En} {F F' : Hp} {T T' : List (Addr × D)} {s s' : S} {σ σ' : L2.St} {H H' : Hp} {v : V} {d : D} {ds : List D} {i : Nat} {r : R} {Q : VK}
section
variable {o e : Expr} {es : List Expr} {to : TE} {t : TA} {fo : XE} {fa : XA} {apos cpos : Pos}
end
end
end DL

namespace DL
open Evl (Ex)
open PySem PySem.Spec PyProof.Rows L2 PySem.W
section
variable {X : Cx}
end
end DL

namespace DL
open Evl (Ex)
open PySem PySem.Spec PyProof.Rows L2

/-! ### sets whose members are tuples, nested -/
/-- the tuple at b is the key k, which fits -/
structure Mem (h : Heap) (k : NK) (b : Addr) : Prop where
  is : NestedIs h k (.ref b)
  dp : k.depth ≤ 8
  nt : noTx k = true
section
variable {P : Program} {w : World}
/-- a question that answers b and changes nothing -/
def Says (P : Program) (w : World) (m : Sem Bool) (b : Bool) (s : Shared) : Prop := ∀ (A : Around) (E : Value → Shared → Prop) (Q : Bool → Shared → Prop), Q b s → wpAny (model P w) A m Q E s
mutual
theorem cls_key : ∀ (k : NK) (v : Value) (n : Nat) (s : Shared), NestedIs s.heap k v → k.depth ≤ n → Says P w (ofAClassStatement n v) false s
  | .none, _, n, s, x, _ => fun A E Q q => by
    cases x
    have e : ofAClassStatement n .none = pure false := by cases n <;> rfl
    rw [e]; exact wpAny_pure q
  | .num i, _, n, s, x, _ => fun A E Q q => by
    cases x with
    | int _ t =>
      have e : ofAClassStatement n (.int i t) = pure false := by cases n <;> rfl
      rw [e]; exact wpAny_pure q
    | @bool b _ z =>
      have e : ofAClassStatement n (.bool b) = pure false := by cases n <;> rfl
      rw [e]; exact wpAny_pure q
  | .text y, _, n, s, x, _ => fun A E Q q => by
    cases x with
    | text _ t =>
      have e : ofAClassStatement n (.str y t) = pure false := by cases n <;> rfl
      rw [e]; exact wpAny_pure q
  | .tup ks, _, 0, s, x, hn => by simp [NestedKey.depth] at hn
  | .tup ks, _, n + 1, s, x, hn => fun A E Q q => by
    cases x with
    | @tup a o vs m _ hg hc hd hk =>
      have all := cls_keys ks vs.toList n s hk (by simp only [NestedKey.depth] at hn; omega)
      unfold ofAClassStatement
      refine wpAny_bind (wpAny_typeOf (T := "tuple") ⟨o, hg, hc⟩ ?_)
      dsimp only
      rw [if_pos (show (("tuple" : String) == "tuple") = true by decide)]
      refine wpAny_bind (wpAny_pure ?_)
      simp only [Bool.not_true, Bool.false_eq_true, if_false]
      show wpAny _ _ (seqItems? (.ref a) >>= _) _ _ s
      refine wpAny_bind (wpAny_seqItems hg hd ?_)
      dsimp only
      refine wpAny_bind ?_
      show wpAny _ _ (forIn vs _ _) _ _ s
      rw [← Array.forIn_toList]
      refine wpAny_forIn_list _ (fun l r z => r.1 = none ∧ z = s ∧ ∀ v ∈ l, Says P w (ofAClassStatement n v) false s) _ ?_ ?_ _ _ ⟨rfl, rfl, all⟩
      · rintro v l r z ⟨hr, rfl, hl⟩
        refine wpAny_bind (hl v List.mem_cons_self _ _ _ ?_)
        simp only [Bool.false_eq_true, if_false]
        exact wpAny_pure ⟨rfl, rfl, fun u hu => hl u (List.mem_cons_of_mem _ hu)⟩
      · rintro ⟨r1, r2⟩ z ⟨hr, rfl, _⟩
        cases (show r1 = none from hr)
        exact wpAny_pure q
theorem cls_keys : ∀ (ks : List NK) (vs : List Value) (n : Nat) (s : Shared), NestedAll s.heap ks vs → NestedKey.depthAll ks ≤ n → ∀ v ∈ vs, Says P w (ofAClassStatement n v) false s
  | [], _, n, s, x, _, v, hv => by cases x; cases hv
  | k :: ks, _, n, s, x, hn, v, hv => by
    cases x with
    | cons x1 x2 =>
      simp only [NestedKey.depthAll] at hn
      rcases List.mem_cons.mp hv with e | hv
      · subst e; exact cls_key k _ n s x1 (by omega)
      · exact cls_keys ks _ n s x2 (by omega) v hv
end
mutual
theorem byv_key : ∀ (k : NK) (v : Value) (n : Nat) (s : Shared), NestedIs s.heap k v → k.depth ≤ n → noTx k = true → Says P w (hashByValue n v) true s
  | .none, _, n, s, x, _, _ => fun A E Q q => by
    cases x
    have e : hashByValue n .none = pure true := by cases n <;> rfl
    rw [e]; exact wpAny_pure q
  | .num i, _, n, s, x, _, _ => fun A E Q q => by
    cases x with
    | int _ t =>
      have e : hashByValue n (.int i t) = pure true := by cases n <;> rfl
      rw [e]; exact wpAny_pure q
    | @bool b _ z =>
      have e : hashByValue n (.bool b) = pure true := by cases n <;> rfl
      rw [e]; exact wpAny_pure q
  | .text y, _, n, s, x, _, ht => by cases ht
  | .tup ks, _, 0, s, x, hn, _ => by simp [NestedKey.depth] at hn
  | .tup ks, _, n + 1, s, x, hn, ht => fun A E Q q => by
    cases x with
    | @tup a o vs m _ hg hc hd hk =>
      have all := byv_keys ks vs.toList n s hk (by simp only [NestedKey.depth] at hn; omega) ht
      unfold hashByValue
      refine wpAny_bind (wpAny_specialOf (T := "tuple") ⟨o, hg, hc⟩ F.slot_tuple_hash.lookup ?_)
      show wpAny _ _ (seqItems? (.ref a) >>= _) _ _ s
      refine wpAny_bind (wpAny_seqItems hg hd ?_)
      refine wpAny_bind ?_
      show wpAny _ _ (forIn vs _ _) _ _ s
      rw [← Array.forIn_toList]
      refine wpAny_forIn_list _ (fun l r z => r.1 = none ∧ z = s ∧ ∀ v ∈ l, Says P w (hashByValue n v) true s) _ ?_ ?_ _ _ ⟨rfl, rfl, all⟩
      · rintro v l r z ⟨hr, rfl, hl⟩
        refine wpAny_bind (hl v List.mem_cons_self _ _ _ ?_)
        simp only [Bool.not_true, Bool.false_eq_true, if_false]
        exact wpAny_pure ⟨rfl, rfl, fun u hu => hl u (List.mem_cons_of_mem _ hu)⟩
      · rintro ⟨r1, r2⟩ z ⟨hr, rfl, _⟩
        cases (show r1 = none from hr)
        exact wpAny_pure q
theorem byv_keys : ∀ (ks : List NK) (vs : List Value) (n : Nat) (s : Shared), NestedAll s.heap ks vs → NestedKey.depthAll ks ≤ n → noTxs ks = true → ∀ v ∈ vs, Says P w (hashByValue n v) true s
  | [], _, n, s, x, _, _, v, hv => by cases x; cases hv
  | k :: ks, _, n, s, x, hn, ht, v, hv => by
    cases x with
    | cons x1 x2 =>
      simp only [NestedKey.depthAll] at hn
      obtain ⟨t1, t2⟩ := Bool.and_eq_true_iff.mp (show (noTx k && noTxs ks) = true from ht)
      rcases List.mem_cons.mp hv with e | hv
      · subst e; exact byv_key k _ n s x1 (by omega) t1
      · exact byv_keys ks _ n s x2 (by omega) t2 v hv
end
/-- a search among keys tells nothing -/
theorem unseen {s : Shared} {k : NK} {b : Addr} (x : Mem s.heap k b) {ys : List Value} (hy : ∀ y ∈ ys, ∃ j c, y = Value.ref c ∧ Mem s.heap j c) : Says P w (searchCouldBeSeen (.ref b) ys) false s := fun A E Q q => by
  unfold searchCouldBeSeen
  refine wpAny_bind ?_
  refine wpAny_forIn_list _ (fun l r z => r.1 = none ∧ z = s ∧ ∀ y ∈ l, ∃ j c, y = Value.ref c ∧ Mem s.heap j c) _ ?_ ?_ _ _ ⟨rfl, rfl, hy⟩
  · rintro v l r z ⟨hr, rfl, hl⟩
    obtain ⟨j, c, rfl, y⟩ := hl v List.mem_cons_self
    have nx : ∀ u ∈ l, ∃ j c, u = Value.ref c ∧ Mem z.heap j c := fun u hu => hl u (List.mem_cons_of_mem _ hu)
    dsimp only
    by_cases hv : (b == c || (carriedByValue (.ref b) && carriedByValue (.ref c))) = true
    · exact wp_if_pos hv (wpAny_pure ⟨rfl, rfl, nx⟩)
    · refine wp_if_neg hv ?_
      refine wpAny_bind (quiet_key k _ 8 _ x.is x.dp _ _ _ ?_)
      simp only [Bool.not_true, Bool.false_eq_true, if_false]
      refine wpAny_bind (quiet_key j _ 8 _ y.is y.dp _ _ _ ?_)
      simp only [Bool.not_true, Bool.false_eq_true, if_false]
      refine wpAny_bind (cls_key k _ 8 _ x.is x.dp _ _ _ ?_)
      simp only [Bool.false_eq_true, if_false]
      refine wpAny_bind (cls_key j _ 8 _ y.is y.dp _ _ _ ?_)
      simp only [Bool.false_eq_true, if_false]
      exact wpAny_pure ⟨rfl, rfl, nx⟩
  · rintro ⟨r1, r2⟩ z ⟨hr, rfl, _⟩
    cases (show r1 = none from hr)
    exact wpAny_pure q
end
end DL

namespace DL
open Evl (Ex)
open PySem PySem.Spec PyProof.Rows L2
/-! ### a set of keys -/
abbrev Ky := Addr × NK
def entN (w : World) (L : List Ky) : List (Int × Value) := L.map fun p => (p.2.hash w, Value.ref p.1)
def hsN (w : World) (L : List Ky) : List Int := L.map fun p => p.2.hash w
/-- what is true of the object alone -/
structure SetN (w : World) (h : Heap) (a : Addr) (L : List Ky) (es : Array (Int × Value)) (ep : Nat) (t : SetTable) : Prop where
  ob : ∃ o, h.get? a = some o ∧ o.ExactSet ∧ o.data = .set es ep t
  en : es.toList = entN w L
  tb : TabOk t (hsN w L)
  nd : (L.map (·.2)).Nodup
  pl : t.plain = true
  ld : w.params.followText "set-order" = true ∨ t.led = true
  rm : L.length * 5 < t.mask * 3
  fw : L.length < 64
section
variable {P : Program} {w : World} {A : Around} {E : Value → Shared → Prop} {s : Shared} {a : Addr} {L : List Ky} {es : Array (Int × Value)} {ep : Nat} {t : SetTable}
theorem SetN.sz (R : SetN w s.heap a L es ep t) : es.size = L.length := by
  rw [← Array.length_toList, R.en, entN, List.length_map]
theorem SetN.ft (R : SetN w s.heap a L es ep t) : t.fits es.size = true := by
  have h1 := R.tb.sz
  rw [hsN, List.length_map] at h1
  have h2 := R.sz
  have h3 := R.rm
  unfold SetTable.fits SetTable.fill
  rw [R.tb.dm]
  simp
  omega
theorem SetN.at_ (R : SetN w s.heap a L es ep t) {i : Nat} {p : Ky} (h : L[i]? = some p) : es[i]? = some (p.2.hash w, Value.ref p.1) := by
  rw [← Array.getElem?_toList, R.en, entN, List.getElem?_map, h]; rfl
theorem SetN.hs (R : SetN w s.heap a L es ep t) {i : Nat} {p : Ky} (h : L[i]? = some p) : (es[i]?.map (·.1)).getD 0 = p.2.hash w := by
  rw [R.at_ h]; rfl
/-- the c-th step of the way of a hash -/
abbrev stp (t : SetTable) (h : Int) (c : Nat) : SetTable.Probe := nth t.mask (runAt t.mask (SetTable.bits h % (t.mask + 1)) (SetTable.bits h)) c
theorem stp_add (t : SetTable) (h : Int) (c q : Nat) : nth t.mask (stp t h c) q = stp t h (c + q) := (nth_add t.mask c _ q).symm
theorem stp_j (t : SetTable) (h : Int) (c q : Nat) : (nth t.mask (stp t h c) q).j = way t.mask h (c + q) := by rw [stp_add]
theorem stp_clean (t : SetTable) (h : Int) (c : Nat) : (stp t h c).dummy = none := by
  induction c with
  | zero => rfl
  | succ c ih =>
    show (nth t.mask _ (c + 1)).dummy = none
    rw [nth_succ]
    unfold adv
    split <;> exact ih
/-- where a member sits on the way from the c-th step on -/
def Ahead (w : World) (L : List Ky) (t : SetTable) (k : NK) (c K : Nat) : Prop := ∀ (i : Nat) (p : Ky), L[i]? = some p → p.2 = k → ∃ q, c ≤ q ∧ q < K ∧ t.place.toList[i]? = some (way t.mask (k.hash w) q)
theorem look_from (R : SetN w s.heap a L es ep t) (mem : ∀ p ∈ L, Mem s.heap p.2 p.1) {x : Addr} {k : NK} (hx : Mem s.heap k x) (hu : A.units + 8 < cLine) {K : Nat} (hf : K < 10 * SetTable.turns t.mask)
    (hK : way t.mask (k.hash w) K ∉ t.place.toList) (hb : ∀ c, c < K → way t.mask (k.hash w) c ∈ t.place.toList) {Q : SetFound → Shared → Prop}
    (yes : k ∈ L.map (·.2) → Q (.there none) s) (no : k ∉ L.map (·.2) → Q (.free (way t.mask (k.hash w) K) false) s) :
    ∀ (n f c : Nat) (st : Option SetTable.Probe), K = c + n → n < f → st.getD (t.probeStart (k.hash w)) = stp t (k.hash w) c → Ahead w L t k c K → wpAny (model P w) A (setSearchFrom a (.ref x) (k.hash w) true f st) Q E s := by
  intro n
  induction n using Nat.strongRecOn with
  | ind n ih =>
  intro f c st hKc hnf hst hA
  cases f with
  | zero => exact absurd hnf (Nat.not_lt_zero _)
  | succ f =>
  obtain ⟨o, ho, hex, hd⟩ := R.ob
  have gw : ¬ t.gaveWay = true := by
    unfold SetTable.gaveWay
    rw [mask_odd R.tb.mok]
    decide
  rw [setSearchFrom_succ]
  refine wpAny_bind (wpAny_setState_of ho hd R.ft ?_)
  dsimp only
  refine wp_if_neg gw ?_
  try refine wpAny_bind (wpAny_pure ?_)
  have spec := go_spec t R.tb.ris R.tb.dm (fun i => (es[i]?.map (·.1)).getD 0) (k.hash w) (10 * SetTable.turns t.mask) n (stp t (k.hash w) c) (stp_clean t _ c) (by omega)
    (fun q hq => by rw [stp_j]; exact hb _ (by omega)) (by rw [stp_j, ← hKc]; exact hK)
  rcases spec with ⟨q, i, hq, hi, hh, before, hp⟩ | ⟨none_, hp⟩
  · rw [stp_j] at hi hp
    rw [stp_add] at hp
    have hp' : t.probe (fun i => (es[i]?.map (·.1)).getD 0) (k.hash w) (st.getD (t.probeStart (k.hash w))) = some (.candidate (way t.mask (k.hash w) (c + q)) i (stp t (k.hash w) (c + (q + 1)))) := by rw [hst]; exact hp
    rw [hp']
    dsimp only
    have hil : i < L.length := by
      have h1 := (List.getElem?_eq_some_iff.mp hi).1
      have h2 := R.tb.sz
      rw [hsN, List.length_map] at h2
      rw [Array.length_toList] at h1
      omega
    obtain ⟨p, hpi⟩ : ∃ p, L[i]? = some p := ⟨_, List.getElem?_eq_getElem hil⟩
    have hpm := List.mem_of_getElem? hpi
    have mp := mem p hpm
    have sl := slot_live R.tb.ris hi
    have rest : wpAny (model P w) A (searchRest a (.ref x) (k.hash w) true f es t (way t.mask (k.hash w) (c + q)) i (stp t (k.hash w) (c + (q + 1)))) Q E s := by
      unfold searchRest
      rw [R.at_ hpi]
      dsimp only
      refine wpAny_bind (wpAny_holding ((nestedKind P w).eqBool (x := p.2) (y := k) hu ⟨mp.is, mp.dp⟩ ⟨hx.is, hx.dp⟩ ?_))
      refine wpAny_bind (wpAny_setState_of ho hd R.ft ?_)
      dsimp only
      by_cases e : p.2 = k
      · refine wp_if_pos (by simp [e]) (wpAny_pure (yes (List.mem_map.mpr ⟨p, hpm, e⟩)))
      · refine wp_if_neg (by simp [e]) ?_
        try refine wpAny_bind (wpAny_pure ?_)
        have same : t.sameMemory t.moves t.mask = some true := by
          unfold SetTable.sameMemory
          rw [if_pos (beq_self_eq_true _)]
        rw [same]
        dsimp only
        simp only [if_true, sl, R.at_ hpi]
        refine wpAny_bind (wpAny_isSame_ref_self (wpAny_bind (wpAny_pure ?_)))
        simp only [if_true]
        refine wp_if_neg (by simp [e]) ?_
        refine ih (n - (q + 1)) (by omega) f (c + (q + 1)) _ (by omega) (by omega) rfl fun i2 p2 h2 e2 => ?_
        obtain ⟨r, b1, b2, b3⟩ := hA i2 p2 h2 e2
        refine ⟨r, ?_, b2, b3⟩
        have hne : ¬ (r < c + q) := fun z => by
          refine before (r - c) i2 (by omega) (by rw [stp_j, show c + (r - c) = r by omega]; exact b3) ?_
          rw [← e2]; exact R.hs h2
        have hne2 : r ≠ c + q := fun z => by
          subst z
          have s0 := slot_live R.tb.ris b3
          rw [sl] at s0
          injection s0 with s0
          rw [← s0, hpi] at h2
          cases h2
          exact e e2
        omega
    by_cases hl : t.led = true
    · refine wp_if_neg (by simp [hl]) ?_
      try refine wpAny_bind (wpAny_pure ?_)
      exact rest
    · refine wp_if_pos (by simp [hl]) ?_
      refine wpAny_bind (unseen hx (fun y hy => ?_) _ _ _ ?_)
      · obtain ⟨e, he, rfl⟩ := List.mem_map.mp hy
        have h2 : e ∈ es.toList := by
          have h1 : e ∈ es ∧ (e.1 == k.hash w) = true := by simpa using he
          simpa using h1.1
        rw [R.en, entN] at h2
        obtain ⟨p2, m2, rfl⟩ := List.mem_map.mp h2
        exact ⟨p2.2, p2.1, rfl, mem p2 m2⟩
      · refine wp_if_neg (by decide) ?_
        try refine wpAny_bind (wpAny_pure ?_)
        exact rest
  · rw [stp_j, ← hKc] at hp
    have hp' : t.probe (fun i => (es[i]?.map (·.1)).getD 0) (k.hash w) (st.getD (t.probeStart (k.hash w))) = some (.empty (way t.mask (k.hash w) K) none) := by rw [hst]; exact hp
    rw [hp']
    dsimp only
    refine wpAny_pure (no fun hm => ?_)
    obtain ⟨p0, m0, e0⟩ := List.mem_map.mp hm
    obtain ⟨i0, hi0⟩ := List.mem_iff_getElem?.mp m0
    obtain ⟨r, b1, b2, b3⟩ := hA i0 p0 hi0 e0
    refine none_ (r - c) i0 (by omega) (by rw [stp_j, show c + (r - c) = r by omega]; exact b3) ?_
    rw [← e0]; exact R.hs hi0
theorem look (R : SetN w s.heap a L es ep t) (mem : ∀ p ∈ L, Mem s.heap p.2 p.1) {x : Addr} {k : NK} (hx : Mem s.heap k x) (hu : A.units + 8 < cLine) {Q : SetFound → Shared → Prop}
    (yes : k ∈ L.map (·.2) → Q (.there none) s) (no : ∀ K, k ∉ L.map (·.2) → way t.mask (k.hash w) K ∉ t.place.toList → (∀ c, c < K → way t.mask (k.hash w) c ∈ t.place.toList) → Q (.free (way t.mask (k.hash w) K) false) s) :
    wpAny (model P w) A (setSearch a (.ref x) (k.hash w) true) Q E s := by
  have rm := R.rm
  have ls : (hsN w L).length = L.length := List.length_map _
  obtain ⟨K, hf, hK, hb⟩ := R.tb.first (by rw [ls]; omega) (k.hash w)
  have few : 10 * SetTable.turns t.mask ≤ 1420 := by
    unfold SetTable.turns
    rcases R.tb.mok with e | e | e <;> omega
  unfold setSearch
  refine look_from R mem hx hu hf hK hb yes (fun n => no K n hK hb) K 100000 0 none (Nat.zero_add K).symm (by omega) rfl fun i p hp e => ?_
  have hi : (hsN w L)[i]? = some (k.hash w) := by rw [hsN, List.getElem?_map, hp, ← e]; rfl
  have hil : i < t.place.toList.length := by
    have h1 := (List.getElem?_eq_some_iff.mp hp).1
    have h2 := R.tb.sz
    rw [Array.length_toList]
    omega
  obtain ⟨c, hc, e2⟩ := R.tb.before hK hi (List.getElem?_eq_getElem hil)
  exact ⟨c, Nat.zero_le _, hc, by rw [List.getElem?_eq_getElem hil, e2]⟩
end
end DL

namespace DL
open Evl (Ex)
open PySem PySem.Spec PyProof.Rows L2
section
variable {P : Program} {w : World} {A : Around} {E : Value → Shared → Prop} {s : Shared} {a : Addr} {L : List Ky} {es : Array (Int × Value)} {ep : Nat} {t : SetTable}
theorem Mem.kept {h h' : Heap} {k : NK} {b : Addr} (x : Mem h k b) (q : ∀ c o v n, h.get? c = some o → o.data = .seq v n → h'.get? c = some o) : Mem h' k b :=
  ⟨x.is.at q _ _, x.dp, x.nt⟩
/-- a set that changes is no tuple -/
theorem Mem.beside {h h' : Heap} {k : NK} {b : Addr} {o : Obj} (x : Mem h k b) (ho : h.get? a = some o) (hd : o.data = .set es ep t) (sb : Heap.SameBut a h h') : Mem h' k b :=
  x.kept fun c u v n e hv => by
    have hne : c ≠ a := fun z => by
      subst z
      rw [ho] at e
      cases e
      rw [hd] at hv
      cases hv
    exact (sb.2 c hne).trans e
/-- the entries in a new sequence -/
theorem entN_pick (L : List Ky) (es : Array (Int × Value)) (hr : es.toList = entN w L) : ∀ is : List Nat, (∀ i ∈ is, i < L.length) →
    is.filterMap (fun i => es[i]?) = entN w (is.filterMap fun i => L[i]?) ∧ hsN w (is.filterMap fun i => L[i]?) = is.map fun i => (es.map (·.1)).getD i 0
  | [], _ => ⟨rfl, rfl⟩
  | i :: is, h => by
    obtain ⟨h1, h2⟩ := entN_pick L es hr is fun j hj => h j (List.mem_cons_of_mem _ hj)
    have hi := h i List.mem_cons_self
    have e1 : L[i]? = some L[i] := List.getElem?_eq_getElem hi
    have e2 : es[i]? = some (L[i].2.hash w, Value.ref L[i].1) := by
      rw [← Array.getElem?_toList, hr, entN, List.getElem?_map, e1]; rfl
    refine ⟨?_, ?_⟩
    · rw [List.filterMap_cons_some e2, List.filterMap_cons_some e1, h1]; rfl
    · rw [List.filterMap_cons_some e1, List.map_cons, ← h2]
      have e3 : (es.map (·.1))[i]? = some (L[i].2.hash w) := by rw [Array.getElem?_map, e2]; rfl
      show _ :: _ = _
      rw [show (es.map (·.1)).getD i 0 = L[i].2.hash w by simp [Array.getD_eq_getD_getElem?, e3]]
      rfl
theorem pick_all {α : Type} (L : List α) : ∀ n, n ≤ L.length → (List.range n).filterMap (fun i => L[i]?) = L.take n
  | 0, _ => rfl
  | n + 1, h => by
    have hn : n < L.length := h
    rw [List.range_succ, List.filterMap_append, pick_all L n (Nat.le_of_lt hn), List.take_succ, List.getElem?_eq_getElem hn, List.filterMap_cons_some (List.getElem?_eq_getElem hn)]
    rfl
theorem laid_anew {o : Obj} (ho : s.heap.get? a = some o) (hex : o.ExactSet) (hd : o.data = .set es ep t) (hr : es.toList = entN w L) (hf : t.fits es.size = true) (nd : (L.map (·.2)).Nodup) (pl : t.plain = true)
    (ld : w.params.followText "set-order" = true ∨ t.led = true) (fw : L.length < 64) {wn M : Nat} (h1 : SetTable.sizeAbove wn - 1 = M) (h2 : MaskOk M) (h3 : SetTable.sizeAbove wn ≤ 128) (h4 : L.length * 5 < M * 3) {Q : Unit → Shared → Prop}
    (q : ∀ h' L' es' ep' t', Heap.SameBut a s.heap h' → SetN w h' a L' es' ep' t' → L'.Perm L → Q () { s with heap := h' }) : wpAny (model P w) A (setRelay a wn) Q E s := by
  have hz : es.size = L.length := by rw [← Array.length_toList, hr, entN, List.length_map]
  obtain ⟨t', od, e, hp, T, em, el, ek, _⟩ := relaid_ok t (hs := es.map (·.1)) (wanted := wn) h1 h2 (by rw [Array.size_map, hz]; omega)
  rw [Array.size_map, hz] at hp
  obtain ⟨p1, p2⟩ := entN_pick L es hr od.toList fun i hi => List.mem_range.mp (hp.mem_iff.mp hi)
  have pm : (od.toList.filterMap fun i => L[i]?).Perm L := by
    have z := hp.filterMap fun i => L[i]?
    rwa [pick_all L _ (Nat.le_refl _), List.take_length] at z
  have hl : (od.filterMap (es[·]?)).toList = entN w (od.toList.filterMap fun i => L[i]?) := by rw [Array.toList_filterMap]; exact p1
  have hz2 : (od.filterMap (es[·]?)).size = es.size := by rw [← Array.length_toList, hl, entN, List.length_map, pm.length_eq, hz]
  rw [← p2] at T
  rw [setRelay_eq]
  refine wpAny_bind (wpAny_setState_of ho hd hf ?_)
  dsimp only
  refine wp_if_neg (by rw [sizeLine_eq]; omega) ?_
  try refine wpAny_bind (wpAny_pure ?_)
  rw [e]
  dsimp only
  refine wpAny_bind ?_
  refine wp_if_neg (by rw [hz2]; simp) ?_
  try refine wpAny_bind (wpAny_pure ?_)
  refine wpAny_pure ?_
  dsimp only
  refine wpAny_storeSet_of ho hd ?_ (by rw [hz2, hz, sizeLine_eq]; omega)
  refine q _ _ _ _ _ (Heap.SameBut.update s.heap a (Obj.putSet (od.filterMap (es[·]?)) t')) ⟨⟨_, store_at ho hd, ⟨hex.1, hex.2.1, hex.2.2⟩, rfl⟩, hl, T, (pm.map (·.2)).nodup_iff.mpr nd, by rw [ek]; exact pl, by rw [el]; exact ld, ?_, ?_⟩ pm
  · rw [pm.length_eq, em]; exact h4
  · rw [pm.length_eq]; exact fw
theorem SetN.add (R : SetN w s.heap a L es ep t) (mem : ∀ p ∈ L, Mem s.heap p.2 p.1) {x : Addr} {k : NK} (hx : Mem s.heap k x) (hu : A.units + 8 < cLine) (room : L.length + 1 < 64) {Q : Bool → Shared → Prop}
    (old : k ∈ L.map (·.2) → Q false s) (new : k ∉ L.map (·.2) → ∀ h' L' es' ep' t', Heap.SameBut a s.heap h' → SetN w h' a L' es' ep' t' → L'.Perm ((x, k) :: L) → Q true { s with heap := h' }) :
    wpAny (model P w) A (setAddHashed a (.ref x) (k.hash w)) Q E s := by
  obtain ⟨o, ho, hex, hd⟩ := R.ob
  have hz := R.sz
  have rm := R.rm
  have lh : (hsN w L).length = L.length := List.length_map _
  unfold setAddHashed
  refine wpAny_holding ?_
  rw [show (100000 : Nat) = 99999 + 1 from rfl, setAddHashedIn_succ]
  refine wpAny_bind (wpAny_setState_of ho hd R.ft ?_)
  dsimp only
  refine wp_if_neg (by simp [byScan, Value.scannable]) ?_
  try refine wpAny_bind (wpAny_pure ?_)
  refine wpAny_bind (look R mem hx hu (fun hm => wpAny_pure (old hm)) fun K hm hK hb => ?_)
  dsimp only
  refine wpAny_bind (wpAny_setState_of ho hd R.ft ?_)
  dsimp only
  obtain ⟨e1, e2, T1, e4, e5, e6, _, _, e9⟩ := R.tb.put hK hb
  generalize way t.mask (k.hash w) K = j at e1 e2 T1 e4 e5 e6 e9 ⊢
  have f1 : (t.put j).1.plain = true := by rw [e6]; exact R.pl
  obtain ⟨p, hp⟩ : ∃ p, p = SetTable.below t.place j := ⟨_, rfl⟩
  rw [← hp] at e1 e2 T1
  generalize hpt : t.put j = pt at e1 T1 e4 e5 e6 e9 f1 ⊢
  obtain ⟨t1, p'⟩ := pt
  dsimp only at e1 T1 e4 e5 e6 e9 f1 ⊢
  subst e1
  refine wp_if_pos f1 (wpAny_bind (byv_key k _ 8 _ hx.is hx.dp hx.nt _ _ _ ?_))
  simp only [if_true]
  have pmL : (L.take p' ++ (x, k) :: L.drop p').Perm ((x, k) :: L) := by
    have z : (L.take p' ++ (x, k) :: L.drop p').Perm ((x, k) :: (L.take p' ++ L.drop p')) := List.perm_middle
    rwa [List.take_append_drop] at z
  have enL : (SetTable.insertAt es p' (k.hash w, Value.ref x)).toList = entN w (L.take p' ++ (x, k) :: L.drop p') := by
    rw [SetTable.toList_insertAt, R.en]
    unfold entN
    rw [List.map_append, List.map_cons, List.map_take, List.map_drop]
  have hsL : hsN w (L.take p' ++ (x, k) :: L.drop p') = (hsN w L).take p' ++ k.hash w :: (hsN w L).drop p' := by
    unfold hsN
    rw [List.map_append, List.map_cons, List.map_take, List.map_drop]
  rw [← hsL] at T1
  generalize SetTable.insertAt es p' (k.hash w, Value.ref x) = es1 at enL ⊢
  generalize L.take p' ++ (x, k) :: L.drop p' = L1 at pmL enL T1
  have l1 : L1.length = L.length + 1 := pmL.length_eq
  have z1 : es1.size = L.length + 1 := by rw [← Array.length_toList, enL, entN, List.length_map, l1]
  have nd1 : (L1.map (·.2)).Nodup := (pmL.map (·.2)).nodup_iff.mpr (List.nodup_cons.mpr ⟨hm, R.nd⟩)
  have ld1 : w.params.followText "set-order" = true ∨ t1.led = true := by rw [e5]; exact R.ld
  refine wpAny_bind (wpAny_storeSet_of ho hd ?_ (by rw [z1, sizeLine_eq]; omega))
  have sb : Heap.SameBut a s.heap (s.heap.update a (Obj.putSet es1 t1)) := Heap.SameBut.update ..
  have ho1 := store_at (es' := es1) (t' := t1) ho hd
  generalize s.heap.update a (Obj.putSet es1 t1) = h1 at sb ho1 ⊢
  by_cases hf : t1.tooFull = true
  · have full : (L.length + 1) * 5 ≥ t1.mask * 3 := by
      have z := hf
      unfold SetTable.tooFull at z
      rwa [decide_eq_true_eq, e9, lh] at z
    have fits1 : t1.fits es1.size = true := by
      have h1' := T1.sz
      rw [hsN, List.length_map, l1] at h1'
      unfold SetTable.fits SetTable.fill
      rw [T1.dm]
      simp
      rcases R.tb.mok with e | e | e <;> omega
    have go : ∀ M, SetTable.sizeAbove (SetTable.grown (L.length + 1)) - 1 = M → MaskOk M → SetTable.sizeAbove (SetTable.grown (L.length + 1)) ≤ 128 → (L.length + 1) * 5 < M * 3 →
        wpAny (model P w) A (setRelay a (SetTable.grown (L.length + 1))) (fun _ z => wpAny (model P w) A (pure true) Q E z) E { s with heap := h1 } := fun M q1 q2 q3 q4 => by
      refine laid_anew (s := { s with heap := h1 }) ho1 ⟨hex.1, hex.2.1, hex.2.2⟩ rfl enL fits1 nd1 f1 ld1 (by rw [l1]; exact room) q1 q2 q3 (by rw [l1]; exact q4) ?_
      intro h2 L2' es2 ep2 t2 sb2 R2 pm2
      exact wpAny_pure (new hm h2 L2' es2 ep2 t2 (sb.trans sb2) R2 (pm2.trans pmL))
    rw [hz]
    refine wp_if_pos (by simp [hf]) (wpAny_bind ?_)
    have two : L.length = 4 ∨ L.length = 18 := by rcases R.tb.mok with e | e | e <;> omega
    rcases two with e | e
    · exact go 31 (by rw [e]; decide +kernel) (.inr (.inl rfl)) (by rw [e]; decide +kernel) (by omega)
    · exact go 127 (by rw [e]; decide +kernel) (.inr (.inr rfl)) (by rw [e]; decide +kernel) (by omega)
  · refine wp_if_neg (by simp [hf]) ?_
    refine wpAny_pure (new hm h1 L1 es1 (ep + 1) t1 sb ⟨⟨_, ho1, ⟨hex.1, hex.2.1, hex.2.2⟩, rfl⟩, enL, T1, nd1, f1, ld1, ?_, by rw [l1]; exact room⟩ pmL)
    have z := hf
    unfold SetTable.tooFull at z
    rw [decide_eq_true_eq, e9, lh] at z
    rw [l1]
    omega
/-- s.add(x) -/
theorem SetN.call (R : SetN w s.heap a L es ep t) (mem : ∀ p ∈ L, Mem s.heap p.2 p.1) {x : Addr} {k : NK} (hx : Mem s.heap k x) (hu : A.units + 32 < cLine) (room : L.length + 1 < 64) {Q : Value → Shared → Prop}
    (old : k ∈ L.map (·.2) → ∀ tk, Q .none { s with toks := tk }) (new : k ∉ L.map (·.2) → ∀ h' L' es' ep' t' tk, Heap.SameBut a s.heap h' → SetN w h' a L' es' ep' t' → L'.Perm ((x, k) :: L) → Q .none { s with heap := h', toks := tk }) :
    wpAny (model P w) A (call (.builtin "set.add") [.ref a, .ref x]) Q E s := by
  obtain ⟨o, ho, hex, hd⟩ := id R.ob
  refine wpAny_call_entry F.slot_set_add ⟨o, ho, hex.1⟩ F.entry_set_add ?_ (F.args_set_add_2 _ _)
  unfold Builtin.«set.add» Builtin.Frozenset.oneOther
  simp only [List.isEmpty_nil, bind_assoc]
  unfold Builtin.Frozenset.addrOf setAdd
  refine wpAny_bind (wpAny_pure ?_)
  try dsimp only
  refine wpAny_bind (wpAny_pure ?_)
  try dsimp only
  refine wpAny_bind (wpAny_holding ?_)
  have dp := hx.dp
  refine wpAny_bind (pyHash_key k _ _ _ _ hx.is (by first | (simp only [Around.in1_units]; omega) | omega) ?_)
  refine SetN.add (s := { s with toks := s.toks + k.draws }) R mem hx (by first | (simp only [Around.in1_units]; omega) | omega) room (fun hm => ?_) fun hm h' L' es' ep' t' sb R' pm => ?_
  · exact wpAny_pure ⟨_, rfl, old hm _⟩
  · exact wpAny_pure ⟨_, rfl, new hm h' L' es' ep' t' _ sb R' pm⟩
theorem SetN.fresh {h : Heap} (ho : h.get? a = some { cls := .type "set", dict := none, data := .set #[] 0 (.fresh 0 0 (!w.params.followText "set-order")) }) : SetN w h a [] #[] 0 (.fresh 0 0 (!w.params.followText "set-order")) := by
  refine ⟨⟨_, ho, ⟨rfl, rfl, rfl⟩, rfl⟩, rfl, ⟨List.Pairwise.nil, rfl, rfl, .inl rfl, fun x hx => (by cases hx), fun i h j hi => (by cases hi)⟩, List.nodup_nil, rfl, ?_, (by show 0 * 5 < 7 * 3; decide), (by show 0 < 64; decide)⟩
  show _ ∨ (!w.params.followText "set-order") = true
  cases w.params.followText "set-order"
  · exact .inr rfl
  · exact .inl rfl
end
end DL

namespace DL
open Evl (Ex)
open PySem PySem.Spec PyProof.Rows L2
/-! ### {e for x in xs if t}: a set of keys -/
def SetNO (w : World) (a : Addr) (L : List Ky) : HO := .ext fun h => ∃ es ep t, SetN w h a L es ep t
theorem setNO_ok {P : Program} {w : World} {H : Hp} {h : Heap} {a : Addr} {L : List Ky} {es : Array (Int × Value)} {ep : Nat} {t : SetTable} (R : SetN w h a L es ep t) : ObjOk P w H h a (SetNO w a L) := by
  refine ⟨⟨es, ep, t, R⟩, let ⟨o, ho, _⟩ := R.ob; ⟨o, ho⟩, fun h1 h2 ⟨es, ep, t, q⟩ k => ?_⟩
  obtain ⟨o, ho, r⟩ := q.ob
  exact ⟨es, ep, t, ⟨o, k o ho, r⟩, q.en, q.tb, q.nd, q.pl, q.ld, q.rm, q.fw⟩
/-- what stands at b is the key k, in whatever state -/
def MemV (K : PySem.W.Frag) (H : Hp) (b : Addr) (k : NK) : Prop := ∀ (X : Cx) (pins : List (Addr × Obj)) (σ : L2.St) (s : Shared), X.K = K → Inv X pins σ H s → Mem s.heap k b
section
variable {X : Cx}
end
end DL

namespace DL
open Evl (Ex)
open PySem PySem.Spec PyProof.Rows L2 PySem.W
/-! ### sorted(a set of keys) -/
mutual
theorem bare_key {h : Heap} : ∀ (k : NK) (v : Value) (as : List Addr), Reads h v k.data as → as = []
  | .none, _, _, x => by cases x; rfl
  | .num _, _, _, x => by cases x; rfl
  | .text _, _, _, x => by cases x; rfl
  | .tup ks, _, _, x => by
    cases x with
    | tuple _ _ _ r => exact bare_keys ks _ _ r
theorem bare_keys {h : Heap} : ∀ (ks : List NK) (vs : List Value) (as : List Addr), ReadsAll h vs (NestedKey.datas ks) as → as = []
  | [], _, _, x => by cases x; rfl
  | k :: ks, _, _, x => by
    cases x with
    | cons a b => rw [bare_key k _ _ a, bare_keys ks _ _ b]; rfl
end
mutual
theorem data_inj : ∀ (k j : NK), k.data = j.data → k = j
  | .none, j, e => by cases j <;> first | rfl | (simp [NestedKey.data] at e)
  | .num i, j, e => by cases j <;> simp [NestedKey.data] at e; rw [e]
  | .text i, j, e => by cases j <;> simp [NestedKey.data] at e; rw [e]
  | .tup ks, j, e => by
    cases j with
    | tup js => rw [datas_inj ks js (by simpa [NestedKey.data] using e)]
    | _ => simp [NestedKey.data] at e
theorem datas_inj : ∀ (ks js : List NK), NestedKey.datas ks = NestedKey.datas js → ks = js
  | [], [], _ => rfl
  | [], _ :: _, e => by simp [NestedKey.datas] at e
  | _ :: _, [], e => by simp [NestedKey.datas] at e
  | k :: ks, j :: js, e => by
    simp only [NestedKey.datas, List.cons.injEq] at e
    rw [data_inj k j e.1, datas_inj ks js e.2]
end
theorem datas_map (ks : List NK) : NestedKey.datas ks = ks.map NestedKey.data := by
  induction ks with
  | nil => rfl
  | cons k ks ih => show _ :: _ = _; rw [ih]; rfl
theorem sortOk_mem {ds es : List D} (h : sortOk ds = true) (m : ∀ e ∈ es, e ∈ ds) : sortOk es = true := by
  obtain ⟨h1, h2⟩ := Bool.and_eq_true_iff.mp h
  obtain ⟨h3, h4⟩ := Bool.and_eq_true_iff.mp h2
  refine Bool.and_eq_true_iff.mpr ⟨List.all_eq_true.mpr fun d hd => List.all_eq_true.mpr fun e he => List.all_eq_true.mp (List.all_eq_true.mp h1 d (m d hd)) e (m e he), Bool.and_eq_true_iff.mpr ⟨List.all_eq_true.mpr fun d hd => List.all_eq_true.mp h3 d (m d hd), ?_⟩⟩
  have key : ∀ l : List D, (∀ e ∈ l, fl 60 e = true) → flAll 60 l = true := fun l => by
    induction l with
    | nil => intro _; rfl
    | cons a l ih => intro q; exact Bool.and_eq_true_iff.mpr ⟨q a List.mem_cons_self, ih fun e he => q e (List.mem_cons_of_mem _ he)⟩
  exact key es fun e he => flAll_mem h4 (m e he)
def rSortedN (K : PySem.W.Frag) (w : World) : List V → Hp → VK → Prop := fun xs H Q => ∃ (a : Addr) (L : List Ky) (F : Hp), xs = [.ref a] ∧ H a = some (SetNO w a L) ∧ Ex F H ∧ (∀ p ∈ L, Rp K F (.ref p.1) p.2.data) ∧
  sortOk (L.map fun p => p.2.data) = true ∧ ∀ L1 : List Ky, L1.Perm L → ∀ ws p, H p = none → RpAll K F ws ((L1.map fun p => p.2.data).mergeSort leD) → Q (.ref p) (upd H p (.lst ws))
section
variable {X : Cx}
theorem rp_keys {K : PySem.W.Frag} {F : Hp} : ∀ {L : List Ky}, (∀ p ∈ L, Rp K F (.ref p.1) p.2.data) → RpAll K F (L.map fun p => V.ref p.1) (L.map fun p => p.2.data)
  | [], _ => .nil
  | p :: L, h => .cons (h p List.mem_cons_self) (rp_keys fun q hq => h q (List.mem_cons_of_mem _ hq))
theorem each_zip {β : Type} {R : Value → D → Prop} {f : β → Value} {g : β → D} : ∀ {L : List β}, (∀ p ∈ L, R (f p) (g p)) → EachIs R (L.map f) (L.map g)
  | [], _ => .nil
  | p :: L, h => .cons (h p List.mem_cons_self) (each_zip fun q hq => h q (List.mem_cons_of_mem _ hq))
theorem cr_sortedN {k : Nat} (hc : X.calm = true) (hr : Room k X.A) : CallR X (.builtin "sorted") (rSortedN X.K X.w) := by
  intro pins s σ H xs us Q I r h
  obtain ⟨a, L, F, rfl, hD, ex, rp, ok, q⟩ := h
  rw [Vals.ref1 r]
  have hu : X.A.units + 200 < cLine := by have := hr.un; omega
  obtain ⟨es, ep, t, R⟩ := (I.hok a _ hD).1
  obtain ⟨o, ho, hex, hd⟩ := id R.ob
  have few := R.fw
  refine Calls.call_function_entry kind_sorted plain_sorted entry_sorted (args_sorted1 _) ?_
  unfold Builtin.«sorted»
  refine wpAny_bind (m := checkCount "sorted" 1 1 _) (wpAny_pure ?_)
  refine wpAny_bind (collect_set (A := X.A.in1) (I.ok.hd hc) ⟨o, ho, hex.1, hd⟩ R.ft (by rw [R.sz]; unfold scanBound; omega) R.tb.ris R.ld fun s1 vs k1 hz g1 o1 pm => ?_)
  have hen : es.toList.map (·.2) = L.map fun p => Value.ref p.1 := by
    rw [R.en]
    unfold entN
    rw [List.map_map]; rfl
  rw [hen] at pm
  obtain ⟨L1, p1, rfl⟩ := perm_lift (fun p : Ky => Value.ref p.1) pm L rfl
  have l1 : L1.length < 64 := by rw [p1.length_eq]; exact few
  have rp1 : ∀ p ∈ L1, Rp X.K F (.ref p.1) p.2.data := fun p hp => rp p (p1.mem_iff.mp hp)
  have ok1 : sortOk (L1.map fun p => p.2.data) = true := sortOk_mem ok fun e he => by
    obtain ⟨p, hp, rfl⟩ := List.mem_map.mp he
    exact List.mem_map.mpr ⟨p, p1.mem_iff.mp hp, rfl⟩
  obtain ⟨ok2, ok3⟩ := Bool.and_eq_true_iff.mp ok1
  obtain ⟨ok4, ok5⟩ := Bool.and_eq_true_iff.mp ok3
  have I1 : Inv X pins σ H s1 := by
    exact I.call' (ch := []) o1 (Un.kept k1) (I.hok.kept k1) (by rw [g1]; exact I.bare) (fun _ z => nomatch z)
  have each : EachIs (fun u d => ∃ v, RelV v u ∧ Rp X.K F v d) (L1.map fun p => Value.ref p.1) (L1.map fun p => p.2.data) := each_zip fun p hp => ⟨.ref p.1, rfl, rp1 p hp⟩
  obtain ⟨as, hra⟩ := Dp.readsAll I1 _ _ (L1.map fun p => Value.ref p.1) (RpAll.dp (RpAll.mono ex (rp_keys rp1)) ok5) (vals_maps (fun p : Ky => V.ref p.1) (fun p => Value.ref p.1) L1 fun _ _ => rfl)
  refine wpAny_bind (wpAny_newList ?_ (by rw [List.length_map, sizeLine_eq]; omega))
  have hoL : (s1.heap.push (seqObj "list" (L1.map fun p => Value.ref p.1).toArray 0)).get? s1.heap.objs.size = some (seqObj "list" (L1.map fun p => Value.ref p.1).toArray 0) := Heap.get?_push_size _ rfl
  have old : ∀ b u, s1.heap.get? b = some u → (s1.heap.push (seqObj "list" (L1.map fun p => Value.ref p.1).toArray 0)).get? b = some u := fun b u e => Heap.get?_push_of_some _ e
  have er : EachIs (fun u d => ∃ as, Reads (s1.heap.push (seqObj "list" (L1.map fun p => Value.ref p.1).toArray 0)) u d as ∧ s1.heap.objs.size ∉ as) (L1.map fun p => Value.ref p.1) (L1.map fun p => p.2.data) := by
    have e1 := reads_each hra
    have key : ∀ M : List Ky, EachIs (fun u d => ∃ as, Reads s1.heap u d as) (M.map fun p => Value.ref p.1) (M.map fun p => p.2.data) → EachIs (fun u d => ∃ as, Reads (s1.heap.push (seqObj "list" (L1.map fun p => Value.ref p.1).toArray 0)) u d as ∧ s1.heap.objs.size ∉ as) (M.map fun p => Value.ref p.1) (M.map fun p => p.2.data) := fun M => by
      induction M with
      | nil => intro _; exact .nil
      | cons m M ih =>
        intro h
        cases h with
        | cons x y =>
          obtain ⟨as, x⟩ := x
          have e2 := bare_key m.2 _ _ x
          subst e2
          exact .cons ⟨[], PyProof.Rows.Reads.keeps old x, by simp⟩ (ih y)
    exact key L1 e1
  have hal : AllAlike ((L1.map fun p => p.2.data).map fun d => d) := by
    rw [List.map_id']
    intro d hd d' hd'
    exact List.all_eq_true.mp (List.all_eq_true.mp ok2 d hd) d' hd'
  have hk : Sortable ((L1.map fun p => p.2.data).map fun d => d) := by
    rw [List.map_id']
    refine .inl fun d hd => ?_
    have := List.all_eq_true.mp ok4 d hd
    unfold tup1 at this
    split at this
    · exact ⟨_, _, rfl⟩
    · cases this
  refine wpAny_bind (wpAny_holding (list_sort_data (s := { s1 with heap := s1.heap.push (seqObj "list" (L1.map fun p => Value.ref p.1).toArray 0) }) (enc := fun d => d) hoL each er hal hk (by rw [List.length_map, sizeLine_eq]; omega)
    (fun d hd => by have := fl_depth (flAll_mem ok5 hd); first | (simp only [Around.in1_units]; omega) | omega) fun out hlo eo => ?_))
  rw [leD_eq] at eo
  obtain ⟨ws, hw, hp⟩ := vals_each eo
  obtain ⟨c, hc2⟩ := sortedHeap_at (vs := L1.map fun p => Value.ref p.1) (out := out.toArray) hoL
  have nf : H s1.heap.objs.size = none := I1.hok.fresh (Nat.le_refl _)
  have k2 : ∀ b u, s1.heap.get? b = some u → (sortedHeap (s1.heap.push (seqObj "list" (L1.map fun p => Value.ref p.1).toArray 0)) s1.heap.objs.size (L1.map fun p => Value.ref p.1) out.toArray).get? b = some u := fun b u e => by
    have hlt := Heap.lt_size e
    rw [sortedHeap_old (Nat.ne_of_lt hlt) (by rw [size_push']; exact Nat.lt_succ_of_lt hlt)]
    exact old b u e
  refine wpAny_pure ⟨_, rfl, ?_⟩
  have lw : ws.length ≤ sizeLine := by rw [hw.length, hlo, List.length_map, sizeLine_eq]; omega
  have J := I1.laid (a := s1.heap.objs.size) (o := .lst ws) (t' := s1.toks) k2 (Nat.le_refl _) ⟨lw, out, c, hw, hc2⟩
  exact ⟨.ref s1.heap.objs.size, _, J, rfl, q L1 p1 ws _ nf (rp_each hp)⟩
end
end DL

namespace DL
open Evl (Ex)
open PySem PySem.Spec PyProof.Rows L2 PySem.W
/-! ### sorted({e for x in xs if t}) in the data layer -/
def SetSorted (ds out : List D) : Prop := ∃ ks M : List NK, ds = ks.map NestedKey.data ∧ (∀ k ∈ ks, goodK k) ∧ M.Nodup ∧ (∀ k, k ∈ M ↔ k ∈ ks) ∧ M.length + 1 < 64 ∧ sortOk (M.map NestedKey.data) = true ∧ ∀ M' : List NK, M'.Perm M → (M'.map NestedKey.data).mergeSort leD = out
open Classical in
noncomputable def setS (ds : List D) : Option (List D) := if h : ∃ out, SetSorted ds out then some (Classical.choose h) else none
theorem setS_spec {ds out : List D} (h : setS ds = some out) : SetSorted ds out := by
  unfold setS at h
  split at h
  · rename_i q
    cases h
    exact Classical.choose_spec q
  · cases h
theorem map_data_inj : ∀ {ks js : List NK}, ks.map NestedKey.data = js.map NestedKey.data → ks = js
  | [], [], _ => rfl
  | [], _ :: _, e => by cases e
  | _ :: _, [], e => by cases e
  | k :: ks, j :: js, e => by
    rw [List.map_cons, List.map_cons, List.cons.injEq] at e
    rw [data_inj k j e.1, map_data_inj e.2]
theorem SetSorted.one {ds a b : List D} (h : SetSorted ds a) (h' : SetSorted ds b) : a = b := by
  obtain ⟨ks, M, e1, _, n1, m1, _, _, s1⟩ := h
  obtain ⟨js, N, e2, _, n2, m2, _, _, s2⟩ := h'
  have e : ks = js := map_data_inj (e1.symm.trans e2)
  subst e
  have pm : M.Perm N := (List.perm_ext_iff_of_nodup n1 n2).mpr fun k => (m1 k).trans (m2 k).symm
  exact (s1 M (.refl _)).symm.trans (s2 M pm)
theorem setS_of {ds out : List D} (h : SetSorted ds out) : setS ds = some out := by
  unfold setS
  rw [dif_pos ⟨out, h⟩]
  exact congrArg some ((Classical.choose_spec (⟨out, h⟩ : ∃ o, SetSorted ds o)).one h)
theorem nk_nodup_len : ∀ (l M : List NK), l.Nodup → (∀ k ∈ l, k ∈ M) → l.length ≤ M.length
  | [], _, _, _ => Nat.zero_le _
  | k :: l, M, hn, hs => by
    obtain ⟨h1, h2⟩ := List.nodup_cons.mp hn
    have hk := hs k List.mem_cons_self
    have ih := nk_nodup_len l (M.erase k) h2 fun j hj => (List.mem_erase_of_ne (fun e => h1 (by rw [← e]; exact hj))).2 (hs j (List.mem_cons_of_mem _ hj))
    have e := List.length_erase_of_mem hk
    have := List.length_pos_of_mem hk
    rw [List.length_cons]
    omega
section
variable {K : PySem.W.Frag} {E : WX} {X : Cx} {G : En} {F F' : Hp} {T T' : List (Addr × D)} {s s' : S} {σ σ' : L2.St} {H H' : Hp} {v : V} {d : D} {ds : List D} {i : Nat} {r : R} {Q : VK}
/-! an object beside what the state tracks -/
structure Beside (G : En) (F : Hp) (Dd : Addr) : Prop where
  he : G.He Dd = none
  io : Dd ∉ G.io
  nf : F Dd = none
/-- nothing of one's own stands at Dd -/
def NoOwn (s : S) (σ : L2.St) (T : List (Addr × D)) (Dd : Addr) : Prop := (∀ i k d, getS s i = some (.own k d) → σ[i]? ≠ some (some (.ref Dd))) ∧ ∀ q ∈ T, q.1 ≠ Dd
theorem SR.other {Dd : Addr} {o' : HO} (h : SR K G F T s σ H) (b : Beside G F Dd) (no : NoOwn s σ T Dd) : SR K G F T s σ (upd H Dd o') := by
  have ow : ∀ {k p d}, p ≠ Dd → Ow K G k F H p d → Ow K G k F (upd H Dd o') p d := fun {k p d} ne q => ⟨q.at_.heap (upd_ne ne), q.nf, q.ne⟩
  refine ⟨fun a u q => ?_, h.fe, h.gr, fun a u q m => ?_, fun a ha => ?_, h.sl, fun i k d q => ?_, h.di, h.tn, fun p hp => ow (no.2 p hp) (h.tt p hp), h.len⟩
  · rw [upd_ne (fun e => by rw [e, b.nf] at q; cases q)]; exact h.fh a u q
  · rw [upd_ne (fun e => by rw [e, b.he] at q; cases q)]; exact h.kp a u q m
  · rw [upd_ne (fun e => b.io (by rw [← e]; exact ha))]; exact h.ioh a ha
  · obtain ⟨p, a, c, d'⟩ := h.ow i k d q
    exact ⟨p, a, ow (fun e => no.1 i k d q (by rw [← e]; exact a)) c, d'⟩
/-! a key as it stands -/
mutual
theorem nested_of {pins : List (Addr × Obj)} {z : Shared} (I : Inv X pins σ H z) (ex : Ex F H) : ∀ (k : NK) (v : V) (u : Value), Rp X.K F v k.data → RelV v u → NestedIs z.heap k u
  | .none, _, _, h, r => by cases h; cases r; exact .none
  | .num i, _, _, h, r => by cases h; obtain ⟨t, rfl⟩ := r; exact .int _ _
  | .text x, _, _, h, r => by cases h; obtain ⟨t, rfl⟩ := r; exact .text _ _
  | .tup ks, _, _, h, r => by
    cases h with
    | tup a b c =>
      cases r
      obtain ⟨its, n, sl, rv, g, _⟩ := (a.ex ex).obj I
      exact .tup g rfl rfl (by simpa using nested_all I ex ks _ _ b rv)
theorem nested_all {pins : List (Addr × Obj)} {z : Shared} (I : Inv X pins σ H z) (ex : Ex F H) : ∀ (ks : List NK) (vs : List V) (us : List Value), RpAll X.K F vs (NestedKey.datas ks) → Vals vs us → NestedAll z.heap ks us
  | [], _, _, h, r => by cases h; cases r; exact .nil
  | k :: ks, _, _, h, r => by
    cases h with
    | cons h1 h2 =>
      cases r with
      | cons r1 r2 => exact .cons (nested_of I ex k _ _ h1 r1) (nested_all I ex ks _ _ h2 r2)
end
theorem memv_of {k : NK} {b : Addr} (h : Rp K F (.ref b) k.data) (ex : Ex F H) (g : goodK k) : MemV K H b k := fun X pins σ s e I => by
  subst e
  exact ⟨nested_of I ex k _ _ h rfl, g.2.1, g.2.2⟩
theorem good_ref {k : NK} {v : V} (h : Rp K F v k.data) (g : goodK k) : ∃ b, v = .ref b := by
  obtain ⟨⟨l, rfl⟩, _⟩ := g
  cases h with
  | tup a b c => exact ⟨_, rfl⟩
/-- what the set holds, what was put in -/
structure Holds (K : PySem.W.Frag) (F : Hp) (L : List Ky) (acc : List D) : Prop where
  rp : ∀ p ∈ L, Rp K F (.ref p.1) p.2.data
  sub : ∀ p ∈ L, p.2.data ∈ acc
  all : ∀ d ∈ acc, ∃ p ∈ L, p.2.data = d
  nd : (L.map (·.2)).Nodup
theorem Holds.ex {L : List Ky} {acc : List D} (h : Holds K F L acc) (e : Ex F F') : Holds K F' L acc := ⟨fun p hp => Rp.mono e (h.rp p hp), h.sub, h.all, h.nd⟩
theorem Holds.len {L : List Ky} {acc : List D} {M : List NK} {ks : List NK} (h : Holds K F L acc) (hm : ∀ d ∈ acc, d ∈ ks.map NestedKey.data) (m : ∀ k, k ∈ M ↔ k ∈ ks) : L.length ≤ M.length := by
  have sub : ∀ k ∈ L.map (·.2), k ∈ M := fun k hk => by
    obtain ⟨p, hp, rfl⟩ := List.mem_map.mp hk
    obtain ⟨j, hj, e⟩ := List.mem_map.mp (hm _ (h.sub p hp))
    rw [← data_inj _ _ e]
    exact (m j).mpr hj
  have q := nk_nodup_len _ _ h.nd sub
  rwa [List.length_map] at q
end
end DL

namespace DL
open Evl (Ex)
open PySem PySem.Spec PyProof.Rows L2 PySem.W
section
variable {K : PySem.W.Frag} {E : WX} {X : Cx} {G : En} {F F' : Hp} {T T' : List (Addr × D)} {s s' : S} {σ σ' : L2.St} {H H' : Hp} {v : V} {d : D} {ds : List D} {i : Nat} {r : R} {Q : VK}
/-! ### is True, is not True -/
def hIsB : D → D → Option RD
  | .bool a, .bool b => some (.val (.bool (decide (a = b))))
  | _, _ => none
theorem o_isB : Op2 K (fun x y H Q => ∃ a b, x = .bl a ∧ y = .bl b ∧ Q (.bl (decide (a = b))) H) hIsB := by
  intro F H x y a b rd Q ex va vb e q
  cases a <;> cases b <;> simp [hIsB] at e
  subst e
  cases va
  cases vb
  exact ⟨_, _, rfl, rfl, q _ (.bl _)⟩
end
end DL

namespace DL
open Evl (Ex)
open PySem PySem.Spec PyProof.Rows L2 PySem.W
/-! ### dicts whose keys are whole numbers or texts -/
abbrev KvD := List (Key × D)
def valD (ks : KvD) (k : Key) : Option D := (ks.find? fun p => decide (p.1 = k)).map (·.2)
def putD (ks : KvD) (k : Key) (v : D) : KvD := if (ks.any fun p => decide (p.1 = k)) = true then ks.map (fun p => if p.1 = k then (p.1, v) else p) else ks ++ [(k, v)]
inductive RK (K : PySem.W.Frag) (F : Hp) : List (Key × V) → KvD → Prop
  | nil : RK K F [] []
  | cons {k : Key} {v : V} {d : D} {kvs : List (Key × V)} {ks : KvD} : Rp K F v d → RK K F kvs ks → RK K F ((k, v) :: kvs) ((k, d) :: ks)
section
variable {K : PySem.W.Frag} {F F' : Hp} {kvs : List (Key × V)} {ks : KvD} {k : Key} {v : V} {d : D}
theorem RK.ex (h : RK K F kvs ks) (e : Ex F F') : RK K F' kvs ks := by
  induction h with
  | nil => exact .nil
  | cons a _ ih => exact .cons (Rp.mono e a) ih
theorem RK.len (h : RK K F kvs ks) : kvs.length = ks.length := by
  induction h with
  | nil => rfl
  | cons a _ ih => rw [List.length_cons, List.length_cons, ih]
theorem RK.any (h : RK K F kvs ks) (k : Key) : (kvs.any fun p => decide (p.1 = k)) = ks.any fun p => decide (p.1 = k) := by
  induction h with
  | nil => rfl
  | cons a _ ih => rw [List.any_cons, List.any_cons, ih]
theorem RK.snoc (h : RK K F kvs ks) (r : Rp K F v d) : RK K F (kvs ++ [(k, v)]) (ks ++ [(k, d)]) := by
  induction h with
  | nil => exact .cons r .nil
  | cons a _ ih => exact .cons a ih
theorem RK.upd (h : RK K F kvs ks) (r : Rp K F v d) : RK K F (kvs.map fun p => if p.1 = k then (p.1, v) else p) (ks.map fun p => if p.1 = k then (p.1, d) else p) := by
  induction h with
  | nil => exact .nil
  | @cons k' v' d' kvs ks a _ ih =>
    rw [List.map_cons, List.map_cons]
    by_cases e : k' = k
    · rw [if_pos e, if_pos e]; exact .cons r ih
    · rw [if_neg e, if_neg e]; exact .cons a ih
theorem RK.put (h : RK K F kvs ks) (r : Rp K F v d) : RK K F (putK kvs k v) (putD ks k d) := by
  unfold putK putD
  rw [h.any k]
  split
  · exact h.upd r
  · exact h.snoc r
theorem RK.val (h : RK K F kvs ks) (e : valD ks k = some d) : ∃ v, valV kvs k = some v ∧ Rp K F v d := by
  induction h with
  | nil => cases e
  | @cons k' v' d' kvs ks a _ ih =>
    unfold valD at e
    rw [List.find?_cons] at e
    by_cases c : k' = k
    · rw [show decide ((k', d').1 = k) = true from decide_eq_true c] at e
      cases e
      exact ⟨v', valV_pos c, a⟩
    · rw [show decide ((k', d').1 = k) = false from decide_eq_false c] at e
      obtain ⟨v, h1, h2⟩ := ih e
      exact ⟨v, by rw [valV_neg c]; exact h1, h2⟩
theorem RpKv.split {k' d' : D} {ds : List (D × D)} (h : RpKv K F kvs ((k', d') :: ds)) : ∃ k v r, kvs = (k, v) :: r ∧ k' = keyD k ∧ Rp K F v d' ∧ RpKv K F r ds := by
  cases h with
  | cons a b => exact ⟨_, _, _, rfl, rfl, a, b⟩
end
section
variable {K : PySem.W.Frag} {E : WX} {X : Cx} {G : En} {F F' : Hp} {T T' : List (Addr × D)} {s s' : S} {σ σ' : L2.St} {H H' : Hp} {v : V} {d : D} {ds : List D} {i : Nat} {r : R} {Q : VK}
end
end DL

namespace DL
open Evl (Ex)
open PySem PySem.Spec PyProof.Rows L2 PySem.W
/-! ### {k: v for x in xs if t}, d[k], len(d) -/
section
variable {K : PySem.W.Frag} {E : WX} {X : Cx} {G : En} {F F' : Hp} {T T' : List (Addr × D)} {s s' : S} {σ σ' : L2.St} {H H' : Hp} {v : V} {d : D} {ds : List D} {i : Nat} {r : R} {Q : VK}
end
end DL

namespace DL
open Evl (Ex)
open PySem PySem.Spec PyProof.Rows L2
/-! ### a dict whose keys are tuples and whose values are all True -/
theorem RawN.full {P : Program} {w : World} {h : Heap} {a : Addr} {L : List (NK × Addr)} (R : RawN P w h a L) (hk : ∀ p ∈ L, Mem h p.1 p.2) : h.DictOfH (nestedKind P w) a (L.map trN) := by
  obtain ⟨z, n, o, es, ep, ho, r1, r2, r3, r4⟩ := R
  refine ⟨o, es, ep, ho, r1, r2, r3, fun x hx => ?_, r4⟩
  obtain ⟨p, hp, rfl⟩ := List.mem_map.mp hx
  obtain ⟨q1, q2, _⟩ := hk p hp
  exact ⟨q1, q2⟩
section
variable {X : Cx} {pins : List (Addr × Obj)} {σ : L2.St} {H : Hp} {s : Shared} {E : Value → Shared → Prop} {a b : Addr} {k : NK} {L : List (NK × Addr)}
end
end DL

namespace DL
open Evl (Ex)
open PySem PySem.Spec PyProof.Rows L2 PySem.W
section
variable {X : Cx}
end
end DL

namespace DL
open Evl (Ex)
open PySem PySem.Spec PyProof.Rows L2 PySem.W
/-! ### n, seen = e, {}; rows = e2; for tg in rows: (if test: return ..); seen[key] = True; return len(seen) == l and e4 -/
section
variable {K : PySem.W.Frag} {E : WX} {G : En} {F F' : Hp} {T T' : List (Addr × D)} {s s' : S} {σ σ' : L2.St} {H H' : Hp}
end
end DL

namespace DL
open Evl (Ex)
open PySem PySem.Spec PyProof.Rows L2 PySem.W
section
variable {X : Cx} {E : WX}
end
end DL

namespace DL
open Evl (Ex)
open PySem PySem.Spec PyProof.Rows L2 PySem.W
/-! ### a dict of the module with text keys: e in T, T[e] -/
section
variable {K : PySem.W.Frag} {E : WX} {X : Cx} {G : En} {F F' : Hp} {T T' : List (Addr × D)} {s s' : S} {σ σ' : L2.St} {H H' : Hp} {v : V} {d : D} {ds : List D} {i : Nat} {r : R} {Q : VK}
def tabV (K : PySem.W.Frag) (t : Str × List (Str × D)) : Bool := t.2.all fun q => match PySem.W.nsIn K (He.ga K t.1) q.1 with
  | some (some u) => datB K 20 u q.2
  | _ => false
def tabM (K : PySem.W.Frag) (t : Str × List (Str × D)) : Bool := He.eqO (PySem.W.nsIn K mainGlobals t.1) (some (some (.ref (He.ga K t.1))))
abbrev TabD : Type := Str × List (Str × D)
abbrev AlK : Type := AlC × (List (Option (List (Option (Str × Int)))) × Bool)
def obsK (fa : List He.Fa) (fn : List He.DefD) (cs : List (Str × D)) (ts : List TabD) (K : PySem.W.Frag) : AlK := (obsC fa fn cs K, (ts.map fun t => He.dicW K (He.ga K t.1), ts.all fun t => tabM K t && tabV K t))
def valK (fn : List He.DefD) (ts : List TabD) (w : World) : AlK := (valC fn, (ts.map fun t => some (He.keysIn w.params (t.2.map (·.1))), true))
def SaysK (fa : List He.Fa) (fn : List He.DefD) (cs : List (Str × D)) (ts : List TabD) (w : World) (K : PySem.W.Frag) : Prop := obsK fa fn cs ts K = valK fn ts w
section
variable {fa : List He.Fa} {fn : List He.DefD} {cs : List (Str × D)} {ts : List TabD} {w : World} {h : Heap} {mg : Str → Option Value}
theorem SaysK.c (c : SaysK fa fn cs ts w K) : SaysC fa fn cs K := congrArg (fun z : AlK => z.1) c
end
variable {kvs : List (Str × D)} {x : Str} {a b : Expr} {ta : TE} {fa : XE} {pos px : Pos}
end
end DL

namespace DL
open Evl (Ex)
open PySem PySem.Spec PyProof.Rows L2

/-! ### evaluation of meanings -/
theorem getS_0 {o : Option Sl} {r : S} : getS (o :: r) 0 = o := rfl
theorem getS_s {o : Option Sl} {r : S} {i : Nat} : getS (o :: r) (i + 1) = getS r i := getS_succ
theorem bind_ok' {α β : Type} (a : α) (f : α → Out β) [u : Dum f] : @Out.bind α β (Out.ok a) f u = f a := rfl
def lcStep (vs : List Nat) (g : XG) (ft : XT) (fe : XE) (acc : List D) (d : D) (s : S) : Out (List D × S) := match g d s with
  | none => .bad
  | some s1 => lcTurn vs ft fe acc s1
def lcStep2 (vs : List Nat) (g : XG) (ft : XT) (fe : XE) (acc : List D) (d : D) (s : S) : Out (List D × S) := match g d s with
  | none => .bad
  | some s1 => lcTurn2 vs ft fe acc s1
theorem lcD_cons {vs : List Nat} {g : XG} {ft : XT} {fe : XE} {acc : List D} {d : D} {ds : List D} {s : S} : lcD vs g ft fe (d :: ds) acc s = (lcStep vs g ft fe acc d s).bind fun (acc', s2) => lcD vs g ft fe ds acc' s2 := by
  show (match g d s with
    | none => Out.bad
    | some s1 => (lcTurn vs ft fe acc s1).bind fun (acc', s2) => lcD vs g ft fe ds acc' s2) = _
  unfold lcStep
  cases g d s <;> rfl
theorem endF_nx {m : List Bool} {s : S} : endF m (.ok (.nx s)) = match ioOut m 0 0 s with
    | some ios => .ret (.val .none) ios
    | none => .bad := rfl
theorem endF_rv {m : List Bool} {s : S} {d : D} : endF m (.ok (.rt (.val d) s)) = match ioOut m 0 0 s with
    | some ios => .ret (.val d) ios
    | none => .bad := rfl
theorem endF_rn {m : List Bool} {s : S} {d : D} : endF m (.ok (.rt (.new d) s)) = match ioOut m 0 0 s with
    | some ios => .ret (.new d) ios
    | none => .bad := rfl
theorem endF_err {m : List Bool} {s : S} {c : Str} {d : D} : endF m (.err c d s) = match ioOut m 0 0 s with
    | some ios => .err c d ios
    | none => .bad := rfl
theorem xPost_ret {s : S} {io bo : List Nat} {r : Rt} {ios : List D} : xPost s io bo (.ret r ios) = match postS s io bo ios (nlR r && ios.all nlI) with
    | some s2 => .ok (r.r, s2)
    | none => .bad := rfl
theorem xPost_err {s : S} {io bo : List Nat} {c : Str} {d : D} {ios : List D} : xPost s io bo (.err c d ios) = match postS s io bo ios (nl d && ios.all nlI) with
    | some s2 => .err c d s2
    | none => .bad := rfl
abbrev tI (ns : List Int) : D := .tuple (ns.map .int)
abbrev lI (ns : List Int) : D := .list (ns.map .int)
theorem nls_ints : ∀ ns : List Int, nls (ns.map .int) = true
  | [] => rfl
  | n :: r => by
    show (nl (.int n) && nls (r.map .int)) = true
    rw [nls_ints r]; rfl
theorem hEq_int {i j : Int} : hEq (.int i) (.int j) = some (.val (.bool (decide (i = j)))) := by
  have e : (i == j) = decide (i = j) := by
    by_cases h : i = j
    · rw [decide_eq_true h, h]; simp
    · rw [decide_eq_false h]; simpa using h
  show some (RD.val (.bool (i == j))) = _
  rw [e]
theorem hNe_int {i j : Int} : hNe (.int i) (.int j) = some (.val (.bool (!decide (i = j)))) := by
  have e : (i == j) = decide (i = j) := by
    by_cases h : i = j
    · rw [decide_eq_true h, h]; simp
    · rw [decide_eq_false h]; simpa using h
  show some (RD.val (.bool (!(i == j)))) = _
  rw [e]
/-! ### outcomes that are one -/
def Ok {α : Type} (o : Out α) (P : α → Prop) : Prop := ∃ a, o = .ok a ∧ P a
def OkG (o : Option S) (P : S → Prop) : Prop := ∃ a, o = some a ∧ P a
theorem Ok_ok {α : Type} (a : α) (P : α → Prop) : Ok (.ok a) P = P a := propext ⟨fun ⟨_, e, h⟩ => by cases e; exact h, fun h => ⟨a, rfl, h⟩⟩
theorem OkG_some (a : S) (P : S → Prop) : OkG (some a) P = P a := propext ⟨fun ⟨_, e, h⟩ => by cases e; exact h, fun h => ⟨a, rfl, h⟩⟩
theorem Ok.bind {α β : Type} {o : Out α} {f : α → Out β} [u : Dum f] {P : β → Prop} (h : Ok o fun a => Ok (f a) P) : Ok (@Out.bind α β o f u) P := by
  obtain ⟨a, rfl, h⟩ := h
  exact h
theorem Ok.mono {α : Type} {o : Out α} {P Q : α → Prop} (h : Ok o P) (f : ∀ a, P a → Q a) : Ok o Q := by
  obtain ⟨a, e, h⟩ := h
  exact ⟨a, e, f a h⟩
theorem Ok.of {α : Type} {o : Out α} {a : α} {P : α → Prop} (e : o = .ok a) (h : P a) : Ok o P := ⟨a, e, h⟩
def Ret (o : FOut) (P : Rt → List D → Prop) : Prop := ∃ r ios, o = .ret r ios ∧ P r ios
def EndP (m : List Bool) (P : Rt → List D → Prop) (fl : Fl) : Prop := ∃ r ios, endF m (.ok fl) = .ret r ios ∧ P r ios
theorem Ret.run {m : List Bool} {n : Nat} {fb : XS} {ds : List D} {P : Rt → List D → Prop} (h : Ok (fb (initS m 0 ds ++ List.replicate (n - ds.length) none)) (EndP m P)) : Ret (runF m n fb ds) P := by
  obtain ⟨fl, e, r, ios, h1, h2⟩ := h
  refine ⟨r, ios, ?_, h2⟩
  unfold runF
  rw [e]
  exact h1
theorem Ret.eq {o : FOut} {r : Rt} {ios : List D} (h : Ret o fun r' ios' => r' = r ∧ ios' = ios) : o = .ret r ios := by
  obtain ⟨_, _, e, rfl, rfl⟩ := h
  exact e
def EndQ (o : Option (List D)) (P : List D → Prop) : Prop := ∃ ios, o = some ios ∧ P ios
theorem EndQ_some (a : List D) (P : List D → Prop) : EndQ (some a) P = P a := propext ⟨fun ⟨_, e, h⟩ => by cases e; exact h, fun h => ⟨a, rfl, h⟩⟩
theorem EndP_nx' {m : List Bool} {P : Rt → List D → Prop} {s : S} : EndP m P (.nx s) = EndQ (ioOut m 0 0 s) (P (.val .none)) := by
  apply propext
  unfold EndP EndQ
  rw [endF_nx]
  cases ioOut m 0 0 s with
  | none => simp
  | some ios => exact ⟨fun ⟨r, i2, h1, h2⟩ => by cases h1; exact ⟨_, rfl, h2⟩, fun ⟨_, h1, h2⟩ => by cases h1; exact ⟨_, _, rfl, h2⟩⟩
theorem EndP_rv' {m : List Bool} {P : Rt → List D → Prop} {s : S} {d : D} : EndP m P (.rt (.val d) s) = EndQ (ioOut m 0 0 s) (P (.val d)) := by
  apply propext
  unfold EndP EndQ
  rw [endF_rv]
  cases ioOut m 0 0 s with
  | none => simp
  | some ios => exact ⟨fun ⟨r, i2, h1, h2⟩ => by cases h1; exact ⟨_, rfl, h2⟩, fun ⟨_, h1, h2⟩ => by cases h1; exact ⟨_, _, rfl, h2⟩⟩
theorem EndP_rn' {m : List Bool} {P : Rt → List D → Prop} {s : S} {d : D} : EndP m P (.rt (.new d) s) = EndQ (ioOut m 0 0 s) (P (.new d)) := by
  apply propext
  unfold EndP EndQ
  rw [endF_rn]
  cases ioOut m 0 0 s with
  | none => simp
  | some ios => exact ⟨fun ⟨r, i2, h1, h2⟩ => by cases h1; exact ⟨_, rfl, h2⟩, fun ⟨_, h1, h2⟩ => by cases h1; exact ⟨_, _, rfl, h2⟩⟩
def LoopP (Inv : S → Prop) (Q : Fl → Prop) : Fl → Prop
  | .nx s => Inv s
  | .ct s => Inv s
  | .bk s => Q (.nx s)
  | .rt r s => Q (.rt r s)
theorem LoopP_nx {Inv : S → Prop} {Q : Fl → Prop} {s : S} : LoopP Inv Q (.nx s) = Inv s := rfl
theorem LoopP_ct {Inv : S → Prop} {Q : Fl → Prop} {s : S} : LoopP Inv Q (.ct s) = Inv s := rfl
theorem LoopP_bk {Inv : S → Prop} {Q : Fl → Prop} {s : S} : LoopP Inv Q (.bk s) = Q (.nx s) := rfl
theorem LoopP_rt {Inv : S → Prop} {Q : Fl → Prop} {s : S} {r : R} : LoopP Inv Q (.rt r s) = Q (.rt r s) := rfl
theorem forD_ok {g : XG} {body : XS} {ds : List D} {Q : Fl → Prop} (Inv : Nat → S → Prop) (step : ∀ i d s, ds[i]? = some d → Inv i s → OkG (g d s) fun s1 => Ok (body s1) (LoopP (Inv (i + 1)) Q)) (hQ : ∀ s, Inv ds.length s → Q (.nx s)) :
    ∀ {k i : Nat} {s : S}, ds.length - i = k → i ≤ ds.length → Inv i s → Ok (forD g body (ds.drop i) s) Q := by
  intro k
  induction k with
  | zero =>
    intro i s hk hi p
    have : i = ds.length := by omega
    subst this
    rw [List.drop_length]
    exact ⟨_, rfl, hQ s p⟩
  | succ k ih =>
    intro i s hk hi p
    have hlt : i < ds.length := by omega
    obtain ⟨s1, h1, fl, h2, h3⟩ := step i ds[i] s (List.getElem?_eq_getElem hlt) p
    rw [List.drop_eq_getElem_cons hlt]
    show Ok (match g ds[i] s with
      | none => Out.bad
      | some s1 => (body s1).bind fun fl => match fl with
        | .nx s2 => forD g body (ds.drop (i + 1)) s2
        | .ct s2 => forD g body (ds.drop (i + 1)) s2
        | .bk s2 => .ok (.nx s2)
        | .rt r s2 => .ok (.rt r s2)) Q
    rw [h1]
    dsimp only
    rw [h2]
    show Ok (match fl with
        | .nx s2 => forD g body (ds.drop (i + 1)) s2
        | .ct s2 => forD g body (ds.drop (i + 1)) s2
        | .bk s2 => .ok (.nx s2)
        | .rt r s2 => .ok (.rt r s2)) Q
    cases fl with
    | nx s2 => exact ih (by omega) hlt h3
    | ct s2 => exact ih (by omega) hlt h3
    | bk s2 => exact ⟨_, rfl, h3⟩
    | rt r s2 => exact ⟨_, rfl, h3⟩
theorem Ok.for {fi : XI} {g : XG} {body : XS} [u : Dum (fi, g, body)] {s s1 : S} {Q : Fl → Prop} (ds : List D) (Inv : Nat → S → Prop) (hi : fi s = .ok (ds, s1)) (h0 : Inv 0 s1)
    (step : ∀ i d s, ds[i]? = some d → Inv i s → OkG (g d s) fun s1 => Ok (body s1) (LoopP (Inv (i + 1)) Q)) (hQ : ∀ s, Inv ds.length s → Q (.nx s)) : Ok (@sFor fi g body u s) Q := by
  obtain ⟨fl, h1, h2⟩ := forD_ok Inv step hQ rfl (Nat.zero_le _) h0
  refine ⟨fl, ?_, h2⟩
  unfold sFor
  rw [hi, bind_ok']
  exact h1
/-- over things of a kind -/
theorem Ok.forL {α : Type} {fi : XI} {g : XG} {body : XS} [u : Dum (fi, g, body)] {s s1 : S} {Q : Fl → Prop} (L : List α) (enc : α → D) (Inv : Nat → S → Prop) (hi : fi s = .ok (L.map enc, s1)) (h0 : Inv 0 s1)
    (step : ∀ i (h : i < L.length) s, Inv i s → OkG (g (enc L[i]) s) fun s1 => Ok (body s1) (LoopP (Inv (i + 1)) Q)) (hQ : ∀ s, Inv L.length s → Q (.nx s)) : Ok (@sFor fi g body u s) Q :=
  Ok.for (L.map enc) Inv hi h0 (fun i d s hd p => by
    rw [List.getElem?_map, Option.map_eq_some_iff] at hd
    obtain ⟨a, ha, rfl⟩ := hd
    obtain ⟨h, rfl⟩ := List.getElem?_eq_some_iff.mp ha
    exact step i h s p) (by rw [List.length_map]; exact hQ)
/-- over a range -/
theorem Ok.forR {fi : XI} {g : XG} {body : XS} [u : Dum (fi, g, body)] {s s1 : S} {Q : Fl → Prop} (lo : Int) (n : Nat) (Inv : Nat → S → Prop) (hi : fi s = .ok (rgD lo 1 n, s1)) (h0 : Inv 0 s1)
    (step : ∀ i, i < n → ∀ s, Inv i s → OkG (g (.int (lo + (i : Int))) s) fun s1 => Ok (body s1) (LoopP (Inv (i + 1)) Q)) (hQ : ∀ s, Inv n s → Q (.nx s)) : Ok (@sFor fi g body u s) Q :=
  Ok.for (rgD lo 1 n) Inv hi h0 (fun i d s hd p => by
    obtain ⟨h, rfl⟩ := rgD_get hd
    have := step i h s p
    rw [Int.mul_one]
    exact this) (by rw [rgD_len]; exact hQ)
/-- over what is enumerated -/
theorem Ok.forE {α : Type} {fi : XI} {g : XG} {body : XS} [u : Dum (fi, g, body)] {s s1 : S} {Q : Fl → Prop} (L : List α) (enc : α → D) (Inv : Nat → S → Prop) (hi : fi s = .ok (enumD 0 (L.map enc), s1)) (h0 : Inv 0 s1)
    (step : ∀ i (h : i < L.length) s, Inv i s → OkG (g (.tuple [.int (i : Int), enc L[i]]) s) fun s1 => Ok (body s1) (LoopP (Inv (i + 1)) Q)) (hQ : ∀ s, Inv L.length s → Q (.nx s)) : Ok (@sFor fi g body u s) Q :=
  Ok.for (enumD 0 (L.map enc)) Inv hi h0 (fun i d s hd p => by
    obtain ⟨e, h1, rfl⟩ := enumD_get hd
    rw [List.getElem?_map, Option.map_eq_some_iff] at h1
    obtain ⟨a, ha, rfl⟩ := h1
    obtain ⟨h, rfl⟩ := List.getElem?_eq_some_iff.mp ha
    rw [Nat.zero_add]
    exact step i h s p) (by rw [enumD_len, List.length_map]; exact hQ)
theorem whileN_ok {fc : XT} {fb : XS} {Q : Fl → Prop} (Inv : Nat → S → Prop) (step : ∀ n s, Inv n s → Ok (fc s) fun x => if x.1 = true then Ok (fb x.2) (LoopP (fun s2 => ∃ m, m < n ∧ Inv m s2) Q) else Q (.nx x.2)) :
    ∀ n s, Inv n s → Ok (sWhile fc fb s) Q := by
  intro n
  induction n using Nat.strongRecOn with
  | _ n ih =>
    intro s h
    rw [sWhile_eq]
    obtain ⟨⟨b, s1⟩, h1, h2⟩ := step n s h
    rw [h1]
    show Ok (if b = true then _ else _) Q
    cases b with
    | false => exact ⟨_, rfl, by simpa using h2⟩
    | true =>
      simp only [if_true] at h2 ⊢
      obtain ⟨fl, h3, h4⟩ := h2
      rw [h3]
      cases fl with
      | nx s2 => obtain ⟨m, hm, hI⟩ := h4; exact ih m hm s2 hI
      | ct s2 => obtain ⟨m, hm, hI⟩ := h4; exact ih m hm s2 hI
      | bk s2 => exact ⟨_, rfl, h4⟩
      | rt r s2 => exact ⟨_, rfl, h4⟩
theorem Ok.while {fc : XT} {fb : XS} [u : Dum (fc, fb)] {s : S} {Q : Fl → Prop} (Inv : Nat → S → Prop) (n : Nat) (h0 : Inv n s) (step : ∀ n s, Inv n s → Ok (fc s) fun x => if x.1 = true then Ok (fb x.2) (LoopP (fun s2 => ∃ m, m < n ∧ Inv m s2) Q) else Q (.nx x.2)) : Ok (@sWhile fc fb u s) Q :=
  whileN_ok Inv step n s h0
/-! comprehensions, as they stand in a goal -/
theorem lc_ite (b : Bool) (acc : List D) (x : D) (s : S) : (if b = true then (Out.ok (acc ++ [x], s) : Out (List D × S)) else .ok (acc, s)) = .ok (acc ++ (if b = true then [x] else []), s) := by cases b <;> simp
theorem lcF1 {α : Type} {vs : List Nat} {fi : XI} {g : XG} {ft : XT} {fe : XE} [u : Dum (vs, fi, g, ft, fe)] {s : S} (s1 : S) (L : List α) (enc : α → D) (p : α → Bool) (f : α → D) (hi : fi s = .ok (L.map enc, s1)) (hz : L.length ≤ line)
    (st : ∀ a ∈ L, ∀ acc, lcStep vs g ft fe acc (enc a) (DL.forget vs s1) = .ok (acc ++ (if p a = true then [f a] else []), DL.forget vs s1)) :
    @xLc vs fi g ft fe u s = .ok (.new (.list ((L.filter p).map f)), back s1 vs (DL.forget vs s1)) := by
  have key : ∀ (L : List α) (acc : List D), (∀ a ∈ L, ∀ acc, lcStep vs g ft fe acc (enc a) (DL.forget vs s1) = .ok (acc ++ (if p a = true then [f a] else []), DL.forget vs s1)) → lcD vs g ft fe (L.map enc) acc (DL.forget vs s1) = .ok (acc ++ (L.filter p).map f, DL.forget vs s1) := by
    intro L
    induction L with
    | nil => intro acc _; simp [lcD]
    | cons a L ih =>
      intro acc h
      rw [List.map_cons, lcD_cons, h a List.mem_cons_self acc, bind_ok']
      show lcD vs g ft fe (L.map enc) (acc ++ if p a = true then [f a] else []) _ = _
      rw [ih _ fun b hb => h b (List.mem_cons_of_mem _ hb)]
      by_cases hp : p a = true
      · rw [if_pos hp, List.filter_cons_of_pos hp]; simp
      · rw [if_neg hp, List.filter_cons_of_neg hp]; simp
  unfold xLc
  rw [hi, bind_ok']
  dsimp only
  rw [key L [] st, bind_ok', List.nil_append]
  dsimp only
  rw [if_pos (by rw [List.length_map]; exact Nat.le_trans (List.length_filter_le _ _) hz)]
theorem lcA1 {α : Type} {vs : List Nat} {fi : XI} {g : XG} {ft : XT} {fe : XE} [u : Dum (vs, fi, g, ft, fe)] {s : S} (s1 : S) (L : List α) (enc : α → D) (f : α → D) (hi : fi s = .ok (L.map enc, s1)) (hz : L.length ≤ line)
    (st : ∀ a ∈ L, ∀ acc, lcStep vs g ft fe acc (enc a) (DL.forget vs s1) = .ok (acc ++ [f a], DL.forget vs s1)) :
    @xLc vs fi g ft fe u s = .ok (.new (.list (L.map f)), back s1 vs (DL.forget vs s1)) := by
  have := lcF1 (u := u) s1 L enc (fun _ => true) f hi hz (fun a ha acc => by rw [st a ha acc]; rfl)
  rw [List.filter_eq_self.mpr (fun _ _ => rfl)] at this
  exact this
theorem lcA {α : Type} {vs : List Nat} {fi : XI} {g : XG} {ft : XT} {fe : XE} [u : Dum (vs, fi, g, ft, fe)] {s : S} (L : List α) (enc : α → D) (f : α → D) (hi : fi s = .ok (L.map enc, s)) (hz : L.length ≤ line)
    (st : ∀ a ∈ L, ∀ acc, lcStep vs g ft fe acc (enc a) (DL.forget vs s) = .ok (acc ++ [f a], DL.forget vs s)) :
    @xLc vs fi g ft fe u s = .ok (.new (.list (L.map f)), back s vs (DL.forget vs s)) := lcA1 s L enc f hi hz st
theorem rgD_map (lo : Int) (n : Nat) : rgD lo 1 n = (List.range n).map fun i : Nat => .int (lo + (i : Int)) := by
  unfold rgD
  apply List.map_congr_left
  intro i _
  rw [Int.mul_one]
/-! ### decks -/
structure Deck where
  a : Int
  b : Int
  h : 0 ≤ a
abbrev dkD (x : Deck) : D := .list [.int x.a, .int x.b]
theorem nlI_dk (x : Deck) : nlI (dkD x) = true := rfl
def Deck.tk (x : Deck) (m : Int) : Int := if 0 < x.a then x.a % m else (x.b * 6364136223846793005 + 1442695040888963407) % 18446744073709551616 / 8589934592 % m
def Deck.nx (x : Deck) (m : Int) : Deck := if 0 < x.a then ⟨((x.a / m).toNat : Int), x.b, Int.natCast_nonneg _⟩ else ⟨x.a, (x.b * 6364136223846793005 + 1442695040888963407) % 18446744073709551616, x.h⟩
theorem hMul_l {i j : Int} (h : i.natAbs < two64) : hMul (.int i) (.int j) = some (.val (.int (i * j))) := by
  show (if mulOk i j then _ else _) = _
  rw [if_pos (by unfold mulOk; rw [decide_eq_true h]; rfl)]
theorem hMul_r {i j : Int} (h : j.natAbs < two64) : hMul (.int i) (.int j) = some (.val (.int (i * j))) := by
  show (if mulOk i j then _ else _) = _
  rw [if_pos (by unfold mulOk; rw [decide_eq_true h, Bool.or_true])]
theorem hMod_p {i j : Int} (h : 0 < j) : hMod (.int i) (.int j) = some (.val (.int (i % j))) := by
  show (if 0 < j then _ else _) = _
  rw [if_pos h]
theorem log2_lt {n : Nat} (h : n < 1000) : n.log2 < 9000 := by
  have : n.log2 ≤ n := Nat.log2_le_self n
  omega
theorem hDiv_p {i j : Int} (h : 0 < j) (h2 : j < 1000) : hDiv (.int i) (.int j) = some (.val (.int (i / j))) := by
  show (if 0 < j ∧ j.natAbs.log2 < 9000 then _ else _) = _
  rw [if_pos ⟨h, log2_lt (by omega)⟩]
theorem hPow_p {i j : Int} (h : 0 ≤ j ∧ j ≤ 1000000 ∧ i.natAbs < two64) : hPow (.int i) (.int j) = some (.val (.int (i ^ j.toNat))) := by
  show (if 0 ≤ j ∧ j ≤ 1000000 ∧ i.natAbs < two64 then _ else _) = _
  rw [if_pos h]
theorem pow18 : hPow (.int 10) (.int 18) = some (.val (.int 1000000000000000000)) := hPow_p ⟨by decide, by decide, by decide⟩
theorem hDiv_g {i j : Int} (h : 0 < j) (h2 : j.natAbs.log2 < 9000) : hDiv (.int i) (.int j) = some (.val (.int (i / j))) := by
  show (if 0 < j ∧ j.natAbs.log2 < 9000 then _ else _) = _
  rw [if_pos ⟨h, h2⟩]
theorem atI_nat' {α : Type} (xs : List α) (k : Nat) : atI xs (k : Int) = xs[k]? := by
  unfold atI ixN
  rw [if_pos (by omega)]
  by_cases h : k < xs.length
  · rw [if_pos (by omega)]
    rfl
  · rw [if_neg (by omega), List.getElem?_eq_none (by omega)]
    rfl
theorem atI_0 {α : Type} (x : α) (xs : List α) : atI (x :: xs) 0 = some x := atI_nat' (x :: xs) 0
theorem atI_1 {α : Type} (x y : α) (xs : List α) : atI (x :: y :: xs) 1 = some y := atI_nat' (x :: y :: xs) 1
theorem atI_2 {α : Type} (x y z : α) (xs : List α) : atI (x :: y :: z :: xs) 2 = some z := atI_nat' (x :: y :: z :: xs) 2
theorem ixN_0 (n : Nat) : ixN (n + 1) 0 = some 0 := by
  unfold ixN
  rw [if_pos (by omega), if_pos (by omega)]
  rfl
theorem ixN_1 (n : Nat) : ixN (n + 1 + 1) 1 = some 1 := by
  unfold ixN
  rw [if_pos (by omega), if_pos (by omega)]
  rfl
/-! ### loops -/
/-! ### orders -/
def rng (n : Nat) : List Int := (List.range n).map fun i : Nat => (i : Int) + 1
def IsOrd (ns : List Int) : Prop := ns.Perm (rng ns.length)
theorem rng_len (n : Nat) : (rng n).length = n := by unfold rng; rw [List.length_map, List.length_range]
theorem rng_succ (n : Nat) : rng (n + 1) = rng n ++ [(n : Int) + 1] := by
  unfold rng
  rw [List.range_succ, List.map_append]
  rfl
theorem mem_rng {n : Nat} {a : Int} : a ∈ rng n ↔ 1 ≤ a ∧ a ≤ n := by
  unfold rng
  rw [List.mem_map]
  constructor
  · rintro ⟨i, hi, rfl⟩
    rw [List.mem_range] at hi
    omega
  · rintro ⟨h1, h2⟩
    exact ⟨(a - 1).toNat, List.mem_range.mpr (by omega), by omega⟩
theorem rng_pw (n : Nat) : (rng n).Pairwise (· ≤ ·) := by
  induction n with
  | zero => exact .nil
  | succ n ih =>
    rw [rng_succ, List.pairwise_append]
    refine ⟨ih, by simp, fun a ha b hb => ?_⟩
    rw [mem_rng] at ha
    simp at hb
    omega
theorem rng_nodup (n : Nat) : (rng n).Nodup := by
  induction n with
  | zero => exact .nil
  | succ n ih =>
    rw [rng_succ, List.nodup_append]
    refine ⟨ih, by simp, fun a ha b hb => ?_⟩
    rw [mem_rng] at ha
    simp at hb
    omega
theorem IsOrd.mem {ns : List Int} (h : IsOrd ns) {a : Int} : a ∈ ns ↔ 1 ≤ a ∧ a ≤ ns.length := by rw [h.mem_iff, mem_rng]
theorem IsOrd.nodup {ns : List Int} (h : IsOrd ns) : ns.Nodup := h.nodup_iff.mpr (rng_nodup _)
theorem IsOrd.srt {ns : List Int} (h : IsOrd ns) : DL.srt ns = rng ns.length := (srt_eq h.symm (rng_pw _)).symm
theorem rgD_rng (n : Nat) : rgD 1 1 n = (rng n).map .int := by
  unfold rgD rng
  rw [List.map_map]
  apply List.map_congr_left
  intro i _
  show PyData.int (1 + (i : Int) * 1) = PyData.int ((i : Int) + 1)
  congr 1
  omega
/-- as many, all within: all of them -/
theorem perm_of_sub : ∀ {l l' : List Int}, l.Nodup → (∀ a ∈ l, a ∈ l') → l'.length ≤ l.length → l.Perm l'
  | [], l', _, _, h => by
    have : l' = [] := List.eq_nil_of_length_eq_zero (Nat.le_zero.mp h)
    rw [this]
  | a :: l, l', nd, sub, h => by
    obtain ⟨n1, n2⟩ := List.nodup_cons.mp nd
    have ha : a ∈ l' := sub a List.mem_cons_self
    have p : l'.Perm (a :: l'.erase a) := List.perm_cons_erase ha
    refine List.Perm.trans (List.Perm.cons a (perm_of_sub n2 (fun b hb => ?_) ?_)) p.symm
    · have hb' := sub b (List.mem_cons_of_mem _ hb)
      rw [p.mem_iff] at hb'
      rcases List.mem_cons.mp hb' with e | e
      · exact absurd (e ▸ hb) n1
      · exact e
    · have := p.length_eq
      simp only [List.length_cons] at this h
      omega
theorem isOrd_of {l : List Int} (nd : l.Nodup) (h : ∀ a ∈ l, 1 ≤ a ∧ a ≤ l.length) : IsOrd l :=
  perm_of_sub nd (fun a ha => mem_rng.mpr (h a ha)) (by rw [rng_len]; exact Nat.le_refl _)
def like (cells : List Int) : List Int := cells.map fun y => 1 + ((cells.filter fun x => decide (x < y)).length : Int)
def szs (rows : List (List Int)) (j : Nat) : Nat := (rows.getD j []).length
def lessN (row : List Int) (rows : List (List Int)) (k : Nat) : Nat := (((List.range row.length).filter fun j => decide (row.getD j 0 < row.getD k 0)).map (szs rows)).sum
def blk (row : List Int) (rows : List (List Int)) (k : Nat) : List Int := (rows.getD k []).map fun x => (lessN row rows k : Int) + x
def fill (row : List Int) (rows : List (List Int)) : List Int := (List.range row.length).flatMap (blk row rows)
/-! ### functions on ints, as on data -/
theorem rg1Ok_of {n : Nat} (h : n ≤ 16000000) : rg1Ok (n : Int) = true := by unfold rg1Ok; simp only [Bool.and_eq_true, decide_eq_true_eq]; omega
theorem rg2Ok_of {a b : Int} (h1 : -1000 ≤ a) (h2 : a ≤ 1000) (h3 : -1000 ≤ b) (h4 : b ≤ 1000) : rg2Ok a b = true := by unfold rg2Ok; simp only [Bool.and_eq_true, decide_eq_true_eq]; omega
theorem rng_get {n i : Nat} (h : i < n) : (rng n)[i]? = some ((i : Int) + 1) := by
  unfold rng
  rw [List.getElem?_map, List.getElem?_range h]
  rfl
theorem isOrd_rev {ns : List Int} (h : IsOrd ns) : IsOrd ns.reverse := by
  unfold IsOrd
  rw [List.length_reverse]
  exact (List.reverse_perm ns).trans h
theorem flAll_ints (n : Nat) : ∀ ns : List Int, flAll n (ns.map .int) = true
  | [] => by unfold flAll; rfl
  | a :: r => by
    show flAll n (.int a :: r.map .int) = true
    unfold flAll
    rw [flAll_ints n r]
    unfold fl
    rfl
theorem fl_tI (n : Nat) (ns : List Int) : fl (n + 1) (tI ns) = true := by unfold fl; exact flAll_ints n ns
theorem eqv_ints : ∀ a b : List Int, PyData.eqvAll (a.map .int) (b.map .int) = decide (a = b)
  | [], [] => rfl
  | [], _ :: _ => rfl
  | _ :: _, [] => rfl
  | x :: a, y :: b => by
    show ((x == y) && PyData.eqvAll (a.map .int) (b.map .int)) = _
    rw [eqv_ints a b]
    by_cases h : x = y
    · subst h
      simp
    · have : (x == y) = false := by simpa using h
      rw [this, decide_eq_false (fun e => h (List.cons.inj e).1)]
      rfl
/-- data that is compared with itself -/
def pl : Nat → D → Prop
  | 0, .list _ => False
  | 0, .tuple _ => False
  | n + 1, .list ds => ds.length ≤ 16000000 ∧ ∀ d ∈ ds, pl n d
  | n + 1, .tuple ds => ds.length ≤ 16000000 ∧ ∀ d ∈ ds, pl n d
  | _, .str x => PyData.strOk x = true
  | _, .dict _ => False
  | _, _ => True
end DL

namespace DL
open Evl (Ex)
open PySem PySem.Spec PyProof.Rows L2 PySem.W
/-! ### numbers dealt to two lists in a tuple (one def, by hand) -/
section
variable {K : PySem.W.Frag} {E : WX} {X : Cx} {G : En} {F F' : Hp} {T T' : List (Addr × D)} {s s' : S} {σ σ' : L2.St} {H H' : Hp} {v : V} {d : D} {ds : List D} {i : Nat} {r : R} {Q : VK}
theorem SR.later {H1 : Hp} {σ1 : L2.St} (h : SR K G F [] s σ H) (e : Ex H H1) (hl : s'.length = σ1.length) (hs : ∀ i y, getS s' i = some y → ∃ d, y = .val d ∧ getS s i = some y ∧ σ1[i]? = σ[i]?) : SR K G F [] s' σ1 H1 :=
  ⟨h.fh.trans e, h.fe, h.gr, fun a o q m => e _ _ (h.kp a o q m), (fun a ha => by
    cases q : H a with
    | none => exact absurd q (h.ioh a ha)
    | some u => rw [e _ _ q]; simp), (fun i d q => by
    obtain ⟨d', e1, e2, e3⟩ := hs i _ q
    obtain ⟨v, a, b⟩ := h.sl i d e2
    exact ⟨v, by rw [e3]; exact a, b⟩), (fun i k d q => by
    obtain ⟨d', e1, e2, e3⟩ := hs i _ q
    cases e1), (fun i j k l d e p q1 q2 r1 r2 => by
    obtain ⟨d', e1, e2, e3⟩ := hs i _ q1
    cases e1), .nil, (fun p hp => nomatch hp), hl⟩
/-- does a row take a number -/
def qTakes (xs : List Int) (x : Int) : Bool := match xs.getLast? with
  | none => true
  | some y => decide (y < x)
def qStep (st : List Int × List Int) (x : Int) : List Int × List Int := if qTakes st.1 x then (st.1 ++ [x], st.2) else if qTakes st.2 x then (st.1, st.2 ++ [x]) else (st.1 ++ [x], st.2)
def queue (ns : List Int) : List Int × List Int := ns.foldl qStep ([], [])
/-- where the loop stands -/
structure QI (K : PySem.W.Frag) (H0 : Hp) (a t p1 p2 : Addr) (st : List Int × List Int) (σ : L2.St) (H : Hp) : Prop where
  len : σ.length = 5
  s0 : σ[0]? = some (some (.ref a))
  s1 : σ[1]? = some (some (.ref t))
  ex : Ex H0 H
  ht : ∃ o : Obj, o.dict = none ∧ H t = some (.frz o (.tup [.ref p1, .ref p2]))
  h1 : H p1 = some (.lst (st.1.map V.int))
  h2 : H p2 = some (.lst (st.2.map V.int))
theorem QI.set {H0 : Hp} {a t p1 p2 : Addr} {st : List Int × List Int} (q : QI K H0 a t p1 p2 st σ H) (e : Ex H H') {j : Nat} {x : Option V} (hj : j ≠ 0) (hj1 : j ≠ 1) : QI K H0 a t p1 p2 st (σ.set j x) H' := by
  obtain ⟨o, d0, ht⟩ := q.ht
  exact ⟨by rw [List.length_set]; exact q.len, by rw [List.getElem?_set_ne hj]; exact q.s0, by rw [List.getElem?_set_ne hj1]; exact q.s1, q.ex.trans e, ⟨o, d0, e _ _ ht⟩, e _ _ q.h1, e _ _ q.h2⟩
theorem QI.sq {H0 : Hp} {a t p1 p2 : Addr} {st : List Int × List Int} (q : QI K H0 a t p1 p2 st σ H) : SqT K H t [.ref p1, .ref p2] := by
  obtain ⟨o, d0, ht⟩ := q.ht
  exact (TpD.of d0 ht).sq
theorem QI.mono {H0 : Hp} {a t p1 p2 : Addr} {st : List Int × List Int} (q : QI K H0 a t p1 p2 st σ H) (e : Ex H H') : QI K H0 a t p1 p2 st σ H' := by
  obtain ⟨o, d0, ht⟩ := q.ht
  exact ⟨q.len, q.s0, q.s1, q.ex.trans e, ⟨o, d0, e _ _ ht⟩, e _ _ q.h1, e _ _ q.h2⟩
theorem QI.upd {H0 : Hp} {a t p1 p2 Dd : Addr} {o : HO} {st : List Int × List Int} (q : QI K H0 a t p1 p2 st σ H) (n0 : H0 Dd = none) (h1 : p1 ≠ Dd) (h2 : p2 ≠ Dd) (h3 : t ≠ Dd) : QI K H0 a t p1 p2 st σ (L2.upd H Dd o) := by
  obtain ⟨ob, d0, ht⟩ := q.ht
  refine ⟨q.len, q.s0, q.s1, fun b u z => ?_, ⟨ob, d0, by rw [upd_ne h3]; exact ht⟩, by rw [upd_ne h1]; exact q.h1, by rw [upd_ne h2]; exact q.h2⟩
  have : b ≠ Dd := fun e => by subst e; rw [n0] at z; cases z
  rw [upd_ne this]
  exact q.ex _ _ z
theorem QI.put {H0 : Hp} {a t p1 p2 p : Addr} {x : Int} {st : List Int × List Int} (q : QI K H0 a t p1 p2 st σ H) (z1 : H0 p1 = none) (z2 : H0 p2 = none) (n12 : p1 ≠ p2) (n1 : t ≠ p1) (n2 : t ≠ p2) :
    QI K H0 a t p1 p2 (st.1 ++ [x], st.2) σ (L2.upd H p1 (.lst (st.1.map V.int ++ [.int x]))) ∧ QI K H0 a t p1 p2 (st.1, st.2 ++ [x]) σ (L2.upd H p2 (.lst (st.2.map V.int ++ [.int x]))) := by
  obtain ⟨ob, d0, ht⟩ := q.ht
  constructor
  · refine ⟨q.len, q.s0, q.s1, fun b u z => ?_, ⟨ob, d0, by rw [upd_ne n1]; exact ht⟩, by rw [upd_same]; simp, by rw [upd_ne n12.symm]; exact q.h2⟩
    have : b ≠ p1 := fun e => by subst e; rw [z1] at z; cases z
    rw [upd_ne this]
    exact q.ex _ _ z
  · refine ⟨q.len, q.s0, q.s1, fun b u z => ?_, ⟨ob, d0, by rw [upd_ne n2]; exact ht⟩, by rw [upd_ne n12]; exact q.h1, by rw [upd_same]; simp⟩
    have : b ≠ p2 := fun e => by subst e; rw [z2] at z; cases z
    rw [upd_ne this]
    exact q.ex _ _ z
/-! ### powers of great numbers -/
def bigN : Nat := 10000000000000000000000000000000000000000000000000000000000000000000000
theorem bigN_le : bigN ≤ 2 ^ 250 := by decide +kernel
def hPowW : D → D → Option RD
  | .int i, .int j => if 0 ≤ j ∧ j ≤ 1000 ∧ i.natAbs < bigN then some (.val (.int (i ^ j.toNat))) else none
  | _, _ => none
def CPowW (i j : Int) : Prop := 0 ≤ j ∧ j ≤ 1000 ∧ i.natAbs < bigN
theorem op_powW : OpR X (binaryOp .Pow) (rI CPowW fun i j => .int (i ^ j.toNat)) := opI fun i j _ _ _ _ _ hc q => pow_int hc.1 (by
  have hb : Builtin.Int.intBits i ≤ 250 := intBits_le (Nat.lt_of_lt_of_le hc.2.2 bigN_le)
  have h0 := hc.1
  have h2 := hc.2.1
  have h1 : (Builtin.Int.intBits i : Int) * j ≤ 250 * j := Int.mul_le_mul_of_nonneg_right (by omega) h0
  have h3 : (2 : Int) ^ 27 = 134217728 := by decide
  rw [h3]
  omega) q
theorem o_powW : Op2 K (rI CPowW fun i j => .int (i ^ j.toNat)) hPowW := by
  intro F H x y a b rd Q ex va vb e q
  cases va <;> cases vb <;> simp only [hPowW, scrD, reduceCtorEq, Option.some.injEq, Option.ite_none_right_eq_some] at e
  obtain ⟨h, rfl⟩ := e
  exact ⟨_, _, rfl, rfl, h, q _ (.int _)⟩
theorem de_powW {a b : Expr} {ta tb : TE} {fa fb : XE} {pos : Pos} (ha : DE X E a ta fa) (hb : DE X E b tb fb) : DE X E (.BinOp a .Pow b pos) (tOp (rI CPowW fun i j => .int (i ^ j.toNat)) ta tb) (xOp2 hPowW fa fb) := ⟨pe_op op_powW ha.pe hb.pe, snd_op2 o_powW ha.sd hb.sd⟩
theorem hPowW_p {i j : Int} (h : 0 ≤ j ∧ j ≤ 1000 ∧ i.natAbs < 10000000000000000000000000000000000000000000000000000000000000000000000) : hPowW (.int i) (.int j) = some (.val (.int (i ^ j.toNat))) := by
  show (if 0 ≤ j ∧ j ≤ 1000 ∧ i.natAbs < bigN then _ else _) = _
  exact if_pos h
end
end DL

namespace DL
open Evl (Ex)
open PySem PySem.Spec PyProof.Rows L2 PySem.W
/-! t[::1] of a tuple -/
section
variable {prog : Program} {w : World} {A : Around} {E : Value → Shared → Prop} {s : Shared}
end
section
variable {K : PySem.W.Frag} {E : WX} {X : Cx} {G : En} {F F' : Hp} {T T' : List (Addr × D)} {s s' : S} {σ σ' : L2.St} {H H' : Hp} {v : V} {d : D} {ds : List D} {i : Nat} {r : R} {Q : VK}
end
end DL

/-! itertools.permutations of a range, made a list -/
namespace DL
open Evl (Ex)
open PySem PySem.Spec PyProof.Rows L2
open Sem (wp)
end DL

namespace DL
open Evl (Ex)
open PySem PySem.Spec PyProof.Rows L2
open Sem (wp)
section
variable {prog : Program} {w : World} {A : Around} {E : Value → Shared → Prop} {s : Shared}
abbrev tupO (vs : List Value) : Obj := { cls := .type "tuple", data := .seq vs.toArray }
end
end DL

namespace DL
open Evl (Ex)
open PySem PySem.Spec PyProof.Rows L2
open Sem (wp)
section
variable {prog : Program} {w : World} {A : Around} {E : Value → Shared → Prop} {s : Shared}
end
end DL

namespace DL
open Evl (Ex)
open PySem PySem.Spec PyProof.Rows L2
open Sem (wp)
section
variable {prog : Program} {w : World} {A : Around} {E : Value → Shared → Prop} {s : Shared}
end
end DL

namespace DL
open Evl (Ex)
open PySem PySem.Spec PyProof.Rows L2
open Sem (wp)
def TupsAt (h : Heap) : List Addr → List (List Value) → Prop
  | [], [] => True
  | t :: ts, l :: ls => h.get? t = some (tupO l) ∧ TupsAt h ts ls
  | _, _ => False
theorem TupsAt.mono {h h' : Heap} : ∀ {ts : List Addr} {ls : List (List Value)}, TupsAt h ts ls → (∀ t ∈ ts, ∀ o, h.get? t = some o → h'.get? t = some o) → TupsAt h' ts ls
  | [], [], _, _ => trivial
  | [], _ :: _, x, _ => x.elim
  | _ :: _, [], x, _ => x.elim
  | t :: ts, l :: ls, x, k => ⟨k t (List.mem_cons_self ..) _ x.1, TupsAt.mono x.2 fun u hu => k u (List.mem_cons_of_mem _ hu)⟩
section
variable {prog : Program} {w : World} {A : Around} {E : Value → Shared → Prop} {s : Shared}
end
end DL

namespace DL
open Evl (Ex)
open PySem PySem.Spec PyProof.Rows L2
open Sem (wp)
section
variable {prog : Program} {w : World} {A : Around} {E : Value → Shared → Prop} {s : Shared}
end
end DL

namespace DL
open Evl (Ex)
open PySem PySem.Spec PyProof.Rows L2
open Sem (wp)
section
variable {P : Program} {w : World}
end
section
variable {X : Cx} {E : WX} {e : Expr} {te : TRg} {fi : XI} {p p2 pos pos2 : Pos} {f : Str}
end
end DL

namespace DL
open Evl (Ex)
open PySem PySem.Spec PyProof.Rows L2
open Evl (Ex)
section
variable {K : PySem.W.Frag} {G : En} {F : Hp} {T : List (Addr × D)} {s : S} {σ : L2.St} {H : Hp}
end
section
variable {X : Cx} {E : WX} {e : Expr} {te : TRg} {fi : XI} {p p2 pos pos2 : Pos} {f : Str}
end
end DL

namespace DL
open Evl (Ex)
open PySem PySem.Spec PyProof.Rows L2 PySem.W
/-! ### the module's names of types of the library -/
section
variable {K : PySem.W.Frag}
abbrev TyD : Type := Str × String
abbrev AlT : Type := AlK × Bool
def tysB (ty : List TyD) (K : PySem.W.Frag) : Bool := ty.all fun t => He.eqO (PySem.W.nsIn K mainGlobals t.1) (some (some (.type t.2)))
def obsT (ty : List TyD) (fa : List He.Fa) (fn : List He.DefD) (cs : List (Str × D)) (ts : List TabD) (K : PySem.W.Frag) : AlT := (obsK fa fn cs ts K, tysB ty K)
def valT (fn : List He.DefD) (ts : List TabD) (w : World) : AlT := (valK fn ts w, true)
def SaysT (ty : List TyD) (fa : List He.Fa) (fn : List He.DefD) (cs : List (Str × D)) (ts : List TabD) (w : World) (K : PySem.W.Frag) : Prop := obsT ty fa fn cs ts K = valT fn ts w
variable {tyl : List TyD} {fa : List He.Fa} {fn : List He.DefD} {cs : List (Str × D)} {ts : List TabD} {w : World} {h : Heap} {mg : Str → Option Value}
theorem SaysT.k (c : SaysT tyl fa fn cs ts w K) : SaysK fa fn cs ts w K := congrArg (fun z : AlT => z.1) c
end
end DL

namespace DL
open Evl (Ex)
open PySem PySem.Spec PyProof.Rows L2
/-! ### l[::c], c from 2 on -/
section
variable {K : PySem.W.Frag} {E : WX} {X : Cx} {G : En} {F F' : Hp} {T T' : List (Addr × D)} {s s' : S} {σ σ' : L2.St} {H H' : Hp} {v : V} {d : D} {ds : List D} {i : Nat} {r : R} {Q : VK}
end
end DL

/-! ### the head of an open law of a program with imports -/
namespace DL
open Evl (Ex)
open PySem PySem.W PySem.Calls PyProof.Rows HandSHeadRun
section
variable {r : OpenRow} {q : Program} {H : Hook} {ob : SharedT → H.α} {M : Nat} {loose : List PySem.Str}
end
end DL

namespace DL
open Evl (Ex)
open PySem PySem.Spec PyProof.Rows L2
/-! ### {k: True for ..}, the keys nested tuples -/
section
variable {X : Cx}
end
end DL

namespace DL
open Evl (Ex)
open PySem PySem.Spec PyProof.Rows L2 PySem.W
section
variable {prog : Program} {w : World} {A : Around} {E : Value → Shared → Prop} {s : Shared} {T : String} {r d : Addr} {n : Nat} {P : Nat → Value → Prop} {OK : Heap → Prop}
end
section
variable {X : Cx}
end
end DL

namespace DL
open Evl (Ex)
open PySem PySem.Spec PyProof.Rows L2 PySem.W
def DicSorted (ds out : List D) : Prop := ∃ ks M : List NK, ds = ks.map NestedKey.data ∧ (∀ k ∈ ks, goodK k) ∧ M.Nodup ∧ (∀ k, k ∈ M ↔ k ∈ ks) ∧ M.length + 1 ≤ 1000 ∧ (sortOk (M.map NestedKey.data) = true ∨ M.length ≤ 1) ∧ ∀ M' : List NK, M'.Perm M → (M'.map NestedKey.data).mergeSort leD = out
theorem DicSorted.one {ds a b : List D} (h : DicSorted ds a) (h' : DicSorted ds b) : a = b := by
  obtain ⟨ks, M, e1, _, n1, m1, _, _, s1⟩ := h
  obtain ⟨js, N, e2, _, n2, m2, _, _, s2⟩ := h'
  have e : ks = js := map_data_inj (e1.symm.trans e2)
  subst e
  have pm : M.Perm N := (List.perm_ext_iff_of_nodup n1 n2).mpr fun k => (m1 k).trans (m2 k).symm
  exact (s1 M (.refl _)).symm.trans (s2 M pm)
section
variable {K : PySem.W.Frag} {E : WX} {X : Cx} {G : En} {F F' : Hp} {T T' : List (Addr × D)} {s s' : S} {σ σ' : L2.St} {H H' : Hp} {v : V} {d : D} {ds : List D} {i : Nat} {r : R} {Q : VK}
/-- what the set holds, what was put in -/
structure HoldsD (K : PySem.W.Frag) (F : Hp) (L : List (NK × Addr)) (acc : List D) : Prop where
  rp : ∀ p ∈ L, Rp K F (.ref p.2) p.1.data
  sub : ∀ p ∈ L, p.1.data ∈ acc
  all : ∀ d ∈ acc, ∃ p ∈ L, p.1.data = d
  nd : (L.map (·.1)).Nodup
theorem HoldsD.ex {L : List (NK × Addr)} {acc : List D} (h : HoldsD K F L acc) (e : Ex F F') : HoldsD K F' L acc := ⟨fun p hp => Rp.mono e (h.rp p hp), h.sub, h.all, h.nd⟩
theorem HoldsD.len {L : List (NK × Addr)} {acc : List D} {M : List NK} {ks : List NK} (h : HoldsD K F L acc) (hm : ∀ d ∈ acc, d ∈ ks.map NestedKey.data) (m : ∀ k, k ∈ M ↔ k ∈ ks) : L.length ≤ M.length := by
  have sub : ∀ k ∈ L.map (·.1), k ∈ M := fun k hk => by
    obtain ⟨p, hp, rfl⟩ := List.mem_map.mp hk
    obtain ⟨j, hj, e⟩ := List.mem_map.mp (hm _ (h.sub p hp))
    rw [← data_inj _ _ e]
    exact (m j).mpr hj
  have q := nk_nodup_len _ _ h.nd sub
  rwa [List.length_map] at q
end
end DL

namespace DL
open Evl (Ex)
open PySem PySem.Spec PyProof.Rows L2 PySem.W
/-! ### a dict of one's own whose keys are tuples: {}, {k: True}, {k: True for ..}, d[k] = True, k in d, sorted(d) -/
section
variable {K : PySem.W.Frag} {E : WX} {X : Cx} {G : En} {F F' : Hp} {T T' : List (Addr × D)} {s s' : S} {σ σ' : L2.St} {H H' : Hp} {v : V} {d : D} {ds : List D} {i : Nat} {r : R} {Q : VK} {p : Addr}
/-! {} -/
/-! {k: True} -/
/-! d[k] = True -/
/-! k in d, k not in d -/
section
variable {kr : Nat} {a : Expr} {ta : TE} {fa : XE} {x : Str} {px pos : Pos}
end
/-! sorted(d) -/
end
end DL

namespace DL
open Evl (Ex)
open PySem PySem.Spec PyProof.Rows L2 PySem.W
/-! ### {k: True for ..} as a dict of one's own -/
section
variable {K : PySem.W.Frag} {E : WX} {X : Cx} {G : En} {F F' : Hp} {T T' : List (Addr × D)} {s s' : S} {σ σ' : L2.St} {H H' : Hp} {v : V} {d : D} {ds : List D} {i : Nat} {r : R} {Q : VK} {p : Addr}
variable {kr kk : Nat} {elt tg iter : Expr} {ifs : List Expr} {scope : Scope} {own : List (PySem.Str × Nat)} {gs : List Nat} {pos vpos spos py : Pos} {y : PySem.Str} {wi : TI} {fi : XI} {xg : XG} {ft : XT} {fe : XE}
end
end DL

namespace DL
open Evl (Ex)
open PySem PySem.Spec PyProof.Rows L2 PySem.W
/-! ### a list of one's own, walked without being given away -/
section
variable {K : PySem.W.Frag} {E : WX} {X : Cx} {G : En} {F F' : Hp} {T T' : List (Addr × D)} {s s' : S} {σ σ' : L2.St} {H H' : Hp} {v : V} {d : D} {ds : List D} {i : Nat} {r : R} {Q : VK} {p : Addr}
end
end DL

/-! itertools.combinations, as what a loop walks -/
namespace DL
open Evl (Ex)
open PySem PySem.Spec PyProof.Rows L2
open Sem (wp)
end DL

namespace DL
open Evl (Ex)
open PySem PySem.Spec PyProof.Rows L2
open Sem (wp)
section
variable {prog : Program} {w : World} {A : Around} {E : Value → Shared → Prop} {s : Shared}
end
end DL

namespace DL
open Evl (Ex)
open PySem PySem.Spec PyProof.Rows L2
open Sem (wp)
section
variable {prog : Program} {w : World} {A : Around} {E : Value → Shared → Prop} {s : Shared}
end
end DL

namespace DL
open Evl (Ex)
open PySem PySem.Spec PyProof.Rows L2
open Sem (wp)
end DL

namespace DL
open Evl (Ex)
open PySem PySem.Spec PyProof.Rows L2
open Sem (wp)
section
variable {K : PySem.W.Frag} {E : WX} {X : Cx} {F : Hp} {ds : List D} {xs : List V}
end
end DL

/-! defs that may raise -/
namespace DL
open Evl (Ex)
open PySem PySem.Spec PyProof.Rows L2 PySem.W
/-! C(e): the program's errors -/
end DL

/-! raise C(e) -/
namespace DL
open Evl (Ex)
open PySem PySem.Spec PyProof.Rows L2 PySem.W
section
variable {K : PySem.W.Frag} {E : WX} {X : Cx} {G : En} {F F' : Hp} {s s' : S} {σ : L2.St} {H H' : Hp}
end
end DL

/-! try: .. except C as e: .. -/
namespace DL
open Evl (Ex)
open PySem PySem.Spec PyProof.Rows L2 PySem.W
section
variable {K : PySem.W.Frag} {E : WX} {X : Cx} {G : En} {F F' : Hp} {s s' : S} {σ : L2.St} {H H' : Hp}
end
end DL

/-! e.value in an except suite -/
namespace DL
open Evl (Ex)
open PySem PySem.Spec PyProof.Rows L2 PySem.W
section
variable {X : Cx} {exm : Str → Option Bool} {i j : Nat} {a : Addr} {oe : Obj} {cls : Value} {d : Option Addr} {pn : List (Addr × Obj)} {n m : Str} {q1 q2 q3 q4 pos : Pos}
end
end DL

/-! __init__(self, value) of the program's errors; several clauses -/
namespace DL
open Evl (Ex)
open PySem PySem.Spec PyProof.Rows L2 PySem.W
end DL

/-! an error that is kept: laid where it landed -/
namespace DL
open Evl (Ex)
open PySem PySem.Spec PyProof.Rows L2 PySem.W
end DL

/-! texts: str(n), join, split, partition, find, startswith, text * n -/
namespace DL
open Evl (Ex)
open PySem PySem.Spec PyProof.Rows L2 PySem.W
def strsOf : List D → Option (List Str)
  | [] => some []
  | .str z :: r => (strsOf r).map (z :: ·)
  | _ => none
theorem strsOf_eq : ∀ {ds : List D} {ys : List Str}, strsOf ds = some ys → ds = ys.map .str
  | [], ys, h => by cases h; rfl
  | .str z :: r, ys, h => by
    simp only [strsOf, Option.map_eq_some_iff] at h
    obtain ⟨zs, h1, rfl⟩ := h
    rw [strsOf_eq h1, List.map_cons]
  | .none :: _, _, h => by cases h
  | .bool _ :: _, _, h => by cases h
  | .int _ :: _, _, h => by cases h
  | .list _ :: _, _, h => by cases h
  | .tuple _ :: _, _, h => by cases h
  | .dict _ :: _, _, h => by cases h
theorem strsOf_map : ∀ ys : List Str, strsOf (ys.map .str) = some ys
  | [] => rfl
  | y :: ys => by rw [List.map_cons, strsOf, strsOf_map ys]; rfl
theorem RpAll.strs {K : PySem.W.Frag} {F : Hp} : ∀ {vs : List V} {ys : List Str}, RpAll K F vs (ys.map .str) → vs = ys.map V.str
  | _, [], .nil => rfl
  | _, _ :: _, .cons a b => by cases a; rw [RpAll.strs b]; rfl
/-- a.m(b), a a text -/
def xM1 (h : Str → D → Option RD) (fo fa : XE) : XE := fun s => (fo s).bind fun (r, s1) => match getR s1 r with
  | some (.str a) => (fa s1).bind fun (r2, s2) => (match getR s2 r2 with
    | some d => fin (h a d) s2
    | none => .bad)
  | _ => .bad
section
variable {K : PySem.W.Frag} {E : WX} {X : Cx} {G : En} {F F' : Hp} {T T' : List (Addr × D)} {s s' : S} {σ : L2.St} {H H' : Hp} {v : V} {d : D} {ds : List D} {i : Nat} {r : R} {Q : VK}
def OpM1 (K : PySem.W.Frag) (r : V → List V → Hp → VK → Prop) (h : Str → D → Option RD) : Prop := ∀ F H a y b rd Q, Ex F H → View K F H y b → h a b = some rd → Res K F H Q rd → r (.str a) [y] H Q
theorem snd_m1 {r : V → List V → Hp → VK → Prop} {h : Str → D → Option RD} {to te : TE} {fo fa : XE} (o : OpM1 K r h) (ho : Snd K E to fo) (ha : Snd K E te fa) : Snd K E (tM1 r to te) (xM1 h fo fa) := fun G F T s σ H Q sr w => by
  refine ho G F T s σ H _ sr (w.bind.mono (Evl.Ex.refl F) fun ⟨ra, s1⟩ w1 F1 T1 H1 v1 e1 sr1 rv1 => ?_)
  dsimp only at w1 sr1 rv1
  split at w1
  · rename_i a q0
    have vw := sr1.view rv1 (Evl.Ex.refl _) (fun _ q => q) q0
    cases vw
    refine ⟨⟨a, rfl⟩, ?_⟩
    refine ha G F1 T1 s1 σ H1 _ sr1 (w1.bind.mono e1 fun ⟨rb, s2⟩ w2 F2 T2 H2 v2 e2 sr2 rv2 => ?_)
    dsimp only at w2 sr2 rv2
    obtain ⟨p2, q2⟩ := rv2.sub
    obtain ⟨p1, q1⟩ := rv1.sub
    split at w2
    · rename_i b qb
      obtain ⟨rd, h1, w3⟩ := want_fin (α := Unit) w2
      exact o F2 H2 a v2 b rd Q sr2.fh (sr2.view rv2 (Evl.Ex.refl _) (fun _ q => q) qb) h1 (res_of (e1.trans e2) sr2 ⟨p2 ++ p1, by rw [q2, q1, List.append_assoc]⟩ w3)
    · exact w2.elim
  · exact w1.elim
/-! join -/
def hJoin (a : Str) : D → Option RD := fun b => match itemsOf b with
  | some ds => (match strsOf ds with
    | some ys => if (ys.map (·.length)).sum + ys.length * a.length ≤ line then some (.val (.str (Txt.join a ys))) else none
    | none => none)
  | none => none
def rJoin (K : PySem.W.Frag) : V → List V → Hp → VK → Prop := fun x xs H Q => ∃ a p, ∃ ys : List Str, x = .str a ∧ xs = [.ref p] ∧ (SqL K H p (ys.map V.str) ∨ SqT K H p (ys.map V.str)) ∧
    (ys.map (·.length)).sum + ys.length * a.length ≤ 16777216 ∧ Q (.str (Txt.join a ys)) H
theorem o_join : OpM1 K (rJoin K) hJoin := by
  intro F H a y b rd Q ex vb e q
  unfold hJoin at e
  split at e
  · rename_i ds hi
    split at e
    · rename_i ys hy
      simp only [Option.ite_none_right_eq_some, Option.some.injEq] at e
      obtain ⟨hl, rfl⟩ := e
      have e1 := strsOf_eq hy
      subst e1
      cases vb with
      | lst a1 b1 z => cases hi; exact ⟨a, _, ys, rfl, rfl, .inl (by rw [← RpAll.strs b1]; exact .of a1), hl, q _ (.str _)⟩
      | tup a1 b1 z => cases hi; exact ⟨a, _, ys, rfl, rfl, .inr (by rw [← RpAll.strs b1]; exact (a1.ex ex).sq), hl, q _ (.str _)⟩
      | _ => cases hi
    · cases e
  · cases e
/-! split -/
/-! partition -/
/-! startswith, find -/
section
variable {o e : Expr} {to te : TE} {fo fa : XE} {apos pos : Pos}
theorem de_join (ho : DE X E o to fo) (ha : DE X E e te fa) (hs : starEach [e] X.env = [(false, eval e X.env)] := by rfl) (hbase : attributeBase o "join" X.env (eval o X.env) = eval o X.env := by rfl) (hline : (apos.endLine == pos.line) = true := by rfl) :
    DE X E (.Call (.Attribute o "join" apos) [e] [] pos) (tM1 (rJoin X.K) to te) (xM1 hJoin fo fa) := ⟨pe_m1 F.slot_str_join F.type_str_join mt_join ho.pe ha.pe hs hbase hline, snd_m1 o_join ho.sd ha.sd⟩
end
/-! str(n), int(text) -/
def hStr : List D → Option RD
  | [.int i] => if i.natAbs.log2 < 1920 then some (.val (.str (toString i))) else none
  | _ => none
theorem opc_str : OpC K (fun xs H Q => ∃ i : Int, xs = [.int i] ∧ i.natAbs.log2 < 1920 ∧ Q (.str (toString i)) H) hStr := by
  intro F H xs ds rd Q ex hv e q
  unfold hStr at e
  split at e
  · obtain ⟨x, rfl, vx⟩ := hv.one
    simp only [Option.ite_none_right_eq_some, Option.some.injEq] at e
    obtain ⟨hl, rfl⟩ := e
    cases vx
    exact ⟨_, rfl, hl, q _ (.str _)⟩
  · cases e
/-! text * 0, text * 1 -/
def hMulS : D → D → Option RD
  | .str a, .int i => if i = 0 then some (.val (.str Str.empty)) else if i = 1 then some (.val (.str a)) else none
  | _, _ => none
def rMulS : R2 := fun x y H Q => ∃ (a : Str) (i : Int), x = .str a ∧ y = .int i ∧ (i = 0 ∨ i = 1) ∧ Q (.str (if i = 0 then Str.empty else a)) H
theorem op_mulS : OpR X (binaryOp .Mult) rMulS := by
  intro pins s σ H x y v u Q I rx ry h
  obtain ⟨a, i, rfl, rfl, hi, q⟩ := h
  obtain ⟨t, rfl⟩ := rx
  obtain ⟨t2, rfl⟩ := ry
  rcases hi with rfl | rfl
  · exact P.mul_str_none (by decide) (by decide) ⟨.str Str.empty, H, I.tok _, ⟨_, rfl⟩, by simpa using q⟩
  · refine P.mul_str (by decide) (fun _ z => by simp at z) (fun _ z => by simp at z) ?_
    exact ⟨.str a, H, I.tok s.toks, ⟨t, rfl⟩, by simpa using q⟩
theorem o_mulS : Op2 K rMulS hMulS := by
  intro F H x y a b rd Q ex va vb e q
  cases va <;> cases vb <;> simp only [hMulS, scrD, reduceCtorEq] at e
  rename_i z i
  split at e
  · rename_i h0
    cases e
    exact ⟨_, _, rfl, rfl, .inl h0, by rw [if_pos h0]; exact q _ (.str _)⟩
  · rename_i h0
    split at e
    · rename_i h1
      cases e
      exact ⟨_, _, rfl, rfl, .inr h1, by rw [if_neg h0]; exact q _ (.str _)⟩
    · cases e
end
end DL

/-! sorted(set(a list of keys)) -/
namespace DL
open Evl (Ex)
open PySem PySem.Spec PyProof.Rows L2 PySem.W
structure GotN (ks : List Ky) (i : Nat) (L : List Ky) : Prop where
  sub : ∀ p ∈ L, p ∈ ks.take i
  all : ∀ p ∈ ks.take i, p.2 ∈ L.map (·.2)
theorem GotN.zero (ks : List Ky) : GotN ks 0 [] := ⟨fun p h => (by cases h), fun p h => (by simp at h)⟩
theorem GotN.same {ks L : List Ky} {i : Nat} {x : Ky} (g : GotN ks i L) (h : ks[i]? = some x) (hm : x.2 ∈ L.map (·.2)) : GotN ks (i + 1) L := by
  refine ⟨fun p hp => ?_, fun p hp => ?_⟩
  · rw [take_next h]
    exact List.mem_append_left _ (g.sub p hp)
  · rw [take_next h] at hp
    rcases List.mem_append.mp hp with z | z
    · exact g.all p z
    · rw [List.mem_singleton.mp z]; exact hm
theorem GotN.more {ks L L' : List Ky} {i : Nat} {x : Ky} (g : GotN ks i L) (h : ks[i]? = some x) (pm : L'.Perm (x :: L)) : GotN ks (i + 1) L' := by
  refine ⟨fun p hp => ?_, fun p hp => ?_⟩
  · rw [take_next h]
    rcases List.mem_cons.mp (pm.mem_iff.mp hp) with e | z
    · rw [e]; exact List.mem_append_right _ (List.mem_singleton.mpr rfl)
    · exact List.mem_append_left _ (g.sub p z)
  · rw [(pm.map (·.2)).mem_iff, List.map_cons]
    rw [take_next h] at hp
    rcases List.mem_append.mp hp with z | z
    · exact List.mem_cons_of_mem _ (g.all p z)
    · rw [List.mem_singleton.mp z]; exact List.mem_cons_self
section
variable {P : Program} {w : World} {A : Around} {E : Value → Shared → Prop} {s : Shared}
theorem Mem.keep {h h' : Heap} {k : NK} {b : Addr} (x : Mem h k b) (hk : ∀ c o, h.get? c = some o → h'.get? c = some o) : Mem h' k b := x.kept fun c o _ _ e _ => hk c o e
theorem SetN.keep {h h' : Heap} {a : Addr} {L : List Ky} {es : Array (Int × Value)} {ep : Nat} {t : SetTable} (R : SetN w h a L es ep t) (ha : ∀ o, h.get? a = some o → h'.get? a = some o) : SetN w h' a L es ep t := by
  obtain ⟨o, ho, r⟩ := R.ob
  exact ⟨⟨o, ha o ho, r⟩, R.en, R.tb, R.nd, R.pl, R.ld, R.rm, R.fw⟩
theorem set_update_nk {I : Addr} {fp wr : List Addr} {G : Array GenState → Array GenState → Prop} {n : Nat} {Pv : Nat → Value → Prop} {St : Nat → Shared → Prop} {R : Result → Shared → Prop}
    (W : WalksS P w A.in1 I fp wr G n Pv St) (S : Addr) (hSf : S ∉ fp) (ks : List Ky) (M : List NK) (hn : n = ks.length) (hfew : M.length + 1 < 64) (hM : ∀ p ∈ ks, p.2 ∈ M) (hval : ∀ i v, Pv i v → ∃ p, ks[i]? = some p ∧ v = .ref p.1)
    (h0 : Heap) (hk : ∀ p ∈ ks, Mem h0 p.2 p.1) (hS0 : h0.get? S = none) (hw0 : ∀ b ∈ wr, h0.get? b = none) (hu : A.units + 32 < cLine) :
    ∀ (k i : Nat) (s : Shared), n - i = k → i ≤ n → St i s → (∀ b o, h0.get? b = some o → s.heap.get? b = some o) → (∃ L es ep t, SetN w s.heap S L es ep t ∧ GotN ks i L) →
      (∀ s' L es ep t, Moved (S :: wr) G s s' → SetN w s'.heap S L es ep t → GotN ks n L → (∀ b o, h0.get? b = some o → s'.heap.get? b = some o) → R (.ok (.ret .none)) s') →
      codeAny (model P w) A (.builtin "set.update.loop" ⟨[.ref S, .ref I], []⟩) R s := by
  have hSw : S ∉ wr := fun h => hSf (W.sub _ h)
  have hsub : ∀ b ∈ wr, b ∈ S :: wr := fun b hb => List.mem_cons_of_mem _ hb
  have keepM : ∀ {s s' : Shared}, Moved wr G s s' → (∀ b o, h0.get? b = some o → s.heap.get? b = some o) → ∀ b o, h0.get? b = some o → s'.heap.get? b = some o := fun hm hkp b o e =>
    hm.heap b o (fun hb => by rw [hw0 b hb] at e; cases e) (hkp b o e)
  intro k
  induction k with
  | zero =>
    intro i s hk' hi hst hkp ⟨L, es, ep, t, hS, g⟩ hR
    have hin : i = n := by omega
    subst hin
    refine codeAny_builtin F.entry_set_update_loop ?_
    rw [Around.under_plainId F.plain_set_update_loop _]
    show wpAny _ A.in1 (pyNext (.ref I) >>= _) _ _ s
    refine wpAny_bind (W.done s _ _ hst fun s' hm => ?_)
    show wpAny _ A.in1 (ret Value.none) _ _ s'
    have hkp' := keepM hm hkp
    exact wpAny_pure (hR s' L es ep t (hm.mono hsub) (hS.keep (fun o e => hm.heap S o hSw e)) g hkp')
  | succ k ih =>
    intro i s hk' hi hst hkp ⟨L, es, ep, t, hS, g⟩ hR
    have hlt : i < n := by omega
    refine codeAny_builtin F.entry_set_update_loop ?_
    rw [Around.under_plainId F.plain_set_update_loop _]
    show wpAny _ A.in1 (pyNext (.ref I) >>= _) _ _ s
    refine wpAny_bind (W.item i s _ _ hlt hst fun v s' hP hst' hm => ?_)
    obtain ⟨p, hp, rfl⟩ := hval i v hP
    have hkp' := keepM hm hkp
    have sub : ∀ p ∈ L, p ∈ ks := fun p hp => List.mem_of_mem_take (g.sub p hp)
    have hS' : SetN w s'.heap S L es ep t := hS.keep (fun o e => hm.heap S o hSw e)
    have mem' : ∀ q ∈ L, Mem s'.heap q.2 q.1 := fun q hq => (hk q (sub q hq)).keep hkp'
    have hx : Mem s'.heap p.2 p.1 := (hk p (List.mem_of_getElem? hp)).keep hkp'
    have room : L.length + 1 < 64 := by
      have q := nk_nodup_len (L.map (·.2)) M hS.nd fun k hk => by
        obtain ⟨q, hq, rfl⟩ := List.mem_map.mp hk
        exact hM q (sub q hq)
      rw [List.length_map] at q
      omega
    show wpAny _ A.in1 (holding [Value.ref p.1] (setAdd S (.ref p.1)) >>= _) _ _ s'
    refine wpAny_bind (wpAny_holding ?_)
    unfold setAdd
    refine wpAny_holding ?_
    have dp := hx.dp
    refine wpAny_bind (pyHash_key p.2 _ _ _ _ hx.is (by first | (simp only [Around.in1_units]; omega) | omega) ?_)
    refine SetN.add (s := { s' with toks := s'.toks + p.2.draws }) hS' mem' hx (by first | (simp only [Around.in1_units]; omega) | omega) room (fun hm2 => ?_) fun hm2 h' L' es' ep' t' hsb hS2 pm => ?_
    · have g' := g.same hp hm2
      refine wpAny_pure ⟨plainId_quiet F.plain_set_update_loop _, ih (i + 1) _ (by omega) hlt (W.frame _ s' _ _ hst' (Nat.le_add_right _ _) fun b hb o e => e) hkp' ⟨L, es, ep, t, hS', g'⟩ fun s'' L2 es2 ep2 t2 hm'' hS'' g'' hkp'' => ?_⟩
      exact hR s'' L2 es2 ep2 t2 (Moved.trans W.gtrans ((hm.mono hsub).then_heap (Nat.le_add_right _ _) fun b o hb e => e) hm'') hS'' g'' hkp''
    · have g' := g.more hp pm
      have hkp2 : ∀ b o, h0.get? b = some o → h'.get? b = some o := fun b o e => (hsb.2 b (fun z => by rw [z, hS0] at e; cases e)).trans (hkp' b o e)
      refine wpAny_pure ⟨plainId_quiet F.plain_set_update_loop _, ih (i + 1) _ (by omega) hlt (W.frame _ s' _ _ hst' (Nat.le_add_right _ _) fun b hb o e => ?_) hkp2 ⟨L', es', ep', t', hS2, g'⟩ fun s'' L2 es2 ep2 t2 hm'' hS'' g'' hkp'' => ?_⟩
      · rw [hsb.2 b (fun h : b = S => hSf (by rw [← h]; exact hb))]; exact e
      · refine hR s'' L2 es2 ep2 t2 (Moved.trans W.gtrans ((hm.mono hsub).then_heap (Nat.le_add_right _ _) fun b o hb e => ?_) hm'') hS'' g'' hkp''
        rw [hsb.2 b (fun h : b = S => hb (by rw [h]; exact List.mem_cons_self))]; exact e
end
end DL

namespace DL
open Evl (Ex)
open PySem PySem.Spec PyProof.Rows L2 PySem.W
/-- a set as it is made -/
abbrev newSetO (w : World) : Obj := { cls := .type "set", dict := none, data := .set #[] 0 (.fresh 0 0 (!w.params.followText "set-order")) }
section
variable {P : Program} {w : World} {A : Around} {E : Value → Shared → Prop} {s : Shared}
/-- set(x): the new set, then what its __init__ does -/
theorem set_by {x : Value} {Q : Value → Shared → Prop} (hx : argsOk "type.__call__" ⟨[.type "set", x], []⟩) (init : Shared.TypeIs { s with heap := s.heap.push (newSetO w) } (.ref s.heap.objs.size) "set" → ∀ (A' : Around), A'.handled = A.handled → A'.units ≤ A.units + 2 →
      codeAny (model P w) A' (.call (.builtin "set.__init__") ⟨[.ref s.heap.objs.size, x], []⟩) (wants (fun r s2 => r = .none ∧ Q (.ref s.heap.objs.size) s2) E) { s with heap := s.heap.push (newSetO w) }) :
    wpAny (model P w) A (call (.type "set") [x]) Q E s := by
  obtain ⟨c, tl, hmro⟩ := F.called_set.mro
  have hmade := F.called_set.made
  have hsub := F.called_set.sub
  refine wpAny_call (codeAny_of_tree ?_)
  show wpAny _ _ (callAny (.type "set") _) _ _ _
  refine wpAny_pure ⟨Code.quiet_builtin _ (by decide +kernel), codeAny_builtin F.entry_type_call ?_⟩
  rw [Around.under_plain (weight_type_call_type "set" [x] []) rfl]
  have h1 := F.called_set.notType
  have h2 := F.called_set.canCreate
  have hct := F.typeCall_set_1 x
  repeat (any_goals (first | assumption | wp_step))
  refine codeAny_mono (code_set_led1 x (E := E) (Q₁ := fun obj z => obj = .ref s.heap.objs.size ∧ z = { s with heap := s.heap.push (newSetO w) }) ⟨rfl, rfl⟩) fun r z hr => ?_
  rcases r with e | f
  · exact hr
  cases f with
  | ret obj =>
    obtain ⟨rfl, rfl⟩ := hr
    have hT : Shared.TypeIs { s with heap := s.heap.push (newSetO w) } (.ref s.heap.objs.size) "set" := ⟨_, Heap.get?_push_size _ rfl, rfl⟩
    have li := F.called_set.init.lookup
    have bi := F.called_set.init.bind (.ref s.heap.objs.size)
    repeat (any_goals (first | assumption | wp_step))
    refine codeAny_mono (init hT _ (by simp) (by simp)) fun r2 z2 hr2 => ?_
    rcases r2 with e | f2
    · exact hr2
    cases f2 with
    | ret r =>
      obtain ⟨rfl, q⟩ := hr2
      repeat (any_goals (first | assumption | wp_step))
      all_goals exact q
    | _ => exact hr2.elim
  | _ => exact hr.elim

theorem set_init_nk {l : Addr} {items : Array Value} {ks : List Ky} {M : List NK} (hh : A.handled = none) (hl : s.heap.IsList l items) (hit : items.toList = ks.map fun p => Value.ref p.1) (hk : ∀ p ∈ ks, Mem s.heap p.2 p.1) (hM : ∀ p ∈ ks, p.2 ∈ M) (hfew : M.length + 1 < 64) (hu : A.units + 64 < cLine)
    (hT : Shared.TypeIs { s with heap := s.heap.push (newSetO w) } (.ref s.heap.objs.size) "set") :
    codeAny (model P w) A (.call (.builtin "set.__init__") ⟨[.ref s.heap.objs.size, .ref l], []⟩) (wants (fun r z => r = .none ∧ ∃ h' tk L es ep t, z = { s with heap := h', toks := tk } ∧ SetN w h' s.heap.objs.size L es ep t ∧ GotN ks ks.length L ∧ ∀ b o, s.heap.get? b = some o → h'.get? b = some o) E) { s with heap := s.heap.push (newSetO w) } := by
  have hn : items.size = ks.length := by rw [← Array.length_toList, hit, List.length_map]
  refine codeAny_call_builtin F.called_set.init.plain F.entry_set_init (check_set_init_1 hT ?_)
  obtain ⟨⟨oc, od, odt, osl⟩, hol, hcl, nl, hdl⟩ := hl
  simp only at hcl hdl
  subst hcl hdl
  have hol' : (s.heap.push (newSetO w)).get? l = some { cls := .type "list", dict := od, data := .seq items nl, slots := osl } := Heap.get?_push_of_some _ hol
  have q1 := F.sub_list_set
  have q2 := F.sub_list_frozenset
  have q3 : (Value.type "list" == Value.type "dict") = false := by decide
  have hl1 : (s.heap.push (newSetO w)).IsList l items := ⟨_, hol', rfl, nl, rfl⟩
  unfold Builtin.«set.__init__» noKeywords Builtin.Frozenset.updateFrom
  generalize hp : pyIter = PI
  wp_walk
  subst hp
  refine wpAny_pyIter_list hl1 (wpAny_bind (wpAny_runValue ?_))
  have lt := Heap.lt_size hol
  have none_of : ∀ b, s.heap.objs.size ≤ b → s.heap.get? b = none := fun b hb => by
    cases q : s.heap.get? b with
    | none => rfl
    | some o => exact absurd (Nat.lt_of_lt_of_le (Heap.lt_size q) hb) (Nat.lt_irrefl _)
  have hz : (s.heap.push (newSetO w)).objs.size = s.heap.objs.size + 1 := Heap.size_push ..
  refine set_update_nk ((Walks.list (by simp [hh]) _ l (by rw [hz]; exact Nat.ne_of_lt (Nat.lt_succ_of_lt lt)) items).toS) s.heap.objs.size (by
      rw [hz]
      simp only [List.mem_cons, List.not_mem_nil, or_false, not_or]
      exact ⟨Nat.ne_of_lt (Nat.lt_succ_self _), Nat.ne_of_gt lt⟩) ks M hn hfew hM (fun i v hv => ?_) s.heap hk (none_of _ (Nat.le_refl _)) (fun b hb => none_of b (by
      rw [List.mem_singleton.mp hb, hz]
      exact Nat.le_succ _)) (by simp only [Around.in1_units]; omega) (items.size - 0) 0 _ (by omega) (Nat.zero_le _) ⟨⟨_, Heap.get?_push_size _ rfl, rfl, rfl⟩, hl1.push _⟩ (fun b o e => Heap.get?_push_of_some _ (Heap.get?_push_of_some _ e))
      ⟨[], #[], 0, _, SetN.fresh (Heap.get?_push_of_some _ (Heap.get?_push_size _ rfl)), GotN.zero ks⟩ ?_
  · have q : items.toList[i]? = some v := by rw [Array.getElem?_toList]; exact hv
    rw [hit, List.getElem?_map, Option.map_eq_some_iff] at q
    obtain ⟨p, a, b⟩ := q
    exact ⟨p, a, b.symm⟩
  · intro z L es ep t hm hS g kp
    obtain ⟨h', g2, d', tk', os'⟩ := z
    have e1 : g2 = s.gens := hm.gens
    have e2 : d' = s.drawn := hm.drawn
    have e3 : os' = s.os := hm.os
    subst e1 e2 e3
    show wpAny _ _ _ _ _ _
    refine wpAny_pure ?_
    show wpAny _ _ (ret Value.none) _ _ _
    rw [hn] at g
    exact wpAny_pure ⟨rfl, h', tk', L, es, ep, t, rfl, hS, g, kp⟩
end
end DL

namespace DL
open Evl (Ex)
open PySem PySem.Spec PyProof.Rows L2 PySem.W
def rSetNew (K : PySem.W.Frag) (w : World) : List V → Hp → VK → Prop := fun xs H Q => ∃ (l : Addr) (ks : List Ky) (M : List NK), xs = [.ref l] ∧ SqL K H l (ks.map fun p => V.ref p.1) ∧ M.length + 1 < 64 ∧ (∀ p ∈ ks, p.2 ∈ M) ∧ (∀ p ∈ ks, MemV K H p.1 p.2) ∧
  ∀ Dd (L : List Ky), H Dd = none → (∀ p ∈ L, p ∈ ks) → (∀ p ∈ ks, p.2 ∈ L.map (·.2)) → (L.map (·.2)).Nodup → Q (.ref Dd) (upd H Dd (SetNO w Dd L))
theorem vals_kys : ∀ {ks : List Ky} {its : List Value}, Vals (ks.map fun p => V.ref p.1) its → its = ks.map fun p => Value.ref p.1
  | [], _, .nil => rfl
  | k :: ks, _, .cons a b => by
    rw [List.map_cons, ← vals_kys b]
    have e : _ = Value.ref k.1 := a
    rw [e]
section
variable {X : Cx}
theorem cr_setN {k : Nat} (hc : X.calm = true) (hr : Room k X.A) : CallR X (.type "set") (rSetNew X.K X.w) := by
  intro pins s σ H xs us Q I r h
  obtain ⟨l, ks, M, rfl, hq, few, hM, hk, q⟩ := h
  rw [Vals.ref1 r]
  have hu : X.A.units + 200 < cLine := by have := hr.un; omega
  obtain ⟨its, rv, pl, hz⟩ := I.list hq
  have ei := vals_kys rv
  refine set_by (x := .ref l) (F.typeCall_set_1 (.ref l)) fun hT A' hh hu' => codeAny_mono (set_init_nk (E := X.xe) (items := its.toArray) (hh.trans (I.ok.hd hc)) pl.isList (by rw [List.toList_toArray]; exact ei) (fun p hp => hk p hp X pins σ s rfl I) hM few (by omega) hT) fun r z hz2 => ?_
  rcases r with e | f
  · exact hz2
  cases f with
  | ret v =>
    obtain ⟨rfl, h', tk, L, es, ep, t, rfl, hS, g, kp⟩ := hz2
    refine ⟨rfl, .ref s.heap.objs.size, upd H s.heap.objs.size (SetNO X.w s.heap.objs.size L), I.laid (t' := tk) kp (Nat.le_refl _) (setNO_ok hS), rfl, q _ L (I.hok.fresh (Nat.le_refl _)) (fun p hp => ?_) (fun p hp => ?_) hS.nd⟩
    · exact List.mem_of_mem_take (g.sub p hp)
    · exact g.all p (by rw [List.take_length]; exact hp)
  | _ => exact hz2.elim
end
/-! sorted(set(e)) -/
noncomputable def xSetL (fe : XE) : XE := fun s => (fe s).bind fun (r, s1) => match getR s1 r with
  | some (.list acc) => (match setS acc with
    | some out => .ok (.new (.list out), s1)
    | none => .bad)
  | _ => .bad
section
variable {K : PySem.W.Frag} {E : WX} {X : Cx} {F H : Hp}
theorem kys_of {F : Hp} : ∀ {vs : List V} {nks : List NK}, RpAll K F vs (nks.map NestedKey.data) → (∀ k ∈ nks, goodK k) → ∃ ks : List Ky, vs = ks.map (fun p => V.ref p.1) ∧ ks.map (·.2) = nks ∧ ∀ p ∈ ks, Rp K F (.ref p.1) p.2.data
  | _, [], .nil, _ => ⟨[], rfl, rfl, fun p h => (nomatch h)⟩
  | _, k :: nks, .cons a b, g => by
    obtain ⟨bb, rfl⟩ := good_ref a (g k List.mem_cons_self)
    obtain ⟨ks, e1, e2, e3⟩ := kys_of b fun j hj => g j (List.mem_cons_of_mem _ hj)
    refine ⟨(bb, k) :: ks, by rw [List.map_cons, e1], by rw [List.map_cons, e2], fun p hp => ?_⟩
    rcases List.mem_cons.mp hp with rfl | hp
    · exact a
    · exact e3 p hp
theorem sl_sound {w : World} {te : TE} {fe : XE} (he : Snd K E te fe) : Snd K E (tCB (rSortedN K w) (tCons (tCB (rSetNew K w) (tCons te tNil)) tNil)) (xSetL fe) := fun G F T s σ H Q sr w0 => by
  refine he G F T s σ H _ sr (w0.bind.mono (Evl.Ex.refl F) fun ⟨r, s1⟩ w1 F1 T1 H1 v1 e1 sr1 rv1 => ?_)
  dsimp only at w1 sr1 rv1
  split at w1
  case h_2 => exact w1.elim
  rename_i acc q0
  have vw := sr1.view rv1 (Evl.Ex.refl _) (fun _ q => q) q0
  cases ho : setS acc with
  | none => rw [ho] at w1; exact w1.elim
  | some out =>
  rw [ho] at w1
  obtain ⟨nks, M, hks, good, nd, mm, few, sok, srt⟩ := setS_spec ho
  cases vw with
  | lst a b z =>
    rename_i p vs
    subst hks
    obtain ⟨ks, e2, e3, hrp⟩ := kys_of b good
    subst e2
    have hg : ∀ q ∈ ks, goodK q.2 := fun q hq => good _ (by rw [← e3]; exact List.mem_map.mpr ⟨q, hq, rfl⟩)
    have inM : ∀ q ∈ ks, q.2 ∈ M := fun q hq => (mm _).mpr (by rw [← e3]; exact List.mem_map.mpr ⟨q, hq, rfl⟩)
    refine ⟨p, ks, M, rfl, .of a, few, inM, fun q hq => memv_of (hrp q hq) sr1.fh (hg q hq), fun Dd L nD sub all ndL => ?_⟩
    have pmM : (L.map (·.2)).Perm M := (List.perm_ext_iff_of_nodup ndL nd).mpr fun k => by
      constructor
      · intro hk
        obtain ⟨q, hq, rfl⟩ := List.mem_map.mp hk
        exact inM q (sub q hq)
      · intro hk
        have hk := (mm k).mp hk
        rw [← e3] at hk
        obtain ⟨q, hq, rfl⟩ := List.mem_map.mp hk
        exact all q hq
    have sr2 := sr1.grow (o := SetNO w Dd L) nD
    refine ⟨Dd, L, F1, rfl, upd_same, sr2.fh, fun q hq => hrp q (sub q hq), ?_, fun L1 p1 ws p2 np hw => ?_⟩
    · refine sortOk_mem sok fun e he => ?_
      obtain ⟨q, hq, rfl⟩ := List.mem_map.mp he
      exact List.mem_map.mpr ⟨q.2, pmM.mem_iff.mp (List.mem_map.mpr ⟨q, hq, rfl⟩), rfl⟩
    · have eo : (L1.map fun p => p.2.data).mergeSort leD = out := by
        have := srt (L1.map (·.2)) ((p1.map (·.2)).trans pmM)
        rwa [List.map_map] at this
      rw [eo] at hw
      have lo : out.length ≤ line := by
        rw [← eo, List.length_mergeSort, List.length_map, p1.length_eq, ← List.length_map (f := fun p : Ky => p.2), pmM.length_eq]
        unfold line; omega
      obtain ⟨pre, rfl⟩ := rv1.sub
      exact w1 F1 _ _ _ e1 (sr2.dropApp.newList np hw lo) ⟨p2, rfl, rfl⟩
theorem de_sortedSet {k : Nat} {e : Expr} {te : TE} {fe : XE} {p1 p2 q1 pos : Pos} (hc : X.calm = true) (hr : Room k X.A) (hgl : Gl X "sorted") (hm : X.mg "sorted" = none) (hgs : Gl X "set") (hms : X.mg "set" = none) (he : DE X E e te fe)
    (hse : starEach [e] X.env = (false, eval e X.env) :: starEach [] X.env := by rfl) (hst : starEach [.Call (.Name "set" p2) [e] [] q1] X.env = (false, eval (.Call (.Name "set" p2) [e] [] q1) X.env) :: starEach [] X.env := by rfl) :
    DE X E (.Call (.Name "sorted" p1) [.Call (.Name "set" p2) [e] [] q1] [] pos) (tCB (rSortedN X.K X.w) (tCons (tCB (rSetNew X.K X.w) (tCons te tNil)) tNil)) (xSetL fe) :=
  ⟨pe_callB (cr_sortedN hc hr) hgl hm (by decide +kernel) (pa_cons (pe_callTy (cr_setN hc hr) hgs hms (by decide +kernel) (pa_cons he.pe pa_nil hse) (he := hse)) pa_nil hst) (he := hst), sl_sound he.sd⟩
theorem de_mulS {a b : Expr} {ta tb : TE} {fa fb : XE} {pos : Pos} (ha : DE X E a ta fa) (hb : DE X E b tb fb) : DE X E (.BinOp a .Mult b pos) (tOp rMulS ta tb) (xOp2 hMulS fa fb) := ⟨pe_op op_mulS ha.pe hb.pe, snd_op2 o_mulS ha.sd hb.sd⟩
end
end DL

namespace DLL
open Evl (Ex)
open PySem PySem.Spec PyProof.Rows L2 DL
def top (i : Nat) : Stmt := PySem.Challenge.pw_bannedorders_k45_whole_texts_shown.main.body.getD i (.Pass ⟨0, 0, 0, 0⟩)
abbrev st__law_well : Stmt := top 12
abbrev st__law_draw : Stmt := top 13
abbrev st__law_same : Stmt := top 14
abbrev st__law_order : Stmt := top 15
abbrev st__law_list : Stmt := top 16
abbrev st__law_letters : Stmt := top 17
abbrev st__law_machine : Stmt := top 18
abbrev st__law_saying : Stmt := top 19
abbrev st__law_listed : Stmt := top 20
abbrev st__law_said_order : Stmt := top 21
abbrev st__law_said_list : Stmt := top 22
abbrev st__law_said_letter : Stmt := top 23
abbrev st__law_said_word : Stmt := top 24
abbrev st__law_said_machine : Stmt := top 25
abbrev st__law_said_saying : Stmt := top 26
abbrev st__law_thing : Stmt := top 27
abbrev st__law_lowest : Stmt := top 28
abbrev st__law_power : Stmt := top 29
abbrev st__law_number : Stmt := top 30
abbrev st_show_number : Stmt := top 3
abbrev st_listed : Stmt := top 4
abbrev st_show_order : Stmt := top 5
abbrev st_show_list : Stmt := top 6
abbrev st_show_letter : Stmt := top 7
abbrev st_show_word : Stmt := top 8
abbrev st_show_machine : Stmt := top 9
abbrev st_show_saying : Stmt := top 10
abbrev st__law_shown : Stmt := top 31
abbrev st_law : Stmt := top 32
def dd0 : He.DefD := ⟨("_law_well", none), "_law_well", "_law_well", defArgs st__law_well, defBody st__law_well, defScope st__law_well, [], []⟩
def dd1 : He.DefD := ⟨("_law_draw", none), "_law_draw", "_law_draw", defArgs st__law_draw, defBody st__law_draw, defScope st__law_draw, [], []⟩
def dd2 : He.DefD := ⟨("_law_same", none), "_law_same", "_law_same", defArgs st__law_same, defBody st__law_same, defScope st__law_same, [], []⟩
def dd3 : He.DefD := ⟨("_law_order", none), "_law_order", "_law_order", defArgs st__law_order, defBody st__law_order, defScope st__law_order, [], []⟩
def dd4 : He.DefD := ⟨("_law_list", none), "_law_list", "_law_list", defArgs st__law_list, defBody st__law_list, defScope st__law_list, [], []⟩
def dd5 : He.DefD := ⟨("_law_letters", none), "_law_letters", "_law_letters", defArgs st__law_letters, defBody st__law_letters, defScope st__law_letters, [], []⟩
def dd6 : He.DefD := ⟨("_law_machine", none), "_law_machine", "_law_machine", defArgs st__law_machine, defBody st__law_machine, defScope st__law_machine, [], []⟩
def dd7 : He.DefD := ⟨("_law_saying", none), "_law_saying", "_law_saying", defArgs st__law_saying, defBody st__law_saying, defScope st__law_saying, [], []⟩
def dd8 : He.DefD := ⟨("_law_listed", none), "_law_listed", "_law_listed", defArgs st__law_listed, defBody st__law_listed, defScope st__law_listed, [], []⟩
def dd9 : He.DefD := ⟨("_law_said_order", none), "_law_said_order", "_law_said_order", defArgs st__law_said_order, defBody st__law_said_order, defScope st__law_said_order, [], []⟩
def dd10 : He.DefD := ⟨("_law_said_list", none), "_law_said_list", "_law_said_list", defArgs st__law_said_list, defBody st__law_said_list, defScope st__law_said_list, [], []⟩
def dd11 : He.DefD := ⟨("_law_said_letter", none), "_law_said_letter", "_law_said_letter", defArgs st__law_said_letter, defBody st__law_said_letter, defScope st__law_said_letter, [], []⟩
def dd12 : He.DefD := ⟨("_law_said_word", none), "_law_said_word", "_law_said_word", defArgs st__law_said_word, defBody st__law_said_word, defScope st__law_said_word, [], []⟩
def dd13 : He.DefD := ⟨("_law_said_machine", none), "_law_said_machine", "_law_said_machine", defArgs st__law_said_machine, defBody st__law_said_machine, defScope st__law_said_machine, [], []⟩
def dd14 : He.DefD := ⟨("_law_said_saying", none), "_law_said_saying", "_law_said_saying", defArgs st__law_said_saying, defBody st__law_said_saying, defScope st__law_said_saying, [], []⟩
def dd15 : He.DefD := ⟨("_law_thing", none), "_law_thing", "_law_thing", defArgs st__law_thing, defBody st__law_thing, defScope st__law_thing, [], []⟩
def dd16 : He.DefD := ⟨("_law_lowest", none), "_law_lowest", "_law_lowest", defArgs st__law_lowest, defBody st__law_lowest, defScope st__law_lowest, [], []⟩
def dd17 : He.DefD := ⟨("_law_power", none), "_law_power", "_law_power", defArgs st__law_power, defBody st__law_power, defScope st__law_power, [], []⟩
def dd18 : He.DefD := ⟨("_law_number", none), "_law_number", "_law_number", defArgs st__law_number, defBody st__law_number, defScope st__law_number, [], []⟩
def dd19 : He.DefD := ⟨("show_number", none), "show_number", "show_number", defArgs st_show_number, defBody st_show_number, defScope st_show_number, [], []⟩
def dd20 : He.DefD := ⟨("listed", none), "listed", "listed", defArgs st_listed, defBody st_listed, defScope st_listed, [], []⟩
def dd21 : He.DefD := ⟨("show_order", none), "show_order", "show_order", defArgs st_show_order, defBody st_show_order, defScope st_show_order, [], []⟩
def dd22 : He.DefD := ⟨("show_list", none), "show_list", "show_list", defArgs st_show_list, defBody st_show_list, defScope st_show_list, [], []⟩
def dd23 : He.DefD := ⟨("show_letter", none), "show_letter", "show_letter", defArgs st_show_letter, defBody st_show_letter, defScope st_show_letter, [], []⟩
def dd24 : He.DefD := ⟨("show_word", none), "show_word", "show_word", defArgs st_show_word, defBody st_show_word, defScope st_show_word, [], []⟩
def dd25 : He.DefD := ⟨("show_machine", none), "show_machine", "show_machine", defArgs st_show_machine, defBody st_show_machine, defScope st_show_machine, [], []⟩
def dd26 : He.DefD := ⟨("show_saying", none), "show_saying", "show_saying", defArgs st_show_saying, defBody st_show_saying, defScope st_show_saying, [], []⟩
def dd27 : He.DefD := ⟨("_law_shown", none), "_law_shown", "_law_shown", defArgs st__law_shown, defBody st__law_shown, defScope st__law_shown, [], []⟩
def dd28 : He.DefD := ⟨("law", none), "law", "law", defArgs st_law, defBody st_law, defScope st_law, [], []⟩
def fn : List He.DefD := ([dd0, dd1, dd2, dd3, dd4, dd5, dd6, dd7, dd8, dd9, dd10, dd11, dd12, dd13, dd14, dd15, dd16, dd17, dd18, dd19, dd20, dd21, dd22, dd23, dd24, dd25, dd26, dd27, dd28] : List He.DefD)
def fa : List He.Fa := ([.glo "_law_well", .glo "_law_draw", .glo "_law_same", .glo "_law_order", .glo "_law_list", .glo "_law_letters", .glo "_law_machine", .glo "_law_saying", .glo "_law_listed", .glo "_law_said_order", .glo "_law_said_list", .glo "_law_said_letter", .glo "_law_said_word", .glo "_law_said_machine", .glo "_law_said_saying", .glo "_law_thing", .glo "_law_lowest", .glo "_law_power", .glo "_law_number", .glo "show_number", .glo "listed", .glo "show_order", .glo "show_list", .glo "show_letter", .glo "show_word", .glo "show_machine", .glo "show_saying", .glo "_law_shown", .glo "law", .free "abs"] : List He.Fa) ++ ([.free "all", .free "bool", .free "enumerate", .free "int", .free "isinstance", .free "len", .free "list", .free "max", .free "min", .free "range", .free "set", .free "sorted", .free "str", .free "tuple"] : List He.Fa)
def loose : List PySem.Str := (["__name__", "WAYS", "NONE", "show_number", "listed", "show_order", "show_list", "show_letter", "show_word", "show_machine", "show_saying", "_law_well", "_law_draw", "_law_same", "_law_order", "_law_list", "_law_letters", "_law_machine", "_law_saying", "_law_listed", "_law_said_order", "_law_said_list", "_law_said_letter", "_law_said_word", "_law_said_machine", "_law_said_saying", "_law_thing", "_law_lowest", "_law_power", "_law_number"] : List PySem.Str) ++ (["_law_shown"] : List PySem.Str)
abbrev R : PySem.W.OpenRow := PySem.W.OpenLaw.row PySem.Challenge.rw_bannedorders_k45_whole_texts_shown
def cs : List (PySem.Str × PySem.PyData) := [("NONE", .str "-"), ("WAYS", .str "mlrf")]
abbrev hk : PySem.W.Hook := DL.hookC 4 fa fn cs
def ob (s : PySem.W.SharedT) : DL.AlC := DL.obsCG 4 fa fn cs (HandSHeadRun.getT s)
theorem ob_eq (s : PySem.W.SharedT) : ob s = hk.obs s.abs := DL.obsCG_eq (HandSHeadRun.getT_eq s)
theorem run (w : World) : HandSHeadRun.RunEq R (PySem.W.view R.prog [32]) hk ob 4000 loose w := by
  intro os
  kernel_rfl

end DLL

namespace DLS
open Evl (Ex)
open PySem PySem.Spec PyProof.Rows L2 DL
-- _law_deck(script, at) slots 0 script, 1 at, 2 cell, 3 stir
-- neighbours(pattern) slots 0 pattern, 1 found, 2 at, 3 number, 4 lesser, 5 greater, 6 below, 7 above, 8 other
-- placed(order, pattern) slots 0 order, 1 pattern, 2 found, 3 at, 4 longer, 5 places, 6 below, 7 above, 8 least, 9 most, 10 start, 11 stop, 12 place
-- is_integer(value) slots 0 value
-- are_integers(value) slots 0 value, 1 a
-- is_order_of(told) slots 0 told
-- check_order(order) slots 0 order
-- is_pattern(told) slots 0 told
-- check_pattern(pattern) slots 0 pattern
-- places(order, pattern) slots 0 order, 1 pattern
-- turned_of(order) slots 0 order
-- turned(order) slots 0 order
-- mirrored_of(order) slots 0 order, 1 number
-- mirrored(order) slots 0 order
-- inverse_of(order) slots 0 order, 1 number
-- inverse(order) slots 0 order
-- _law_take(deck, many) slots 0 deck, 1 many, 2 taken
-- _law_same(found, due) slots 0 found, 1 due, 2 at
-- _law_drawn(deck, many) slots 0 deck, 1 many, 2 found, 3 j
-- _law_like(cells) slots 0 cells, 1 y, 2 x
-- _law_filled(row, rows) slots 0 row, 1 rows, 2 found, 3 at, 4 less, 5 j, 6 x
-- _law_row(deck, most) slots 0 deck, 1 most, 2 base, 3 at, 4 way, 5 many, 6 straight, 7 rest, 8 rows, 9 more
-- _law_ways(row) slots 0 row, 1 at, 2 many, 3 goal, 4 x
-- _law_right(deck) slots 0 deck, 1 row, 2 little, 3 around, 4 back, 5 across, 6 found, 7 due, 8 small, 9 picks, 10 many, 11 pick, 12 at
-- law(script) slots 0 script, 1 at
end DLS

namespace DLS
open Evl (Ex)
open PySem PySem.Spec PyProof.Rows L2 DL
-- _law_little(deck, row) slots 0 deck, 1 row, 2 size, 3 picks, 4 cells, 5 at, 6 j
-- is_order(told) slots 0 told
-- _law_bent(deck, row) slots 0 deck, 1 row, 2 at, 3 way, 4 x
-- _law_is_row(row) slots 0 row, 1 x
-- is_shown(order, pattern) slots 0 order, 1 pattern
-- shows(order, pattern) slots 0 order, 1 pattern
-- how_many(order, pattern) slots 0 order, 1 pattern
-- _law_picks(many, size) slots 0 many, 1 size, 2 found, 3 turn, 4 longer, 5 pick, 6 start, 7 at
-- _law_places(row, little) slots 0 row, 1 little, 2 pick, 3 at
-- _law_shown_right(row, little) slots 0 row, 1 little, 2 due, 3 found, 4 told_all
end DLS

namespace DLS
open Evl (Ex)
open PySem PySem.Spec PyProof.Rows L2 DL
-- check_filled(order) slots 0 order
-- lifted(order, by) slots 0 order, 1 by, 2 number
-- put_together_of(order, orders) slots 0 order, 1 orders, 2 below, 3 number, 4 found, 5 own, 6 by, 7 other
-- put_together(order, orders) slots 0 order, 1 orders, 2 own
-- _law_blocks(row) slots 0 row, 1 found, 2 start, 3 stop, 4 cells
-- _law_is_simple(row) slots 0 row, 1 block
-- _law_simple(deck) slots 0 deck, 1 some, 2 turn, 3 row
-- blocks_of(order) slots 0 order, 1 found, 2 begin, 3 end, 4 numbers
-- blocks(order) slots 0 order
-- is_simple_of(order) slots 0 order
-- is_simple(order) slots 0 order
-- _law_blocks_right(row) slots 0 row, 1 found, 2 due, 3 simple
-- _law_rows(deck, many, rest) slots 0 deck, 1 many, 2 rest, 3 found, 4 at, 5 more
-- _law_together_right(row, rows, told_row) slots 0 row, 1 rows, 2 told_row, 3 one_row, 4 ends, 5 firsts, 6 cells
-- law(script) slots 0 script, 1 at, 2 deck, 3 row, 4 rows, 5 found, 6 one_row
end DLS

namespace DLS
open Evl (Ex)
open PySem PySem.Spec PyProof.Rows L2 DL
-- is_list(told) slots 0 told, 1 pattern
-- check_list(forbidden) slots 0 forbidden
-- lets_of(forbidden, order) slots 0 forbidden, 1 order, 2 pattern
-- lets(forbidden, order) slots 0 forbidden, 1 order
-- check_number(n) slots 0 n
-- is_pair(value) slots 0 value
-- check_kind(kind) slots 0 kind, 1 way
-- alternation_of(kind, n) slots 0 kind, 1 n, 2 found, 3 lesser, 4 greater, 5 low, 6 high
-- alternation(kind, n) slots 0 kind, 1 n
-- stopping(forbidden, kind) slots 0 forbidden, 1 kind, 2 pattern
-- stops(forbidden, kind) slots 0 forbidden, 1 kind
-- stopped(forbidden) slots 0 forbidden, 1 kind
-- endless_of(forbidden) slots 0 forbidden, 1 kind
-- endless(forbidden) slots 0 forbidden
-- _law_take(pot, many) slots 0 pot, 1 many, 2 cell, 3 told, 4 mixed
abbrev fb_law_take_2 : XS := sSeq (sIf (tAnds (tOf (xOp2 hEq (xOp2 hIx (xVar 0) (xVal (.int 0))) (xVal (.int 0)))) (tOf (xOp2 hLt (xOp2 hIx (xVar 0) (xVal (.int 2))) (xCB hLen (aCons (xVar 0) (aNil)))))) (sSeq (sSet 2 (xOp2 hIx (xVar 0) (xOp2 hIx (xVar 0) (xVal (.int 2))))) (sSeq (sAugS 0 (fun i j => i + j) (xVal (.int 2)) (xVal (.int 1))) (sIf (tOf (xOp2 hGe (xVar 2) (xOp2 hPow (xVal (.int 10)) (xVal (.int 18))))) (sSub 0 (xOp2 hSub (xVar 2) (xOp2 hPow (xVal (.int 10)) (xVal (.int 18)))) (xVal (.int 0))) (sSeq (sSet 4 (xOp2 hMod (xCB hInt (aCons (xVar 2) (aNil))) (xVal (.int 2147483647)))) (sSeq (sSet 4 (xOp2 hMod (xCB hInt (aCons (xOp2 hAdd (xOp2 hAdd (xOp2 hMul (xVar 4) (xVar 4)) (xOp2 hMul (xVal (.int 69621)) (xVar 4))) (xOp2 hMul (xVal (.int 977)) (xOp2 hIx (xVar 0) (xVal (.int 2))))) (aNil))) (xVal (.int 2147483629)))) (sSub 0 (xOp2 hMod (xCB hInt (aCons (xOp2 hAdd (xOp2 hIx (xVar 0) (xVal (.int 1))) (xVar 4)) (aNil))) (xVal (.int 2147483629))) (xVal (.int 1)))))))) (sNil)) (sSeq (sIf (tOf (xOp2 hGt (xOp2 hIx (xVar 0) (xVal (.int 0))) (xVal (.int 0)))) (sSeq (sSet 3 (xOp2 hMod (xCB hInt (aCons (xOp2 hIx (xVar 0) (xVal (.int 0))) (aNil))) (xVar 1))) (sSeq (sSub 0 (xOp2 hDiv (xOp2 hIx (xVar 0) (xVal (.int 0))) (xVar 1)) (xVal (.int 0))) (sRet (xVar 3)))) (sNil)) (sSeq (sSub 0 (xOp2 hMod (xCB hInt (aCons (xOp2 hAdd (xOp2 hAdd (xOp2 hMul (xOp2 hIx (xVar 0) (xVal (.int 1))) (xVal (.int 48271))) (xOp2 hMul (xVal (.int 40692)) (xOp2 hIx (xVar 0) (xVal (.int 2))))) (xVal (.int 11))) (aNil))) (xVal (.int 2147483647))) (xVal (.int 1))) (sSeq (sSub 0 (xOp2 hMod (xCB hInt (aCons (xOp2 hAdd (xOp2 hMul (xOp2 hIx (xVar 0) (xVal (.int 1))) (xOp2 hIx (xVar 0) (xVal (.int 1)))) (xVal (.int 7))) (aNil))) (xVal (.int 2147483629))) (xVal (.int 1))) (sRet (xOp2 hMod (xCB hInt (aCons (xOp2 hDiv (xOp2 hIx (xVar 0) (xVal (.int 1))) (xVal (.int 8))) (aNil))) (xVar 1))))))
def den_law_take_2 : List D → FOut := runF [true, false] 5 fb_law_take_2
-- _law_same(told, due) slots 0 told, 1 due, 2 kinds, 3 k
-- _law_order(pot, n) slots 0 pot, 1 n, 2 order, 3 k, 4 p
-- _law_pattern(pot, most) slots 0 pot, 1 most, 2 sizes
-- _law_list(pot, most, many) slots 0 pot, 1 most, 2 many, 3 rows, 4 k
-- _law_kinds() slots 
-- _law_alternation(kind, n) slots 0 kind, 1 n, 2 rows, 3 numbers, 4 k
-- _law_places(order, pattern) slots 0 order, 1 pattern, 2 rows, 3 k, 4 longer, 5 row, 6 p, 7 j
-- _law_stopped(forbidden) slots 0 forbidden, 1 rows, 2 kind, 3 some, 4 pattern
-- _law_alternating(pot) slots 0 pot, 1 rows, 2 turn, 3 n, 4 order, 5 some, 6 a
-- law(script) slots 0 script, 1 pot, 2 kind, 3 turn, 4 n, 5 due, 6 forbidden, 7 dues, 8 open_kinds, 9 first, 10 longest, 11 pattern
end DLS

namespace DLS
open Evl (Ex)
open PySem PySem.Spec PyProof.Rows L2 DL
-- is_form(told) slots 0 told, 1 at, 2 number
-- check_form(form) slots 0 form
-- slots_of(form) slots 0 form
-- slots(form) slots 0 form
-- letters_of(form) slots 0 form, 1 slot, 2 way
-- letters(form) slots 0 form
-- is_letter(told) slots 0 told
-- put_of(form, letter) slots 0 form, 1 letter, 2 at, 3 number, 4 filled, 5 slot, 6 way, 7 place
-- put(form, letter) slots 0 form, 1 letter
-- led_of(word) slots 0 word, 1 form, 2 letter
-- led(word) slots 0 word, 1 found
-- _law_put(form, letter) slots 0 form, 1 letter, 2 at, 3 s, 4 way, 5 number, 6 k
-- _law_letters(form) slots 0 form, 1 rows, 2 s, 3 way, 4 a
-- _law_led(word) slots 0 word, 1 form, 2 letter
-- _law_drawn_form(pot, numbers, most) slots 0 pot, 1 numbers, 2 most, 3 k, 4 form, 5 word, 6 rows, 7 letter, 8 longer
-- _law_made_form(pot) slots 0 pot, 1 number, 2 rows, 3 numbers
-- _law_odd_form(pot, form) slots 0 pot, 1 form, 2 odd
-- law(script) slots 0 script, 1 pot, 2 turn, 3 told, 4 here, 5 form, 6 word, 7 letter, 8 many, 9 rows, 10 due
end DLS

namespace DLS
open Evl (Ex)
open PySem PySem.Spec PyProof.Rows L2 DL
-- lengthened(order) slots 0 order, 1 many, 2 at
-- let_orders(forbidden, n) slots 0 forbidden, 1 n, 2 found, 3 _turn, 4 shorter, 5 order
-- let_of(forbidden, n) slots 0 forbidden, 1 n
-- is_finite(forbidden) slots 0 forbidden, 1 rising, 2 falling, 3 pattern
-- _law_lets(forbidden, order) slots 0 forbidden, 1 order, 2 pattern
-- _law_longer(orders_now) slots 0 orders_now, 1 rows, 2 order, 3 p
-- _law_let_orders(forbidden, n) slots 0 forbidden, 1 n, 2 lots, 3 size, 4 order
-- _law_sorted(patterns) slots 0 patterns, 1 rows, 2 k, 3 pattern
-- _law_least(patterns) slots 0 patterns, 1 rows, 2 pattern
-- _law_ends(pot) slots 0 pot, 1 rows, 2 rising, 3 falling
-- _law_is_finite(forbidden) slots 0 forbidden, 1 rising, 2 falling, 3 pattern
-- law(script) slots 0 script, 1 pot, 2 turn, 3 forbidden, 4 lots, 5 due, 6 told, 7 n, 8 most
end DLS

namespace DLS
open Evl (Ex)
open PySem PySem.Spec PyProof.Rows L2 DL
-- sorted_patterns(patterns) slots 0 patterns, 1 size, 2 pattern
-- least_of(patterns) slots 0 patterns, 1 found, 2 pattern
-- least(forbidden) slots 0 forbidden
-- _law_odd_list(pot) slots 0 pot, 1 odd
-- law(script) slots 0 script, 1 pot, 2 turn, 3 forbidden, 4 due, 5 told, 6 look, 7 order, 8 due_one
end DLS

namespace DLS
open Evl (Ex)
open PySem PySem.Spec PyProof.Rows L2 DL
-- turned_list(forbidden) slots 0 forbidden, 1 pattern
-- mirrored_list(forbidden) slots 0 forbidden, 1 pattern
-- inverse_list(forbidden) slots 0 forbidden, 1 pattern
-- _law_turned(order, way) slots 0 order, 1 way, 2 a
-- law(script) slots 0 script, 1 pot, 2 turn, 3 forbidden, 4 dues, 5 told, 6 back, 7 way, 8 order, 9 pattern
end DLS

namespace DLS
open Evl (Ex)
open PySem PySem.Spec PyProof.Rows L2 DL
-- is_within(one, other) slots 0 one, 1 other, 2 pattern
-- lies_within(one, other) slots 0 one, 1 other
-- same(one, other) slots 0 one, 1 other
-- parting(one, other) slots 0 one, 1 other, 2 pattern
-- _law_second(pot, forbidden) slots 0 pot, 1 forbidden, 2 way, 3 at, 4 pattern, 5 p, 6 longer
-- _law_orders(most) slots 0 most, 1 size, 2 lots, 3 rows
-- law(script) slots 0 script, 1 pot, 2 turn, 3 one, 4 other, 5 most, 6 lists, 7 order, 8 told, 9 first, 10 firsts, 11 here, 12 pattern
end DLS

namespace DLS
open Evl (Ex)
open PySem PySem.Spec PyProof.Rows L2 DL
-- is_sum(order) slots 0 order, 1 at
-- is_summed(forbidden) slots 0 forbidden, 1 pattern
-- is_skew_summed(forbidden) slots 0 forbidden, 1 pattern
-- _law_sum(one, other, skew) slots 0 one, 1 other, 2 skew, 3 a
-- _law_whole_list(pot) slots 0 pot, 1 turn, 2 rows, 3 skew, 4 pattern, 5 ends, 6 some, 7 k
-- _law_is_summed(lots, least_one, most, skew) slots 0 lots, 1 least_one, 2 most, 3 skew, 4 size, 5 one, 6 total, 7 other
-- law(script) slots 0 script, 1 pot, 2 turn, 3 forbidden, 4 least_one, 5 most, 6 lots, 7 due, 8 told, 9 skew, 10 rows, 11 one, 12 other, 13 pattern
end DLS

namespace DLS
open Evl (Ex)
open PySem PySem.Spec PyProof.Rows L2 DL
-- compared(numbers) slots 0 numbers, 1 rank, 2 at, 3 number
-- pattern_of(numbers) slots 0 numbers, 1 number
-- _law_judged(deck, row) slots 0 deck, 1 row, 2 bent, 3 due, 4 found, 5 j, 6 cells, 7 far
-- law(script) slots 0 script, 1 at, 2 deck, 3 row, 4 turn
end DLS

namespace DLS
open Evl (Ex)
open PySem PySem.Spec PyProof.Rows L2 DL
-- begun(form, many) slots 0 form, 1 many, 2 found, 3 left, 4 number
-- with_numbers(form, numbers) slots 0 form, 1 numbers, 2 number, 3 found, 4 at
-- filling_of(forbidden, form) slots 0 forbidden, 1 form, 2 rows, 3 count, 4 many, 5 least, 6 row, 7 part, 8 longer, 9 number
-- check_form_of_list(forbidden, form) slots 0 forbidden, 1 form
-- filling(forbidden, form) slots 0 forbidden, 1 form
-- is_open(forbidden, form) slots 0 forbidden, 1 form
-- _law_filled(form, row, part) slots 0 form, 1 row, 2 part, 3 a, 4 numbers, 5 k
-- _law_filling(forbidden, form) slots 0 forbidden, 1 form, 2 rows, 3 k, 4 row, 5 low, 6 many, 7 longer, 8 order, 9 a
-- _law_word(order) slots 0 order, 1 rows, 2 number, 3 k, 4 s, 5 left, 6 right, 7 way, 8 p, 9 starts
-- _law_let_form(pot, forbidden) slots 0 pot, 1 forbidden, 2 order, 3 k, 4 word, 5 rows, 6 one
-- _law_end(pot, form) slots 0 pot, 1 form, 2 k, 3 rows, 4 s, 5 way
-- _law_shut(pot) slots 0 pot, 1 a, 2 rows, 3 pattern, 4 form, 5 b, 6 order, 7 one
-- law(script) slots 0 script, 1 turn, 2 pot, 3 asked, 4 forbidden, 5 look, 6 form, 7 due, 8 told
end DLS

namespace DLS
open Evl (Ex)
open PySem PySem.Spec PyProof.Rows L2 DL
-- check_filled_order(order) slots 0 order
-- word_found(order) slots 0 order, 1 found, 2 number, 3 at, 4 to_come, 5 begins, 6 has_left, 7 has_right, 8 own, 9 place
-- word_of(order) slots 0 order
-- order_found(word) slots 0 word, 1 form
-- order_of(word) slots 0 word, 1 found
-- widest(order) slots 0 order, 1 word, 2 at
-- _law_whole_words(n) slots 0 n, 1 k, 2 rows, 3 ends, 4 longer, 5 word, 6 form, 7 letter, 8 there
-- law(script) slots 0 script, 1 pot, 2 turn, 3 rows, 4 order, 5 word, 6 told, 7 most, 8 n, 9 seen, 10 form, 11 k
end DLS

namespace DLS
open Evl (Ex)
open PySem PySem.Spec PyProof.Rows L2 DL
-- is_sorter(told) slots 0 told
-- check_sorter(sorter) slots 0 sorter
-- check_order(order) slots 0 order
-- by_stack(order) slots 0 order, 1 number, 2 left, 3 stack
-- by_popper(order) slots 0 order, 1 number, 2 left, 3 stack
-- merged(one, other) slots 0 one, 1 other, 2 left, 3 i, 4 j
-- by_queues(order) slots 0 order, 1 rows, 2 number, 3 free, 4 row
-- by_bubble(order) slots 0 order, 1 left, 2 number
-- made_by(sorter, order) slots 0 sorter, 1 order
-- made(sorter, order) slots 0 sorter, 1 order
-- _law_well(script, place) slots 0 script, 1 place, 2 cell
-- _law_dip(well, many) slots 0 well, 1 many, 2 mixed, 3 figure
noncomputable abbrev fb_law_dip : XS := sSeq (sIf (tOf (xOp2 hGt (xOp2 hIx (xVar 0) (xVal (.int 0))) (xVal (.int 0)))) (sSeq (sSet 3 (xOp2 hMod (xCB hInt (aCons (xOp2 hIx (xVar 0) (xVal (.int 0))) (aNil))) (xVar 1))) (sSeq (sSub 0 (xOp2 hDiv (xOp2 hIx (xVar 0) (xVal (.int 0))) (xVar 1)) (xVal (.int 0))) (sRet (xVar 3)))) (sNil)) (sSeq (sSub 0 (xOp2 hAdd (xOp2 hIx (xVar 0) (xVal (.int 2))) (xVal (.int 1))) (xVal (.int 2))) (sSeq (sSet 2 (xOp2 hMod (xOp2 hPowW (xCB hInt (aCons (xOp2 hAdd (xOp2 hIx (xVar 0) (xVal (.int 1))) (xOp2 hMul (xVal (.int 1000003)) (xOp2 hIx (xVar 0) (xVal (.int 2))))) (aNil))) (xVal (.int 3))) (xOp2 hAdd (xOp2 hPow (xVal (.int 10)) (xVal (.int 25))) (xVal (.int 13))))) (sSeq (sSet 2 (xOp2 hMod (xOp2 hPowW (xCB hInt (aCons (xOp2 hAdd (xVar 2) (xOp2 hMul (xVal (.int 77347)) (xOp2 hIx (xVar 0) (xVal (.int 2))))) (aNil))) (xVal (.int 2))) (xOp2 hAdd (xOp2 hPow (xVal (.int 10)) (xVal (.int 24))) (xVal (.int 7))))) (sRet (xOp2 hMod (xCB hInt (aCons (xOp2 hDiv (xVar 2) (xVal (.int 4096))) (aNil))) (xVar 1))))))
noncomputable def den_law_dip : List D → FOut := runF [true, false] 4 fb_law_dip
-- _law_same(told, due) slots 0 told, 1 due, 2 kind, 3 spot
-- _law_stack(order) slots 0 order, 1 number, 2 found, 3 stack
-- _law_popper(order) slots 0 order, 1 number, 2 found, 3 stack
-- _law_queues(order) slots 0 order, 1 number, 2 one, 3 other, 4 found
-- _law_bubble(order) slots 0 order, 1 number, 2 held, 3 found
-- _law_made(sorter, order) slots 0 sorter, 1 order
-- _law_order(well, n) slots 0 well, 1 n, 2 left, 3 found
-- _law_near(well) slots 0 well, 1 n, 2 order, 3 turn, 4 kept, 5 at, 6 other
-- risen(n) slots 0 n
-- does_sort(sorter, order) slots 0 sorter, 1 order
-- sorts(sorter, order) slots 0 sorter, 1 order
-- _law_right(sorter, order, named) slots 0 sorter, 1 order, 2 named, 3 due, 4 told, 5 found
-- law(script) slots 0 script, 1 asked, 2 spot, 3 well, 4 turn, 5 sorter, 6 order, 7 again
end DLS

namespace DLS
open Evl (Ex)
open PySem PySem.Spec PyProof.Rows L2 DL
-- list_of(sorter) slots 0 sorter
-- _law_orders(n) slots 0 n, 1 found, 2 turn, 3 further, 4 row, 5 number
-- _law_lists() slots 0 found
-- _law_shows(order, pattern) slots 0 order, 1 pattern, 2 rows, 3 row, 4 at, 5 place, 6 k
-- _law_lets(forbidden, order) slots 0 forbidden, 1 order, 2 pattern
-- _law_let(well, forbidden, n) slots 0 well, 1 forbidden, 2 n, 3 order, 4 size, 5 found, 6 turn, 7 places, 8 first, 9 at, 10 height, 11 row, 12 number
-- _law_exchanged(order, at, other) slots 0 order, 1 at, 2 other, 3 things
-- _law_right(sorter, forbidden, order) slots 0 sorter, 1 forbidden, 2 order, 3 due
-- law(script) slots 0 script, 1 spot, 2 sorter, 3 forbidden, 4 n, 5 well, 6 order, 7 at, 8 other
end DLS

namespace DLS
open Evl (Ex)
open PySem PySem.Spec PyProof.Rows L2 DL
-- _law_forbidden(well, most, size) slots 0 well, 1 most, 2 size, 3 found, 4 turn
-- _law_deep(saying) slots 0 saying, 1 deep, 2 rows, 3 one, 4 further
-- _law_leaf(well, most, size) slots 0 well, 1 most, 2 size, 3 saying, 4 turn
-- _law_within(well) slots 0 well, 1 some, 2 pair, 3 part, 4 more
-- _law_saying(well) slots 0 well, 1 way, 2 other, 3 saying, 4 most, 5 parts, 6 side, 7 part, 8 pattern
-- _law_near(well) slots 0 well, 1 n, 2 order, 3 turn, 4 number
-- is_told(told) slots 0 told, 1 word, 2 parts
-- check_saying(saying) slots 0 saying
-- changed(word, order) slots 0 word, 1 order
-- means(saying, order) slots 0 saying, 1 order, 2 word, 3 first
-- is_meant(saying, order) slots 0 saying, 1 order
-- _law_turned(word, order) slots 0 word, 1 order, 2 number
-- _law_means(saying, order) slots 0 saying, 1 order, 2 word, 3 part
-- _law_right(saying, order, named) slots 0 saying, 1 order, 2 named, 3 due, 4 word
-- law(script) slots 0 script, 1 asked, 2 spot, 3 well, 4 turn, 5 saying, 6 order, 7 most
end DLS

namespace DLS
open Evl (Ex)
open PySem PySem.Spec PyProof.Rows L2 DL
-- orders_of(n) slots 0 n
-- orders(n) slots 0 n
-- lot_told(saying, n) slots 0 saying, 1 n, 2 word, 3 first, 4 other, 5 known, 6 order
-- lot_of(saying, n) slots 0 saying, 1 n
-- _law_right(saying, n) slots 0 saying, 1 n, 2 some, 3 order, 4 due, 5 told
-- law(script) slots 0 script, 1 spot, 2 well, 3 turn, 4 n, 5 saying, 6 most
end DLS

namespace DLS
open Evl (Ex)
open PySem PySem.Spec PyProof.Rows L2 DL
-- passes(sorter, order) slots 0 sorter, 1 order, 2 n
-- least_unsorted(sorter, n) slots 0 sorter, 1 n, 2 found, 3 many, 4 some, 5 order, 6 pattern
-- _law_passes(sorter, order) slots 0 sorter, 1 order, 2 risen_v, 3 turn
-- _law_less(order, at) slots 0 order, 1 at, 2 gone, 3 number
-- _law_unsorted(sorter, n) slots 0 sorter, 1 n, 2 size, 3 good, 4 found, 5 order, 6 risen_v, 7 clean, 8 at
-- law(script) slots 0 script, 1 spot, 2 well, 3 sorter, 4 n, 5 turn, 6 due, 7 told, 8 order
end DLS

namespace DLS
open Evl (Ex)
open PySem PySem.Spec PyProof.Rows L2 DL
-- met(one, other) slots 0 one, 1 other
-- joined_of(one, other) slots 0 one, 1 other, 2 most, 3 found, 4 size, 5 order, 6 pattern
-- joined(one, other) slots 0 one, 1 other
-- changed_list(word, forbidden) slots 0 word, 1 forbidden
-- meaning_of(saying) slots 0 saying, 1 word, 2 first, 3 other
-- meaning(saying) slots 0 saying
-- _law_least(saying, most) slots 0 saying, 1 most, 2 size, 3 good, 4 found, 5 order, 6 at
-- _law_alike(saying) slots 0 saying, 1 found, 2 word
-- _law_pairs(one, other) slots 0 one, 1 other, 2 found, 3 word
-- law(script) slots 0 script, 1 spot, 2 well, 3 one, 4 due, 5 saying, 6 turn, 7 n, 8 other, 9 first, 10 second, 11 both, 12 order, 13 row
end DLS

namespace DLS
open Evl (Ex)
open PySem PySem.Spec PyProof.Rows L2 DL
-- _law_all(many) slots 0 many, 1 found, 2 j, 3 longer, 4 row, 5 at
-- shown_of(order, n) slots 0 order, 1 n, 2 numbers
-- parts_of(order, n) slots 0 order, 1 n
-- _law_parts(row, size) slots 0 row, 1 size, 2 found, 3 pick, 4 at
-- _law_parts_right(deck) slots 0 deck, 1 due, 2 found, 3 turn, 4 row, 5 size, 6 little, 7 less, 8 least
-- law(script) slots 0 script, 1 at, 2 deck, 3 many, 4 due, 5 found
end DLS

namespace DLS
open Evl (Ex)
open PySem PySem.Spec PyProof.Rows L2 DL
-- _law_well(_law_script, _law_place) slots 0 _law_script, 1 _law_place, 2 _law_cell
noncomputable abbrev fb_law_well_2 : XS := sSeq (sSet 2 (xIf (tOf (xOp2 hLt (xVar 1) (xCB hLen (aCons (xVar 0) (aNil))))) (xCB hInt (aCons (xOp2 hIx (xVar 0) (xVar 1)) (aNil))) (xOp2 hAdd (xOp2 hMul (xVar 1) (xVal (.int 104723))) (xOp2 hMul (xCB hLen (aCons (xVar 0) (aNil))) (xVal (.int 15485863)))))) (sRet (xLst (aCons (xCB hMax2 (aCons (xVal (.int 0)) (aCons (xOp2 hSub (xCB hAbs (aCons (xVar 2) (aNil))) (xOp2 hPow (xVal (.int 10)) (xVal (.int 18)))) (aNil)))) (aCons (xOp2 hMod (xCB hInt (aCons (xOp2 hAdd (xOp2 hAdd (xOp2 hMul (xVar 2) (xVal (.int 86028157))) (xOp2 hMul (xVar 1) (xVal (.int 179424691)))) (xVal (.int 7919))) (aNil))) (xOp2 hAdd (xOp2 hPow (xVal (.int 10)) (xVal (.int 25))) (xVal (.int 13)))) (aCons (xVal (.int 0)) (aNil))))))
noncomputable def den_law_well_2 : List D → FOut := runF [false, false] 3 fb_law_well_2
-- _law_draw(_law_well_here, _law_many) slots 0 _law_well_here, 1 _law_many, 2 _law_mixed, 3 _law_found
noncomputable abbrev fb_law_draw : XS := sSeq (sIf (tOf (xOp2 hGt (xOp2 hIx (xVar 0) (xVal (.int 0))) (xVal (.int 0)))) (sSeq (sSet 3 (xOp2 hMod (xCB hInt (aCons (xOp2 hIx (xVar 0) (xVal (.int 0))) (aNil))) (xVar 1))) (sSeq (sSub 0 (xOp2 hDiv (xOp2 hIx (xVar 0) (xVal (.int 0))) (xVar 1)) (xVal (.int 0))) (sRet (xVar 3)))) (sNil)) (sSeq (sSub 0 (xOp2 hAdd (xOp2 hIx (xVar 0) (xVal (.int 2))) (xVal (.int 1))) (xVal (.int 2))) (sSeq (sSet 2 (xOp2 hMod (xCB hInt (aCons (xOp2 hPowW (xOp2 hAdd (xOp2 hIx (xVar 0) (xVal (.int 1))) (xOp2 hMul (xVal (.int 49979693)) (xOp2 hIx (xVar 0) (xVal (.int 2))))) (xVal (.int 3))) (aNil))) (xOp2 hAdd (xOp2 hPow (xVal (.int 10)) (xVal (.int 29))) (xVal (.int 319))))) (sSeq (sSet 2 (xOp2 hMod (xCB hInt (aCons (xOp2 hPowW (xOp2 hAdd (xVar 2) (xVal (.int 2038074751))) (xVal (.int 3))) (aNil))) (xOp2 hAdd (xOp2 hPow (xVal (.int 10)) (xVal (.int 33))) (xVal (.int 33))))) (sRet (xOp2 hMod (xCB hInt (aCons (xOp2 hDiv (xVar 2) (xOp2 hPow (xVal (.int 10)) (xVal (.int 6)))) (aNil))) (xVar 1))))))
noncomputable def den_law_draw : List D → FOut := runF [true, false] 4 fb_law_draw
-- _law_same(_law_told, _law_due) slots 0 _law_told, 1 _law_due, 2 _law_k
noncomputable abbrev fb_law_same_4 (den : List D → FOut) : XS := sSeq (sIf (tOf (xOp2 hIs (xVar 1) (xVal .none))) (sRet (xOp2 hIs (xVar 0) (xVal .none))) (sNil)) (sSeq (sIf (tOf (xIsi (isTy .bool) (xVar 1))) (sRet (xIf (tOf (xVar 1)) (xOp2 hIsB (xVar 0) (xVal (.bool true))) (xOp2 hIsB (xVar 0) (xVal (.bool false))))) (sNil)) (sSeq (sIf (tOf (xIsi (isTy .int) (xVar 1))) (sRet (xAnd (xIsi (isTy .int) (xVar 0)) (xAnd (xNot (xIsi (isTy .bool) (xVar 0))) (xOp2 hEq (xVar 0) (xVar 1))))) (sNil)) (sSeq (sIf (tOf (xIsi (isTy .str) (xVar 1))) (sRet (xAnd (xIsi (isTy .str) (xVar 0)) (xOp2 hEq (xVar 0) (xVar 1)))) (sNil)) (sSeq (sIf (tOrs (tOf (xOp2 hNe (xIsi (isTy .tup) (xVar 1)) (xIsi (isTy .tup) (xVar 0)))) (tOf (xOp2 hNe (xIsi (isTy .lst) (xVar 1)) (xIsi (isTy .lst) (xVar 0))))) (sRet (xVal (.bool false))) (sNil)) (sRet (xAnd (xOp2 hEq (xCB hLen (aCons (xVar 0) (aNil))) (xCB hLen (aCons (xVar 1) (aNil)))) (xCB hAll (aCons (xLc [2] (xRng1 (xCB hLen (aCons (xVar 1) (aNil)))) (gN 2) (tTrue) (xCall [false, false] den (aCons (xOp2 hIx (xVar 0) (xVar 2)) (aCons (xOp2 hIx (xVar 1) (xVar 2)) (aNil))))) (aNil)))))))))
noncomputable def denN_law_same_4 : Nat → List D → FOut
  | 0 => fun _ => .bad
  | n + 1 => runF [false, false] 3 (fb_law_same_4 (denN_law_same_4 n))
noncomputable abbrev den_law_same_4 : List D → FOut := denN_law_same_4 12
-- _law_order(_law_well_here, _law_many) slots 0 _law_well_here, 1 _law_many, 2 _law_turn, 3 _law_left, 4 _law_found
noncomputable abbrev fb_law_order_3 : XS := sSeq (sPar [3, 4] (aCons (xLstI (xRng2 (xVal (.int 1)) (xOp2 hAdd (xVar 1) (xVal (.int 1))))) (aCons (xLst (aNil)) (aNil)))) (sSeq (sFor (xRng1 (xVar 1)) (gN 2) (sExpr (xMut 4 mApp (aCons (xMut 3 mPopAt (aCons (xCall [true, false] den_law_draw (aCons (xVar 0) (aCons (xCB hLen (aCons (xVar 3) (aNil))) (aNil)))) (aNil))) (aNil))))) (sRet (xCB hTuple (aCons (xVar 4) (aNil)))))
noncomputable def den_law_order_3 : List D → FOut := runF [true, false] 5 fb_law_order_3
-- _law_list(_law_well_here, _law_most, _law_things) slots 0 _law_well_here, 1 _law_most, 2 _law_things, 3 _law_found, 4 _law_turn
noncomputable abbrev fb_law_list_2 : XS := sSeq (sSet 3 (xLst (aNil))) (sSeq (sFor (xRng1 (xCall [true, false] den_law_draw (aCons (xVar 0) (aCons (xOp2 hAdd (xVar 1) (xVal (.int 1))) (aNil))))) (gN 4) (sExpr (xMut 3 mApp (aCons (xCall [true, false] den_law_order_3 (aCons (xVar 0) (aCons (xOp2 hAdd (xVal (.int 1)) (xCall [true, false] den_law_draw (aCons (xVar 0) (aCons (xVar 2) (aNil))))) (aNil)))) (aNil))))) (sRet (xCB hTuple (aCons (xVar 3) (aNil)))))
noncomputable def den_law_list_2 : List D → FOut := runF [true, false, false] 5 fb_law_list_2
-- _law_letters(_law_well_here, _law_many) slots 0 _law_well_here, 1 _law_many, 2 _law_found, 3 _law_turn, 4 _law_slot
noncomputable abbrev fb_law_letters_2 : XS := sSeq (sSet 2 (xLst (aNil))) (sSeq (sFor (xRng1 (xVar 1)) (gN 3) (sSeq (sSet 4 (xOp2 hAdd (xVal (.int 1)) (xCall [true, false] den_law_draw (aCons (xVar 0) (aCons (xOp2 hIx (xLst (aCons (xVal (.int 1)) (aCons (xVal (.int 3)) (aCons (xVal (.int 12)) (aCons (xVal (.int 999999999)) (aCons (xOp2 hPow (xVal (.int 10)) (xVal (.int 30))) (aNil))))))) (xCall [true, false] den_law_draw (aCons (xVar 0) (aCons (xVal (.int 5)) (aNil))))) (aNil)))))) (sExpr (xMut 2 mApp (aCons (xTup (aCons (xVar 4) (aCons (xCall [true, false] den_law_draw (aCons (xVar 0) (aCons (xVal (.int 4)) (aNil)))) (aNil)))) (aNil)))))) (sRet (xVar 2)))
noncomputable def den_law_letters_2 : List D → FOut := runF [true, false] 5 fb_law_letters_2
-- _law_machine(_law_well_here, _law_most) slots 0 _law_well_here, 1 _law_most, 2 _law_state, 3 _law_ends, 4 _law_many, 5 _law_rows, 6 _law_letters_here, 7 _law_letter
noncomputable abbrev fb_law_machine : XS := sSeq (sPar [4, 5] (aCons (xOp2 hAdd (xVal (.int 1)) (xCall [true, false] den_law_draw (aCons (xVar 0) (aCons (xVar 1) (aNil))))) (aCons (xLst (aNil)) (aNil)))) (sSeq (sFor (xRng1 (xVar 4)) (gN 2) (sSeq (sSet 6 (xSetL (xCall [true, false] den_law_letters_2 (aCons (xVar 0) (aCons (xOp2 hIx (xLst (aCons (xVal (.int 0)) (aCons (xVal (.int 1)) (aCons (xVal (.int 2)) (aCons (xVal (.int 6)) (aCons (xVal (.int 12)) (aNil))))))) (xCall [true, false] den_law_draw (aCons (xVar 0) (aCons (xVal (.int 5)) (aNil))))) (aNil)))))) (sExpr (xMut 5 mApp (aCons (xCB hTuple (aCons (xLc [7] (xSeq (xVar 6)) (gN 7) (tTrue) (xTup (aCons (xVar 7) (aCons (xCall [true, false] den_law_draw (aCons (xVar 0) (aCons (xVar 4) (aNil)))) (aNil))))) (aNil))) (aNil)))))) (sSeq (sSet 3 (xLc [2] (xRng1 (xVar 4)) (gN 2) (tOf (xOp2 hEq (xCall [true, false] den_law_draw (aCons (xVar 0) (aCons (xVal (.int 3)) (aNil)))) (xVal (.int 0)))) (xVar 2))) (sRet (xTup (aCons (xCB hTuple (aCons (xVar 5) (aNil))) (aCons (xCB hTuple (aCons (xVar 3) (aNil))) (aNil)))))))
noncomputable def den_law_machine : List D → FOut := runF [true, false] 8 fb_law_machine
-- _law_saying(_law_well_here, _law_deep) slots 0 _law_well_here, 1 _law_deep, 2 _law_way, 3 _law_parts, 4 _law_turned
noncomputable abbrev fb_law_saying_2 (den : List D → FOut) : XS := sSeq (sSet 2 (xIf (tOf (xOp2 hGt (xVar 1) (xVal (.int 1)))) (xCall [true, false] den_law_draw (aCons (xVar 0) (aCons (xVal (.int 7)) (aNil)))) (xCall [true, false] den_law_draw (aCons (xVar 0) (aCons (xVal (.int 2)) (aNil)))))) (sSeq (sIf (tOf (xOp2 hEq (xVar 2) (xVal (.int 0)))) (sRet (xTup (aCons (xVal (.str "list")) (aCons (xCall [true, false, false] den_law_list_2 (aCons (xVar 0) (aCons (xOp2 hIx (xLst (aCons (xVal (.int 2)) (aCons (xVal (.int 2)) (aCons (xVal (.int 5)) (aCons (xVal (.int 20)) (aNil)))))) (xCall [true, false] den_law_draw (aCons (xVar 0) (aCons (xVal (.int 4)) (aNil))))) (aCons (xOp2 hIx (xLst (aCons (xVal (.int 5)) (aCons (xVal (.int 5)) (aCons (xVal (.int 40)) (aNil))))) (xCall [true, false] den_law_draw (aCons (xVar 0) (aCons (xVal (.int 3)) (aNil))))) (aNil))))) (aNil))))) (sNil)) (sSeq (sIf (tOf (xOp2 hEq (xVar 2) (xVal (.int 1)))) (sRet (xTup (aCons (xVal (.str "sorted")) (aCons (xOp2 hIx (xLst (aCons (xVal (.str "stack")) (aCons (xVal (.str "popper")) (aCons (xVal (.str "queues")) (aCons (xVal (.str "bubble")) (aNil)))))) (xCall [true, false] den_law_draw (aCons (xVar 0) (aCons (xVal (.int 4)) (aNil))))) (aNil))))) (sNil)) (sSeq (sIf (tOf (xOp2 hLt (xVar 2) (xVal (.int 5)))) (sRet (xTup (aCons (xOp2 hIx (xLst (aCons (xVal (.str "turned")) (aCons (xVal (.str "mirrored")) (aCons (xVal (.str "inverse")) (aNil))))) (xOp2 hSub (xVar 2) (xVal (.int 2)))) (aCons (xCall [true, false] den (aCons (xVar 0) (aCons (xOp2 hSub (xVar 1) (xVal (.int 1))) (aNil)))) (aNil))))) (sNil)) (sSeq (sSet 3 (xLst (aCons (xCall [true, false] den (aCons (xVar 0) (aCons (xOp2 hSub (xVar 1) (xVal (.int 1))) (aNil)))) (aCons (xCall [true, false] den (aCons (xVar 0) (aCons (xCB hMin2 (aCons (xOp2 hSub (xVar 1) (xVal (.int 1))) (aCons (xVal (.int 2)) (aNil)))) (aNil)))) (aNil))))) (sSeq (sSet 4 (xCall [true, false] den_law_draw (aCons (xVar 0) (aCons (xVal (.int 2)) (aNil))))) (sRet (xTup (aCons (xOp2 hIx (xLst (aCons (xVal (.str "both")) (aCons (xVal (.str "either")) (aNil)))) (xOp2 hSub (xVar 2) (xVal (.int 5)))) (aCons (xOp2 hIx (xVar 3) (xVar 4)) (aCons (xOp2 hIx (xVar 3) (xOp2 hSub (xVal (.int 1)) (xVar 4))) (aNil)))))))))))
noncomputable def denN_law_saying_2 : Nat → List D → FOut
  | 0 => fun _ => .bad
  | n + 1 => runF [true, false] 5 (fb_law_saying_2 (denN_law_saying_2 n))
noncomputable abbrev den_law_saying_2 : List D → FOut := denN_law_saying_2 12
-- _law_listed(_law_words, _law_between) slots 0 _law_words, 1 _law_between
noncomputable abbrev fb_law_listed : XS := sRet (xIf (tOf (xOp2 hNe (xVar 0) (xLst (aNil)))) (xM1 hJoin (xVar 1) (xVar 0)) (xVal (.str "-")))
noncomputable def den_law_listed : List D → FOut := runF [false, false] 2 fb_law_listed
-- _law_said_order(_law_order_here) slots 0 _law_order_here, 1 _law_number_here
noncomputable abbrev fb_law_said_order : XS := sRet (xCall [false, false] den_law_listed (aCons (xLc [1] (xSeq (xVar 0)) (gN 1) (tTrue) (xCB hStr (aCons (xVar 1) (aNil)))) (aCons (xVal (.str " ")) (aNil))))
noncomputable def den_law_said_order : List D → FOut := runF [false] 2 fb_law_said_order
-- _law_said_list(_law_patterns) slots 0 _law_patterns, 1 _law_pattern
noncomputable abbrev fb_law_said_list : XS := sRet (xCall [false, false] den_law_listed (aCons (xLc [1] (xSeq (xVar 0)) (gN 1) (tTrue) (xCall [false] den_law_said_order (aCons (xVar 1) (aNil)))) (aCons (xVal (.str ", ")) (aNil))))
noncomputable def den_law_said_list : List D → FOut := runF [false] 2 fb_law_said_list
-- _law_said_letter(_law_letter) slots 0 _law_letter
noncomputable abbrev fb_law_said_letter : XS := sRet (xOp2 hAdd (xCB hStr (aCons (xOp2 hIx (xVar 0) (xVal (.int 0))) (aNil))) (xOp2 hIx (xVal (.str "mlrf")) (xOp2 hIx (xVar 0) (xVal (.int 1)))))
noncomputable def den_law_said_letter : List D → FOut := runF [false] 1 fb_law_said_letter
-- _law_said_word(_law_word) slots 0 _law_word, 1 _law_letter
noncomputable abbrev fb_law_said_word : XS := sRet (xCall [false, false] den_law_listed (aCons (xLc [1] (xSeq (xVar 0)) (gN 1) (tTrue) (xCall [false] den_law_said_letter (aCons (xVar 1) (aNil)))) (aCons (xVal (.str " ")) (aNil))))
noncomputable def den_law_said_word : List D → FOut := runF [false] 2 fb_law_said_word
-- _law_said_machine(_law_machine_here) slots 0 _law_machine_here, 1 _law_lines, 2 _law_state, 3 _law_steps, 4 _law_name, 5 _law_letter, 6 _law_goal
noncomputable abbrev fb_law_said_machine : XS := sSeq (sSet 1 (xLst (aNil))) (sSeq (sFor (xRng1 (xCB hLen (aCons (xOp2 hIx (xVar 0) (xVal (.int 0))) (aNil)))) (gN 2) (sSeq (sSet 3 (xLc [5, 6] (xSeq (xOp2 hIx (xOp2 hIx (xVar 0) (xVal (.int 0))) (xVar 2))) (gT (gsCons (gN 5) (gsCons (gN 6) (gsNil)))) (tTrue) (xOp2 hAdd (xOp2 hAdd (xCall [false] den_law_said_letter (aCons (xVar 5) (aNil))) (xVal (.str " "))) (xCB hStr (aCons (xVar 6) (aNil)))))) (sSeq (sSet 4 (xOp2 hAdd (xCB hStr (aCons (xVar 2) (aNil))) (xOp2 hMulS (xVal (.str " end")) (xCB hInt (aCons (xOp2 hIn (xVar 2) (xOp2 hIx (xVar 0) (xVal (.int 1)))) (aNil)))))) (sExpr (xMut 1 mApp (aCons (xOp2 hAdd (xOp2 hAdd (xVar 4) (xVal (.str " : "))) (xCall [false, false] den_law_listed (aCons (xVar 3) (aCons (xVal (.str ", ")) (aNil))))) (aNil))))))) (sRet (xM1 hJoin (xVal (.str "\n")) (xVar 1))))
noncomputable def den_law_said_machine : List D → FOut := runF [false] 7 fb_law_said_machine
-- _law_said_saying(_law_saying_here) slots 0 _law_saying_here, 1 _law_part
noncomputable abbrev fb_law_said_saying (den : List D → FOut) : XS := sSeq (sIf (tOf (xOp2 hEq (xOp2 hIx (xVar 0) (xVal (.int 0))) (xVal (.str "list")))) (sRet (xOp2 hAdd (xOp2 hAdd (xVal (.str "(list [")) (xCall [false] den_law_said_list (aCons (xOp2 hIx (xVar 0) (xVal (.int 1))) (aNil)))) (xVal (.str "])")))) (sNil)) (sSeq (sIf (tOf (xOp2 hEq (xOp2 hIx (xVar 0) (xVal (.int 0))) (xVal (.str "sorted")))) (sRet (xOp2 hAdd (xOp2 hAdd (xVal (.str "(sorted ")) (xOp2 hIx (xVar 0) (xVal (.int 1)))) (xVal (.str ")")))) (sNil)) (sRet (xOp2 hAdd (xOp2 hAdd (xVal (.str "(")) (xM1 hJoin (xVal (.str " ")) (xOp2 hAdd (xLst (aCons (xOp2 hIx (xVar 0) (xVal (.int 0))) (aNil))) (xLc [1] (xSeq (xSl (xVar 0) (oSome (xVal (.int 1))) (oNone))) (gN 1) (tTrue) (xCall [false] den (aCons (xVar 1) (aNil))))))) (xVal (.str ")")))))
noncomputable def denN_law_said_saying : Nat → List D → FOut
  | 0 => fun _ => .bad
  | n + 1 => runF [false] 2 (fb_law_said_saying (denN_law_said_saying n))
noncomputable abbrev den_law_said_saying : List D → FOut := denN_law_said_saying 12
-- _law_thing(_law_well_here, _law_door) slots 0 _law_well_here, 1 _law_door, 2 _law_thing_here
noncomputable abbrev fb_law_thing : XS := sSeq (sIf (tOf (xOp2 hEq (xVar 1) (xVal (.int 0)))) (sSeq (sSet 2 (xCall [true, false] den_law_order_3 (aCons (xVar 0) (aCons (xOp2 hIx (xLst (aCons (xVal (.int 0)) (aCons (xVal (.int 1)) (aCons (xVal (.int 5)) (aCons (xVal (.int 12)) (aCons (xVal (.int 40)) (aCons (xCall [true, false] den_law_draw (aCons (xVar 0) (aCons (xVal (.int 41)) (aNil)))) (aNil)))))))) (xCall [true, false] den_law_draw (aCons (xVar 0) (aCons (xVal (.int 6)) (aNil))))) (aNil))))) (sRet (xTup (aCons (xVar 2) (aCons (xCall [false] den_law_said_order (aCons (xVar 2) (aNil))) (aNil)))))) (sNil)) (sSeq (sIf (tOf (xOp2 hEq (xVar 1) (xVal (.int 1)))) (sSeq (sSet 2 (xCall [true, false, false] den_law_list_2 (aCons (xVar 0) (aCons (xOp2 hIx (xLst (aCons (xVal (.int 0)) (aCons (xVal (.int 1)) (aCons (xVal (.int 4)) (aCons (xVal (.int 20)) (aNil)))))) (xCall [true, false] den_law_draw (aCons (xVar 0) (aCons (xVal (.int 4)) (aNil))))) (aCons (xOp2 hIx (xLst (aCons (xVal (.int 5)) (aCons (xVal (.int 5)) (aCons (xVal (.int 40)) (aNil))))) (xCall [true, false] den_law_draw (aCons (xVar 0) (aCons (xVal (.int 3)) (aNil))))) (aNil)))))) (sRet (xTup (aCons (xVar 2) (aCons (xCall [false] den_law_said_list (aCons (xVar 2) (aNil))) (aNil)))))) (sNil)) (sSeq (sIf (tOf (xOp2 hEq (xVar 1) (xVal (.int 2)))) (sSeq (sSet 2 (xCB hTuple (aCons (xCall [true, false] den_law_letters_2 (aCons (xVar 0) (aCons (xOp2 hIx (xLst (aCons (xVal (.int 0)) (aCons (xVal (.int 1)) (aCons (xVal (.int 5)) (aCons (xVal (.int 60)) (aCons (xCall [true, false] den_law_draw (aCons (xVar 0) (aCons (xVal (.int 61)) (aNil)))) (aNil))))))) (xCall [true, false] den_law_draw (aCons (xVar 0) (aCons (xVal (.int 5)) (aNil))))) (aNil)))) (aNil)))) (sRet (xTup (aCons (xVar 2) (aCons (xCall [false] den_law_said_word (aCons (xVar 2) (aNil))) (aNil)))))) (sNil)) (sSeq (sIf (tOf (xOp2 hEq (xVar 1) (xVal (.int 3)))) (sSeq (sSet 2 (xCall [true, false] den_law_machine (aCons (xVar 0) (aCons (xOp2 hIx (xLst (aCons (xVal (.int 1)) (aCons (xVal (.int 3)) (aCons (xVal (.int 12)) (aCons (xVal (.int 200)) (aNil)))))) (xCall [true, false] den_law_draw (aCons (xVar 0) (aCons (xVal (.int 4)) (aNil))))) (aNil))))) (sRet (xTup (aCons (xVar 2) (aCons (xCall [false] den_law_said_machine (aCons (xVar 2) (aNil))) (aNil)))))) (sNil)) (sSeq (sSet 2 (xCall [true, false] den_law_saying_2 (aCons (xVar 0) (aCons (xOp2 hIx (xLst (aCons (xVal (.int 1)) (aCons (xVal (.int 3)) (aCons (xVal (.int 4)) (aCons (xVal (.int 12)) (aNil)))))) (xCall [true, false] den_law_draw (aCons (xVar 0) (aCons (xVal (.int 4)) (aNil))))) (aNil))))) (sRet (xTup (aCons (xVar 2) (aCons (xCall [false] den_law_said_saying (aCons (xVar 2) (aNil))) (aNil)))))))))
noncomputable def den_law_thing : List D → FOut := runF [true, false] 3 fb_law_thing
-- _law_lowest(_law_top, _law_bottom) slots 0 _law_top, 1 _law_bottom, 2 _law_one, 3 _law_two
noncomputable abbrev fb_law_lowest : XS := sSeq (sPar [2, 3] (aCons (xCB hAbs (aCons (xVar 0) (aNil))) (aCons (xVar 1) (aNil)))) (sSeq (sWhile (tOf (xOp2 hNe (xVar 3) (xVal (.int 0)))) (sPar [2, 3] (aCons (xVar 3) (aCons (xOp2 hMod (xCB hInt (aCons (xVar 2) (aNil))) (xVar 3)) (aNil))))) (sRet (xTup (aCons (xOp2 hDiv (xVar 0) (xVar 2)) (aCons (xOp2 hDiv (xVar 1) (xVar 2)) (aNil))))))
noncomputable def den_law_lowest : List D → FOut := runF [false, false] 4 fb_law_lowest
-- _law_power(_law_many) slots 0 _law_many, 1 _law_found, 2 _law_turn
noncomputable abbrev fb_law_power : XS := sSeq (sSet 1 (xVal (.int 1))) (sSeq (sFor (xRng1 (xVar 0)) (gN 2) (sSet 1 (xOp2 hMul (xVar 1) (xVal (.int 10))))) (sRet (xVar 1)))
noncomputable def den_law_power : List D → FOut := runF [false] 3 fb_law_power
-- _law_number(_law_well_here) slots 0 _law_well_here, 1 _law_great, 2 _law_top, 3 _law_bottom
noncomputable abbrev fb_law_number : XS := sSeq (sSet 1 (xCall [false] den_law_power (aCons (xOp2 hAdd (xVal (.int 1)) (xCall [true, false] den_law_draw (aCons (xVar 0) (aCons (xOp2 hIx (xLst (aCons (xVal (.int 2)) (aCons (xVal (.int 9)) (aCons (xVal (.int 299)) (aNil))))) (xCall [true, false] den_law_draw (aCons (xVar 0) (aCons (xVal (.int 3)) (aNil))))) (aNil))))) (aNil)))) (sSeq (sPar [2, 3] (aCons (xOp2 hSub (xCall [true, false] den_law_draw (aCons (xVar 0) (aCons (xOp2 hMul (xVal (.int 2)) (xVar 1)) (aNil)))) (xVar 1)) (aCons (xOp2 hAdd (xVal (.int 1)) (xOp2 hIx (xLst (aCons (xVal (.int 0)) (aCons (xCall [true, false] den_law_draw (aCons (xVar 0) (aCons (xVar 1) (aNil)))) (aNil)))) (xCall [true, false] den_law_draw (aCons (xVar 0) (aCons (xVal (.int 2)) (aNil)))))) (aNil)))) (sRet (xCall [false, false] den_law_lowest (aCons (xVar 2) (aCons (xVar 3) (aNil))))))
noncomputable def den_law_number : List D → FOut := runF [true] 4 fb_law_number
-- show_number(a) slots 0 a, 1 top, 2 bottom
noncomputable abbrev fb_show_number : XS := sSeq (sTup (gT (gsCons (gN 1) (gsCons (gN 2) (gsNil)))) (xVar 0)) (sRet (xIf (tOf (xOp2 hEq (xVar 2) (xVal (.int 1)))) (xCB hStr (aCons (xVar 1) (aNil))) (xOp2 hAdd (xOp2 hAdd (xCB hStr (aCons (xVar 1) (aNil))) (xVal (.str "/"))) (xCB hStr (aCons (xVar 2) (aNil))))))
noncomputable def den_show_number : List D → FOut := runF [false] 3 fb_show_number
-- listed(words, between) slots 0 words, 1 between
noncomputable abbrev fb_listed : XS := sRet (xIf (tOf (xOp2 hGt (xCB hLen (aCons (xVar 0) (aNil))) (xVal (.int 0)))) (xM1 hJoin (xVar 1) (xVar 0)) (xVal (.str "-")))
noncomputable def den_listed : List D → FOut := runF [false, false] 2 fb_listed
-- show_order(order) slots 0 order, 1 number
noncomputable abbrev fb_show_order : XS := sRet (xCall [false, false] den_listed (aCons (xLc [1] (xSeq (xVar 0)) (gN 1) (tTrue) (xCB hStr (aCons (xVar 1) (aNil)))) (aCons (xVal (.str " ")) (aNil))))
noncomputable def den_show_order : List D → FOut := runF [false] 2 fb_show_order
-- show_list(forbidden) slots 0 forbidden, 1 pattern
noncomputable abbrev fb_show_list : XS := sRet (xCall [false, false] den_listed (aCons (xLc [1] (xSeq (xVar 0)) (gN 1) (tTrue) (xCall [false] den_show_order (aCons (xVar 1) (aNil)))) (aCons (xVal (.str ", ")) (aNil))))
noncomputable def den_show_list : List D → FOut := runF [false] 2 fb_show_list
-- show_letter(letter) slots 0 letter, 1 slot, 2 way
noncomputable abbrev fb_show_letter : XS := sSeq (sTup (gT (gsCons (gN 1) (gsCons (gN 2) (gsNil)))) (xVar 0)) (sRet (xOp2 hAdd (xCB hStr (aCons (xVar 1) (aNil))) (xOp2 hIx (xVal (.str "mlrf")) (xVar 2))))
noncomputable def den_show_letter : List D → FOut := runF [false] 3 fb_show_letter
-- show_word(word) slots 0 word, 1 letter
noncomputable abbrev fb_show_word : XS := sRet (xCall [false, false] den_listed (aCons (xLc [1] (xSeq (xVar 0)) (gN 1) (tTrue) (xCall [false] den_show_letter (aCons (xVar 1) (aNil)))) (aCons (xVal (.str " ")) (aNil))))
noncomputable def den_show_word : List D → FOut := runF [false] 2 fb_show_word
-- show_machine(machine) slots 0 machine, 1 lines, 2 rows, 3 ends, 4 index, 5 row, 6 name, 7 letter, 8 state
noncomputable abbrev fb_show_machine : XS := sSeq (sTup (gT (gsCons (gN 2) (gsCons (gN 3) (gsNil)))) (xVar 0)) (sSeq (sSet 1 (xLst (aNil))) (sSeq (sFor (xEnum (xVar 2)) (gT (gsCons (gN 4) (gsCons (gN 5) (gsNil)))) (sSeq (sSet 6 (xOp2 hAdd (xCB hStr (aCons (xVar 4) (aNil))) (xIf (tOf (xOp2 hIn (xVar 4) (xVar 3))) (xVal (.str " end")) (xVal (.str ""))))) (sExpr (xMut 1 mApp (aCons (xOp2 hAdd (xOp2 hAdd (xVar 6) (xVal (.str " : "))) (xCall [false, false] den_listed (aCons (xLc [7, 8] (xSeq (xVar 5)) (gT (gsCons (gN 7) (gsCons (gN 8) (gsNil)))) (tTrue) (xOp2 hAdd (xOp2 hAdd (xCall [false] den_show_letter (aCons (xVar 7) (aNil))) (xVal (.str " "))) (xCB hStr (aCons (xVar 8) (aNil))))) (aCons (xVal (.str ", ")) (aNil))))) (aNil)))))) (sRet (xM1 hJoin (xVal (.str "\n")) (xVar 1)))))
noncomputable def den_show_machine : List D → FOut := runF [false] 9 fb_show_machine
-- show_saying(saying) slots 0 saying, 1 part
noncomputable abbrev fb_show_saying (den : List D → FOut) : XS := sSeq (sIf (tOf (xOp2 hEq (xOp2 hIx (xVar 0) (xVal (.int 0))) (xVal (.str "list")))) (sRet (xOp2 hAdd (xOp2 hAdd (xVal (.str "(list [")) (xCall [false] den_show_list (aCons (xOp2 hIx (xVar 0) (xVal (.int 1))) (aNil)))) (xVal (.str "])")))) (sNil)) (sSeq (sIf (tOf (xOp2 hEq (xOp2 hIx (xVar 0) (xVal (.int 0))) (xVal (.str "sorted")))) (sRet (xOp2 hAdd (xOp2 hAdd (xVal (.str "(sorted ")) (xOp2 hIx (xVar 0) (xVal (.int 1)))) (xVal (.str ")")))) (sNil)) (sRet (xOp2 hAdd (xOp2 hAdd (xVal (.str "(")) (xM1 hJoin (xVal (.str " ")) (xOp2 hAdd (xLst (aCons (xOp2 hIx (xVar 0) (xVal (.int 0))) (aNil))) (xLc [1] (xSeq (xSl (xVar 0) (oSome (xVal (.int 1))) (oNone))) (gN 1) (tTrue) (xCall [false] den (aCons (xVar 1) (aNil))))))) (xVal (.str ")")))))
noncomputable def denN_show_saying : Nat → List D → FOut
  | 0 => fun _ => .bad
  | n + 1 => runF [false] 2 (fb_show_saying (denN_show_saying n))
noncomputable abbrev den_show_saying : List D → FOut := denN_show_saying 12
-- _law_shown(_law_door, _law_thing_here, _law_named) slots 0 _law_door, 1 _law_thing_here, 2 _law_named
noncomputable abbrev fb_law_shown : XS := sSeq (sIf (tOf (xOp2 hEq (xVar 0) (xVal (.int 0)))) (sRet (xIf (tOf (xVar 2)) (xCall [false] (fun ds => den_show_order (permL [0] ds)) (aCons (xVar 1) (aNil))) (xCall [false] den_show_order (aCons (xVar 1) (aNil))))) (sNil)) (sSeq (sIf (tOf (xOp2 hEq (xVar 0) (xVal (.int 1)))) (sRet (xIf (tOf (xVar 2)) (xCall [false] (fun ds => den_show_list (permL [0] ds)) (aCons (xVar 1) (aNil))) (xCall [false] den_show_list (aCons (xVar 1) (aNil))))) (sNil)) (sSeq (sIf (tOf (xOp2 hEq (xVar 0) (xVal (.int 2)))) (sRet (xIf (tOf (xVar 2)) (xCall [false] (fun ds => den_show_word (permL [0] ds)) (aCons (xVar 1) (aNil))) (xCall [false] den_show_word (aCons (xVar 1) (aNil))))) (sNil)) (sSeq (sIf (tOf (xOp2 hEq (xVar 0) (xVal (.int 3)))) (sRet (xIf (tOf (xVar 2)) (xCall [false] (fun ds => den_show_machine (permL [0] ds)) (aCons (xVar 1) (aNil))) (xCall [false] den_show_machine (aCons (xVar 1) (aNil))))) (sNil)) (sSeq (sIf (tOf (xOp2 hEq (xVar 0) (xVal (.int 4)))) (sRet (xIf (tOf (xVar 2)) (xCall [false] (fun ds => den_show_saying (permL [0] ds)) (aCons (xVar 1) (aNil))) (xCall [false] den_show_saying (aCons (xVar 1) (aNil))))) (sNil)) (sRet (xIf (tOf (xVar 2)) (xCall [false] (fun ds => den_show_number (permL [0] ds)) (aCons (xVar 1) (aNil))) (xCall [false] den_show_number (aCons (xVar 1) (aNil)))))))))
noncomputable def den_law_shown : List D → FOut := runF [false, false, false] 3 fb_law_shown
-- law(_law_script) slots 0 _law_script, 1 _law_rows, 2 _law_place, 3 _law_well_here, 4 _law_a, 5 _law_door, 6 _law_thing_here, 7 _law_said
noncomputable abbrev fb_law_k45 : XS := sSeq (sSet 1 (xLst (aNil))) (sSeq (sFor (xRng1 (xCB hMax2 (aCons (xVal (.int 1)) (aCons (xCB hMin2 (aCons (xVal (.int 6)) (aCons (xCB hLen (aCons (xVar 0) (aNil))) (aNil)))) (aNil))))) (gN 2) (sSeq (sSet 3 (xCall [false, false] den_law_well_2 (aCons (xVar 0) (aCons (xVar 2) (aNil))))) (sSeq (sSet 4 (xCall [true] den_law_number (aCons (xVar 3) (aNil)))) (sSeq (sExpr (xMut 1 mApp (aCons (xTup (aCons (xVal (.int 5)) (aCons (xVar 4) (aCons (xIf (tOf (xOp2 hEq (xOp2 hIx (xVar 4) (xVal (.int 1))) (xVal (.int 1)))) (xCB hStr (aCons (xOp2 hIx (xVar 4) (xVal (.int 0))) (aNil))) (xOp2 hAdd (xOp2 hAdd (xCB hStr (aCons (xOp2 hIx (xVar 4) (xVal (.int 0))) (aNil))) (xVal (.str "/"))) (xCB hStr (aCons (xOp2 hIx (xVar 4) (xVal (.int 1))) (aNil))))) (aNil))))) (aNil)))) (sFor (xRng1 (xVal (.int 5))) (gN 5) (sSeq (sTup (gT (gsCons (gN 6) (gsCons (gN 7) (gsNil)))) (xCall [true, false] den_law_thing (aCons (xVar 3) (aCons (xVar 5) (aNil))))) (sSeq (sIf (tNots (tOf (xCall [false, false] den_law_same_4 (aCons (xCall [false, false, false] den_law_shown (aCons (xVar 5) (aCons (xVar 6) (aCons (xOp2 hEq (xCall [true, false] den_law_draw (aCons (xVar 3) (aCons (xVal (.int 2)) (aNil)))) (xVal (.int 0))) (aNil))))) (aCons (xVar 7) (aNil)))))) (sRet (xVal (.bool false))) (sNil)) (sExpr (xMut 1 mApp (aCons (xTup (aCons (xVar 5) (aCons (xVar 6) (aCons (xVar 7) (aNil))))) (aNil))))))))))) (sSeq (sFor (xSeq (xOp2 hStep (xVar 1) (xOp1 hNeg (xVal (.int 1))))) (gT (gsCons (gN 5) (gsCons (gN 6) (gsCons (gN 7) (gsNil))))) (sIf (tNots (tOf (xCall [false, false] den_law_same_4 (aCons (xCall [false, false, false] den_law_shown (aCons (xVar 5) (aCons (xVar 6) (aCons (xOp2 hLt (xCB hLen (aCons (xVar 7) (aNil))) (xVal (.int 9))) (aNil))))) (aCons (xVar 7) (aNil)))))) (sRet (xVal (.bool false))) (sNil))) (sRet (xVal (.bool true)))))
noncomputable def den_law_k45 : List D → FOut := runF [false] 8 fb_law_k45
end DLS

namespace DL
open Evl (Ex)
open PySem PySem.Spec PyProof.Rows L2
/-! ### orders and their parts -/
theorem nodup_map_subr {l : List Int} (c : Int) (h : l.Nodup) : (l.map (c - ·)).Nodup := List.Pairwise.map _ (fun a b hab => by show c - a ≠ c - b; omega) h
def mir (ns : List Int) : List Int := ns.map fun x => (ns.length : Int) + 1 - x
theorem mir_len (ns : List Int) : (mir ns).length = ns.length := by unfold mir; rw [List.length_map]
theorem isOrd_mir {ns : List Int} (h : IsOrd ns) : IsOrd (mir ns) := by
  refine isOrd_of (nodup_map_subr _ h.nodup) fun a ha => ?_
  rw [mir_len]
  obtain ⟨x, hx, rfl⟩ := List.mem_map.mp ha
  have := h.mem.mp hx
  omega
/-- the first m things are an order -/
def good (r : List Int) (m : Nat) : Bool := decide (srt (r.take m) = rng m)
/-- counting within a run -/
theorem rng_less (k : Nat) : ∀ j : Nat, j ≤ k → ((rng k).filter fun x => decide (x < (j : Int) + 1)).length = j := by
  induction k with
  | zero => intro j hj; have : j = 0 := by omega
            subst this; rfl
  | succ k ih =>
    intro j hj
    rw [rng_succ, List.filter_append, List.length_append]
    by_cases h : j ≤ k
    · rw [ih j h, List.filter_cons_of_neg (by simp; omega)]
      rfl
    · have : j = k + 1 := by omega
      subst this
      rw [List.filter_cons_of_pos (by simp; omega)]
      have : ((rng k).filter fun x => decide (x < ((k + 1 : Nat) : Int) + 1)) = rng k := List.filter_eq_self.mpr fun a ha => by
        rw [mem_rng] at ha
        simp
        omega
      rw [this, rng_len]
      rfl
theorem like_shift {l : List Int} {k : Nat} {a : Int} (h : l.Perm ((rng k).map (· + a))) : like l = l.map (· - a) := by
  unfold like
  apply List.map_congr_left
  intro y hy
  have hp := (h.filter fun x => decide (x < y)).length_eq
  rw [hp]
  obtain ⟨z, hz, rfl⟩ := List.mem_map.mp (h.mem_iff.mp hy)
  rw [mem_rng] at hz
  have e : ((rng k).map (· + a)).filter (fun x => decide (x < z + a)) = ((rng k).filter fun x => decide (x < ((z.toNat - 1 : Nat) : Int) + 1)).map (· + a) := by
    rw [List.filter_map]
    congr 1
    apply List.filter_congr
    intro x _
    show decide (x + a < z + a) = decide (x < ((z.toNat - 1 : Nat) : Int) + 1)
    congr 1
    apply propext
    omega
  rw [e, List.length_map, rng_less k _ (by omega)]
  omega
theorem like_ord {l : List Int} (h : IsOrd l) : like l = l := by
  have e := like_shift (l := l) (k := l.length) (a := 0) (by
    have : (rng l.length).map (· + (0 : Int)) = rng l.length := by simp
    rw [this]; exact h)
  rw [e]
  simp
/-! ### the greatest so far -/
/-! ### a beginning, a rest, both ways -/
theorem cutD_from {ds : List D} {b : Nat} (hb : b ≤ ds.length) : cutD ds (some (b : Int)) none = ds.drop b := by
  unfold cutD HT.sIx
  dsimp only
  rw [if_neg (by omega)]
  have e2 : min (b : Int).toNat ds.length = b := by omega
  rw [e2]
  exact List.take_of_length_le (by rw [List.length_drop]; exact Nat.le_refl _)
end DL

namespace DLS
open Evl (Ex)
open PySem PySem.Spec PyProof.Rows L2 DL
end DLS

namespace DL
open Evl (Ex)
open PySem PySem.Spec PyProof.Rows L2
/-! ### rows of places, in their order -/
theorem uniq_of {α : Type} {lt : α → α → Prop} (irr : ∀ a, ¬ lt a a) (tr : ∀ a b c, lt a b → lt b c → lt a c) : ∀ {L M : List α}, L.Pairwise lt → M.Pairwise lt → (∀ r, r ∈ L ↔ r ∈ M) → L = M
  | [], [], _, _, _ => rfl
  | [], m :: M, _, _, h => absurd ((h m).mpr List.mem_cons_self) (by simp)
  | l :: L, [], _, _, h => absurd ((h l).mp List.mem_cons_self) (by simp)
  | l :: L, m :: M, sl, sm, h => by
    rw [List.pairwise_cons] at sl sm
    have e : l = m := by
      rcases List.mem_cons.mp ((h l).mp List.mem_cons_self) with e | hl
      · exact e
      rcases List.mem_cons.mp ((h m).mpr List.mem_cons_self) with e | hm
      · exact e.symm
      · exact absurd (tr _ _ _ (sl.1 m hm) (sm.1 l hl)) (irr _)
    subst e
    congr 1
    refine uniq_of irr tr sl.2 sm.2 fun r => ?_
    constructor
    · intro hr
      rcases List.mem_cons.mp ((h r).mp (List.mem_cons_of_mem _ hr)) with e | hm
      · subst e; exact absurd (sl.1 r hr) (irr _)
      · exact hm
    · intro hr
      rcases List.mem_cons.mp ((h r).mpr (List.mem_cons_of_mem _ hr)) with e | hm
      · subst e; exact absurd (sm.1 r hr) (irr _)
      · exact hm
theorem uniqN {L M : List Nat} (sL : L.Pairwise (· < ·)) (sM : M.Pairwise (· < ·)) (h : ∀ r, r ∈ L ↔ r ∈ M) : L = M := uniq_of (fun a => Nat.lt_irrefl a) (fun a b c => Nat.lt_trans) sL sM h
def ascRows (n : Nat) : Nat → List (List Nat)
  | 0 => [[]]
  | m + 1 => (ascRows n m).flatMap fun row => ((List.range n).filter fun q => decide (∀ x ∈ row, x < q)).map fun q => row ++ [q]
theorem range_pw (n : Nat) : (List.range n).Pairwise (· < ·) := List.pairwise_lt_range
theorem mem_asc {n : Nat} : ∀ {m : Nat} {row : List Nat}, row ∈ ascRows n m ↔ row.length = m ∧ row.Pairwise (· < ·) ∧ ∀ x ∈ row, x < n
  | 0, row => by
    unfold ascRows
    constructor
    · intro h
      rw [List.mem_singleton.mp h]
      exact ⟨rfl, .nil, by simp⟩
    · rintro ⟨h, _⟩
      rw [List.eq_nil_of_length_eq_zero h]
      exact List.mem_singleton.mpr rfl
  | m + 1, row => by
    unfold ascRows
    rw [List.mem_flatMap]
    constructor
    · rintro ⟨r, hr, hx⟩
      obtain ⟨q, hq, rfl⟩ := List.mem_map.mp hx
      rw [List.mem_filter, List.mem_range, decide_eq_true_eq] at hq
      obtain ⟨h1, h2, h3⟩ := mem_asc.mp hr
      refine ⟨by rw [List.length_append]; simp [h1], ?_, ?_⟩
      · rw [List.pairwise_append]
        exact ⟨h2, by simp, fun a ha b hb => by rw [List.mem_singleton.mp hb]; exact hq.2 a ha⟩
      · intro x hx
        rcases List.mem_append.mp hx with h | h
        · exact h3 x h
        · rw [List.mem_singleton.mp h]; exact hq.1
    · rintro ⟨h1, h2, h3⟩
      have hne : row ≠ [] := fun e => by rw [e] at h1; cases h1
      have e : row = row.dropLast ++ [row.getLast hne] := (List.dropLast_concat_getLast hne).symm
      rw [e, List.pairwise_append] at h2
      refine ⟨row.dropLast, mem_asc.mpr ⟨by rw [List.length_dropLast, h1]; rfl, h2.1, fun x hx => h3 x ((List.dropLast_sublist row).subset hx)⟩, ?_⟩
      refine List.mem_map.mpr ⟨row.getLast hne, ?_, e.symm⟩
      rw [List.mem_filter, List.mem_range, decide_eq_true_eq]
      exact ⟨h3 _ (List.getLast_mem hne), fun x hx => h2.2.2 x hx _ (by simp)⟩
/-! ### places at which an order shows a pattern -/
abbrev gI (o : List Int) (i : Nat) : Int := o.getD i 0
abbrev gN' (r : List Nat) (i : Nat) : Nat := r.getD i 0
def Cmp (o p : List Int) (row : List Nat) : Prop := ∀ i j, i < row.length → j < row.length → (gI o (gN' row i) < gI o (gN' row j) ↔ gI p i < gI p j)
/-- places from 0 on, one for each of the first m numbers of a pattern of k, room being left for the others -/
def OkRow (o p : List Int) (k m : Nat) (row : List Nat) : Prop := row.length = m ∧ row.Pairwise (· < ·) ∧ (∀ j, j < m → gN' row j + k ≤ o.length + j) ∧ Cmp o p row
open Classical in
noncomputable def pls (o p : List Int) (k m : Nat) : List (List Nat) := (ascRows o.length m).filter fun row => decide (OkRow o p k m row)
theorem gN_mem {r : List Nat} {i : Nat} (h : i < r.length) : gN' r i ∈ r := by
  unfold gN'
  rw [List.getD_eq_getElem?_getD, List.getElem?_eq_getElem h]
  exact List.getElem_mem h
theorem mem_gN {r : List Nat} {x : Nat} (h : x ∈ r) : ∃ i, i < r.length ∧ x = gN' r i := by
  obtain ⟨i, hi, e⟩ := List.getElem_of_mem h
  refine ⟨i, hi, ?_⟩
  unfold gN'
  rw [List.getD_eq_getElem?_getD, List.getElem?_eq_getElem hi]
  exact e.symm
theorem mem_pls {o p : List Int} {k m : Nat} (hm : m ≤ k) {row : List Nat} : row ∈ pls o p k m ↔ OkRow o p k m row := by
  classical
  unfold pls
  rw [List.mem_filter, decide_eq_true_eq, mem_asc]
  refine ⟨fun h => h.2, fun h => ⟨⟨h.1, h.2.1, fun x hx => ?_⟩, h⟩⟩
  obtain ⟨i, hi, rfl⟩ := mem_gN hx
  have := h.2.2.1 i (by rw [← h.1]; exact hi)
  have h1 := h.1
  omega
/-! neighbours of a pattern's number: the place of the next lesser, of the next greater ahead -/
def lessers (p : List Int) (m : Nat) : List Int := (p.take m).filter fun x => decide (x < gI p m)
def greaters (p : List Int) (m : Nat) : List Int := (p.take m).filter fun x => decide (gI p m < x)
def below (p : List Int) (m : Nat) : Option Nat := if lessers p m = [] then none else some (p.idxOf (maxI (lessers p m)))
def above (p : List Int) (m : Nat) : Option Nat := if greaters p m = [] then none else some (p.idxOf (minI (greaters p m)))
def startR (row : List Nat) : Nat := if row = [] then 0 else gN' row (row.length - 1) + 1
/-! the next places of a row -/
/-- all places -/
noncomputable def plc (o p : List Int) : List (List Nat) := pls o p p.length p.length
theorem mem_plc {o p : List Int} {row : List Nat} : row ∈ plc o p ↔ row.length = p.length ∧ row.Pairwise (· < ·) ∧ (∀ x ∈ row, x < o.length) ∧ Cmp o p row := by
  unfold plc
  rw [mem_pls (Nat.le_refl _)]
  constructor
  · rintro ⟨h1, h2, h3, h4⟩
    refine ⟨h1, h2, fun x hx => ?_, h4⟩
    obtain ⟨i, hi, rfl⟩ := mem_gN hx
    have := h3 i (by omega)
    omega
  · rintro ⟨h1, h2, h3, h4⟩
    refine ⟨h1, h2, fun j hj => ?_, h4⟩
    have key : ∀ d j, j + d + 1 = row.length → gN' row j + d < o.length := by
      intro d
      induction d with
      | zero => intro j hj; exact h3 _ (gN_mem (by omega))
      | succ d ih =>
        intro j hj
        have h5 := ih (j + 1) (by omega)
        have h6 : gN' row j < gN' row (j + 1) := by
          unfold gN'
          rw [List.getD_eq_getElem?_getD, List.getD_eq_getElem?_getD, List.getElem?_eq_getElem (by omega), List.getElem?_eq_getElem (by omega)]
          exact List.pairwise_iff_getElem.mp h2 j (j + 1) (by omega) (by omega) (by omega)
        omega
    have := key (row.length - 1 - j) j (by omega)
    omega
end DL

namespace DL
open Evl (Ex)
open PySem PySem.Spec PyProof.Rows L2
/-! ### data of ints -/
theorem eqv_int (x y : Int) : PyData.eqv (.int x) (.int y) = decide (x = y) := by
  show (x == y) = _
  by_cases h : x = y
  · subst h; simp
  · rw [decide_eq_false h]; simpa using h
/-! ### rows of places as data -/
theorem dataLt_tI (a b : List Int) : PySem.W.dataLt (tI a) (tI b) = decide (a < b) := by
  rw [PySem.W.dataLt_tuple]
  exact PySem.W.dataLt_ints a b
theorem leD_tI (a b : List Int) : leD (tI a) (tI b) = decide (a ≤ b) := by
  unfold leD
  rw [dataLt_tI]
  by_cases h : b < a
  · rw [decide_eq_true h, decide_eq_false (fun h2 : a ≤ b => List.not_lt.mpr h2 h)]
    rfl
  · rw [decide_eq_false h, decide_eq_true (List.not_lt.mp h)]
    rfl
theorem flAll_tI (n : Nat) : ∀ L : List (List Int), flAll (n + 1) (L.map tI) = true
  | [] => by unfold flAll; rfl
  | a :: r => by
    show flAll (n + 1) (tI a :: r.map tI) = true
    unfold flAll
    rw [flAll_tI n r, fl_tI]
    rfl
theorem alike_tI (a b : List Int) : PySem.W.alike (tI a) (tI b) = true := by
  unfold PySem.W.alike
  exact PySem.W.alike_ints a b
theorem sortOk_tI {L : List (List Int)} (h : ∀ r ∈ L, r ≠ []) : sortOk (L.map tI) = true := by
  unfold sortOk
  rw [flAll_tI 59 L]
  have h1 : (L.map tI).all tup1 = true := List.all_eq_true.mpr fun d hd => by
    obtain ⟨r, hr, rfl⟩ := List.mem_map.mp hd
    cases r with
    | nil => exact absurd rfl (h _ hr)
    | cons a r => rfl
  have h2 : ((L.map tI).all fun d => (L.map tI).all fun e => PySem.W.alike d e) = true := List.all_eq_true.mpr fun d hd => List.all_eq_true.mpr fun e he => by
    obtain ⟨r, hr, rfl⟩ := List.mem_map.mp hd
    obtain ⟨q, hq, rfl⟩ := List.mem_map.mp he
    exact alike_tI r q
  rw [h1, h2]
  rfl
/-- a strict order on the things of a list: what sorting gives -/
theorem sort_eq {L M : List (List Int)} (hp : M.Perm L) (hs : M.Pairwise (· < ·)) : (L.map tI).mergeSort leD = M.map tI := by
  have e : (L.map tI).mergeSort leD = ((L.mergeSort fun a b => leD (tI a) (tI b)).map tI) := by
    rw [List.map_mergeSort (r := fun a b => leD (tI a) (tI b)) (s := leD) (f := tI) (l := L)]
    intro a _ b _
    rfl
  rw [e]
  congr 1
  have p1 : (L.mergeSort fun a b => leD (tI a) (tI b)).Perm M := (List.mergeSort_perm _ _).trans hp.symm
  have s1 : (L.mergeSort fun a b => leD (tI a) (tI b)).Pairwise (fun a b => leD (tI a) (tI b) = true) := List.pairwise_mergeSort (fun a b c h1 h2 => by
    rw [leD_tI, decide_eq_true_eq] at *
    exact List.le_trans h1 h2) (fun a b => by
    rw [leD_tI, leD_tI, Bool.or_eq_true, decide_eq_true_eq, decide_eq_true_eq]
    exact List.le_total a b) L
  have s2 : M.Pairwise (fun a b => leD (tI a) (tI b) = true) := hs.imp fun {a b} h => by
    rw [leD_tI, decide_eq_true_eq]
    exact List.le_of_lt h
  refine p1.eq_of_pairwise (fun a b _ _ h1 h2 => ?_) s1 s2
  rw [leD_tI, decide_eq_true_eq] at h1 h2
  exact List.le_antisymm h1 h2
end DL

namespace DLS
open Evl (Ex)
open PySem PySem.Spec PyProof.Rows L2 DL
theorem gI_get {p : List Int} {i : Nat} (h : i < p.length) : p[i] = gI p i := by
  unfold gI
  rw [List.getD_eq_getElem?_getD, List.getElem?_eq_getElem h]
  rfl
end DLS

namespace DL
open Evl (Ex)
open PySem PySem.Spec PyProof.Rows L2
/-! ### turned, mirrored, inverse -/
def inv (o : List Int) : List Int := (rng o.length).map fun x => (o.idxOf x : Int) + 1
theorem inv_len (o : List Int) : (inv o).length = o.length := by unfold inv; rw [List.length_map, rng_len]
theorem isOrd_inv {o : List Int} (ho : IsOrd o) : IsOrd (inv o) := by
  refine isOrd_of ?_ fun a ha => ?_
  · unfold inv
    refine List.Pairwise.map _ (R := fun x y => x ∈ o ∧ y ∈ o ∧ x ≠ y) (fun a b hab e => ?_) ?_
    · obtain ⟨ha, hb, hne⟩ := hab
      have : o.idxOf a = o.idxOf b := by omega
      have e1 := List.getElem_idxOf (List.idxOf_lt_length_of_mem ha)
      have e2 := List.getElem_idxOf (List.idxOf_lt_length_of_mem hb)
      have e3 : o[o.idxOf a]? = o[o.idxOf b]? := by rw [this]
      rw [List.getElem?_eq_getElem (List.idxOf_lt_length_of_mem ha), List.getElem?_eq_getElem (List.idxOf_lt_length_of_mem hb), e1, e2] at e3
      exact hne (Option.some.inj e3)
    · refine (rng_nodup o.length).imp_of_mem fun {a b} ha hb h => ⟨ho.mem.mpr (mem_rng.mp ha), ho.mem.mpr (mem_rng.mp hb), h⟩
  · unfold inv at ha
    obtain ⟨x, hx, rfl⟩ := List.mem_map.mp ha
    have := List.idxOf_lt_length_of_mem (ho.mem.mpr (mem_rng.mp hx))
    rw [inv_len]
    omega
theorem ext_gI {a b : List Int} (hl : a.length = b.length) (h : ∀ i, i < a.length → gI a i = gI b i) : a = b := by
  apply List.ext_getElem hl
  intro i h1 h2
  have := h i h1
  unfold gI at this
  rw [List.getD_eq_getElem?_getD, List.getD_eq_getElem?_getD, List.getElem?_eq_getElem h1, List.getElem?_eq_getElem h2] at this
  exact this
theorem gI_rev {o : List Int} {i : Nat} (h : i < o.length) : gI o.reverse i = gI o (o.length - 1 - i) := by
  unfold gI
  rw [List.getD_eq_getElem?_getD, List.getD_eq_getElem?_getD, List.getElem?_reverse h]
/-! ### the places of what is turned, mirrored, the inverse -/
/-- places counted from the other end -/
def bk (n : Nat) (row : List Nat) : List Nat := row.reverse.map fun x => n - 1 - x
theorem like_len (cells : List Int) : (like cells).length = cells.length := by unfold like; rw [List.length_map]
end DL

namespace DLS
open Evl (Ex)
open PySem PySem.Spec PyProof.Rows L2 DL
end DLS

namespace DLS
open Evl (Ex)
open PySem PySem.Spec PyProof.Rows L2 DL
theorem turns (ns : List Int) (k : Int) (hl : ns.length ≤ 63) (hk : 2 < k ∧ k < 900) : ∃ m : Nat, m ≤ 1000 ∧ ∀ x : List (Option Sl), xRng1 (xCB hMax2 (aCons (xVal (.int 2)) (aCons (xCB hMin2 (aCons (xCB hLen (aCons (xVar 0) (aNil))) (aCons (xVal (.int k)) (aNil)))) (aNil)))) (some (.val (scrD ns)) :: x) = .ok (rgD 0 1 m, some (.val (scrD ns)) :: x) := by
  by_cases h1 : k < (ns.length : Int)
  · refine ⟨k.toNat, by omega, fun x => ?_⟩
    have a1 := hk.1
    have a2 : rg1Ok k = true := by unfold rg1Ok; simp only [Bool.and_eq_true, decide_eq_true_eq]; omega
    (simp -implicitDefEqProofs -dsimp only [runF,endF_nx,endF_rv,endF_rn,endF_err,initS,ioOut,sSeq,sNil,sPass,sBreak,sCont,sBad,sExpr,sRet,sRetN,sIf,sSet,putR,frz,frzs,xVal,xVar,getS_0,getS_s,getR,ownD,getRs,xOp1,xOp2,fin,RD.r,aNil,aCons,xCB,xTup,xLst,truth,tOf,tAnds,tOrs,tNots,xIf,xAnd,xOr,xNot,xIsi,isTy,hAdd,hSub,hNeg,hLt,hLe,hGt,hGe,hIs,hIsNot,hIx,hLen,hInt,hAbs,hMax2,hMin2,h1L,hList,hListS,xMethL,hCountL,lcStep2,lcTurn2,lcAdd2,hTuple,vi,vb,xCall,xCallN,argsD,argD,ioIx,boIx,isOwn,nodupB,disB,xPost_ret,xPost_err,postS,putIo,frzIx,nlR,nlI,nl,nls,Rt.r,permL,tTrue,lcStep,lcTurn,lcAdd,gN,gT,gsNil,gsCons,DL.forget,back,xSeq,seqOf,xEnum,xRng1,xRng2,xRng3,xLstI,xTupI,sPar,noSlot,putRs,sTup,xMut,ownL,mApp,mIns,mPop,mPopAt,mExt,mRev,sSub,sAug,oNone,oSome,xSl,hSl,hStep,xChain,bind_ok',bind_err,bind_bad,List.set_cons_zero,List.set_cons_succ,List.foldl_cons,List.foldl_nil,List.cons_append,List.nil_append,List.replicate_succ,List.replicate_zero,List.append_nil,List.all_cons,List.all_nil,List.map_cons,List.map_nil,List.length_cons,List.length_nil,List.zip_cons_cons,List.filterMap_cons,List.filterMap_nil,List.getElem?_cons_zero,List.getElem?_cons_succ,List.contains_nil,List.contains_cons,Bool.and_true,Bool.true_and,Bool.and_false,Bool.false_and,Bool.not_true,Bool.not_false,Bool.or_true,Bool.true_or,Bool.or_false,Bool.false_or,if_true,if_false,reduceIte,reduceCtorEq,Nat.reduceSub,Nat.reduceAdd,Nat.reduceEqDiff,Option.map_some,Option.map_none,decide_true,decide_false,↓reduceIte,Bool.false_eq_true,Nat.sub_zero,Nat.sub_self,and_self,and_true,true_and,List.length_map,nls_ints,hEq_int,hNe_int,Ok_ok,OkG_some,EndQ_some,EndP_nx',EndP_rv',EndP_rn',LoopP_nx,LoopP_ct,LoopP_bk,LoopP_rt,lc_ite,xMeth,xZip,sAugS,stIx,sSub2,itemsOf,nlI_dk,sMove,ite_self,scrD, h1, a1, a2, gt_iff_lt])
  · by_cases h2 : (2 : Int) < (ns.length : Int)
    · refine ⟨ns.length, by omega, fun x => ?_⟩
      (simp -implicitDefEqProofs -dsimp only [runF,endF_nx,endF_rv,endF_rn,endF_err,initS,ioOut,sSeq,sNil,sPass,sBreak,sCont,sBad,sExpr,sRet,sRetN,sIf,sSet,putR,frz,frzs,xVal,xVar,getS_0,getS_s,getR,ownD,getRs,xOp1,xOp2,fin,RD.r,aNil,aCons,xCB,xTup,xLst,truth,tOf,tAnds,tOrs,tNots,xIf,xAnd,xOr,xNot,xIsi,isTy,hAdd,hSub,hNeg,hLt,hLe,hGt,hGe,hIs,hIsNot,hIx,hLen,hInt,hAbs,hMax2,hMin2,h1L,hList,hListS,xMethL,hCountL,lcStep2,lcTurn2,lcAdd2,hTuple,vi,vb,xCall,xCallN,argsD,argD,ioIx,boIx,isOwn,nodupB,disB,xPost_ret,xPost_err,postS,putIo,frzIx,nlR,nlI,nl,nls,Rt.r,permL,tTrue,lcStep,lcTurn,lcAdd,gN,gT,gsNil,gsCons,DL.forget,back,xSeq,seqOf,xEnum,xRng1,xRng2,xRng3,xLstI,xTupI,sPar,noSlot,putRs,sTup,xMut,ownL,mApp,mIns,mPop,mPopAt,mExt,mRev,sSub,sAug,oNone,oSome,xSl,hSl,hStep,xChain,bind_ok',bind_err,bind_bad,List.set_cons_zero,List.set_cons_succ,List.foldl_cons,List.foldl_nil,List.cons_append,List.nil_append,List.replicate_succ,List.replicate_zero,List.append_nil,List.all_cons,List.all_nil,List.map_cons,List.map_nil,List.length_cons,List.length_nil,List.zip_cons_cons,List.filterMap_cons,List.filterMap_nil,List.getElem?_cons_zero,List.getElem?_cons_succ,List.contains_nil,List.contains_cons,Bool.and_true,Bool.true_and,Bool.and_false,Bool.false_and,Bool.not_true,Bool.not_false,Bool.or_true,Bool.true_or,Bool.or_false,Bool.false_or,if_true,if_false,reduceIte,reduceCtorEq,Nat.reduceSub,Nat.reduceAdd,Nat.reduceEqDiff,Option.map_some,Option.map_none,decide_true,decide_false,↓reduceIte,Bool.false_eq_true,Nat.sub_zero,Nat.sub_self,and_self,and_true,true_and,List.length_map,nls_ints,hEq_int,hNe_int,Ok_ok,OkG_some,EndQ_some,EndP_nx',EndP_rv',EndP_rn',LoopP_nx,LoopP_ct,LoopP_bk,LoopP_rt,lc_ite,xMeth,xZip,sAugS,stIx,sSub2,itemsOf,nlI_dk,sMove,ite_self,scrD, h1, h2, rg1Ok_of (show ns.length ≤ 16000000 by omega), Int.toNat_natCast, gt_iff_lt])
    · refine ⟨2, by omega, fun x => ?_⟩
      have a2 : rg1Ok 2 = true := by decide
      have a3 : (2 : Int).toNat = 2 := rfl
      (simp -implicitDefEqProofs -dsimp only [runF,endF_nx,endF_rv,endF_rn,endF_err,initS,ioOut,sSeq,sNil,sPass,sBreak,sCont,sBad,sExpr,sRet,sRetN,sIf,sSet,putR,frz,frzs,xVal,xVar,getS_0,getS_s,getR,ownD,getRs,xOp1,xOp2,fin,RD.r,aNil,aCons,xCB,xTup,xLst,truth,tOf,tAnds,tOrs,tNots,xIf,xAnd,xOr,xNot,xIsi,isTy,hAdd,hSub,hNeg,hLt,hLe,hGt,hGe,hIs,hIsNot,hIx,hLen,hInt,hAbs,hMax2,hMin2,h1L,hList,hListS,xMethL,hCountL,lcStep2,lcTurn2,lcAdd2,hTuple,vi,vb,xCall,xCallN,argsD,argD,ioIx,boIx,isOwn,nodupB,disB,xPost_ret,xPost_err,postS,putIo,frzIx,nlR,nlI,nl,nls,Rt.r,permL,tTrue,lcStep,lcTurn,lcAdd,gN,gT,gsNil,gsCons,DL.forget,back,xSeq,seqOf,xEnum,xRng1,xRng2,xRng3,xLstI,xTupI,sPar,noSlot,putRs,sTup,xMut,ownL,mApp,mIns,mPop,mPopAt,mExt,mRev,sSub,sAug,oNone,oSome,xSl,hSl,hStep,xChain,bind_ok',bind_err,bind_bad,List.set_cons_zero,List.set_cons_succ,List.foldl_cons,List.foldl_nil,List.cons_append,List.nil_append,List.replicate_succ,List.replicate_zero,List.append_nil,List.all_cons,List.all_nil,List.map_cons,List.map_nil,List.length_cons,List.length_nil,List.zip_cons_cons,List.filterMap_cons,List.filterMap_nil,List.getElem?_cons_zero,List.getElem?_cons_succ,List.contains_nil,List.contains_cons,Bool.and_true,Bool.true_and,Bool.and_false,Bool.false_and,Bool.not_true,Bool.not_false,Bool.or_true,Bool.true_or,Bool.or_false,Bool.false_or,if_true,if_false,reduceIte,reduceCtorEq,Nat.reduceSub,Nat.reduceAdd,Nat.reduceEqDiff,Option.map_some,Option.map_none,decide_true,decide_false,↓reduceIte,Bool.false_eq_true,Nat.sub_zero,Nat.sub_self,and_self,and_true,true_and,List.length_map,nls_ints,hEq_int,hNe_int,Ok_ok,OkG_some,EndQ_some,EndP_nx',EndP_rv',EndP_rn',LoopP_nx,LoopP_ct,LoopP_bk,LoopP_rt,lc_ite,xMeth,xZip,sAugS,stIx,sSub2,itemsOf,nlI_dk,sMove,ite_self,scrD, h1, h2, a2, a3, gt_iff_lt])
end DLS

namespace DLS
open Evl (Ex)
open PySem PySem.Spec PyProof.Rows L2 DL
/-! ### alternations -/
def lv (a : Bool) (n k : Nat) : Int := if a then (k : Int) + 1 else (n : Int) - k
def av (a b : Bool) (n q : Nat) : Int := if q % 2 = 0 then lv a n (q / 2) else (n : Int) + lv b n (q / 2)
def alt (a b : Bool) (n : Nat) : List Int := (List.range (2 * n)).map (av a b n)
end DLS

namespace DLS
open Evl (Ex)
open PySem PySem.Spec PyProof.Rows L2 DL
structure Pot where
  a : Nat
  b : Nat
  c : Nat
  r : List Int
  hb : b < 2147483647
  hc : 3 ≤ c ∧ c ≤ r.length + 3
  hr : r.length ≤ 63
abbrev potL (a b c : Nat) (r : List Int) : D := .list (.int a :: .int b :: .int c :: r.map .int)
abbrev Pot.d (x : Pot) : D := potL x.a x.b x.c x.r
theorem ixN_2 (n : Nat) : ixN (n + 1 + 1 + 1) 2 = some 2 := by
  unfold ixN
  rw [if_pos (by omega), if_pos (by omega)]
  rfl
theorem atI_pot {x y z : D} {r : List Int} {c : Nat} (h : 3 ≤ c) (h2 : c < r.length + 3) : atI (x :: y :: z :: r.map PyData.int) (c : Int) = some (.int (gI r (c - 3))) := by
  rw [atI_nat']
  obtain ⟨k, rfl⟩ : ∃ k, c = k + 3 := ⟨c - 3, by omega⟩
  show (r.map PyData.int)[k]? = _
  rw [List.getElem?_map, List.getElem?_eq_getElem (by omega), show k + 3 - 3 = k by omega, ← gI_get (show k < r.length by omega)]
  rfl
theorem pot_tail (x : Pot) (m : Nat) (h : 1 ≤ m ∧ m < 1000) (s2 s3 s4 : Option Sl) : Ok ((sSeq (sIf (tOf (xOp2 hGt (xOp2 hIx (xVar 0) (xVal (.int 0))) (xVal (.int 0)))) (sSeq (sSet 3 (xOp2 hMod (xCB hInt (aCons (xOp2 hIx (xVar 0) (xVal (.int 0))) (aNil))) (xVar 1))) (sSeq (sSub 0 (xOp2 hDiv (xOp2 hIx (xVar 0) (xVal (.int 0))) (xVar 1)) (xVal (.int 0))) (sRet (xVar 3)))) (sNil)) (sSeq (sSub 0 (xOp2 hMod (xCB hInt (aCons (xOp2 hAdd (xOp2 hAdd (xOp2 hMul (xOp2 hIx (xVar 0) (xVal (.int 1))) (xVal (.int 48271))) (xOp2 hMul (xVal (.int 40692)) (xOp2 hIx (xVar 0) (xVal (.int 2))))) (xVal (.int 11))) (aNil))) (xVal (.int 2147483647))) (xVal (.int 1))) (sSeq (sSub 0 (xOp2 hMod (xCB hInt (aCons (xOp2 hAdd (xOp2 hMul (xOp2 hIx (xVar 0) (xVal (.int 1))) (xOp2 hIx (xVar 0) (xVal (.int 1)))) (xVal (.int 7))) (aNil))) (xVal (.int 2147483629))) (xVal (.int 1))) (sRet (xOp2 hMod (xCB hInt (aCons (xOp2 hDiv (xOp2 hIx (xVar 0) (xVal (.int 1))) (xVal (.int 8))) (aNil))) (xVar 1)))))) [some (.own (some 0) x.d), some (.val (.int (m : Int))), s2, s3, s4]) (EndP [true, false] fun r ios => ∃ (t : Nat) (y : Pot), t < m ∧ r = .val (.int (t : Int)) ∧ ios = [y.d]) := by
  obtain ⟨a, b, c, r, hb, hc, hr⟩ := x
  have hd : ∀ z : Int, hDiv (.int z) (.int (m : Int)) = some (.val (.int (z / m))) := fun z => hDiv_p (by omega) (by omega)
  have hmo : ∀ z : Int, hMod (.int z) (.int (m : Int)) = some (.val (.int (z % m))) := fun z => hMod_p (by omega)
  have hm1 : ∀ z : Int, hMod (.int z) (.int 2147483647) = some (.val (.int (z % 2147483647))) := fun z => hMod_p (by decide)
  have hm2 : ∀ z : Int, hMod (.int z) (.int 2147483629) = some (.val (.int (z % 2147483629))) := fun z => hMod_p (by decide)
  have hd8 : ∀ z : Int, hDiv (.int z) (.int 8) = some (.val (.int (z / 8))) := fun z => hDiv_p (by decide) (by decide)
  have hmu1 : ∀ z : Int, hMul (.int z) (.int 48271) = some (.val (.int (z * 48271))) := fun z => hMul_r (by decide)
  have hmu2 : ∀ z : Int, hMul (.int 40692) (.int z) = some (.val (.int (40692 * z))) := fun z => hMul_l (by decide)
  by_cases ha : 0 < a
  · have d0 : decide ((a : Int) > 0) = true := decide_eq_true (by omega)
    (simp -implicitDefEqProofs -dsimp only [runF,endF_nx,endF_rv,endF_rn,endF_err,initS,ioOut,sSeq,sNil,sPass,sBreak,sCont,sBad,sExpr,sRet,sRetN,sIf,sSet,putR,frz,frzs,xVal,xVar,getS_0,getS_s,getR,ownD,getRs,xOp1,xOp2,fin,RD.r,aNil,aCons,xCB,xTup,xLst,truth,tOf,tAnds,tOrs,tNots,xIf,xAnd,xOr,xNot,xIsi,isTy,hAdd,hSub,hNeg,hLt,hLe,hGt,hGe,hIs,hIsNot,hIx,hLen,hInt,hAbs,hMax2,hMin2,h1L,hList,hListS,xMethL,hCountL,lcStep2,lcTurn2,lcAdd2,hTuple,vi,vb,xCall,xCallN,argsD,argD,ioIx,boIx,isOwn,nodupB,disB,xPost_ret,xPost_err,postS,putIo,frzIx,nlR,nlI,nl,nls,Rt.r,permL,tTrue,lcStep,lcTurn,lcAdd,gN,gT,gsNil,gsCons,DL.forget,back,xSeq,seqOf,xEnum,xRng1,xRng2,xRng3,xLstI,xTupI,sPar,noSlot,putRs,sTup,xMut,ownL,mApp,mIns,mPop,mPopAt,mExt,mRev,sSub,sAug,oNone,oSome,xSl,hSl,hStep,xChain,bind_ok',bind_err,bind_bad,List.set_cons_zero,List.set_cons_succ,List.foldl_cons,List.foldl_nil,List.cons_append,List.nil_append,List.replicate_succ,List.replicate_zero,List.append_nil,List.all_cons,List.all_nil,List.map_cons,List.map_nil,List.length_cons,List.length_nil,List.zip_cons_cons,List.filterMap_cons,List.filterMap_nil,List.getElem?_cons_zero,List.getElem?_cons_succ,List.contains_nil,List.contains_cons,Bool.and_true,Bool.true_and,Bool.and_false,Bool.false_and,Bool.not_true,Bool.not_false,Bool.or_true,Bool.true_or,Bool.or_false,Bool.false_or,if_true,if_false,reduceIte,reduceCtorEq,Nat.reduceSub,Nat.reduceAdd,Nat.reduceEqDiff,Option.map_some,Option.map_none,decide_true,decide_false,↓reduceIte,Bool.false_eq_true,Nat.sub_zero,Nat.sub_self,and_self,and_true,true_and,List.length_map,nls_ints,hEq_int,hNe_int,Ok_ok,OkG_some,EndQ_some,EndP_nx',EndP_rv',EndP_rn',LoopP_nx,LoopP_ct,LoopP_bk,LoopP_rt,lc_ite,xMeth,xZip,sAugS,stIx,sSub2,itemsOf,nlI_dk,sMove,ite_self,atI_0, atI_1, atI_2, ixN_0, ixN_1, ixN_2, d0, hd, hmo])
    exact ⟨a % m, ⟨a / m, b, c, r, hb, hc, hr⟩, Nat.mod_lt _ (by omega), rfl, rfl⟩
  · have d0 : decide ((a : Int) > 0) = false := decide_eq_false (by omega)
    have sq : ∀ z : Int, hMul (.int (z % 2147483647)) (.int (z % 2147483647)) = some (.val (.int ((z % 2147483647) * (z % 2147483647)))) := fun z => hMul_l (by
      have h1 : 0 ≤ z % 2147483647 := Int.emod_nonneg _ (by decide)
      have h2 : z % 2147483647 < 2147483647 := Int.emod_lt_of_pos _ (by decide)
      unfold two64
      omega)
    (simp -implicitDefEqProofs -dsimp only [runF,endF_nx,endF_rv,endF_rn,endF_err,initS,ioOut,sSeq,sNil,sPass,sBreak,sCont,sBad,sExpr,sRet,sRetN,sIf,sSet,putR,frz,frzs,xVal,xVar,getS_0,getS_s,getR,ownD,getRs,xOp1,xOp2,fin,RD.r,aNil,aCons,xCB,xTup,xLst,truth,tOf,tAnds,tOrs,tNots,xIf,xAnd,xOr,xNot,xIsi,isTy,hAdd,hSub,hNeg,hLt,hLe,hGt,hGe,hIs,hIsNot,hIx,hLen,hInt,hAbs,hMax2,hMin2,h1L,hList,hListS,xMethL,hCountL,lcStep2,lcTurn2,lcAdd2,hTuple,vi,vb,xCall,xCallN,argsD,argD,ioIx,boIx,isOwn,nodupB,disB,xPost_ret,xPost_err,postS,putIo,frzIx,nlR,nlI,nl,nls,Rt.r,permL,tTrue,lcStep,lcTurn,lcAdd,gN,gT,gsNil,gsCons,DL.forget,back,xSeq,seqOf,xEnum,xRng1,xRng2,xRng3,xLstI,xTupI,sPar,noSlot,putRs,sTup,xMut,ownL,mApp,mIns,mPop,mPopAt,mExt,mRev,sSub,sAug,oNone,oSome,xSl,hSl,hStep,xChain,bind_ok',bind_err,bind_bad,List.set_cons_zero,List.set_cons_succ,List.foldl_cons,List.foldl_nil,List.cons_append,List.nil_append,List.replicate_succ,List.replicate_zero,List.append_nil,List.all_cons,List.all_nil,List.map_cons,List.map_nil,List.length_cons,List.length_nil,List.zip_cons_cons,List.filterMap_cons,List.filterMap_nil,List.getElem?_cons_zero,List.getElem?_cons_succ,List.contains_nil,List.contains_cons,Bool.and_true,Bool.true_and,Bool.and_false,Bool.false_and,Bool.not_true,Bool.not_false,Bool.or_true,Bool.true_or,Bool.or_false,Bool.false_or,if_true,if_false,reduceIte,reduceCtorEq,Nat.reduceSub,Nat.reduceAdd,Nat.reduceEqDiff,Option.map_some,Option.map_none,decide_true,decide_false,↓reduceIte,Bool.false_eq_true,Nat.sub_zero,Nat.sub_self,and_self,and_true,true_and,List.length_map,nls_ints,hEq_int,hNe_int,Ok_ok,OkG_some,EndQ_some,EndP_nx',EndP_rv',EndP_rn',LoopP_nx,LoopP_ct,LoopP_bk,LoopP_rt,lc_ite,xMeth,xZip,sAugS,stIx,sSub2,itemsOf,nlI_dk,sMove,ite_self,atI_0, atI_1, atI_2, ixN_0, ixN_1, ixN_2, d0, hd, hmo, hm1, hm2, hd8, hmu1, hmu2, sq])
    generalize hz : ((↑b * 48271 + 40692 * ↑c + 11) % 2147483647 * ((↑b * 48271 + 40692 * ↑c + 11) % 2147483647) + 7 : Int) = z
    have z1 : 0 ≤ z % 2147483629 := Int.emod_nonneg _ (by decide)
    have z2 : z % 2147483629 < 2147483629 := Int.emod_lt_of_pos _ (by decide)
    obtain ⟨v, hv⟩ : ∃ v : Nat, z % 2147483629 = v := ⟨(z % 2147483629).toNat, by omega⟩
    rw [hv] at z1 z2 ⊢
    refine ⟨(v / 8) % m, ⟨a, v, c, r, by omega, hc, hr⟩, Nat.mod_lt _ (by omega), rfl, rfl⟩
theorem take2_ex (x : Pot) (m : Nat) (h : 1 ≤ m ∧ m < 1000) : ∃ (t : Nat) (y : Pot), t < m ∧ den_law_take_2 [x.d, .int (m : Int)] = .ret (.val (.int (t : Int))) [y.d] := by
  have key : Ret (den_law_take_2 [x.d, .int (m : Int)]) fun r ios => ∃ (t : Nat) (y : Pot), t < m ∧ r = .val (.int (t : Int)) ∧ ios = [y.d] := by
    apply Ret.run
    obtain ⟨a, b, c, r, hb, hc, hr⟩ := x
    have hm1 : ∀ z : Int, hMod (.int z) (.int 2147483647) = some (.val (.int (z % 2147483647))) := fun z => hMod_p (by decide)
    have hm2 : ∀ z : Int, hMod (.int z) (.int 2147483629) = some (.val (.int (z % 2147483629))) := fun z => hMod_p (by decide)
    have hmu1 : ∀ z : Int, hMul (.int 69621) (.int z) = some (.val (.int (69621 * z))) := fun z => hMul_l (by decide)
    have hmu2 : ∀ z : Int, hMul (.int 977) (.int z) = some (.val (.int (977 * z))) := fun z => hMul_l (by decide)
    have sq : ∀ z : Int, hMul (.int (z % 2147483647)) (.int (z % 2147483647)) = some (.val (.int ((z % 2147483647) * (z % 2147483647)))) := fun z => hMul_l (by
      have h1 : 0 ≤ z % 2147483647 := Int.emod_nonneg _ (by decide)
      have h2 : z % 2147483647 < 2147483647 := Int.emod_lt_of_pos _ (by decide)
      unfold two64
      omega)
    refine Ok.bind (Ok.mono (P := fun fl => ∃ (x : Pot) (s2 s3 s4 : Option Sl), fl = .nx [some (.own (some 0) x.d), some (.val (.int (m : Int))), s2, s3, s4]) ?_ (fun fl hfl => by
      obtain ⟨x, s2, s3, s4, rfl⟩ := hfl
      exact pot_tail x m h s2 s3 s4))
    by_cases ha : (a : Int) = 0
    · have d0 : decide ((a : Int) = 0) = true := decide_eq_true ha
      by_cases hcl : c < r.length + 3
      · have d1 : decide ((c : Int) < ((r.length + 1 + 1 + 1 : Nat) : Int)) = true := decide_eq_true (by omega)
        have hat : ∀ x y z : D, atI (x :: y :: z :: r.map PyData.int) (c : Int) = some (.int (gI r (c - 3))) := fun x y z => atI_pot hc.1 hcl
        have e1 : (c : Int) + 1 = ((c + 1 : Nat) : Int) := rfl
        by_cases hg : gI r (c - 3) ≥ 1000000000000000000
        · have d2 : decide (gI r (c - 3) ≥ 1000000000000000000) = true := decide_eq_true hg
          (simp -implicitDefEqProofs -dsimp only [runF,endF_nx,endF_rv,endF_rn,endF_err,initS,ioOut,sSeq,sNil,sPass,sBreak,sCont,sBad,sExpr,sRet,sRetN,sIf,sSet,putR,frz,frzs,xVal,xVar,getS_0,getS_s,getR,ownD,getRs,xOp1,xOp2,fin,RD.r,aNil,aCons,xCB,xTup,xLst,truth,tOf,tAnds,tOrs,tNots,xIf,xAnd,xOr,xNot,xIsi,isTy,hAdd,hSub,hNeg,hLt,hLe,hGt,hGe,hIs,hIsNot,hIx,hLen,hInt,hAbs,hMax2,hMin2,h1L,hList,hListS,xMethL,hCountL,lcStep2,lcTurn2,lcAdd2,hTuple,vi,vb,xCall,xCallN,argsD,argD,ioIx,boIx,isOwn,nodupB,disB,xPost_ret,xPost_err,postS,putIo,frzIx,nlR,nlI,nl,nls,Rt.r,permL,tTrue,lcStep,lcTurn,lcAdd,gN,gT,gsNil,gsCons,DL.forget,back,xSeq,seqOf,xEnum,xRng1,xRng2,xRng3,xLstI,xTupI,sPar,noSlot,putRs,sTup,xMut,ownL,mApp,mIns,mPop,mPopAt,mExt,mRev,sSub,sAug,oNone,oSome,xSl,hSl,hStep,xChain,bind_ok',bind_err,bind_bad,List.set_cons_zero,List.set_cons_succ,List.foldl_cons,List.foldl_nil,List.cons_append,List.nil_append,List.replicate_succ,List.replicate_zero,List.append_nil,List.all_cons,List.all_nil,List.map_cons,List.map_nil,List.length_cons,List.length_nil,List.zip_cons_cons,List.filterMap_cons,List.filterMap_nil,List.getElem?_cons_zero,List.getElem?_cons_succ,List.contains_nil,List.contains_cons,Bool.and_true,Bool.true_and,Bool.and_false,Bool.false_and,Bool.not_true,Bool.not_false,Bool.or_true,Bool.true_or,Bool.or_false,Bool.false_or,if_true,if_false,reduceIte,reduceCtorEq,Nat.reduceSub,Nat.reduceAdd,Nat.reduceEqDiff,Option.map_some,Option.map_none,decide_true,decide_false,↓reduceIte,Bool.false_eq_true,Nat.sub_zero,Nat.sub_self,and_self,and_true,true_and,List.length_map,nls_ints,hEq_int,hNe_int,Ok_ok,OkG_some,EndQ_some,EndP_nx',EndP_rv',EndP_rn',LoopP_nx,LoopP_ct,LoopP_bk,LoopP_rt,lc_ite,xMeth,xZip,sAugS,stIx,sSub2,itemsOf,nlI_dk,sMove,ite_self,atI_0, atI_1, atI_2, ixN_0, ixN_1, ixN_2, d0, d1, hat, d2, pow18])
          obtain ⟨v, hv⟩ : ∃ v : Nat, gI r (c - 3) - 1000000000000000000 = v := ⟨(gI r (c - 3) - 1000000000000000000).toNat, by omega⟩
          rw [hv, e1]
          exact ⟨⟨v, b, c + 1, r, hb, by omega, hr⟩, _, _, _, rfl⟩
        · have d2 : decide (gI r (c - 3) ≥ 1000000000000000000) = false := decide_eq_false hg
          (simp -implicitDefEqProofs -dsimp only [runF,endF_nx,endF_rv,endF_rn,endF_err,initS,ioOut,sSeq,sNil,sPass,sBreak,sCont,sBad,sExpr,sRet,sRetN,sIf,sSet,putR,frz,frzs,xVal,xVar,getS_0,getS_s,getR,ownD,getRs,xOp1,xOp2,fin,RD.r,aNil,aCons,xCB,xTup,xLst,truth,tOf,tAnds,tOrs,tNots,xIf,xAnd,xOr,xNot,xIsi,isTy,hAdd,hSub,hNeg,hLt,hLe,hGt,hGe,hIs,hIsNot,hIx,hLen,hInt,hAbs,hMax2,hMin2,h1L,hList,hListS,xMethL,hCountL,lcStep2,lcTurn2,lcAdd2,hTuple,vi,vb,xCall,xCallN,argsD,argD,ioIx,boIx,isOwn,nodupB,disB,xPost_ret,xPost_err,postS,putIo,frzIx,nlR,nlI,nl,nls,Rt.r,permL,tTrue,lcStep,lcTurn,lcAdd,gN,gT,gsNil,gsCons,DL.forget,back,xSeq,seqOf,xEnum,xRng1,xRng2,xRng3,xLstI,xTupI,sPar,noSlot,putRs,sTup,xMut,ownL,mApp,mIns,mPop,mPopAt,mExt,mRev,sSub,sAug,oNone,oSome,xSl,hSl,hStep,xChain,bind_ok',bind_err,bind_bad,List.set_cons_zero,List.set_cons_succ,List.foldl_cons,List.foldl_nil,List.cons_append,List.nil_append,List.replicate_succ,List.replicate_zero,List.append_nil,List.all_cons,List.all_nil,List.map_cons,List.map_nil,List.length_cons,List.length_nil,List.zip_cons_cons,List.filterMap_cons,List.filterMap_nil,List.getElem?_cons_zero,List.getElem?_cons_succ,List.contains_nil,List.contains_cons,Bool.and_true,Bool.true_and,Bool.and_false,Bool.false_and,Bool.not_true,Bool.not_false,Bool.or_true,Bool.true_or,Bool.or_false,Bool.false_or,if_true,if_false,reduceIte,reduceCtorEq,Nat.reduceSub,Nat.reduceAdd,Nat.reduceEqDiff,Option.map_some,Option.map_none,decide_true,decide_false,↓reduceIte,Bool.false_eq_true,Nat.sub_zero,Nat.sub_self,and_self,and_true,true_and,List.length_map,nls_ints,hEq_int,hNe_int,Ok_ok,OkG_some,EndQ_some,EndP_nx',EndP_rv',EndP_rn',LoopP_nx,LoopP_ct,LoopP_bk,LoopP_rt,lc_ite,xMeth,xZip,sAugS,stIx,sSub2,itemsOf,nlI_dk,sMove,ite_self,atI_0, atI_1, atI_2, ixN_0, ixN_1, ixN_2, d0, d1, hat, d2, pow18, hm1, hm2, hmu1, hmu2, sq])
          have z1 : ∀ z : Int, 0 ≤ z % 2147483629 := fun z => Int.emod_nonneg _ (by decide)
          have z2 : ∀ z : Int, z % 2147483629 < 2147483629 := fun z => Int.emod_lt_of_pos _ (by decide)
          obtain ⟨v, hv⟩ : ∃ v : Nat, ((b : Int) + (gI r (c - 3) % 2147483647 * (gI r (c - 3) % 2147483647) + 69621 * (gI r (c - 3) % 2147483647) + 977 * ((c : Int) + 1)) % 2147483629) % 2147483629 = v := ⟨_, (Int.toNat_of_nonneg (z1 _)).symm⟩
          have z3 := z2 ((b : Int) + (gI r (c - 3) % 2147483647 * (gI r (c - 3) % 2147483647) + 69621 * (gI r (c - 3) % 2147483647) + 977 * ((c : Int) + 1)) % 2147483629)
          rw [hv] at z3 ⊢
          exact ⟨⟨a, v, c + 1, r, by omega, by omega, hr⟩, _, _, _, rfl⟩
      · have d1 : decide ((c : Int) < ((r.length + 1 + 1 + 1 : Nat) : Int)) = false := decide_eq_false (by omega)
        (simp -implicitDefEqProofs -dsimp only [runF,endF_nx,endF_rv,endF_rn,endF_err,initS,ioOut,sSeq,sNil,sPass,sBreak,sCont,sBad,sExpr,sRet,sRetN,sIf,sSet,putR,frz,frzs,xVal,xVar,getS_0,getS_s,getR,ownD,getRs,xOp1,xOp2,fin,RD.r,aNil,aCons,xCB,xTup,xLst,truth,tOf,tAnds,tOrs,tNots,xIf,xAnd,xOr,xNot,xIsi,isTy,hAdd,hSub,hNeg,hLt,hLe,hGt,hGe,hIs,hIsNot,hIx,hLen,hInt,hAbs,hMax2,hMin2,h1L,hList,hListS,xMethL,hCountL,lcStep2,lcTurn2,lcAdd2,hTuple,vi,vb,xCall,xCallN,argsD,argD,ioIx,boIx,isOwn,nodupB,disB,xPost_ret,xPost_err,postS,putIo,frzIx,nlR,nlI,nl,nls,Rt.r,permL,tTrue,lcStep,lcTurn,lcAdd,gN,gT,gsNil,gsCons,DL.forget,back,xSeq,seqOf,xEnum,xRng1,xRng2,xRng3,xLstI,xTupI,sPar,noSlot,putRs,sTup,xMut,ownL,mApp,mIns,mPop,mPopAt,mExt,mRev,sSub,sAug,oNone,oSome,xSl,hSl,hStep,xChain,bind_ok',bind_err,bind_bad,List.set_cons_zero,List.set_cons_succ,List.foldl_cons,List.foldl_nil,List.cons_append,List.nil_append,List.replicate_succ,List.replicate_zero,List.append_nil,List.all_cons,List.all_nil,List.map_cons,List.map_nil,List.length_cons,List.length_nil,List.zip_cons_cons,List.filterMap_cons,List.filterMap_nil,List.getElem?_cons_zero,List.getElem?_cons_succ,List.contains_nil,List.contains_cons,Bool.and_true,Bool.true_and,Bool.and_false,Bool.false_and,Bool.not_true,Bool.not_false,Bool.or_true,Bool.true_or,Bool.or_false,Bool.false_or,if_true,if_false,reduceIte,reduceCtorEq,Nat.reduceSub,Nat.reduceAdd,Nat.reduceEqDiff,Option.map_some,Option.map_none,decide_true,decide_false,↓reduceIte,Bool.false_eq_true,Nat.sub_zero,Nat.sub_self,and_self,and_true,true_and,List.length_map,nls_ints,hEq_int,hNe_int,Ok_ok,OkG_some,EndQ_some,EndP_nx',EndP_rv',EndP_rn',LoopP_nx,LoopP_ct,LoopP_bk,LoopP_rt,lc_ite,xMeth,xZip,sAugS,stIx,sSub2,itemsOf,nlI_dk,sMove,ite_self,atI_0, atI_1, atI_2, ixN_0, ixN_1, ixN_2, d0, d1])
        exact ⟨⟨a, b, c, r, hb, hc, hr⟩, _, _, _, rfl⟩
    · have d0 : decide ((a : Int) = 0) = false := decide_eq_false ha
      (simp -implicitDefEqProofs -dsimp only [runF,endF_nx,endF_rv,endF_rn,endF_err,initS,ioOut,sSeq,sNil,sPass,sBreak,sCont,sBad,sExpr,sRet,sRetN,sIf,sSet,putR,frz,frzs,xVal,xVar,getS_0,getS_s,getR,ownD,getRs,xOp1,xOp2,fin,RD.r,aNil,aCons,xCB,xTup,xLst,truth,tOf,tAnds,tOrs,tNots,xIf,xAnd,xOr,xNot,xIsi,isTy,hAdd,hSub,hNeg,hLt,hLe,hGt,hGe,hIs,hIsNot,hIx,hLen,hInt,hAbs,hMax2,hMin2,h1L,hList,hListS,xMethL,hCountL,lcStep2,lcTurn2,lcAdd2,hTuple,vi,vb,xCall,xCallN,argsD,argD,ioIx,boIx,isOwn,nodupB,disB,xPost_ret,xPost_err,postS,putIo,frzIx,nlR,nlI,nl,nls,Rt.r,permL,tTrue,lcStep,lcTurn,lcAdd,gN,gT,gsNil,gsCons,DL.forget,back,xSeq,seqOf,xEnum,xRng1,xRng2,xRng3,xLstI,xTupI,sPar,noSlot,putRs,sTup,xMut,ownL,mApp,mIns,mPop,mPopAt,mExt,mRev,sSub,sAug,oNone,oSome,xSl,hSl,hStep,xChain,bind_ok',bind_err,bind_bad,List.set_cons_zero,List.set_cons_succ,List.foldl_cons,List.foldl_nil,List.cons_append,List.nil_append,List.replicate_succ,List.replicate_zero,List.append_nil,List.all_cons,List.all_nil,List.map_cons,List.map_nil,List.length_cons,List.length_nil,List.zip_cons_cons,List.filterMap_cons,List.filterMap_nil,List.getElem?_cons_zero,List.getElem?_cons_succ,List.contains_nil,List.contains_cons,Bool.and_true,Bool.true_and,Bool.and_false,Bool.false_and,Bool.not_true,Bool.not_false,Bool.or_true,Bool.true_or,Bool.or_false,Bool.false_or,if_true,if_false,reduceIte,reduceCtorEq,Nat.reduceSub,Nat.reduceAdd,Nat.reduceEqDiff,Option.map_some,Option.map_none,decide_true,decide_false,↓reduceIte,Bool.false_eq_true,Nat.sub_zero,Nat.sub_self,and_self,and_true,true_and,List.length_map,nls_ints,hEq_int,hNe_int,Ok_ok,OkG_some,EndQ_some,EndP_nx',EndP_rv',EndP_rn',LoopP_nx,LoopP_ct,LoopP_bk,LoopP_rt,lc_ite,xMeth,xZip,sAugS,stIx,sSub2,itemsOf,nlI_dk,sMove,ite_self,atI_0, atI_1, atI_2, ixN_0, ixN_1, ixN_2, d0])
      exact ⟨⟨a, b, c, r, hb, hc, hr⟩, _, _, _, rfl⟩
  obtain ⟨_, _, e, t, y, h1, rfl, rfl⟩ := key
  exact ⟨t, y, h1, e⟩
noncomputable def Pot.tk (x : Pot) (m : Nat) : Nat := if h : 1 ≤ m ∧ m < 1000 then Classical.choose (take2_ex x m h) else 0
noncomputable def Pot.nx (x : Pot) (m : Nat) : Pot := if h : 1 ≤ m ∧ m < 1000 then Classical.choose (Classical.choose_spec (take2_ex x m h)) else x
/-- a comprehension whose parts change the state -/
theorem lcS {α : Type} {vs : List Nat} {fi : XI} {g : XG} {ft : XT} {fe : XE} [u : Dum (vs, fi, g, ft, fe)] {s : S} (s1 : S) (L : List α) (enc : α → D) (Inv : Nat → List D → S → Prop) (hi : fi s = .ok (L.map enc, s1)) (hz : L.length ≤ line) (h0 : Inv 0 [] (DL.forget vs s1))
    (st : ∀ i (h : i < L.length) acc s, Inv i acc s → Ok (lcStep vs g ft fe acc (enc L[i]) s) fun x => Inv (i + 1) x.1 x.2 ∧ x.1.length ≤ acc.length + 1) :
    ∃ acc s2, @xLc vs fi g ft fe u s = .ok (.new (.list acc), back s1 vs s2) ∧ Inv L.length acc s2 := by
  have key : ∀ (M : List α) (k : Nat), L.drop k = M → k ≤ L.length → ∀ acc s, Inv k acc s → ∃ acc' s2, lcD vs g ft fe (M.map enc) acc s = .ok (acc', s2) ∧ Inv L.length acc' s2 ∧ acc'.length ≤ acc.length + M.length := by
    intro M
    induction M with
    | nil =>
      intro k hk hle acc s hv
      have : k = L.length := by
        have := congrArg List.length hk
        rw [List.length_drop] at this
        simp at this
        omega
      subst this
      exact ⟨acc, s, rfl, hv, by simp⟩
    | cons a M ih =>
      intro k hk hle acc s hv
      have hlt : k < L.length := by
        have := congrArg List.length hk
        rw [List.length_drop] at this
        simp at this
        omega
      have ha : L[k] = a ∧ L.drop (k + 1) = M := by
        rw [List.drop_eq_getElem_cons hlt] at hk
        exact List.cons.inj hk
      obtain ⟨⟨acc1, sa⟩, e1, hv1, hl1⟩ := st k hlt acc s hv
      rw [ha.1] at e1
      obtain ⟨acc2, s2, e2, hv2, hl2⟩ := ih (k + 1) ha.2 hlt acc1 sa hv1
      refine ⟨acc2, s2, ?_, hv2, ?_⟩
      · rw [List.map_cons, lcD_cons, e1, bind_ok']
        exact e2
      · rw [List.length_cons]
        have : acc1.length ≤ acc.length + 1 := hl1
        omega
  obtain ⟨acc, s2, e, hv, hl⟩ := key L 0 rfl (Nat.zero_le _) [] (DL.forget vs s1) h0
  refine ⟨acc, s2, ?_, hv⟩
  unfold xLc
  rw [hi, bind_ok']
  dsimp only
  rw [e, bind_ok']
  dsimp only
  rw [if_pos (by simp at hl; omega)]
def kinds : List (Bool × Bool) := [(false, false), (false, true), (true, false), (true, true)]
def low (a : Bool) (n : Nat) : List Int := (List.range n).map (lv a n)
end DLS

namespace DLS
open Evl (Ex)
open PySem PySem.Spec PyProof.Rows L2 DL
/-- a list of patterns -/
def Pats (k : Nat) (rows : List (List Int)) : Prop := ∀ r ∈ rows, IsOrd r ∧ r ≠ [] ∧ r.length ≤ k
noncomputable def shw (k : Bool × Bool) (p : List Int) : Bool := decide (plc (alt k.1 k.2 p.length) p ≠ [])
noncomputable def dues (rows : List (List Int)) : List (Option (List Int)) := kinds.map fun k => rows.find? (shw k)
end DLS

namespace DLS
open Evl (Ex)
open PySem PySem.Spec PyProof.Rows L2 DL
end DLS

namespace DLS
open Evl (Ex)
open PySem PySem.Spec PyProof.Rows L2 DL
/-! ### all places, grown number by number -/

def fits (o p : List Int) (k : Nat) (r : List Nat) (q : Nat) : Bool := (List.range k).all fun j => decide (gI o (gN' r j) < gI o q) == decide (gI p j < gI p k)
theorem gI_ne {o : List Int} (nd : o.Nodup) {i j : Nat} (hi : i < o.length) (hj : j < o.length) (h : i ≠ j) : gI o i ≠ gI o j := fun q => by
  unfold gI at q
  rw [List.getD_eq_getElem?_getD, List.getD_eq_getElem?_getD, List.getElem?_eq_getElem hi, List.getElem?_eq_getElem hj] at q
  exact h ((List.getElem_inj nd).mp q)
end DLS

namespace DLS
open Evl (Ex)
open PySem PySem.Spec PyProof.Rows L2 DL
def part (o p : List Int) (k : Nat) (r : List Nat) (c : Nat) : List (List Nat) := (((List.range c).map fun i => startR r + i).filter (fits o p k r)).map fun q => r ++ [q]
end DLS

namespace DLS
open Evl (Ex)
open PySem PySem.Spec PyProof.Rows L2 DL
/-! ### what shows what -/
def Sh (o p : List Int) : Prop := plc o p ≠ []
theorem sh_iff {o p : List Int} : Sh o p ↔ ∃ r : List Nat, r.length = p.length ∧ r.Pairwise (· < ·) ∧ (∀ x ∈ r, x < o.length) ∧ Cmp o p r := by
  unfold Sh
  constructor
  · intro h
    exact ⟨(plc o p).head h, mem_plc.mp (List.head_mem h)⟩
  · rintro ⟨r, hr⟩ e
    have := mem_plc.mpr hr
    rw [e] at this
    cases this
theorem gN_lt' {row : List Nat} (pw : row.Pairwise (· < ·)) {i j : Nat} (h : i < j) (hj : j < row.length) : gN' row i < gN' row j := by
  unfold gN'
  rw [List.getD_eq_getElem?_getD, List.getD_eq_getElem?_getD, List.getElem?_eq_getElem (by omega), List.getElem?_eq_getElem hj]
  exact (List.pairwise_iff_getElem.mp pw) i j (by omega) hj h
theorem sh_refl (p : List Int) : Sh p p := by
  have hg : ∀ {i}, i < p.length → gN' (List.range p.length) i = i := fun {i} h => by
    unfold gN'
    rw [List.getD_eq_getElem?_getD, List.getElem?_range h]
    rfl
  refine sh_iff.mpr ⟨List.range p.length, by simp, range_pw _, fun x hx => List.mem_range.mp hx, fun i j hi hj => ?_⟩
  simp only [List.length_range] at hi hj
  rw [hg hi, hg hj]
theorem sh_trans {o p q : List Int} (h1 : Sh o p) (h2 : Sh p q) : Sh o q := by
  obtain ⟨r, r1, r2, r3, r4⟩ := sh_iff.mp h1
  obtain ⟨t, t1, t2, t3, t4⟩ := sh_iff.mp h2
  have hb : ∀ {i}, i < t.length → gN' t i < r.length := fun {i} hi => by rw [r1]; exact t3 _ (gN_mem hi)
  have hg : ∀ {i}, i < t.length → gN' (t.map (gN' r)) i = gN' r (gN' t i) := fun {i} h => by
    unfold gN'
    rw [List.getD_eq_getElem?_getD, List.getElem?_map, List.getElem?_eq_getElem h]
    show r.getD t[i] 0 = r.getD (t.getD i 0) 0
    rw [List.getD_eq_getElem?_getD (l := t), List.getElem?_eq_getElem h]
    rfl
  refine sh_iff.mpr ⟨t.map (gN' r), by simp [t1], ?_, fun x hx => ?_, fun i j hi hj => ?_⟩
  · rw [List.pairwise_iff_getElem]
    intro i j hi hj hij
    rw [List.length_map] at hi hj
    have a := gN_lt' t2 hij hj
    have b := gN_lt' r2 a (hb hj)
    simp only [List.getElem_map]
    have ei : t[i] = gN' t i := by unfold gN'; rw [List.getD_eq_getElem?_getD, List.getElem?_eq_getElem hi]; rfl
    have ej : t[j] = gN' t j := by unfold gN'; rw [List.getD_eq_getElem?_getD, List.getElem?_eq_getElem hj]; rfl
    rw [ei, ej]
    exact b
  · obtain ⟨y, hy, rfl⟩ := List.mem_map.mp hx
    obtain ⟨i, hi, rfl⟩ := mem_gN hy
    exact r3 _ (gN_mem (hb hi))
  · rw [List.length_map] at hi hj
    rw [hg hi, hg hj, r4 _ _ (hb hi) (hb hj)]
    exact t4 i j hi hj
/-- a list lets an order -/
def Lets (L : List (List Int)) (o : List Int) : Prop := ∀ p ∈ L, ¬ Sh o p
noncomputable instance shDec (o p : List Int) : Decidable (Sh o p) := inferInstanceAs (Decidable (plc o p ≠ []))
/-- the least ones of a list, kept in its order -/
noncomputable def leastN : List (List Int) → List (List Int) → List (List Int)
  | [], acc => acc
  | p :: L, acc => if acc.all fun q => !decide (Sh p q) then leastN L (acc ++ [p]) else leastN L acc
theorem leastN_sub : ∀ {L acc : List (List Int)} {p : List Int}, p ∈ leastN L acc → p ∈ acc ∨ p ∈ L
  | [], acc, p, h => .inl h
  | a :: L, acc, p, h => by
    unfold leastN at h
    split at h
    · rcases leastN_sub h with q | q
      · rcases List.mem_append.mp q with q | q
        · exact .inl q
        · exact .inr (by rw [List.mem_singleton.mp q]; exact List.mem_cons_self)
      · exact .inr (List.mem_cons_of_mem _ q)
    · rcases leastN_sub h with q | q
      · exact .inl q
      · exact .inr (List.mem_cons_of_mem _ q)
theorem leastN_mono : ∀ {L acc : List (List Int)} {p : List Int}, p ∈ acc → p ∈ leastN L acc
  | [], acc, p, h => h
  | a :: L, acc, p, h => by
    unfold leastN
    split
    · exact leastN_mono (List.mem_append_left _ h)
    · exact leastN_mono h
/-- each has a least one in it -/
theorem leastN_has : ∀ {L acc : List (List Int)} {p : List Int}, p ∈ L → ∃ q ∈ leastN L acc, Sh p q
  | a :: L, acc, p, h => by
    unfold leastN
    split
    · rename_i hc
      rcases List.mem_cons.mp h with rfl | h
      · exact ⟨p, leastN_mono (List.mem_append_right _ List.mem_cons_self), sh_refl p⟩
      · exact leastN_has h
    · rename_i hc
      rcases List.mem_cons.mp h with rfl | h
      · have : ∃ q ∈ acc, Sh p q := by
          apply Classical.byContradiction
          intro hn
          apply hc
          rw [List.all_eq_true]
          intro q hq
          rw [decide_eq_false (fun hs => hn ⟨q, hq, hs⟩)]
          rfl
        obtain ⟨q, hq, hs⟩ := this
        exact ⟨q, leastN_mono hq, hs⟩
      · exact leastN_has h
/-- the least ones let what the list lets -/
theorem least_lets {L : List (List Int)} {o : List Int} : Lets (leastN L []) o ↔ Lets L o := by
  constructor
  · intro h p hp hs
    obtain ⟨q, hq, hs2⟩ := leastN_has (acc := []) hp
    exact h q hq (sh_trans hs hs2)
  · intro h p hp
    rcases leastN_sub hp with q | q
    · cases q
    · exact h p q
theorem lets_mem {L M : List (List Int)} (h : ∀ p, p ∈ L ↔ p ∈ M) {o : List Int} : Lets L o ↔ Lets M o := ⟨fun k p hp => k p ((h p).mpr hp), fun k p hp => k p ((h p).mp hp)⟩
end DLS

namespace DLS
open Evl (Ex)
open PySem PySem.Spec PyProof.Rows L2 DL
/-! ### orders grown by the greatest number -/
def ins (o : List Int) (t : Nat) : List Int := o.take t ++ [(o.length : Int) + 1] ++ o.drop t
def lng (o : List Int) : List (List Int) := (List.range (o.length + 1)).map (ins o)
/-- all of a length that are let, as they are grown -/
def grow (f : List Int → Bool) : Nat → List (List Int)
  | 0 => [[]]
  | n + 1 => (grow f n).flatMap fun s => (lng s).filter f
/-- sorted rows -/
def srtR (L : List (List Int)) : List (List Int) := L.mergeSort fun a b => decide (a ≤ b)
theorem srtR_perm (L : List (List Int)) : (srtR L).Perm L := List.mergeSort_perm _ _
theorem srtR_le (L : List (List Int)) : (srtR L).Pairwise (· ≤ ·) := by
  have := List.pairwise_mergeSort (le := fun a b : List Int => decide (a ≤ b)) (fun a b c h1 h2 => by
    rw [decide_eq_true_eq] at *
    exact List.le_trans h1 h2) (fun a b => by
    rw [Bool.or_eq_true, decide_eq_true_eq, decide_eq_true_eq]
    exact List.le_total a b) L
  exact this.imp fun {a b} h => of_decide_eq_true h
theorem srtR_lt {L : List (List Int)} (nd : L.Nodup) : (srtR L).Pairwise (· < ·) := by
  have h1 := srtR_le L
  have h2 : (srtR L).Pairwise (· ≠ ·) := (srtR_perm L).nodup_iff.mpr nd
  exact (h1.and h2).imp fun {a b} h => by
    rcases List.le_iff_lt_or_eq.mp h.1 with q | q
    · exact q
    · exact absurd q h.2
end DLS

namespace DLS
open Evl (Ex)
open PySem PySem.Spec PyProof.Rows L2 DL
/-! ### long orders show a rising or a falling row -/
/-- a chain of k places, the last one i, along R -/
inductive Ch (R : Nat → Nat → Prop) : Nat → Nat → Prop where
  | one (i : Nat) : Ch R i 1
  | step {i j k : Nat} : j < i → R j i → Ch R j k → Ch R i (k + 1)
/-- the places of a chain -/
theorem Ch.rows {R : Nat → Nat → Prop} (tr : ∀ a b c, R a b → R b c → R a c) {i k : Nat} (h : Ch R i k) : ∃ r : List Nat, r.length = k ∧ r.Pairwise (fun a b => a < b ∧ R a b) ∧ (∀ x ∈ r, x ≤ i) ∧ r.getLast? = some i := by
  induction h with
  | one i => exact ⟨[i], rfl, List.pairwise_singleton _ _, fun x hx => by rw [List.mem_singleton.mp hx]; exact Nat.le_refl _, rfl⟩
  | step a b c ih =>
    rename_i i j k
    obtain ⟨r, h1, h2, h3, h4⟩ := ih
    have hj : ∀ x ∈ r, x = j ∨ (x < j ∧ R x j) := by
      intro x hx
      obtain ⟨ys, hys⟩ := List.getLast?_eq_some_iff.mp h4
      rw [hys] at hx h2
      rcases List.mem_append.mp hx with q | q
      · exact .inr ((List.pairwise_append.mp h2).2.2 x q j List.mem_cons_self)
      · exact .inl (List.mem_singleton.mp q)
    refine ⟨r ++ [i], by simp [h1], ?_, ?_, by simp⟩
    · rw [List.pairwise_append]
      refine ⟨h2, List.pairwise_singleton _ _, fun x hx y hy => ?_⟩
      rw [List.mem_singleton.mp hy]
      rcases hj x hx with rfl | ⟨q1, q2⟩
      · exact ⟨a, b⟩
      · exact ⟨by omega, tr _ _ _ q2 b⟩
    · intro x hx
      rcases List.mem_append.mp hx with q | q
      · have := h3 x q
        omega
      · rw [List.mem_singleton.mp q]
        exact Nat.le_refl _
/-- the longest chains -/
theorem Ch.most {R : Nat → Nat → Prop} {m : Nat} (hno : ∀ i, ¬ Ch R i (m + 1)) (i : Nat) : ∃ k, 1 ≤ k ∧ k ≤ m ∧ Ch R i k ∧ ¬ Ch R i (k + 1) := by
  have key : ∀ d k, k + d = m + 1 → 1 ≤ k → Ch R i k → ∃ k, 1 ≤ k ∧ k ≤ m ∧ Ch R i k ∧ ¬ Ch R i (k + 1) := fun d => by
    induction d with
    | zero =>
      intro k h1 h2 h3
      have e : k = m + 1 := by omega
      subst e
      exact absurd h3 (hno i)
    | succ d ih =>
      intro k h1 h2 h3
      by_cases h : Ch R i (k + 1)
      · exact ih (k + 1) (by omega) (by omega) h
      · exact ⟨k, h2, by omega, h3, h⟩
  by_cases hm : m = 0
  · subst hm
    exact absurd (.one i) (hno i)
  · exact key m 1 (by omega) (Nat.le_refl _) (.one i)
theorem pairs_le {n a b : Nat} (u d : Nat → Nat) (hu : ∀ i, i < n → 1 ≤ u i ∧ u i ≤ a) (hd : ∀ i, i < n → 1 ≤ d i ∧ d i ≤ b) (inj : ∀ i j, i < j → j < n → u i ≠ u j ∨ d i ≠ d j) : n ≤ a * b := by
  have nd : ((List.range n).map fun i => ((u i - 1) * b + (d i - 1) : Int)).Nodup := by
    rw [List.Nodup, List.pairwise_map]
    refine List.Pairwise.imp_of_mem (R := (· < ·)) ?_ (List.pairwise_lt_range (n := n))
    intro i j hi hj hij e
    rw [List.mem_range] at hi hj
    have h1 := hu i hi
    have h2 := hu j hj
    have h3 := hd i hi
    have h4 := hd j hj
    have key : ∀ (x y p q B : Int), 0 ≤ p → p < B → 0 ≤ q → q < B → x * B + p = y * B + q → x = y ∧ p = q := fun x y p q B p0 p1 q0 q1 e => by
      have e1 : (x * B + p) / B = x := by rw [Int.add_comm, Int.add_mul_ediv_right _ _ (by omega), Int.ediv_eq_zero_of_lt p0 p1]; omega
      have e2 : (y * B + q) / B = y := by rw [Int.add_comm, Int.add_mul_ediv_right _ _ (by omega), Int.ediv_eq_zero_of_lt q0 q1]; omega
      have : x = y := by rw [← e1, ← e2, e]
      subst this
      exact ⟨rfl, by omega⟩
    have := key _ _ _ _ (b : Int) (by omega) (by omega) (by omega) (by omega) e
    rcases inj i j hij hj with q | q
    · exact q (by omega)
    · exact q (by omega)
  have hsub : ∀ x ∈ (List.range n).map fun i => ((u i - 1) * b + (d i - 1) : Int), x ∈ (List.range (a * b)).map fun i : Nat => (i : Int) := by
    intro x hx
    obtain ⟨i, hi, rfl⟩ := List.mem_map.mp hx
    rw [List.mem_range] at hi
    have h1 := hu i hi
    have h3 := hd i hi
    refine List.mem_map.mpr ⟨(u i - 1) * b + (d i - 1), List.mem_range.mpr ?_, ?_⟩
    · have : (u i - 1) * b + b ≤ a * b := by
        rw [← Nat.succ_mul]
        exact Nat.mul_le_mul_right _ (by omega)
      omega
    · push_cast
      rw [Int.natCast_sub (by omega), Int.natCast_sub (by omega)]
      rfl
  apply Classical.byContradiction
  intro hlt
  have hp := perm_of_sub nd hsub (by simp; omega)
  have := hp.length_eq
  simp at this
  omega
theorem pw_gN {P : Nat → Nat → Prop} {row : List Nat} (pw : row.Pairwise P) {i j : Nat} (h : i < j) (hj : j < row.length) : P (gN' row i) (gN' row j) := by
  unfold gN'
  rw [List.getD_eq_getElem?_getD, List.getD_eq_getElem?_getD, List.getElem?_eq_getElem (by omega), List.getElem?_eq_getElem hj]
  exact (List.pairwise_iff_getElem.mp pw) i j (by omega) hj h
theorem gI_rng {n i : Nat} (h : i < n) : gI (rng n) i = (i : Int) + 1 := by
  unfold gI
  rw [List.getD_eq_getElem?_getD, rng_get h]
  rfl
def upR (o : List Int) (j i : Nat) : Prop := i < o.length ∧ gI o j < gI o i
def dnR (o : List Int) (j i : Nat) : Prop := i < o.length ∧ gI o i < gI o j
theorem up_sh {o : List Int} {i k : Nat} (hi : i < o.length) (h : Ch (upR o) i k) : Sh o (rng k) := by
  obtain ⟨r, h1, h2, h3, _⟩ := h.rows (fun a b c x y => ⟨y.1, by have := x.2; have := y.2; omega⟩)
  refine sh_iff.mpr ⟨r, by rw [h1, rng_len], h2.imp fun {a b} q => q.1, fun x hx => by have := h3 x hx; omega, fun a b ha hb => ?_⟩
  rw [gI_rng (by omega), gI_rng (by omega)]
  rcases Nat.lt_trichotomy a b with q | q | q
  · have := (pw_gN h2 q hb).2.2
    constructor
    · intro _; omega
    · intro _; exact this
  · subst q; simp
  · have := (pw_gN h2 q ha).2.2
    constructor
    · intro z; omega
    · intro z; omega
theorem dn_sh {o : List Int} {i k : Nat} (hi : i < o.length) (h : Ch (dnR o) i k) : Sh o (rng k).reverse := by
  obtain ⟨r, h1, h2, h3, _⟩ := h.rows (fun a b c x y => ⟨y.1, by have := x.2; have := y.2; omega⟩)
  refine sh_iff.mpr ⟨r, by rw [h1, List.length_reverse, rng_len], h2.imp fun {a b} q => q.1, fun x hx => by have := h3 x hx; omega, fun a b ha hb => ?_⟩
  rw [gI_rev (by rw [rng_len]; omega), gI_rev (by rw [rng_len]; omega), rng_len, gI_rng (by omega), gI_rng (by omega)]
  rcases Nat.lt_trichotomy a b with q | q | q
  · have := (pw_gN h2 q hb).2.2
    constructor
    · intro z; omega
    · intro z; omega
  · subst q; simp
  · have := (pw_gN h2 q ha).2.2
    constructor
    · intro z; omega
    · intro z; exact this
theorem sh_one {o : List Int} (h : 0 < o.length) : Sh o [1] := by
  refine sh_iff.mpr ⟨[0], rfl, List.pairwise_singleton _ _, fun x hx => by rw [List.mem_singleton.mp hx]; exact h, fun i j hi hj => ?_⟩
  have e1 : i = 0 := by simpa using hi
  have e2 : j = 0 := by simpa using hj
  subst e1 e2
  simp
/-- Erdos and Szekeres -/
theorem es {o : List Int} (nd : o.Nodup) {r f : Nat} (h1 : 1 ≤ r) (h2 : 1 ≤ f) (hr : ¬ Sh o (rng r)) (hf : ¬ Sh o (rng f).reverse) : o.length ≤ (r - 1) * (f - 1) := by
  by_cases e1 : r = 1
  · subst e1
    by_cases h0 : 0 < o.length
    · exact absurd (sh_one h0) hr
    · omega
  · by_cases e2 : f = 1
    · subst e2
      by_cases h0 : 0 < o.length
      · exact absurd (sh_one h0) hf
      · omega
    · have noU : ∀ i, ¬ Ch (upR o) i (r - 1 + 1) := fun i hc => by
        rw [show r - 1 + 1 = r by omega] at hc
        by_cases hi : i < o.length
        · exact hr (up_sh hi hc)
        · cases hc with
          | one => omega
          | step a b c => exact hi b.1
      have noD : ∀ i, ¬ Ch (dnR o) i (f - 1 + 1) := fun i hc => by
        rw [show f - 1 + 1 = f by omega] at hc
        by_cases hi : i < o.length
        · exact hf (dn_sh hi hc)
        · cases hc with
          | one => omega
          | step a b c => exact hi b.1
      have cu := fun i => Ch.most noU i
      have cd := fun i => Ch.most noD i
      refine pairs_le (fun i => Classical.choose (cu i)) (fun i => Classical.choose (cd i)) (fun i _ => ?_) (fun i _ => ?_) fun i j hij hj => ?_
      · have := Classical.choose_spec (cu i); exact ⟨this.1, this.2.1⟩
      · have := Classical.choose_spec (cd i); exact ⟨this.1, this.2.1⟩
      · have ui := Classical.choose_spec (cu i)
        have uj := Classical.choose_spec (cu j)
        have di := Classical.choose_spec (cd i)
        have dj := Classical.choose_spec (cd j)
        have hne := gI_ne nd (i := i) (j := j) (by omega) hj (by omega)
        rcases Int.lt_or_gt_of_ne hne with q | q
        · refine .inl fun e => uj.2.2.2 ?_
          have := Ch.step hij (show upR o i j from ⟨hj, q⟩) ui.2.2.1
          rwa [show Classical.choose (cu i) = Classical.choose (cu j) from e] at this
        · refine .inr fun e => dj.2.2.2 ?_
          have := Ch.step hij (show dnR o i j from ⟨hj, q⟩) di.2.2.1
          rwa [show Classical.choose (cd i) = Classical.choose (cd j) from e] at this
end DLS

namespace DLS
open Evl (Ex)
open PySem PySem.Spec PyProof.Rows L2 DL
theorem plc_long {o p : List Int} (h : o.length < p.length) : plc o p = [] := by
  cases e : plc o p with
  | nil => rfl
  | cons r t =>
    exfalso
    have hm := mem_plc.mp (show r ∈ plc o p by rw [e]; exact List.mem_cons_self)
    obtain ⟨h1, h2, h3, _⟩ := hm
    have key : ∀ i, i < r.length → i ≤ gN' r i := fun i => by
      induction i with
      | zero => intro _; exact Nat.zero_le _
      | succ i ih =>
        intro hi
        have := ih (by omega)
        have := gN_lt' h2 (i := i) (j := i + 1) (by omega) hi
        omega
    have k1 := key (r.length - 1) (by omega)
    have k2 := h3 _ (gN_mem (r := r) (i := r.length - 1) (by omega))
    omega
noncomputable def letB (rows : List (List Int)) (o : List Int) : Bool := !rows.any fun p => decide (plc o p ≠ [])
end DLS

namespace DLS
open Evl (Ex)
open PySem PySem.Spec PyProof.Rows L2 DL
end DLS

namespace DLS
open Evl (Ex)
open PySem PySem.Spec PyProof.Rows L2 DL
/-! ### sorted by length, then as rows; each once -/
def pP (p : List Int) : D := .tuple [.int (p.length : Int), tI p]
theorem eqv_tI (a b : List Int) : PyData.eqv (tI a) (tI b) = decide (a = b) := by
  show PyData.eqvAll (a.map .int) (b.map .int) = _
  exact eqv_ints a b
def firsts (M : List (List Int)) : List Nat := (List.range M.length).filter fun k => decide (k = 0) || !decide (M.getD k [] = M.getD (k - 1) [])
end DLS

namespace DLS
open Evl (Ex)
open PySem PySem.Spec PyProof.Rows L2 DL
theorem letB_iff {rows : List (List Int)} {o : List Int} : letB rows o = true ↔ Lets rows o := by
  unfold letB Lets Sh
  rw [Bool.not_eq_true', List.any_eq_false]
  constructor
  · intro h p hp hs
    exact h p hp (decide_eq_true hs)
  · intro h p hp hs
    exact h p hp (of_decide_eq_true hs)
theorem leastN_cons (p : List Int) (L acc : List (List Int)) : leastN (p :: L) acc = if (acc.all fun q => !decide (Sh p q)) = true then leastN L (acc ++ [p]) else leastN L acc := rfl
end DLS

namespace DLS
open Evl (Ex)
open PySem PySem.Spec PyProof.Rows L2 DL
/-! ### each once, by length and then as tuples -/
def lle (a b : List Int) : Prop := a.length < b.length ∨ (a.length = b.length ∧ a ≤ b)
def llt (a b : List Int) : Prop := a.length < b.length ∨ (a.length = b.length ∧ a < b)
theorem lle_refl (a : List Int) : lle a a := .inr ⟨rfl, List.le_refl a⟩
theorem lle_trans {a b c : List Int} (h : lle a b) (h2 : lle b c) : lle a c := by
  rcases h with h | ⟨e, h⟩ <;> rcases h2 with h2 | ⟨e2, h2⟩
  · exact .inl (by omega)
  · exact .inl (by omega)
  · exact .inl (by omega)
  · exact .inr ⟨e.trans e2, List.le_trans h h2⟩
theorem lle_total (a b : List Int) : lle a b ∨ lle b a := by
  rcases Nat.lt_trichotomy a.length b.length with h | h | h
  · exact .inl (.inl h)
  · rcases List.le_total a b with q | q
    · exact .inl (.inr ⟨h, q⟩)
    · exact .inr (.inr ⟨h.symm, q⟩)
  · exact .inr (.inl h)
theorem lle_anti {a b : List Int} (h : lle a b) (h2 : lle b a) : a = b := by
  rcases h with h | ⟨e, h⟩ <;> rcases h2 with h2 | ⟨e2, h2⟩
  · omega
  · omega
  · omega
  · exact List.le_antisymm h h2
theorem llt_iff {a b : List Int} : llt a b ↔ lle a b ∧ a ≠ b := by
  constructor
  · rintro (h | ⟨e, h⟩)
    · exact ⟨.inl h, fun z => by rw [z] at h; omega⟩
    · exact ⟨.inr ⟨e, List.le_of_lt h⟩, fun z => by rw [z] at h; exact List.lt_irrefl b h⟩
  · rintro ⟨h | ⟨e, h⟩, n⟩
    · exact .inl h
    · exact .inr ⟨e, Classical.byContradiction fun z => n (List.le_antisymm h (List.not_lt.mp z))⟩
theorem leD_pP (a b : List Int) : leD (pP a) (pP b) = @decide (lle a b) (Classical.propDecidable _) := by
  have key : PySem.W.dataLt (pP b) (pP a) = true ↔ llt b a := by
    unfold pP
    rw [PySem.W.dataLt_pair (by rfl) (alike_tI b a)]
    rw [eqv_int, eqv_tI]
    by_cases h : (b.length : Int) = (a.length : Int)
    · rw [decide_eq_true h, if_pos rfl]
      by_cases h2 : b = a
      · rw [decide_eq_true h2, if_pos rfl]
        constructor
        · intro z; cases z
        · intro z; exact absurd h2 (llt_iff.mp z).2
      · rw [decide_eq_false h2, if_neg (by decide), dataLt_tI, decide_eq_true_eq]
        constructor
        · intro z; exact .inr ⟨by omega, z⟩
        · rintro (z | ⟨_, z⟩)
          · omega
          · exact z
    · rw [decide_eq_false h, if_neg (by decide)]
      have e : PySem.W.dataLt (.int (b.length : Int)) (.int (a.length : Int)) = decide ((b.length : Int) < (a.length : Int)) := PySem.W.dataLt_int _ _
      rw [e, decide_eq_true_eq]
      constructor
      · intro z; exact .inl (by omega)
      · rintro (z | ⟨z, _⟩) <;> omega
  unfold leD
  rw [Bool.eq_iff_iff]
  simp only [decide_eq_true_eq]
  rw [Bool.not_eq_true', ← Bool.not_eq_true, key]
  constructor
  · intro h
    rcases lle_total a b with q | q
    · exact q
    · apply Classical.byContradiction
      intro z
      exact h (llt_iff.mpr ⟨q, fun e => by rw [e] at z; exact z (lle_refl a)⟩)
  · intro h q
    obtain ⟨q1, q2⟩ := llt_iff.mp q
    exact q2 (lle_anti q1 h)
theorem leD_pP' {a b : List Int} : leD (pP a) (pP b) = true ↔ lle a b := by rw [leD_pP]; simp
/-- every one once -/
def once : List (List Int) → List (List Int)
  | [] => []
  | a :: l => if a ∈ l then once l else a :: once l
theorem once_mem : ∀ {l : List (List Int)} {p : List Int}, p ∈ once l ↔ p ∈ l
  | [], p => Iff.rfl
  | a :: l, p => by
    unfold once
    split
    · rename_i h
      rw [once_mem (l := l), List.mem_cons]
      constructor
      · exact .inr
      · rintro (e | q)
        · rw [e]; exact h
        · exact q
    · rw [List.mem_cons, List.mem_cons, once_mem (l := l)]
theorem once_nd : ∀ (l : List (List Int)), (once l).Nodup
  | [] => List.nodup_nil
  | a :: l => by
    unfold once
    split
    · exact once_nd l
    · rename_i h
      exact List.nodup_cons.mpr ⟨fun z => h (once_mem.mp z), once_nd l⟩
theorem once_len : ∀ (l : List (List Int)), (once l).length ≤ l.length
  | [] => Nat.le_refl _
  | a :: l => by
    have := once_len l
    unfold once
    split
    · rw [List.length_cons]; omega
    · rw [List.length_cons, List.length_cons]; omega
def srtL (l : List (List Int)) : List (List Int) := (once l).mergeSort fun a b => leD (pP a) (pP b)
theorem sort_pw (l : List (List Int)) : (l.mergeSort fun a b => leD (pP a) (pP b)).Pairwise lle := by
  have h := List.pairwise_mergeSort (le := fun a b => leD (pP a) (pP b)) (fun a b c h1 h2 => leD_pP'.mpr (lle_trans (leD_pP'.mp h1) (leD_pP'.mp h2))) (fun a b => by
    rw [Bool.or_eq_true, leD_pP', leD_pP']; exact lle_total a b) l
  exact h.imp fun {a b} h => leD_pP'.mp h
theorem srtL_mem {l : List (List Int)} {p : List Int} : p ∈ srtL l ↔ p ∈ l := by unfold srtL; rw [List.mem_mergeSort, once_mem]
theorem srtL_nd (l : List (List Int)) : (srtL l).Nodup := (List.mergeSort_perm _ _).nodup_iff.mpr (once_nd l)
theorem pw_and {α : Type} {R S : α → α → Prop} : ∀ {l : List α}, l.Pairwise R → l.Pairwise S → l.Pairwise fun a b => R a b ∧ S a b
  | [], _, _ => .nil
  | a :: l, h, k => by
    obtain ⟨h1, h2⟩ := List.pairwise_cons.mp h
    obtain ⟨k1, k2⟩ := List.pairwise_cons.mp k
    exact List.pairwise_cons.mpr ⟨fun b hb => ⟨h1 b hb, k1 b hb⟩, pw_and h2 k2⟩
theorem srtL_pw (l : List (List Int)) : (srtL l).Pairwise llt := (pw_and (sort_pw (once l)) (srtL_nd l)).imp fun {a b} h => llt_iff.mpr h
theorem llt_unique {M N : List (List Int)} (hM : M.Pairwise llt) (hN : N.Pairwise llt) (m : ∀ p, p ∈ M ↔ p ∈ N) : M = N := by
  have n1 : M.Nodup := hM.imp fun {a b} h => (llt_iff.mp h).2
  have n2 : N.Nodup := hN.imp fun {a b} h => (llt_iff.mp h).2
  have pm : M.Perm N := (List.perm_ext_iff_of_nodup n1 n2).mpr m
  exact pm.eq_of_pairwise (fun a b _ _ h1 h2 => lle_anti h1 h2) (hM.imp fun {a b} h => (llt_iff.mp h).1) (hN.imp fun {a b} h => (llt_iff.mp h).1)
/-! as keys -/
theorem datas_num (p : List Int) : NestedKey.datas (p.map .num) = p.map PyData.int := by
  rw [datas_map, List.map_map]; rfl
theorem nums_flat : ∀ p : List Int, NestedKey.depthAll (p.map .num) = 0 ∧ noTxs (p.map .num) = true
  | [] => ⟨rfl, rfl⟩
  | a :: p => by
    obtain ⟨h1, h2⟩ := nums_flat p
    refine ⟨?_, ?_⟩
    · show max 0 (NestedKey.depthAll (p.map .num)) = 0
      rw [h1]; rfl
    · show (true && noTxs (p.map .num)) = true
      rw [h2]; rfl
end DLS

namespace DLS
open Evl (Ex)
open PySem PySem.Spec PyProof.Rows L2 DL
noncomputable def leastL (rows : List (List Int)) : List (List Int) := leastN (srtL rows) []
theorem leastL_mem {rows : List (List Int)} {p : List Int} (h : p ∈ leastL rows) : p ∈ rows := by
  rcases leastN_sub h with q | q
  · cases q
  · exact srtL_mem.mp q
theorem leastL_lets (rows : List (List Int)) (o : List Int) : letB (leastL rows) o = letB rows o := by
  rw [Bool.eq_iff_iff, letB_iff, letB_iff]
  unfold leastL
  rw [least_lets]
  exact lets_mem fun p => srtL_mem
end DLS

namespace DLS
open Evl (Ex)
open PySem PySem.Spec PyProof.Rows L2 DL
theorem sh_len {o p : List Int} (h : Sh o p) : p.length ≤ o.length := by
  apply Classical.byContradiction
  intro z
  exact h (plc_long (by omega))
theorem asc_full {r : List Nat} {n : Nat} (hl : r.length = n) (pw : r.Pairwise (· < ·)) (hb : ∀ x ∈ r, x < n) : r = List.range n := by
  refine uniqN pw (range_pw n) fun x => ?_
  rw [List.mem_range]
  refine ⟨hb x, fun hx => ?_⟩
  apply Classical.byContradiction
  intro hn
  have nd : r.Nodup := pw.imp fun {a b} h => Nat.ne_of_lt h
  have := nat_nodup_len r ((List.range n).erase x) nd fun y hy => (List.mem_erase_of_ne (fun e => hn (by rw [← e]; exact hy))).mpr (List.mem_range.mpr (hb y hy))
  rw [List.length_erase_of_mem (List.mem_range.mpr hx), List.length_range] at this
  omega
theorem cells_map (o : List Int) : o = (List.range o.length).map (gI o) := by
  refine List.ext_getElem (by simp) fun i h1 h2 => ?_
  rw [List.getElem_map, List.getElem_range]
  unfold gI
  rw [List.getD_eq_getElem?_getD, List.getElem?_eq_getElem h1]
  rfl
theorem sh_eq {o p : List Int} (ho : IsOrd o) (hp : IsOrd p) (h : Sh o p) (hl : o.length = p.length) : o = p := by
  obtain ⟨r, r1, r2, r3, r4⟩ := sh_iff.mp h
  have e := asc_full (r1.trans hl.symm) r2 r3
  subst e
  have hg : ∀ {i}, i < o.length → gN' (List.range o.length) i = i := fun {i} h => by
    unfold gN'
    rw [List.getD_eq_getElem?_getD, List.getElem?_range h]
    rfl
  have c : ∀ i j, i < o.length → j < o.length → (gI o i < gI o j ↔ gI p i < gI p j) := fun i j hi hj => by
    have := r4 i j (by simpa using hi) (by simpa using hj)
    rwa [hg hi, hg hj] at this
  rw [← like_ord ho, ← like_ord hp]
  refine ext_gI (by rw [like_len, like_len, hl]) fun i hi => ?_
  rw [like_len] at hi
  have key : ∀ q : List Int, q.length = o.length → gI (like q) i = 1 + (((List.range o.length).filter fun j => decide (gI q j < gI q i)).length : Int) := fun q hq => by
    have e1 : gI (like q) i = 1 + (((q.filter fun x => decide (x < gI q i)).length : Nat) : Int) := by
      unfold like gI
      rw [List.getD_eq_getElem?_getD, List.getElem?_map, List.getD_eq_getElem?_getD, List.getElem?_eq_getElem (by omega : i < q.length)]
      rfl
    have e2 : (q.filter fun x => decide (x < gI q i)).length = ((List.range o.length).filter fun j => decide (gI q j < gI q i)).length := by
      generalize gI q i = v
      conv => lhs; rw [cells_map q]
      rw [List.filter_map, List.length_map, hq]
      rfl
    rw [e1, e2]
  rw [key o rfl, key p hl.symm]
  congr 3
  refine List.filter_congr fun j hj => ?_
  rw [decide_eq_decide]
  exact c j i (List.mem_range.mp hj) hi
/-! ### the least list by its members -/
theorem leastL_pw (rows : List (List Int)) : (leastL rows).Pairwise llt := by
  have key : ∀ (L acc : List (List Int)), (acc ++ L).Pairwise llt → (leastN L acc).Pairwise llt := fun L => by
    induction L with
    | nil => intro acc h; simpa [leastN] using h
    | cons a L ih =>
      intro acc h
      unfold leastN
      split
      · exact ih _ (by simpa using h)
      · exact ih _ (h.sublist (List.Sublist.append_left (List.sublist_cons_self a L) acc))
  exact key _ [] (by simpa using srtL_pw rows)
theorem leastL_free (rows : List (List Int)) : ∀ i (h : i < (leastL rows).length), ∀ q ∈ (leastL rows).take i, ¬ Sh (leastL rows)[i] q := by
  have inv : ∀ (L acc : List (List Int)), (∀ i (h : i < acc.length), ∀ q ∈ acc.take i, ¬ Sh acc[i] q) → ∀ i (h : i < (leastN L acc).length), ∀ q ∈ (leastN L acc).take i, ¬ Sh (leastN L acc)[i] q := fun L => by
    induction L with
    | nil => intro acc h; exact h
    | cons a L ih =>
      intro acc h
      by_cases hc : (acc.all fun q => !decide (Sh a q)) = true
      · have e : leastN (a :: L) acc = leastN L (acc ++ [a]) := by rw [leastN_cons, if_pos hc]
        rw [e]
        refine ih _ fun i hi q hq hs => ?_
        rcases Nat.lt_or_ge i acc.length with k | k
        · rw [List.getElem_append_left k] at hs
          rw [List.take_append_of_le_length (Nat.le_of_lt k)] at hq
          exact h i k q hq hs
        · have ei : i = acc.length := by simp at hi; omega
          subst ei
          rw [List.getElem_append_right (Nat.le_refl _)] at hs
          rw [List.take_append_of_le_length (Nat.le_refl _), List.take_length] at hq
          have := List.all_eq_true.mp hc q hq
          have hs' : Sh a q := by simpa using hs
          rw [decide_eq_true hs'] at this
          cases this
      · have e : leastN (a :: L) acc = leastN L acc := by rw [leastN_cons, if_neg hc]
        rw [e]
        exact ih acc h
  exact inv (srtL rows) [] (fun i h => absurd h (Nat.not_lt_zero _))
theorem leastL_iff {rows : List (List Int)} (h : ∀ r ∈ rows, IsOrd r) {p : List Int} : p ∈ leastL rows ↔ p ∈ rows ∧ ∀ q ∈ rows, Sh p q → q = p := by
  constructor
  · intro hp
    refine ⟨leastL_mem hp, fun q hq hs => ?_⟩
    obtain ⟨q', hq', hs2⟩ := leastN_has (L := srtL rows) (acc := []) (srtL_mem.mpr hq)
    have hq' : q' ∈ leastL rows := hq'
    have h3 := sh_trans hs hs2
    have hqp : q' = p := by
      obtain ⟨i, hi, rfl⟩ := List.getElem_of_mem hp
      obtain ⟨j, hj, rfl⟩ := List.getElem_of_mem hq'
      rcases Nat.lt_trichotomy i j with k | k | k
      · have hl := List.pairwise_iff_getElem.mp (leastL_pw rows) i j hi hj k
        have l1 := sh_len h3
        have l2 : (leastL rows)[i].length = (leastL rows)[j].length := by rcases hl with z | ⟨z, _⟩ <;> omega
        exact (sh_eq (h _ (leastL_mem hp)) (h _ (leastL_mem hq')) h3 l2).symm
      · subst k; rfl
      · exfalso
        refine leastL_free rows i hi _ ?_ h3
        rw [List.mem_take_iff_getElem]
        exact ⟨j, by omega, rfl⟩
    subst hqp
    have l1 := sh_len hs
    have l2 := sh_len hs2
    exact sh_eq (h q hq) (h _ (leastL_mem hp)) hs2 (by omega)
  · rintro ⟨hp, hm⟩
    obtain ⟨q, hq, hs⟩ := leastN_has (L := srtL rows) (acc := []) (srtL_mem.mpr hp)
    have hq : q ∈ leastL rows := hq
    rw [← hm q (leastL_mem hq) hs]
    exact hq
theorem leastL_eq {A B : List (List Int)} (h : ∀ p, p ∈ leastL A ↔ p ∈ leastL B) : leastL A = leastL B := llt_unique (leastL_pw A) (leastL_pw B) h
/-- a way to turn all about -/
structure Turn (f : List Int → List Int) : Prop where
  ord : ∀ {o}, IsOrd o → IsOrd (f o)
  len : ∀ o, (f o).length = o.length
  back : ∀ {o}, IsOrd o → f (f o) = o
  sh : ∀ {o p}, IsOrd o → IsOrd p → Sh o p → Sh (f o) (f p)
theorem Turn.shi {f : List Int → List Int} (t : Turn f) {o p : List Int} (ho : IsOrd o) (hp : IsOrd p) : Sh (f o) (f p) ↔ Sh o p := ⟨fun h => by
  have := t.sh (t.ord ho) (t.ord hp) h
  rwa [t.back ho, t.back hp] at this, t.sh ho hp⟩
theorem Turn.least {f : List Int → List Int} (t : Turn f) {rows : List (List Int)} (h : ∀ r ∈ rows, IsOrd r) : leastL ((leastL (rows.map f)).map f) = leastL rows := by
  have h1 : ∀ r ∈ rows.map f, IsOrd r := fun r hr => by
    obtain ⟨q, hq, rfl⟩ := List.mem_map.mp hr
    exact t.ord (h q hq)
  have m1 : ∀ {p}, IsOrd p → (p ∈ (leastL (rows.map f)).map f ↔ p ∈ leastL rows) := fun {p} ho => by
    rw [leastL_iff h, List.mem_map]
    constructor
    · rintro ⟨q, hq, rfl⟩
      obtain ⟨hq1, hq2⟩ := (leastL_iff h1).mp hq
      obtain ⟨p, hp, rfl⟩ := List.mem_map.mp hq1
      rw [t.back (h p hp)]
      refine ⟨hp, fun x hx hs => ?_⟩
      have := hq2 (f x) (List.mem_map.mpr ⟨x, hx, rfl⟩) (t.sh (h p hp) (h x hx) hs)
      have := congrArg f this
      rwa [t.back (h x hx), t.back (h p hp)] at this
    · rintro ⟨hp, hm⟩
      refine ⟨f p, (leastL_iff h1).mpr ⟨List.mem_map.mpr ⟨p, hp, rfl⟩, fun q hq hs => ?_⟩, t.back ho⟩
      obtain ⟨x, hx, rfl⟩ := List.mem_map.mp hq
      rw [hm x hx ((t.shi ho (h x hx)).mp hs)]
  have h2 : ∀ r ∈ (leastL (rows.map f)).map f, IsOrd r := fun r hr => by
    obtain ⟨q, hq, rfl⟩ := List.mem_map.mp hr
    exact t.ord (h1 q (leastL_mem hq))
  refine leastL_eq fun p => ?_
  rw [leastL_iff h2]
  constructor
  · rintro ⟨hp, _⟩
    exact (m1 (h2 p hp)).mp hp
  · intro hp
    have ho := h p (leastL_mem hp)
    refine ⟨(m1 ho).mpr hp, fun q hq hs => ?_⟩
    have hq' := (m1 (h2 q hq)).mp hq
    exact ((leastL_iff h).mp hp).2 q (leastL_mem hq') hs
theorem Turn.lets {f : List Int → List Int} (t : Turn f) {rows : List (List Int)} (h : ∀ r ∈ rows, IsOrd r) {o : List Int} (ho : IsOrd o) : letB (leastL (rows.map f)) (f o) = letB rows o := by
  rw [leastL_lets, Bool.eq_iff_iff, letB_iff, letB_iff]
  unfold Lets
  constructor
  · intro k p hp hs
    exact k (f p) (List.mem_map.mpr ⟨p, hp, rfl⟩) (t.sh ho (h p hp) hs)
  · intro k q hq hs
    obtain ⟨p, hp, rfl⟩ := List.mem_map.mp hq
    exact k p hp ((t.shi ho (h p hp)).mp hs)
end DLS

namespace DLS
open Evl (Ex)
open PySem PySem.Spec PyProof.Rows L2 DL
/-! ### all orders -/
/-! ### the first one of a list that is sorted -/
/-! ### two lists -/
end DLS

namespace DLS
open Evl (Ex)
open PySem PySem.Spec PyProof.Rows L2 DL
theorem Pats.app {k : Nat} {A B : List (List Int)} (hA : Pats k A) (hB : Pats k B) : Pats k (A ++ B) := fun r hr => (List.mem_append.mp hr).elim (hA r) (hB r)
end DLS

namespace DLS
open Evl (Ex)
open PySem PySem.Spec PyProof.Rows L2 DL
/-! ### dicts by their data -/
/-! ### compared -/
end DLS

namespace DLS
open Evl (Ex)
open PySem PySem.Spec PyProof.Rows L2 DL
end DLS

namespace DLS
open Evl (Ex)
open PySem PySem.Spec PyProof.Rows L2 DL
end DLS

namespace DLS
open Evl (Ex)
open PySem PySem.Spec PyProof.Rows L2 DL
/-! what draws come from -/
structure Well where
  a : Nat
  b : Nat
  c : Nat
  hb : b < 1000000000000000000000007
abbrev welL (a b c : Nat) : D := .list [.int a, .int b, .int c]
abbrev Well.d (x : Well) : D := welL x.a x.b x.c
theorem pow24 : hPow (.int 10) (.int 24) = some (.val (.int 1000000000000000000000000)) := hPow_p ⟨by decide, by decide, by decide⟩
theorem pow25 : hPow (.int 10) (.int 25) = some (.val (.int 10000000000000000000000000)) := hPow_p ⟨by decide, by decide, by decide⟩
theorem dip_ex (x : Well) (m : Nat) (h : 1 ≤ m ∧ m < 1000) (hc : x.c < 1000000) : ∃ (t : Nat) (y : Well), (t < m ∧ y.c ≤ x.c + 1) ∧ den_law_dip [x.d, .int (m : Int)] = .ret (.val (.int (t : Int))) [y.d] := by
  have key : Ret (den_law_dip [x.d, .int (m : Int)]) fun r ios => ∃ (t : Nat) (y : Well), (t < m ∧ y.c ≤ x.c + 1) ∧ r = .val (.int (t : Int)) ∧ ios = [y.d] := by
    apply Ret.run
    obtain ⟨a, b, c, hb⟩ := x
    have hd : ∀ z : Int, hDiv (.int z) (.int (m : Int)) = some (.val (.int (z / m))) := fun z => hDiv_p (by omega) (by omega)
    have hmo : ∀ z : Int, hMod (.int z) (.int (m : Int)) = some (.val (.int (z % m))) := fun z => hMod_p (by omega)
    by_cases ha : 0 < a
    · have d0 : decide ((a : Int) > 0) = true := decide_eq_true (by omega)
      (simp -implicitDefEqProofs -dsimp only [runF,endF_nx,endF_rv,endF_rn,endF_err,initS,ioOut,sSeq,sNil,sPass,sBreak,sCont,sBad,sExpr,sRet,sRetN,sIf,sSet,putR,frz,frzs,xVal,xVar,getS_0,getS_s,getR,ownD,getRs,xOp1,xOp2,fin,RD.r,aNil,aCons,xCB,xTup,xLst,truth,tOf,tAnds,tOrs,tNots,xIf,xAnd,xOr,xNot,xIsi,isTy,hAdd,hSub,hNeg,hLt,hLe,hGt,hGe,hIs,hIsNot,hIx,hLen,hInt,hAbs,hMax2,hMin2,h1L,hList,hListS,xMethL,hCountL,lcStep2,lcTurn2,lcAdd2,hTuple,vi,vb,xCall,xCallN,argsD,argD,ioIx,boIx,isOwn,nodupB,disB,xPost_ret,xPost_err,postS,putIo,frzIx,nlR,nlI,nl,nls,Rt.r,permL,tTrue,lcStep,lcTurn,lcAdd,gN,gT,gsNil,gsCons,DL.forget,back,xSeq,seqOf,xEnum,xRng1,xRng2,xRng3,xLstI,xTupI,sPar,noSlot,putRs,sTup,xMut,ownL,mApp,mIns,mPop,mPopAt,mExt,mRev,sSub,sAug,oNone,oSome,xSl,hSl,hStep,xChain,bind_ok',bind_err,bind_bad,List.set_cons_zero,List.set_cons_succ,List.foldl_cons,List.foldl_nil,List.cons_append,List.nil_append,List.replicate_succ,List.replicate_zero,List.append_nil,List.all_cons,List.all_nil,List.map_cons,List.map_nil,List.length_cons,List.length_nil,List.zip_cons_cons,List.filterMap_cons,List.filterMap_nil,List.getElem?_cons_zero,List.getElem?_cons_succ,List.contains_nil,List.contains_cons,Bool.and_true,Bool.true_and,Bool.and_false,Bool.false_and,Bool.not_true,Bool.not_false,Bool.or_true,Bool.true_or,Bool.or_false,Bool.false_or,if_true,if_false,reduceIte,reduceCtorEq,Nat.reduceSub,Nat.reduceAdd,Nat.reduceEqDiff,Option.map_some,Option.map_none,decide_true,decide_false,↓reduceIte,Bool.false_eq_true,Nat.sub_zero,Nat.sub_self,and_self,and_true,true_and,List.length_map,nls_ints,hEq_int,hNe_int,Ok_ok,OkG_some,EndQ_some,EndP_nx',EndP_rv',EndP_rn',LoopP_nx,LoopP_ct,LoopP_bk,LoopP_rt,lc_ite,xMeth,xZip,sAugS,stIx,sSub2,itemsOf,nlI_dk,sMove,ite_self,atI_0, atI_1, atI_2, ixN_0, ixN_1, ixN_2, d0, hd, hmo])
      exact ⟨a % m, ⟨a / m, b, c, hb⟩, ⟨Nat.mod_lt _ (by omega), Nat.le_succ _⟩, rfl, rfl⟩
    · have d0 : decide ((a : Int) > 0) = false := decide_eq_false (by omega)
      obtain ⟨M1, hM1⟩ : ∃ M : Int, M = 10000000000000000000000000 := ⟨_, rfl⟩
      obtain ⟨M2, hM2⟩ : ∃ M : Int, M = 1000000000000000000000000 := ⟨_, rfl⟩
      have p25 : hPow (.int 10) (.int 25) = some (.val (.int M1)) := by rw [hM1]; exact pow25
      have p24 : hPow (.int 10) (.int 24) = some (.val (.int M2)) := by rw [hM2]; exact pow24
      have hm1 : ∀ z : Int, hMod (.int z) (.int (M1 + 13)) = some (.val (.int (z % (M1 + 13)))) := fun z => hMod_p (by omega)
      have hm2 : ∀ z : Int, hMod (.int z) (.int (M2 + 7)) = some (.val (.int (z % (M2 + 7)))) := fun z => hMod_p (by omega)
      have hd4 : ∀ z : Int, hDiv (.int z) (.int 4096) = some (.val (.int (z / 4096))) := fun z => hDiv_g (by decide) (by decide +kernel)
      have hmu1 : ∀ z : Int, hMul (.int 1000003) (.int z) = some (.val (.int (1000003 * z))) := fun z => hMul_l (by decide)
      have hmu2 : ∀ z : Int, hMul (.int 77347) (.int z) = some (.val (.int (77347 * z))) := fun z => hMul_l (by decide)
      have hc' : c < 1000000 := hc
      obtain ⟨c1, hc1⟩ : ∃ c1 : Int, (c : Int) + 1 = c1 := ⟨_, rfl⟩
      obtain ⟨u3, p3⟩ : ∃ u : Int, hPowW (.int ((b : Int) + 1000003 * c1)) (.int 3) = some (.val (.int u)) := ⟨_, hPowW_p ⟨by decide, by decide, by omega⟩⟩
      obtain ⟨u2, p2⟩ : ∃ u : Int, hPowW (.int (u3 % (M1 + 13) + 77347 * c1)) (.int 2) = some (.val (.int u)) := ⟨_, hPowW_p ⟨by decide, by decide, by
        have h1 : 0 ≤ u3 % (M1 + 13) := Int.emod_nonneg _ (by omega)
        have h2 : u3 % (M1 + 13) < M1 + 13 := Int.emod_lt_of_pos _ (by omega)
        omega⟩⟩
      have z1 : 0 ≤ u2 % (M2 + 7) := Int.emod_nonneg _ (by omega)
      clear hM1 hM2
      (simp -implicitDefEqProofs -dsimp only [runF,endF_nx,endF_rv,endF_rn,endF_err,initS,ioOut,sSeq,sNil,sPass,sBreak,sCont,sBad,sExpr,sRet,sRetN,sIf,sSet,putR,frz,frzs,xVal,xVar,getS_0,getS_s,getR,ownD,getRs,xOp1,xOp2,fin,RD.r,aNil,aCons,xCB,xTup,xLst,truth,tOf,tAnds,tOrs,tNots,xIf,xAnd,xOr,xNot,xIsi,isTy,hAdd,hSub,hNeg,hLt,hLe,hGt,hGe,hIs,hIsNot,hIx,hLen,hInt,hAbs,hMax2,hMin2,h1L,hList,hListS,xMethL,hCountL,lcStep2,lcTurn2,lcAdd2,hTuple,vi,vb,xCall,xCallN,argsD,argD,ioIx,boIx,isOwn,nodupB,disB,xPost_ret,xPost_err,postS,putIo,frzIx,nlR,nlI,nl,nls,Rt.r,permL,tTrue,lcStep,lcTurn,lcAdd,gN,gT,gsNil,gsCons,DL.forget,back,xSeq,seqOf,xEnum,xRng1,xRng2,xRng3,xLstI,xTupI,sPar,noSlot,putRs,sTup,xMut,ownL,mApp,mIns,mPop,mPopAt,mExt,mRev,sSub,sAug,oNone,oSome,xSl,hSl,hStep,xChain,bind_ok',bind_err,bind_bad,List.set_cons_zero,List.set_cons_succ,List.foldl_cons,List.foldl_nil,List.cons_append,List.nil_append,List.replicate_succ,List.replicate_zero,List.append_nil,List.all_cons,List.all_nil,List.map_cons,List.map_nil,List.length_cons,List.length_nil,List.zip_cons_cons,List.filterMap_cons,List.filterMap_nil,List.getElem?_cons_zero,List.getElem?_cons_succ,List.contains_nil,List.contains_cons,Bool.and_true,Bool.true_and,Bool.and_false,Bool.false_and,Bool.not_true,Bool.not_false,Bool.or_true,Bool.true_or,Bool.or_false,Bool.false_or,if_true,if_false,reduceIte,reduceCtorEq,Nat.reduceSub,Nat.reduceAdd,Nat.reduceEqDiff,Option.map_some,Option.map_none,decide_true,decide_false,↓reduceIte,Bool.false_eq_true,Nat.sub_zero,Nat.sub_self,and_self,and_true,true_and,List.length_map,nls_ints,hEq_int,hNe_int,Ok_ok,OkG_some,EndQ_some,EndP_nx',EndP_rv',EndP_rn',LoopP_nx,LoopP_ct,LoopP_bk,LoopP_rt,lc_ite,xMeth,xZip,sAugS,stIx,sSub2,itemsOf,nlI_dk,sMove,ite_self,atI_0, atI_1, atI_2, ixN_0, ixN_1, ixN_2, d0, hc1, hd4, hmo, hm1, hm2, hmu1, hmu2, p24, p25, p3, p2])
      generalize u2 % (M2 + 7) = z at z1
      obtain ⟨v, hv⟩ : ∃ v : Nat, z = v := ⟨z.toNat, by omega⟩
      subst hv
      rw [← hc1]
      exact ⟨(v / 4096) % m, ⟨a, b, c + 1, hb⟩, ⟨Nat.mod_lt _ (by omega), Nat.le_refl _⟩, rfl, rfl⟩
  obtain ⟨_, _, e, t, y, h1, rfl, rfl⟩ := key
  exact ⟨t, y, h1, e⟩
noncomputable def Well.tk (x : Well) (m : Nat) : Nat := if h : (1 ≤ m ∧ m < 1000) ∧ x.c < 1000000 then Classical.choose (dip_ex x m h.1 h.2) else 0
noncomputable def Well.nx (x : Well) (m : Nat) : Well := if h : (1 ≤ m ∧ m < 1000) ∧ x.c < 1000000 then Classical.choose (Classical.choose_spec (dip_ex x m h.1 h.2)) else x
end DLS

namespace DLS
open Evl (Ex)
open PySem PySem.Spec PyProof.Rows L2 DL
/-! the four sorters -/
def stkStep (st : List Int × List Int) (x : Int) : List Int × List Int := (st.1 ++ st.2.takeWhile (fun y => decide (y < x)), x :: st.2.dropWhile (fun y => decide (y < x)))
def stackM (ns : List Int) : List Int := (ns.foldl stkStep ([], [])).1 ++ (ns.foldl stkStep ([], [])).2
def popStep (st : List Int × List Int) (x : Int) : List Int × List Int := match st.2 with
  | [] => (st.1, [x])
  | y :: r => if y < x then (st.1 ++ y :: r, [x]) else (st.1, x :: y :: r)
def popM (ns : List Int) : List Int := (ns.foldl popStep ([], [])).1 ++ (ns.foldl popStep ([], [])).2
def mergeL : List Int → List Int → List Int
  | [], ys => ys
  | xs, [] => xs
  | x :: xs, y :: ys => if x < y then x :: mergeL xs (y :: ys) else y :: mergeL (x :: xs) ys
  termination_by xs ys => xs.length + ys.length
def queueM (ns : List Int) : List Int := mergeL (queue ns).1 (queue ns).2
def bubStep (st : List Int × Int) (x : Int) : List Int × Int := (st.1 ++ [min st.2 x], max st.2 x)
def bubM : List Int → List Int
  | [] => []
  | x :: ns => (ns.foldl bubStep ([], x)).1 ++ [(ns.foldl bubStep ([], x)).2]
theorem stkStep_perm (st : List Int × List Int) (x : Int) : ((stkStep st x).1 ++ (stkStep st x).2).Perm (x :: (st.1 ++ st.2)) := by
  unfold stkStep
  dsimp only
  refine List.Perm.trans (List.perm_middle) ?_
  rw [List.append_assoc, List.takeWhile_append_dropWhile]
theorem popStep_perm (st : List Int × List Int) (x : Int) : ((popStep st x).1 ++ (popStep st x).2).Perm (x :: (st.1 ++ st.2)) := by
  obtain ⟨l, s⟩ := st
  cases s with
  | nil => show (l ++ [x]).Perm (x :: (l ++ [])); rw [List.append_nil]; exact List.perm_append_comm
  | cons y r =>
    unfold popStep
    dsimp only
    split
    · show ((l ++ y :: r) ++ [x]).Perm _
      exact List.perm_append_comm
    · exact List.perm_middle
theorem fold_perm {f : List Int × List Int → Int → List Int × List Int} (hf : ∀ st x, ((f st x).1 ++ (f st x).2).Perm (x :: (st.1 ++ st.2))) : ∀ (ns : List Int) (st : List Int × List Int), ((ns.foldl f st).1 ++ (ns.foldl f st).2).Perm (ns ++ (st.1 ++ st.2))
  | [], st => List.Perm.refl _
  | x :: ns, st => by
    rw [List.foldl_cons]
    refine (fold_perm hf ns (f st x)).trans ?_
    refine (List.Perm.append_left ns (hf st x)).trans ?_
    exact List.perm_middle
theorem stackM_perm (ns : List Int) : (stackM ns).Perm ns := by simpa [stackM] using fold_perm stkStep_perm ns ([], [])
theorem popM_perm (ns : List Int) : (popM ns).Perm ns := by simpa [popM] using fold_perm popStep_perm ns ([], [])
theorem qStep_perm (st : List Int × List Int) (x : Int) : ((qStep st x).1 ++ (qStep st x).2).Perm (x :: (st.1 ++ st.2)) := by
  unfold qStep
  split
  · show ((st.1 ++ [x]) ++ st.2).Perm _
    rw [List.append_assoc]
    exact List.perm_middle
  · split
    · show (st.1 ++ (st.2 ++ [x])).Perm _
      rw [← List.append_assoc]
      exact List.perm_append_comm
    · show ((st.1 ++ [x]) ++ st.2).Perm _
      rw [List.append_assoc]
      exact List.perm_middle
theorem mergeL_perm : ∀ (xs ys : List Int), (mergeL xs ys).Perm (xs ++ ys)
  | [], ys => by unfold mergeL; exact List.Perm.refl _
  | x :: xs, [] => by unfold mergeL; simp
  | x :: xs, y :: ys => by
    unfold mergeL
    split
    · exact List.Perm.cons x (mergeL_perm xs (y :: ys))
    · refine (List.Perm.cons y (mergeL_perm (x :: xs) ys)).trans ?_
      exact List.perm_middle.symm
  termination_by xs ys => xs.length + ys.length
theorem queueM_perm (ns : List Int) : (queueM ns).Perm ns := (mergeL_perm _ _).trans (by simpa [queue] using fold_perm qStep_perm ns ([], []))
theorem bub_perm : ∀ (ns : List Int) (st : List Int × Int), ((ns.foldl bubStep st).1 ++ [(ns.foldl bubStep st).2]).Perm (ns ++ (st.1 ++ [st.2]))
  | [], st => List.Perm.refl _
  | x :: ns, st => by
    rw [List.foldl_cons]
    refine (bub_perm ns (bubStep st x)).trans ?_
    have h : ((st.1 ++ [min st.2 x]) ++ [max st.2 x]).Perm (x :: (st.1 ++ [st.2])) := by
      rw [List.append_assoc]
      have h2 : ([min st.2 x] ++ [max st.2 x]).Perm [x, st.2] := by
        by_cases h : st.2 ≤ x
        · rw [Int.min_eq_left h, Int.max_eq_right h]
          exact List.Perm.swap _ _ _
        · rw [Int.min_eq_right (by omega), Int.max_eq_left (by omega)]
          exact List.Perm.refl _
      exact (List.Perm.append_left st.1 h2).trans List.perm_middle
    refine (List.Perm.append_left ns h).trans ?_
    exact List.perm_middle
theorem bubM_perm : ∀ ns : List Int, (bubM ns).Perm ns
  | [] => List.Perm.refl _
  | x :: ns => by
    refine (bub_perm ns ([], x)).trans ?_
    exact List.perm_append_comm
inductive Sorter | stack | popper | queues | bubble
def Sorter.nm : Sorter → PySem.Str
  | .stack => "stack"
  | .popper => "popper"
  | .queues => "queues"
  | .bubble => "bubble"
def Sorter.mk : Sorter → List Int → List Int
  | .stack => stackM
  | .popper => popM
  | .queues => queueM
  | .bubble => bubM
theorem Sorter.perm (k : Sorter) (ns : List Int) : (k.mk ns).Perm ns := by
  cases k
  · exact stackM_perm ns
  · exact popM_perm ns
  · exact queueM_perm ns
  · exact bubM_perm ns
theorem Sorter.len (k : Sorter) (ns : List Int) : (k.mk ns).length = ns.length := (k.perm ns).length_eq
theorem Sorter.ord (k : Sorter) {ns : List Int} (h : IsOrd ns) : IsOrd (k.mk ns) := by
  unfold IsOrd
  rw [k.len]
  exact (k.perm ns).trans h
/-! lists as they stand -/
end DLS

namespace DLS
open Evl (Ex)
open PySem PySem.Spec PyProof.Rows L2 DL
end DLS

namespace DLS
open Evl (Ex)
open PySem PySem.Spec PyProof.Rows L2 DL
theorem rest_sl (x : D) (r : List D) : cutD (x :: r) (some 1) none = r := cutD_from (ds := x :: r) (b := 1) (by simp)
end DLS

namespace DLS
open Evl (Ex)
open PySem PySem.Spec PyProof.Rows L2 DL
theorem hEq_str {a b : PySem.Str} {c : Bool} (h1 : PyData.strOk a = true) (h2 : PyData.strOk b = true) (h : (a == b) = c) : hEq (.str a) (.str b) = some (.val (.bool c)) := by
  show (if fl 60 (.str a) && fl 60 (.str b) then some (RD.val (.bool (a == b))) else none) = _
  rw [show fl 60 (.str a) = true by unfold fl; exact h1, show fl 60 (.str b) = true by unfold fl; exact h2, h]
  rfl
end DLS

namespace DLS
open Evl (Ex)
open PySem PySem.Spec PyProof.Rows L2 DL
theorem ixN_nat {n t : Nat} (h : t < n) : ixN n (t : Int) = some t := by
  unfold ixN
  rw [if_pos (by omega), if_pos (by omega)]
  rfl
theorem eraseIdx_mapI : ∀ (l : List Int) (k : Nat), (l.map PyData.int).eraseIdx k = (l.eraseIdx k).map PyData.int
  | [], _ => rfl
  | _ :: _, 0 => rfl
  | a :: l, k + 1 => by
    show PyData.int a :: (l.map PyData.int).eraseIdx k = _
    rw [eraseIdx_mapI l k]
    rfl
theorem erase_perm : ∀ (l : List Int) (k : Nat) (h : k < l.length), (l[k] :: l.eraseIdx k).Perm l
  | [], _, h => by simp at h
  | _ :: _, 0, _ => List.Perm.refl _
  | a :: l, k + 1, h => by
    show (l[k]'(by simpa using h) :: a :: l.eraseIdx k).Perm (a :: l)
    exact (List.Perm.swap _ _ _).trans (List.Perm.cons a (erase_perm l k (by simpa using h)))
end DLS

namespace DLS
open Evl (Ex)
open PySem PySem.Spec PyProof.Rows L2 DL
/-! what draws come from, for the laws on texts -/
structure Wl where
  a : Nat
  b : Nat
  c : Nat
  hb : b < 10000000000000000000000013
abbrev Wl.d (x : Wl) : D := welL x.a x.b x.c
theorem log2_of {n k : Nat} (h : n < 2 ^ k) (hk : 0 < k) : n.log2 < k := by
  by_cases h0 : n = 0
  · subst h0; simpa using hk
  · exact (Nat.log2_lt h0).mpr h
def capC : Nat := 1000000000
theorem draw_ex (x : Wl) (m : Nat) (h : 1 ≤ m ∧ m.log2 < 9000) (hc : x.c < capC) : ∃ (t : Nat) (y : Wl), (t < m ∧ y.c ≤ x.c + 1) ∧ den_law_draw [x.d, .int (m : Int)] = .ret (.val (.int (t : Int))) [y.d] := by
  have key : Ret (den_law_draw [x.d, .int (m : Int)]) fun r ios => ∃ (t : Nat) (y : Wl), (t < m ∧ y.c ≤ x.c + 1) ∧ r = .val (.int (t : Int)) ∧ ios = [y.d] := by
    apply Ret.run
    obtain ⟨a, b, c, hb⟩ := x
    have hd : ∀ z : Int, hDiv (.int z) (.int (m : Int)) = some (.val (.int (z / m))) := fun z => hDiv_g (by omega) (by simpa using h.2)
    have hmo : ∀ z : Int, hMod (.int z) (.int (m : Int)) = some (.val (.int (z % m))) := fun z => hMod_p (by omega)
    by_cases ha : 0 < a
    · have d0 : decide ((a : Int) > 0) = true := decide_eq_true (by omega)
      (simp -implicitDefEqProofs -dsimp only [runF,endF_nx,endF_rv,endF_rn,endF_err,initS,ioOut,sSeq,sNil,sPass,sBreak,sCont,sBad,sExpr,sRet,sRetN,sIf,sSet,putR,frz,frzs,xVal,xVar,getS_0,getS_s,getR,ownD,getRs,xOp1,xOp2,fin,RD.r,aNil,aCons,xCB,xTup,xLst,truth,tOf,tAnds,tOrs,tNots,xIf,xAnd,xOr,xNot,xIsi,isTy,hAdd,hSub,hNeg,hLt,hLe,hGt,hGe,hIs,hIsNot,hIx,hLen,hInt,hAbs,hMax2,hMin2,h1L,hList,hListS,xMethL,hCountL,lcStep2,lcTurn2,lcAdd2,hTuple,vi,vb,xCall,xCallN,argsD,argD,ioIx,boIx,isOwn,nodupB,disB,xPost_ret,xPost_err,postS,putIo,frzIx,nlR,nlI,nl,nls,Rt.r,permL,tTrue,lcStep,lcTurn,lcAdd,gN,gT,gsNil,gsCons,DL.forget,back,xSeq,seqOf,xEnum,xRng1,xRng2,xRng3,xLstI,xTupI,sPar,noSlot,putRs,sTup,xMut,ownL,mApp,mIns,mPop,mPopAt,mExt,mRev,sSub,sAug,oNone,oSome,xSl,hSl,hStep,xChain,bind_ok',bind_err,bind_bad,List.set_cons_zero,List.set_cons_succ,List.foldl_cons,List.foldl_nil,List.cons_append,List.nil_append,List.replicate_succ,List.replicate_zero,List.append_nil,List.all_cons,List.all_nil,List.map_cons,List.map_nil,List.length_cons,List.length_nil,List.zip_cons_cons,List.filterMap_cons,List.filterMap_nil,List.getElem?_cons_zero,List.getElem?_cons_succ,List.contains_nil,List.contains_cons,Bool.and_true,Bool.true_and,Bool.and_false,Bool.false_and,Bool.not_true,Bool.not_false,Bool.or_true,Bool.true_or,Bool.or_false,Bool.false_or,if_true,if_false,reduceIte,reduceCtorEq,Nat.reduceSub,Nat.reduceAdd,Nat.reduceEqDiff,Option.map_some,Option.map_none,decide_true,decide_false,↓reduceIte,Bool.false_eq_true,Nat.sub_zero,Nat.sub_self,and_self,and_true,true_and,List.length_map,nls_ints,hEq_int,hNe_int,Ok_ok,OkG_some,EndQ_some,EndP_nx',EndP_rv',EndP_rn',LoopP_nx,LoopP_ct,LoopP_bk,LoopP_rt,lc_ite,xMeth,xZip,sAugS,stIx,sSub2,itemsOf,nlI_dk,sMove,ite_self,atI_0, atI_1, atI_2, ixN_0, ixN_1, ixN_2, d0, hd, hmo])
      exact ⟨a % m, ⟨a / m, b, c, hb⟩, ⟨Nat.mod_lt _ (by omega), Nat.le_succ _⟩, rfl, rfl⟩
    · have d0 : decide ((a : Int) > 0) = false := decide_eq_false (by omega)
      obtain ⟨M1, hM1⟩ : ∃ M : Int, M = 100000000000000000000000000000 := ⟨_, rfl⟩
      obtain ⟨M2, hM2⟩ : ∃ M : Int, M = 1000000000000000000000000000000000 := ⟨_, rfl⟩
      have p29 : hPow (.int 10) (.int 29) = some (.val (.int M1)) := by rw [hM1]; exact hPow_p ⟨by decide, by decide, by decide⟩
      have p33 : hPow (.int 10) (.int 33) = some (.val (.int M2)) := by rw [hM2]; exact hPow_p ⟨by decide, by decide, by decide⟩
      have p6 : hPow (.int 10) (.int 6) = some (.val (.int 1000000)) := hPow_p ⟨by decide, by decide, by decide⟩
      have hm1 : ∀ z : Int, hMod (.int z) (.int (M1 + 319)) = some (.val (.int (z % (M1 + 319)))) := fun z => hMod_p (by omega)
      have hm2 : ∀ z : Int, hMod (.int z) (.int (M2 + 33)) = some (.val (.int (z % (M2 + 33)))) := fun z => hMod_p (by omega)
      have hd6 : ∀ z : Int, hDiv (.int z) (.int 1000000) = some (.val (.int (z / 1000000))) := fun z => hDiv_g (by decide) (by decide +kernel)
      have hmu1 : ∀ z : Int, hMul (.int 49979693) (.int z) = some (.val (.int (49979693 * z))) := fun z => hMul_l (by decide)
      have hc' : c < 1000000000 := by simpa only [capC] using hc
      obtain ⟨c1, hc1⟩ : ∃ c1 : Int, (c : Int) + 1 = c1 := ⟨_, rfl⟩
      obtain ⟨u3, p3⟩ : ∃ u : Int, hPowW (.int ((b : Int) + 49979693 * c1)) (.int 3) = some (.val (.int u)) := ⟨_, hPowW_p ⟨by decide, by decide, by omega⟩⟩
      obtain ⟨u2, p2⟩ : ∃ u : Int, hPowW (.int (u3 % (M1 + 319) + 2038074751)) (.int 3) = some (.val (.int u)) := ⟨_, hPowW_p ⟨by decide, by decide, by
        have h1 : 0 ≤ u3 % (M1 + 319) := Int.emod_nonneg _ (by omega)
        have h2 : u3 % (M1 + 319) < M1 + 319 := Int.emod_lt_of_pos _ (by omega)
        omega⟩⟩
      have z1 : 0 ≤ u2 % (M2 + 33) := Int.emod_nonneg _ (by omega)
      clear hM1 hM2
      (simp -implicitDefEqProofs -dsimp only [runF,endF_nx,endF_rv,endF_rn,endF_err,initS,ioOut,sSeq,sNil,sPass,sBreak,sCont,sBad,sExpr,sRet,sRetN,sIf,sSet,putR,frz,frzs,xVal,xVar,getS_0,getS_s,getR,ownD,getRs,xOp1,xOp2,fin,RD.r,aNil,aCons,xCB,xTup,xLst,truth,tOf,tAnds,tOrs,tNots,xIf,xAnd,xOr,xNot,xIsi,isTy,hAdd,hSub,hNeg,hLt,hLe,hGt,hGe,hIs,hIsNot,hIx,hLen,hInt,hAbs,hMax2,hMin2,h1L,hList,hListS,xMethL,hCountL,lcStep2,lcTurn2,lcAdd2,hTuple,vi,vb,xCall,xCallN,argsD,argD,ioIx,boIx,isOwn,nodupB,disB,xPost_ret,xPost_err,postS,putIo,frzIx,nlR,nlI,nl,nls,Rt.r,permL,tTrue,lcStep,lcTurn,lcAdd,gN,gT,gsNil,gsCons,DL.forget,back,xSeq,seqOf,xEnum,xRng1,xRng2,xRng3,xLstI,xTupI,sPar,noSlot,putRs,sTup,xMut,ownL,mApp,mIns,mPop,mPopAt,mExt,mRev,sSub,sAug,oNone,oSome,xSl,hSl,hStep,xChain,bind_ok',bind_err,bind_bad,List.set_cons_zero,List.set_cons_succ,List.foldl_cons,List.foldl_nil,List.cons_append,List.nil_append,List.replicate_succ,List.replicate_zero,List.append_nil,List.all_cons,List.all_nil,List.map_cons,List.map_nil,List.length_cons,List.length_nil,List.zip_cons_cons,List.filterMap_cons,List.filterMap_nil,List.getElem?_cons_zero,List.getElem?_cons_succ,List.contains_nil,List.contains_cons,Bool.and_true,Bool.true_and,Bool.and_false,Bool.false_and,Bool.not_true,Bool.not_false,Bool.or_true,Bool.true_or,Bool.or_false,Bool.false_or,if_true,if_false,reduceIte,reduceCtorEq,Nat.reduceSub,Nat.reduceAdd,Nat.reduceEqDiff,Option.map_some,Option.map_none,decide_true,decide_false,↓reduceIte,Bool.false_eq_true,Nat.sub_zero,Nat.sub_self,and_self,and_true,true_and,List.length_map,nls_ints,hEq_int,hNe_int,Ok_ok,OkG_some,EndQ_some,EndP_nx',EndP_rv',EndP_rn',LoopP_nx,LoopP_ct,LoopP_bk,LoopP_rt,lc_ite,xMeth,xZip,sAugS,stIx,sSub2,itemsOf,nlI_dk,sMove,ite_self,atI_0, atI_1, atI_2, ixN_0, ixN_1, ixN_2, d0, hc1, hd6, hmo, hm1, hm2, hmu1, p29, p33, p6, p3, p2])
      generalize u2 % (M2 + 33) = z at z1
      obtain ⟨v, hv⟩ : ∃ v : Nat, z = v := ⟨z.toNat, by omega⟩
      subst hv
      rw [← hc1]
      exact ⟨(v / 1000000) % m, ⟨a, b, c + 1, hb⟩, ⟨Nat.mod_lt _ (by omega), Nat.le_refl _⟩, rfl, rfl⟩
  obtain ⟨_, _, e, t, y, h1, rfl, rfl⟩ := key
  exact ⟨t, y, h1, e⟩
open Classical in
noncomputable def Wl.tk (x : Wl) (m : Nat) : Nat := if h : (1 ≤ m ∧ m.log2 < 9000) ∧ x.c < capC then Classical.choose (draw_ex x m h.1 h.2) else 0
open Classical in
noncomputable def Wl.nx (x : Wl) (m : Nat) : Wl := if h : (1 ≤ m ∧ m.log2 < 9000) ∧ x.c < capC then Classical.choose (Classical.choose_spec (draw_ex x m h.1 h.2)) else x
theorem drawG (x : Wl) (m : Nat) (h : 1 ≤ m ∧ m.log2 < 9000) (hc : x.c < capC) : (x.tk m < m ∧ (x.nx m).c ≤ x.c + 1) ∧ den_law_draw [x.d, .int (m : Int)] = .ret (.val (.int (x.tk m : Int))) [(x.nx m).d] := by
  unfold Wl.tk Wl.nx
  rw [dif_pos ⟨h, hc⟩, dif_pos ⟨h, hc⟩]
  exact Classical.choose_spec (Classical.choose_spec (draw_ex x m h hc))
theorem draw (x : Wl) (m : Nat) (h : 1 ≤ m ∧ m < 1000000) (hc : x.c < capC) : (x.tk m < m ∧ (x.nx m).c ≤ x.c + 1) ∧ den_law_draw [x.d, .int (m : Int)] = .ret (.val (.int (x.tk m : Int))) [(x.nx m).d] :=
  drawG x m ⟨h.1, by have := log2_of (n := m) (k := 20) (by omega) (by omega); omega⟩ hc
/-- a draw, its value and the well behind it made variables -/
theorem drawV (x : Wl) (m : Nat) (h : 1 ≤ m ∧ m < 1000000) (hc : x.c < capC) : ∃ (t : Nat) (y : Wl), t < m ∧ y.c ≤ x.c + 1 ∧ den_law_draw [x.d, .int (m : Int)] = .ret (.val (.int (t : Int))) [y.d] :=
  ⟨_, _, (draw x m h hc).1.1, (draw x m h hc).1.2, (draw x m h hc).2⟩
theorem mulF {K : Int} (h : K.natAbs < two64) : ∃ f : Int → Int, ∀ z : Int, hMul (.int z) (.int K) = some (.val (.int (f z))) := ⟨fun z => z * K, fun z => hMul_r h⟩
theorem well2_eq (ns : List Int) (k : Nat) : ∃ x : Wl, x.c = 0 ∧ den_law_well_2 [scrD ns, .int (k : Int)] = .ret (.new x.d) [] := by
  obtain ⟨f1, hmu⟩ := mulF (K := 86028157) (by decide)
  obtain ⟨f2, hmu2⟩ := mulF (K := 179424691) (by decide)
  obtain ⟨f3, hmu3⟩ := mulF (K := 104723) (by decide)
  obtain ⟨f4, hmu4⟩ := mulF (K := 15485863) (by decide)
  obtain ⟨M1, hM1⟩ : ∃ M : Int, M = 1000000000000000000 := ⟨_, rfl⟩
  obtain ⟨M2, hM2⟩ : ∃ M : Int, M = 10000000000000000000000000 := ⟨_, rfl⟩
  have p18 : hPow (.int 10) (.int 18) = some (.val (.int M1)) := by rw [hM1]; exact pow18
  have p25 : hPow (.int 10) (.int 25) = some (.val (.int M2)) := by rw [hM2]; exact pow25
  have hm2 : ∀ z : Int, hMod (.int z) (.int (M2 + 13)) = some (.val (.int (z % (M2 + 13)))) := fun z => hMod_p (by omega)
  have wfin : ∀ cell w : Int, ∃ x : Wl, x.c = 0 ∧ (PyData.list [.int (if (if cell < 0 then -cell else cell) - M1 > 0 then (if cell < 0 then -cell else cell) - M1 else 0), .int (w % (M2 + 13)), .int 0] : D) = x.d := fun cell w => by
    generalize (if cell < 0 then -cell else cell) - M1 = q
    have z1 : 0 ≤ w % (M2 + 13) := Int.emod_nonneg _ (by omega)
    have z2 : w % (M2 + 13) < M2 + 13 := Int.emod_lt_of_pos _ (by omega)
    generalize w % (M2 + 13) = w at z1 z2
    obtain ⟨u, hu⟩ : ∃ u : Nat, (if q > 0 then q else 0) = (u : Int) := ⟨(if q > 0 then q else 0).toNat, by split <;> omega⟩
    obtain ⟨v, rfl⟩ : ∃ v : Nat, w = v := ⟨w.toNat, by omega⟩
    rw [hu]
    exact ⟨⟨u, v, 0, by omega⟩, rfl, rfl⟩
  clear hM1 hM2
  by_cases hlt : k < ns.length
  · have hat : atI (ns.map PyData.int) (k : Int) = some (.int ns[k]) := by rw [atI_nat']; simp [hlt]
    have hd : decide ((k : Int) < (ns.length : Int)) = true := decide_eq_true (by omega)
    obtain ⟨x, hx, e⟩ := wfin ns[k] (f1 ns[k] + f2 k + 7919)
    refine ⟨x, hx, ?_⟩
    unfold den_law_well_2
    rw [← e]
    (simp -implicitDefEqProofs -dsimp only [runF,endF_nx,endF_rv,endF_rn,endF_err,initS,ioOut,sSeq,sNil,sPass,sBreak,sCont,sBad,sExpr,sRet,sRetN,sIf,sSet,putR,frz,frzs,xVal,xVar,getS_0,getS_s,getR,ownD,getRs,xOp1,xOp2,fin,RD.r,aNil,aCons,xCB,xTup,xLst,truth,tOf,tAnds,tOrs,tNots,xIf,xAnd,xOr,xNot,xIsi,isTy,hAdd,hSub,hNeg,hLt,hLe,hGt,hGe,hIs,hIsNot,hIx,hLen,hInt,hAbs,hMax2,hMin2,h1L,hList,hListS,xMethL,hCountL,lcStep2,lcTurn2,lcAdd2,hTuple,vi,vb,xCall,xCallN,argsD,argD,ioIx,boIx,isOwn,nodupB,disB,xPost_ret,xPost_err,postS,putIo,frzIx,nlR,nlI,nl,nls,Rt.r,permL,tTrue,lcStep,lcTurn,lcAdd,gN,gT,gsNil,gsCons,DL.forget,back,xSeq,seqOf,xEnum,xRng1,xRng2,xRng3,xLstI,xTupI,sPar,noSlot,putRs,sTup,xMut,ownL,mApp,mIns,mPop,mPopAt,mExt,mRev,sSub,sAug,oNone,oSome,xSl,hSl,hStep,xChain,bind_ok',bind_err,bind_bad,List.set_cons_zero,List.set_cons_succ,List.foldl_cons,List.foldl_nil,List.cons_append,List.nil_append,List.replicate_succ,List.replicate_zero,List.append_nil,List.all_cons,List.all_nil,List.map_cons,List.map_nil,List.length_cons,List.length_nil,List.zip_cons_cons,List.filterMap_cons,List.filterMap_nil,List.getElem?_cons_zero,List.getElem?_cons_succ,List.contains_nil,List.contains_cons,Bool.and_true,Bool.true_and,Bool.and_false,Bool.false_and,Bool.not_true,Bool.not_false,Bool.or_true,Bool.true_or,Bool.or_false,Bool.false_or,if_true,if_false,reduceIte,reduceCtorEq,Nat.reduceSub,Nat.reduceAdd,Nat.reduceEqDiff,Option.map_some,Option.map_none,decide_true,decide_false,↓reduceIte,Bool.false_eq_true,Nat.sub_zero,Nat.sub_self,and_self,and_true,true_and,List.length_map,nls_ints,hEq_int,hNe_int,Ok_ok,OkG_some,EndQ_some,EndP_nx',EndP_rv',EndP_rn',LoopP_nx,LoopP_ct,LoopP_bk,LoopP_rt,lc_ite,xMeth,xZip,sAugS,stIx,sSub2,itemsOf,nlI_dk,sMove,ite_self,scrD, List.length_map, hd, hat, hmu, hmu2, hm2, p18, p25])
  · have hd : decide ((k : Int) < (ns.length : Int)) = false := decide_eq_false (by omega)
    obtain ⟨x, hx, e⟩ := wfin (f3 k + f4 ns.length) (f1 (f3 k + f4 ns.length) + f2 k + 7919)
    refine ⟨x, hx, ?_⟩
    unfold den_law_well_2
    rw [← e]
    (simp -implicitDefEqProofs -dsimp only [runF,endF_nx,endF_rv,endF_rn,endF_err,initS,ioOut,sSeq,sNil,sPass,sBreak,sCont,sBad,sExpr,sRet,sRetN,sIf,sSet,putR,frz,frzs,xVal,xVar,getS_0,getS_s,getR,ownD,getRs,xOp1,xOp2,fin,RD.r,aNil,aCons,xCB,xTup,xLst,truth,tOf,tAnds,tOrs,tNots,xIf,xAnd,xOr,xNot,xIsi,isTy,hAdd,hSub,hNeg,hLt,hLe,hGt,hGe,hIs,hIsNot,hIx,hLen,hInt,hAbs,hMax2,hMin2,h1L,hList,hListS,xMethL,hCountL,lcStep2,lcTurn2,lcAdd2,hTuple,vi,vb,xCall,xCallN,argsD,argD,ioIx,boIx,isOwn,nodupB,disB,xPost_ret,xPost_err,postS,putIo,frzIx,nlR,nlI,nl,nls,Rt.r,permL,tTrue,lcStep,lcTurn,lcAdd,gN,gT,gsNil,gsCons,DL.forget,back,xSeq,seqOf,xEnum,xRng1,xRng2,xRng3,xLstI,xTupI,sPar,noSlot,putRs,sTup,xMut,ownL,mApp,mIns,mPop,mPopAt,mExt,mRev,sSub,sAug,oNone,oSome,xSl,hSl,hStep,xChain,bind_ok',bind_err,bind_bad,List.set_cons_zero,List.set_cons_succ,List.foldl_cons,List.foldl_nil,List.cons_append,List.nil_append,List.replicate_succ,List.replicate_zero,List.append_nil,List.all_cons,List.all_nil,List.map_cons,List.map_nil,List.length_cons,List.length_nil,List.zip_cons_cons,List.filterMap_cons,List.filterMap_nil,List.getElem?_cons_zero,List.getElem?_cons_succ,List.contains_nil,List.contains_cons,Bool.and_true,Bool.true_and,Bool.and_false,Bool.false_and,Bool.not_true,Bool.not_false,Bool.or_true,Bool.true_or,Bool.or_false,Bool.false_or,if_true,if_false,reduceIte,reduceCtorEq,Nat.reduceSub,Nat.reduceAdd,Nat.reduceEqDiff,Option.map_some,Option.map_none,decide_true,decide_false,↓reduceIte,Bool.false_eq_true,Nat.sub_zero,Nat.sub_self,and_self,and_true,true_and,List.length_map,nls_ints,hEq_int,hNe_int,Ok_ok,OkG_some,EndQ_some,EndP_nx',EndP_rv',EndP_rn',LoopP_nx,LoopP_ct,LoopP_bk,LoopP_rt,lc_ite,xMeth,xZip,sAugS,stIx,sSub2,itemsOf,nlI_dk,sMove,ite_self,scrD, List.length_map, hd, hmu, hmu2, hmu3, hmu4, hm2, p18, p25])
/-! an order of so many things -/
theorem order3_eq (x : Wl) (n : Nat) (hn : n ≤ 60) (hc : x.c + n < capC) : ∃ (ns : List Int) (y : Wl), (IsOrd ns ∧ ns.length = n ∧ y.c ≤ x.c + n) ∧ den_law_order_3 [x.d, .int (n : Int)] = .ret (.val (tI ns)) [y.d] := by
  have key : Ret (den_law_order_3 [x.d, .int (n : Int)]) fun r ios => ∃ (ns : List Int) (y : Wl), (IsOrd ns ∧ ns.length = n ∧ y.c ≤ x.c + n) ∧ r = .val (tI ns) ∧ ios = [y.d] := by
    have hr2 : rg2Ok 1 ((n : Int) + 1) = true := rg2Ok_of (by omega) (by omega) (by omega) (by omega)
    have hr1 : rg1Ok (n : Int) = true := rg1Ok_of (by omega)
    have hn2 : ((n : Int) + 1 - 1).toNat = n := by omega
    have hn1 : (n : Int).toNat = n := Int.toNat_natCast n
    have z0 : n ≤ line := by unfold line; omega
    apply Ret.run
    (simp -implicitDefEqProofs -dsimp only [runF,endF_nx,endF_rv,endF_rn,endF_err,initS,ioOut,sSeq,sNil,sPass,sBreak,sCont,sBad,sExpr,sRet,sRetN,sIf,sSet,putR,frz,frzs,xVal,xVar,getS_0,getS_s,getR,ownD,getRs,xOp1,xOp2,fin,RD.r,aNil,aCons,xCB,xTup,xLst,truth,tOf,tAnds,tOrs,tNots,xIf,xAnd,xOr,xNot,xIsi,isTy,hAdd,hSub,hNeg,hLt,hLe,hGt,hGe,hIs,hIsNot,hIx,hLen,hInt,hAbs,hMax2,hMin2,h1L,hList,hListS,xMethL,hCountL,lcStep2,lcTurn2,lcAdd2,hTuple,vi,vb,xCall,xCallN,argsD,argD,ioIx,boIx,isOwn,nodupB,disB,xPost_ret,xPost_err,postS,putIo,frzIx,nlR,nlI,nl,nls,Rt.r,permL,tTrue,lcStep,lcTurn,lcAdd,gN,gT,gsNil,gsCons,DL.forget,back,xSeq,seqOf,xEnum,xRng1,xRng2,xRng3,xLstI,xTupI,sPar,noSlot,putRs,sTup,xMut,ownL,mApp,mIns,mPop,mPopAt,mExt,mRev,sSub,sAug,oNone,oSome,xSl,hSl,hStep,xChain,bind_ok',bind_err,bind_bad,List.set_cons_zero,List.set_cons_succ,List.foldl_cons,List.foldl_nil,List.cons_append,List.nil_append,List.replicate_succ,List.replicate_zero,List.append_nil,List.all_cons,List.all_nil,List.map_cons,List.map_nil,List.length_cons,List.length_nil,List.zip_cons_cons,List.filterMap_cons,List.filterMap_nil,List.getElem?_cons_zero,List.getElem?_cons_succ,List.contains_nil,List.contains_cons,Bool.and_true,Bool.true_and,Bool.and_false,Bool.false_and,Bool.not_true,Bool.not_false,Bool.or_true,Bool.true_or,Bool.or_false,Bool.false_or,if_true,if_false,reduceIte,reduceCtorEq,Nat.reduceSub,Nat.reduceAdd,Nat.reduceEqDiff,Option.map_some,Option.map_none,decide_true,decide_false,↓reduceIte,Bool.false_eq_true,Nat.sub_zero,Nat.sub_self,and_self,and_true,true_and,List.length_map,nls_ints,hEq_int,hNe_int,Ok_ok,OkG_some,EndQ_some,EndP_nx',EndP_rv',EndP_rn',LoopP_nx,LoopP_ct,LoopP_bk,LoopP_rt,lc_ite,xMeth,xZip,sAugS,stIx,sSub2,itemsOf,nlI_dk,sMove,ite_self,hr2, hn2, rgD_rng, rng_len, z0])
    refine Ok.bind (Ok.forR 0 n (fun i s => ∃ (y : Wl) (L F : List Int) (o : Option Sl), (F ++ L).Perm (rng n) ∧ F.length = i ∧ y.c ≤ x.c + i ∧ s = [some (.own (some 0) y.d), some (.val (.int (n : Int))), o, some (.own none (lI L)), some (.own none (lI F))]) (by ((simp -implicitDefEqProofs -dsimp only [runF,endF_nx,endF_rv,endF_rn,endF_err,initS,ioOut,sSeq,sNil,sPass,sBreak,sCont,sBad,sExpr,sRet,sRetN,sIf,sSet,putR,frz,frzs,xVal,xVar,getS_0,getS_s,getR,ownD,getRs,xOp1,xOp2,fin,RD.r,aNil,aCons,xCB,xTup,xLst,truth,tOf,tAnds,tOrs,tNots,xIf,xAnd,xOr,xNot,xIsi,isTy,hAdd,hSub,hNeg,hLt,hLe,hGt,hGe,hIs,hIsNot,hIx,hLen,hInt,hAbs,hMax2,hMin2,h1L,hList,hListS,xMethL,hCountL,lcStep2,lcTurn2,lcAdd2,hTuple,vi,vb,xCall,xCallN,argsD,argD,ioIx,boIx,isOwn,nodupB,disB,xPost_ret,xPost_err,postS,putIo,frzIx,nlR,nlI,nl,nls,Rt.r,permL,tTrue,lcStep,lcTurn,lcAdd,gN,gT,gsNil,gsCons,DL.forget,back,xSeq,seqOf,xEnum,xRng1,xRng2,xRng3,xLstI,xTupI,sPar,noSlot,putRs,sTup,xMut,ownL,mApp,mIns,mPop,mPopAt,mExt,mRev,sSub,sAug,oNone,oSome,xSl,hSl,hStep,xChain,bind_ok',bind_err,bind_bad,List.set_cons_zero,List.set_cons_succ,List.foldl_cons,List.foldl_nil,List.cons_append,List.nil_append,List.replicate_succ,List.replicate_zero,List.append_nil,List.all_cons,List.all_nil,List.map_cons,List.map_nil,List.length_cons,List.length_nil,List.zip_cons_cons,List.filterMap_cons,List.filterMap_nil,List.getElem?_cons_zero,List.getElem?_cons_succ,List.contains_nil,List.contains_cons,Bool.and_true,Bool.true_and,Bool.and_false,Bool.false_and,Bool.not_true,Bool.not_false,Bool.or_true,Bool.true_or,Bool.or_false,Bool.false_or,if_true,if_false,reduceIte,reduceCtorEq,Nat.reduceSub,Nat.reduceAdd,Nat.reduceEqDiff,Option.map_some,Option.map_none,decide_true,decide_false,↓reduceIte,Bool.false_eq_true,Nat.sub_zero,Nat.sub_self,and_self,and_true,true_and,List.length_map,nls_ints,hEq_int,hNe_int,Ok_ok,OkG_some,EndQ_some,EndP_nx',EndP_rv',EndP_rn',LoopP_nx,LoopP_ct,LoopP_bk,LoopP_rt,lc_ite,xMeth,xZip,sAugS,stIx,sSub2,itemsOf,nlI_dk,sMove,ite_self,hr1, hn1]) <;> rfl)) ⟨x, rng n, [], none, List.Perm.refl _, rfl, Nat.le_refl _, rfl⟩ ?_ ?_)
    · rintro i hi _ ⟨y, L, F, o, hp, hF, hyc, rfl⟩
      have hlen := hp.length_eq
      rw [List.length_append, rng_len] at hlen
      obtain ⟨⟨g1, g3⟩, g2⟩ := draw y L.length (by omega) (by omega)
      have i1 := ixN_nat g1
      have e1 : (List.map PyData.int L)[y.tk L.length]? = some (.int L[y.tk L.length]) := by simp [g1]
      have e2 : (List.map PyData.int L).eraseIdx (y.tk L.length) = List.map PyData.int (L.eraseIdx (y.tk L.length)) := eraseIdx_mapI _ _
      have z2 : (L.eraseIdx (y.tk L.length)).length ≤ line := by rw [List.length_eraseIdx_of_lt g1]; unfold line; omega
      have z3 : F.length < line := by unfold line; omega
      have z4 : F.length + 1 ≤ line := by unfold line; omega
      (simp -implicitDefEqProofs -dsimp only [runF,endF_nx,endF_rv,endF_rn,endF_err,initS,ioOut,sSeq,sNil,sPass,sBreak,sCont,sBad,sExpr,sRet,sRetN,sIf,sSet,putR,frz,frzs,xVal,xVar,getS_0,getS_s,getR,ownD,getRs,xOp1,xOp2,fin,RD.r,aNil,aCons,xCB,xTup,xLst,truth,tOf,tAnds,tOrs,tNots,xIf,xAnd,xOr,xNot,xIsi,isTy,hAdd,hSub,hNeg,hLt,hLe,hGt,hGe,hIs,hIsNot,hIx,hLen,hInt,hAbs,hMax2,hMin2,h1L,hList,hListS,xMethL,hCountL,lcStep2,lcTurn2,lcAdd2,hTuple,vi,vb,xCall,xCallN,argsD,argD,ioIx,boIx,isOwn,nodupB,disB,xPost_ret,xPost_err,postS,putIo,frzIx,nlR,nlI,nl,nls,Rt.r,permL,tTrue,lcStep,lcTurn,lcAdd,gN,gT,gsNil,gsCons,DL.forget,back,xSeq,seqOf,xEnum,xRng1,xRng2,xRng3,xLstI,xTupI,sPar,noSlot,putRs,sTup,xMut,ownL,mApp,mIns,mPop,mPopAt,mExt,mRev,sSub,sAug,oNone,oSome,xSl,hSl,hStep,xChain,bind_ok',bind_err,bind_bad,List.set_cons_zero,List.set_cons_succ,List.foldl_cons,List.foldl_nil,List.cons_append,List.nil_append,List.replicate_succ,List.replicate_zero,List.append_nil,List.all_cons,List.all_nil,List.map_cons,List.map_nil,List.length_cons,List.length_nil,List.zip_cons_cons,List.filterMap_cons,List.filterMap_nil,List.getElem?_cons_zero,List.getElem?_cons_succ,List.contains_nil,List.contains_cons,Bool.and_true,Bool.true_and,Bool.and_false,Bool.false_and,Bool.not_true,Bool.not_false,Bool.or_true,Bool.true_or,Bool.or_false,Bool.false_or,if_true,if_false,reduceIte,reduceCtorEq,Nat.reduceSub,Nat.reduceAdd,Nat.reduceEqDiff,Option.map_some,Option.map_none,decide_true,decide_false,↓reduceIte,Bool.false_eq_true,Nat.sub_zero,Nat.sub_self,and_self,and_true,true_and,List.length_map,nls_ints,hEq_int,hNe_int,Ok_ok,OkG_some,EndQ_some,EndP_nx',EndP_rv',EndP_rn',LoopP_nx,LoopP_ct,LoopP_bk,LoopP_rt,lc_ite,xMeth,xZip,sAugS,stIx,sSub2,itemsOf,nlI_dk,sMove,ite_self,g2, i1, e1, e2, z2, z3, z4, List.length_append])
      refine ⟨y.nx L.length, L.eraseIdx (y.tk L.length), F ++ [L[y.tk L.length]], some (.val (.int (0 + (i : Int)))), ?_, by simp [hF], by omega, by simp⟩
      refine List.Perm.trans ?_ hp
      rw [List.append_assoc]
      exact List.Perm.append_left F (erase_perm L _ g1)
    · rintro _ ⟨y, L, F, o, hp, hF, hyc, rfl⟩
      have hlen := hp.length_eq
      rw [List.length_append, rng_len] at hlen
      have : L = [] := List.eq_nil_of_length_eq_zero (by omega)
      subst this
      (simp -implicitDefEqProofs -dsimp only [runF,endF_nx,endF_rv,endF_rn,endF_err,initS,ioOut,sSeq,sNil,sPass,sBreak,sCont,sBad,sExpr,sRet,sRetN,sIf,sSet,putR,frz,frzs,xVal,xVar,getS_0,getS_s,getR,ownD,getRs,xOp1,xOp2,fin,RD.r,aNil,aCons,xCB,xTup,xLst,truth,tOf,tAnds,tOrs,tNots,xIf,xAnd,xOr,xNot,xIsi,isTy,hAdd,hSub,hNeg,hLt,hLe,hGt,hGe,hIs,hIsNot,hIx,hLen,hInt,hAbs,hMax2,hMin2,h1L,hList,hListS,xMethL,hCountL,lcStep2,lcTurn2,lcAdd2,hTuple,vi,vb,xCall,xCallN,argsD,argD,ioIx,boIx,isOwn,nodupB,disB,xPost_ret,xPost_err,postS,putIo,frzIx,nlR,nlI,nl,nls,Rt.r,permL,tTrue,lcStep,lcTurn,lcAdd,gN,gT,gsNil,gsCons,DL.forget,back,xSeq,seqOf,xEnum,xRng1,xRng2,xRng3,xLstI,xTupI,sPar,noSlot,putRs,sTup,xMut,ownL,mApp,mIns,mPop,mPopAt,mExt,mRev,sSub,sAug,oNone,oSome,xSl,hSl,hStep,xChain,bind_ok',bind_err,bind_bad,List.set_cons_zero,List.set_cons_succ,List.foldl_cons,List.foldl_nil,List.cons_append,List.nil_append,List.replicate_succ,List.replicate_zero,List.append_nil,List.all_cons,List.all_nil,List.map_cons,List.map_nil,List.length_cons,List.length_nil,List.zip_cons_cons,List.filterMap_cons,List.filterMap_nil,List.getElem?_cons_zero,List.getElem?_cons_succ,List.contains_nil,List.contains_cons,Bool.and_true,Bool.true_and,Bool.and_false,Bool.false_and,Bool.not_true,Bool.not_false,Bool.or_true,Bool.true_or,Bool.or_false,Bool.false_or,if_true,if_false,reduceIte,reduceCtorEq,Nat.reduceSub,Nat.reduceAdd,Nat.reduceEqDiff,Option.map_some,Option.map_none,decide_true,decide_false,↓reduceIte,Bool.false_eq_true,Nat.sub_zero,Nat.sub_self,and_self,and_true,true_and,List.length_map,nls_ints,hEq_int,hNe_int,Ok_ok,OkG_some,EndQ_some,EndP_nx',EndP_rv',EndP_rn',LoopP_nx,LoopP_ct,LoopP_bk,LoopP_rt,lc_ite,xMeth,xZip,sAugS,stIx,sSub2,itemsOf,nlI_dk,sMove,ite_self])
      refine ⟨F, y, ⟨?_, hF, hyc⟩, rfl, rfl⟩
      unfold IsOrd
      rw [hF]
      simpa using hp
  obtain ⟨_, _, e, ns, y, h1, rfl, rfl⟩ := key
  exact ⟨ns, y, h1, e⟩
end DLS

namespace DLS
open Evl (Ex)
open PySem PySem.Spec PyProof.Rows L2 DL
/-! which orders the sorters sort -/
/-! the stack -/
/-! the popper -/
end DLS

namespace DLS
open Evl (Ex)
open PySem PySem.Spec PyProof.Rows L2 DL
/-! the bubble -/
/-! the two rows -/
end DLS

namespace DLS
open Evl (Ex)
open PySem PySem.Spec PyProof.Rows L2 DL
/-! a pattern of three things -/
/-! each sorter's list -/
def Sorter.ls : Sorter → List (List Int)
  | .stack => [[2, 3, 1]]
  | .popper => [[2, 3, 1], [3, 1, 2]]
  | .queues => [[3, 2, 1]]
  | .bubble => [[2, 3, 1], [3, 2, 1]]
end DLS

namespace DLS
open Evl (Ex)
open PySem PySem.Spec PyProof.Rows L2 DL
/-! a pattern searched for, rows of places on a pile -/
def Ok1 (o p : List Int) (row : List Nat) (q : Nat) : Prop := ∀ k, k < row.length → (gI o (gN' row k) < gI o q ↔ gI p k < gI p row.length)
instance ok1Dec (o p : List Int) (row : List Nat) (q : Nat) : Decidable (Ok1 o p row q) := inferInstanceAs (Decidable (∀ k, k < row.length → _))
end DLS

namespace DLS
open Evl (Ex)
open PySem PySem.Spec PyProof.Rows L2 DL
end DLS

namespace DLS
open Evl (Ex)
open PySem PySem.Spec PyProof.Rows L2 DL
end DLS

namespace DLS
open Evl (Ex)
open PySem PySem.Spec PyProof.Rows L2 DL
/-! ### open forms -/
def zs (f : List Int) : List Nat := (List.range f.length).filter fun k => decide (gI f k = 0)
def nz (f : List Int) : List Int := f.filter fun x => decide (x ≠ 0)
def noAdj (f : List Int) : Prop := ∀ i, i + 1 < f.length → ¬ (gI f i = 0 ∧ gI f (i + 1) = 0)
def FormOk (f : List Int) : Prop := f ≠ [] ∧ noAdj f ∧ IsOrd (nz f)
theorem zs_count (f : List Int) : (zs f).length = f.count 0 := by
  have e : f = (List.range f.length).map (gI f) := by
    apply List.ext_getElem (by simp)
    intro i h1 h2
    simp [gI, h1]
  conv => rhs; rw [e]
  unfold zs
  rw [List.count_eq_length_filter, List.filter_map, List.length_map]
  rfl
/-- all letters of a form -/
def lets (f : List Int) : List (Nat × Nat) := (List.range (zs f).length).flatMap fun s => (List.range 4).map fun w => (s + 1, w)
end DLS

namespace DLS
open Evl (Ex)
open PySem PySem.Spec PyProof.Rows L2 DL
/-! ### words of orders: behind the numbers up to j an order's form has a slot for each run of the others -/
def en (j : Int) : Bool → List Int → Bool
  | b, [] => b
  | _, x :: r => en j (decide (j < x)) r
theorem nz_zs : ∀ l : List Int, l.length = (nz l).length + l.count 0
  | [] => rfl
  | x :: r => by
    have := nz_zs r
    by_cases h : x = 0
    · subst h
      have e : nz (0 :: r) = nz r := by unfold nz; rw [List.filter_cons_of_neg (by decide)]
      rw [e, List.count_cons_self, List.length_cons]; omega
    · have e : nz (x :: r) = x :: nz r := by unfold nz; rw [List.filter_cons_of_pos (by exact decide_eq_true h)]
      rw [e, List.count_cons_of_ne h, List.length_cons, List.length_cons]; omega
end DLS

namespace DLS
open Evl (Ex)
open PySem PySem.Spec PyProof.Rows L2 DL
/-! ### blocks -/
def sgm (r : List Int) (a b : Nat) : List Int := (r.drop a).take (b - a)
def tight (c : List Int) : Bool := decide (maxI c - minI c = (c.length : Int) - 1)
def tt (r : List Int) (a b : Nat) : Bool := tight (sgm r a b)
/-! ### what is put together -/
end DLS

namespace DLS
open Evl (Ex)
open PySem PySem.Spec PyProof.Rows L2 DL
end DLS

namespace DLS
open Evl (Ex)
open PySem PySem.Spec PyProof.Rows L2 DL
/-! ### slots filled by one number each -/
end DLS

namespace DLS
open Evl (Ex)
open PySem PySem.Spec PyProof.Rows L2 DL
end DLS

namespace DLS
open Evl (Ex)
open PySem PySem.Spec PyProof.Rows L2 DL
end DLS

namespace DLS
open Evl (Ex)
open PySem PySem.Spec PyProof.Rows L2 DL
end DLS

namespace DLS
open Evl (Ex)
open PySem PySem.Spec PyProof.Rows L2 DL
end DLS

namespace DLS
open Evl (Ex)
open PySem PySem.Spec PyProof.Rows L2 DL
def Form18 (f : List Int) : Prop := FormOk f ∧ (nz f).length ≤ 10 ∧ (zs f).length ≤ 5
theorem Form18.len {f : List Int} (h : Form18 f) : f.length ≤ 15 := by
  have := nz_zs f
  rw [← zs_count] at this
  have := h.2.1
  have := h.2.2
  omega
end DLS

namespace DLS
open Evl (Ex)
open PySem PySem.Spec PyProof.Rows L2 DL
end DLS

namespace DLS
open Evl (Ex)
open PySem PySem.Spec PyProof.Rows L2 DL
noncomputable instance letsDec (L : List (List Int)) (o : List Int) : Decidable (Lets L o) := Classical.propDecidable _
end DLS

namespace DLS
open Evl (Ex)
open PySem PySem.Spec PyProof.Rows L2 DL
/-! a number put in, the greater ones by one more -/
end DLS

namespace DLS
open Evl (Ex)
open PySem PySem.Spec PyProof.Rows L2 DL
/-! sayings -/
inductive Way | turned | mirrored | inverse
def Way.nm : Way → PySem.Str
  | .turned => "turned"
  | .mirrored => "mirrored"
  | .inverse => "inverse"
def Way.ap : Way → List Int → List Int
  | .turned => List.reverse
  | .mirrored => mir
  | .inverse => inv
theorem Way.ord (w : Way) {o : List Int} (h : IsOrd o) : IsOrd (w.ap o) := by
  cases w
  · exact isOrd_rev h
  · exact isOrd_mir h
  · exact isOrd_inv h
theorem Way.len (w : Way) (o : List Int) : (w.ap o).length = o.length := by
  cases w
  · exact List.length_reverse
  · exact mir_len o
  · exact inv_len o
inductive Say
  | lst (L : List (List Int))
  | srt (k : Sorter)
  | one (w : Way) (s : Say)
  | two (b : Bool) (s t : Say)
def twoNm (b : Bool) : PySem.Str := if b then "both" else "either"
abbrev rowsD (L : List (List Int)) : D := .tuple (L.map tI)
def Say.d : Say → D
  | .lst L => .tuple [.str "list", rowsD L]
  | .srt k => .tuple [.str "sorted", .str k.nm]
  | .one w s => .tuple [.str w.nm, s.d]
  | .two b s t => .tuple [.str (twoNm b), s.d, t.d]
def Say.dp : Say → Nat
  | .lst _ => 1
  | .srt _ => 1
  | .one _ s => s.dp + 1
  | .two _ s t => max s.dp t.dp + 1
/-- right, with patterns of at most m things -/
def Say.ok (m : Nat) : Say → Prop
  | .lst L => Pats m L ∧ L.length ≤ 4 * m
  | .srt _ => True
  | .one _ s => s.ok m
  | .two _ s t => s.ok m ∧ t.ok m
theorem Pats.mono {m n : Nat} {L : List (List Int)} (h : Pats m L) (hmn : m ≤ n) : Pats n L := fun r hr => ⟨(h r hr).1, (h r hr).2.1, Nat.le_trans (h r hr).2.2 hmn⟩
theorem Say.ok.mono {m n : Nat} (hmn : m ≤ n) : ∀ {s : Say}, s.ok m → s.ok n
  | .lst L, h => ⟨Pats.mono h.1 hmn, Nat.le_trans h.2 (Nat.mul_le_mul_left 4 hmn)⟩
  | .srt _, h => h
  | .one _ s, h => Say.ok.mono (s := s) hmn h
  | .two _ s t, h => ⟨Say.ok.mono (s := s) hmn h.1, Say.ok.mono (s := t) hmn h.2⟩
theorem Say.dp_pos : ∀ s : Say, 1 ≤ s.dp
  | .lst _ => Nat.le_refl _
  | .srt _ => Nat.le_refl _
  | .one _ _ => Nat.succ_le_succ (Nat.zero_le _)
  | .two _ _ _ => Nat.succ_le_succ (Nat.zero_le _)
theorem hIn_of {a b : D} {ds : List D} {c : Bool} (hi : itemsOf b = some ds) (h1 : (fl 60 a && fl 60 b) = true) (h2 : inD a ds = c) : hIn a b = some (.val (.bool c)) := by
  unfold hIn
  rw [hi]
  show (if (fl 60 a && fl 60 b) = true then some (RD.val (.bool (inD a ds))) else none) = _
  rw [if_pos h1, h2]
theorem eq_ll : hEq (.str "list") (.str "list") = some (.val (.bool true)) := by exact hEq_str (by decide +kernel) (by decide +kernel) (by decide +kernel)
theorem eq_sl : hEq (.str "sorted") (.str "list") = some (.val (.bool false)) := by exact hEq_str (by decide +kernel) (by decide +kernel) (by decide +kernel)
theorem eq_ss : hEq (.str "sorted") (.str "sorted") = some (.val (.bool true)) := by exact hEq_str (by decide +kernel) (by decide +kernel) (by decide +kernel)
theorem eq_wl (w : Way) : hEq (.str w.nm) (.str "list") = some (.val (.bool false)) := by cases w <;> exact hEq_str (by decide +kernel) (by decide +kernel) (by decide +kernel)
theorem eq_ws (w : Way) : hEq (.str w.nm) (.str "sorted") = some (.val (.bool false)) := by cases w <;> exact hEq_str (by decide +kernel) (by decide +kernel) (by decide +kernel)
theorem eq_tl (b : Bool) : hEq (.str (twoNm b)) (.str "list") = some (.val (.bool false)) := by cases b <;> exact hEq_str (by decide +kernel) (by decide +kernel) (by decide +kernel)
theorem eq_ts (b : Bool) : hEq (.str (twoNm b)) (.str "sorted") = some (.val (.bool false)) := by cases b <;> exact hEq_str (by decide +kernel) (by decide +kernel) (by decide +kernel)
theorem l1 : 1 ≤ line := by decide
theorem l2 : 2 ≤ line := by decide
/-! is_told -/
end DLS

namespace DLS
open Evl (Ex)
open PySem PySem.Spec PyProof.Rows L2 DL
/-! lists of patterns, letters -/
theorem list2_eq (x : Wl) (M T : Nat) (hM : M ≤ 20) (hT : 1 ≤ T ∧ T ≤ 40) (hc : x.c + 1000 < capC) : ∃ (L : List (List Int)) (y : Wl), (Pats T L ∧ L.length ≤ M ∧ y.c ≤ x.c + 900) ∧ den_law_list_2 [x.d, .int (M : Int), .int (T : Int)] = .ret (.val (rowsD L)) [y.d] := by
  have key : Ret (den_law_list_2 [x.d, .int (M : Int), .int (T : Int)]) fun r ios => ∃ (L : List (List Int)) (y : Wl), (Pats T L ∧ L.length ≤ M ∧ y.c ≤ x.c + 900) ∧ r = .val (rowsD L) ∧ ios = [y.d] := by
    obtain ⟨t, x1, ht, h1, e1⟩ := drawV x (M + 1) (by omega) (by omega)
    have c1 : (M : Int) + 1 = ((M + 1 : Nat) : Int) := rfl
    have hr1 : rg1Ok (t : Int) = true := rg1Ok_of (by omega)
    have hn1 : (t : Int).toNat = t := Int.toNat_natCast t
    apply Ret.run
    (simp -implicitDefEqProofs -dsimp only [runF,endF_nx,endF_rv,endF_rn,endF_err,initS,ioOut,sSeq,sNil,sPass,sBreak,sCont,sBad,sExpr,sRet,sRetN,sIf,sSet,putR,frz,frzs,xVal,xVar,getS_0,getS_s,getR,ownD,getRs,xOp1,xOp2,fin,RD.r,aNil,aCons,xCB,xTup,xLst,truth,tOf,tAnds,tOrs,tNots,xIf,xAnd,xOr,xNot,xIsi,isTy,hAdd,hSub,hNeg,hLt,hLe,hGt,hGe,hIs,hIsNot,hIx,hLen,hInt,hAbs,hMax2,hMin2,h1L,hList,hListS,xMethL,hCountL,lcStep2,lcTurn2,lcAdd2,hTuple,vi,vb,xCall,xCallN,argsD,argD,ioIx,boIx,isOwn,nodupB,disB,xPost_ret,xPost_err,postS,putIo,frzIx,nlR,nlI,nl,nls,Rt.r,permL,tTrue,lcStep,lcTurn,lcAdd,gN,gT,gsNil,gsCons,DL.forget,back,xSeq,seqOf,xEnum,xRng1,xRng2,xRng3,xLstI,xTupI,sPar,noSlot,putRs,sTup,xMut,ownL,mApp,mIns,mPop,mPopAt,mExt,mRev,sSub,sAug,oNone,oSome,xSl,hSl,hStep,xChain,bind_ok',bind_err,bind_bad,List.set_cons_zero,List.set_cons_succ,List.foldl_cons,List.foldl_nil,List.cons_append,List.nil_append,List.replicate_succ,List.replicate_zero,List.append_nil,List.all_cons,List.all_nil,List.map_cons,List.map_nil,List.length_cons,List.length_nil,List.zip_cons_cons,List.filterMap_cons,List.filterMap_nil,List.getElem?_cons_zero,List.getElem?_cons_succ,List.contains_nil,List.contains_cons,Bool.and_true,Bool.true_and,Bool.and_false,Bool.false_and,Bool.not_true,Bool.not_false,Bool.or_true,Bool.true_or,Bool.or_false,Bool.false_or,if_true,if_false,reduceIte,reduceCtorEq,Nat.reduceSub,Nat.reduceAdd,Nat.reduceEqDiff,Option.map_some,Option.map_none,decide_true,decide_false,↓reduceIte,Bool.false_eq_true,Nat.sub_zero,Nat.sub_self,and_self,and_true,true_and,List.length_map,nls_ints,hEq_int,hNe_int,Ok_ok,OkG_some,EndQ_some,EndP_nx',EndP_rv',EndP_rn',LoopP_nx,LoopP_ct,LoopP_bk,LoopP_rt,lc_ite,xMeth,xZip,sAugS,stIx,sSub2,itemsOf,nlI_dk,sMove,ite_self])
    refine Ok.bind (Ok.forR (s1 := [some (.own (some 0) x1.d), some (.val (.int (M : Int))), some (.val (.int (T : Int))), some (.own none (.list [])), none]) 0 t (fun i s => ∃ (y : Wl) (L : List (List Int)) (o : Option Sl), Pats T L ∧ L.length = i ∧ y.c ≤ x1.c + 42 * i ∧ s = [some (.own (some 0) y.d), some (.val (.int (M : Int))), some (.val (.int (T : Int))), some (.own none (.list (L.map tI))), o]) (by ((simp -implicitDefEqProofs -dsimp only [runF,endF_nx,endF_rv,endF_rn,endF_err,initS,ioOut,sSeq,sNil,sPass,sBreak,sCont,sBad,sExpr,sRet,sRetN,sIf,sSet,putR,frz,frzs,xVal,xVar,getS_0,getS_s,getR,ownD,getRs,xOp1,xOp2,fin,RD.r,aNil,aCons,xCB,xTup,xLst,truth,tOf,tAnds,tOrs,tNots,xIf,xAnd,xOr,xNot,xIsi,isTy,hAdd,hSub,hNeg,hLt,hLe,hGt,hGe,hIs,hIsNot,hIx,hLen,hInt,hAbs,hMax2,hMin2,h1L,hList,hListS,xMethL,hCountL,lcStep2,lcTurn2,lcAdd2,hTuple,vi,vb,xCall,xCallN,argsD,argD,ioIx,boIx,isOwn,nodupB,disB,xPost_ret,xPost_err,postS,putIo,frzIx,nlR,nlI,nl,nls,Rt.r,permL,tTrue,lcStep,lcTurn,lcAdd,gN,gT,gsNil,gsCons,DL.forget,back,xSeq,seqOf,xEnum,xRng1,xRng2,xRng3,xLstI,xTupI,sPar,noSlot,putRs,sTup,xMut,ownL,mApp,mIns,mPop,mPopAt,mExt,mRev,sSub,sAug,oNone,oSome,xSl,hSl,hStep,xChain,bind_ok',bind_err,bind_bad,List.set_cons_zero,List.set_cons_succ,List.foldl_cons,List.foldl_nil,List.cons_append,List.nil_append,List.replicate_succ,List.replicate_zero,List.append_nil,List.all_cons,List.all_nil,List.map_cons,List.map_nil,List.length_cons,List.length_nil,List.zip_cons_cons,List.filterMap_cons,List.filterMap_nil,List.getElem?_cons_zero,List.getElem?_cons_succ,List.contains_nil,List.contains_cons,Bool.and_true,Bool.true_and,Bool.and_false,Bool.false_and,Bool.not_true,Bool.not_false,Bool.or_true,Bool.true_or,Bool.or_false,Bool.false_or,if_true,if_false,reduceIte,reduceCtorEq,Nat.reduceSub,Nat.reduceAdd,Nat.reduceEqDiff,Option.map_some,Option.map_none,decide_true,decide_false,↓reduceIte,Bool.false_eq_true,Nat.sub_zero,Nat.sub_self,and_self,and_true,true_and,List.length_map,nls_ints,hEq_int,hNe_int,Ok_ok,OkG_some,EndQ_some,EndP_nx',EndP_rv',EndP_rn',LoopP_nx,LoopP_ct,LoopP_bk,LoopP_rt,lc_ite,xMeth,xZip,sAugS,stIx,sSub2,itemsOf,nlI_dk,sMove,ite_self,c1, e1, hr1, hn1]) <;> rfl)) ⟨x1, [], none, (fun r h => nomatch h), rfl, Nat.le_refl _, rfl⟩ ?_ ?_)
    · rintro i hi _ ⟨y, L, o, hL, hl, hy, rfl⟩
      obtain ⟨u, y1, hu, h2, e2⟩ := drawV y T (by omega) (by omega)
      obtain ⟨ns, y2, ⟨o1, o2, o3⟩, e3⟩ := order3_eq y1 (1 + u) (by omega) (by omega)
      have c2 : (1 : Int) + (u : Int) = ((1 + u : Nat) : Int) := by omega
      have z3 : L.length < line := by unfold line; omega
      have z4 : L.length + 1 ≤ line := by unfold line; omega
      (simp -implicitDefEqProofs -dsimp only [runF,endF_nx,endF_rv,endF_rn,endF_err,initS,ioOut,sSeq,sNil,sPass,sBreak,sCont,sBad,sExpr,sRet,sRetN,sIf,sSet,putR,frz,frzs,xVal,xVar,getS_0,getS_s,getR,ownD,getRs,xOp1,xOp2,fin,RD.r,aNil,aCons,xCB,xTup,xLst,truth,tOf,tAnds,tOrs,tNots,xIf,xAnd,xOr,xNot,xIsi,isTy,hAdd,hSub,hNeg,hLt,hLe,hGt,hGe,hIs,hIsNot,hIx,hLen,hInt,hAbs,hMax2,hMin2,h1L,hList,hListS,xMethL,hCountL,lcStep2,lcTurn2,lcAdd2,hTuple,vi,vb,xCall,xCallN,argsD,argD,ioIx,boIx,isOwn,nodupB,disB,xPost_ret,xPost_err,postS,putIo,frzIx,nlR,nlI,nl,nls,Rt.r,permL,tTrue,lcStep,lcTurn,lcAdd,gN,gT,gsNil,gsCons,DL.forget,back,xSeq,seqOf,xEnum,xRng1,xRng2,xRng3,xLstI,xTupI,sPar,noSlot,putRs,sTup,xMut,ownL,mApp,mIns,mPop,mPopAt,mExt,mRev,sSub,sAug,oNone,oSome,xSl,hSl,hStep,xChain,bind_ok',bind_err,bind_bad,List.set_cons_zero,List.set_cons_succ,List.foldl_cons,List.foldl_nil,List.cons_append,List.nil_append,List.replicate_succ,List.replicate_zero,List.append_nil,List.all_cons,List.all_nil,List.map_cons,List.map_nil,List.length_cons,List.length_nil,List.zip_cons_cons,List.filterMap_cons,List.filterMap_nil,List.getElem?_cons_zero,List.getElem?_cons_succ,List.contains_nil,List.contains_cons,Bool.and_true,Bool.true_and,Bool.and_false,Bool.false_and,Bool.not_true,Bool.not_false,Bool.or_true,Bool.true_or,Bool.or_false,Bool.false_or,if_true,if_false,reduceIte,reduceCtorEq,Nat.reduceSub,Nat.reduceAdd,Nat.reduceEqDiff,Option.map_some,Option.map_none,decide_true,decide_false,↓reduceIte,Bool.false_eq_true,Nat.sub_zero,Nat.sub_self,and_self,and_true,true_and,List.length_map,nls_ints,hEq_int,hNe_int,Ok_ok,OkG_some,EndQ_some,EndP_nx',EndP_rv',EndP_rn',LoopP_nx,LoopP_ct,LoopP_bk,LoopP_rt,lc_ite,xMeth,xZip,sAugS,stIx,sSub2,itemsOf,nlI_dk,sMove,ite_self,e2, c2, e3, z3, z4, List.length_append])
      refine ⟨y2, L ++ [ns], some (.val (.int (0 + (i : Int)))), fun r hr => ?_, by simp [hl], by omega, by simp⟩
      rcases List.mem_append.mp hr with hr | hr
      · exact hL r hr
      · rw [List.mem_singleton] at hr
        subst hr
        exact ⟨o1, (fun e => by rw [e] at o2; simp at o2; omega), by omega⟩
    · rintro _ ⟨y, L, o, hL, hl, hy, rfl⟩
      have z : L.length ≤ line := by unfold line; omega
      (simp -implicitDefEqProofs -dsimp only [runF,endF_nx,endF_rv,endF_rn,endF_err,initS,ioOut,sSeq,sNil,sPass,sBreak,sCont,sBad,sExpr,sRet,sRetN,sIf,sSet,putR,frz,frzs,xVal,xVar,getS_0,getS_s,getR,ownD,getRs,xOp1,xOp2,fin,RD.r,aNil,aCons,xCB,xTup,xLst,truth,tOf,tAnds,tOrs,tNots,xIf,xAnd,xOr,xNot,xIsi,isTy,hAdd,hSub,hNeg,hLt,hLe,hGt,hGe,hIs,hIsNot,hIx,hLen,hInt,hAbs,hMax2,hMin2,h1L,hList,hListS,xMethL,hCountL,lcStep2,lcTurn2,lcAdd2,hTuple,vi,vb,xCall,xCallN,argsD,argD,ioIx,boIx,isOwn,nodupB,disB,xPost_ret,xPost_err,postS,putIo,frzIx,nlR,nlI,nl,nls,Rt.r,permL,tTrue,lcStep,lcTurn,lcAdd,gN,gT,gsNil,gsCons,DL.forget,back,xSeq,seqOf,xEnum,xRng1,xRng2,xRng3,xLstI,xTupI,sPar,noSlot,putRs,sTup,xMut,ownL,mApp,mIns,mPop,mPopAt,mExt,mRev,sSub,sAug,oNone,oSome,xSl,hSl,hStep,xChain,bind_ok',bind_err,bind_bad,List.set_cons_zero,List.set_cons_succ,List.foldl_cons,List.foldl_nil,List.cons_append,List.nil_append,List.replicate_succ,List.replicate_zero,List.append_nil,List.all_cons,List.all_nil,List.map_cons,List.map_nil,List.length_cons,List.length_nil,List.zip_cons_cons,List.filterMap_cons,List.filterMap_nil,List.getElem?_cons_zero,List.getElem?_cons_succ,List.contains_nil,List.contains_cons,Bool.and_true,Bool.true_and,Bool.and_false,Bool.false_and,Bool.not_true,Bool.not_false,Bool.or_true,Bool.true_or,Bool.or_false,Bool.false_or,if_true,if_false,reduceIte,reduceCtorEq,Nat.reduceSub,Nat.reduceAdd,Nat.reduceEqDiff,Option.map_some,Option.map_none,decide_true,decide_false,↓reduceIte,Bool.false_eq_true,Nat.sub_zero,Nat.sub_self,and_self,and_true,true_and,List.length_map,nls_ints,hEq_int,hNe_int,Ok_ok,OkG_some,EndQ_some,EndP_nx',EndP_rv',EndP_rn',LoopP_nx,LoopP_ct,LoopP_bk,LoopP_rt,lc_ite,xMeth,xZip,sAugS,stIx,sSub2,itemsOf,nlI_dk,sMove,ite_self,z])
      exact ⟨L, y, ⟨hL, by omega, by omega⟩, rfl, rfl⟩
  obtain ⟨_, _, e, ns, y, h1, rfl, rfl⟩ := key
  exact ⟨ns, y, h1, e⟩
abbrev ltD (p : Nat × Nat) : D := .tuple [.int (p.1 : Int), .int (p.2 : Int)]
def LtOk (p : Nat × Nat) : Prop := 1 ≤ p.1 ∧ p.1 ≤ 1000000000000000000000000000000 ∧ p.2 < 4
theorem atI_3 {α : Type} (a b c d : α) (xs : List α) : atI (a :: b :: c :: d :: xs) 3 = some d := atI_nat' (a :: b :: c :: d :: xs) 3
theorem atI_4 {α : Type} (a b c d e : α) (xs : List α) : atI (a :: b :: c :: d :: e :: xs) 4 = some e := atI_nat' (a :: b :: c :: d :: e :: xs) 4
theorem letters2_eq (x : Wl) (n : Nat) (hn : n ≤ 60) (hc : x.c + 200 < capC) : ∃ (L : List (Nat × Nat)) (y : Wl), ((∀ p ∈ L, LtOk p) ∧ L.length = n ∧ y.c ≤ x.c + 3 * n) ∧ den_law_letters_2 [x.d, .int (n : Int)] = .ret (.new (.list (L.map ltD))) [y.d] := by
  have key : Ret (den_law_letters_2 [x.d, .int (n : Int)]) fun r ios => ∃ (L : List (Nat × Nat)) (y : Wl), ((∀ p ∈ L, LtOk p) ∧ L.length = n ∧ y.c ≤ x.c + 3 * n) ∧ r = .new (.list (L.map ltD)) ∧ ios = [y.d] := by
    have hr1 : rg1Ok (n : Int) = true := rg1Ok_of (by omega)
    have hn1 : (n : Int).toNat = n := Int.toNat_natCast n
    have p30 : hPow (.int 10) (.int 30) = some (.val (.int ((1000000000000000000000000000000 : Nat) : Int))) := hPow_p ⟨by decide, by decide, by decide⟩
    apply Ret.run
    (simp -implicitDefEqProofs -dsimp only [runF,endF_nx,endF_rv,endF_rn,endF_err,initS,ioOut,sSeq,sNil,sPass,sBreak,sCont,sBad,sExpr,sRet,sRetN,sIf,sSet,putR,frz,frzs,xVal,xVar,getS_0,getS_s,getR,ownD,getRs,xOp1,xOp2,fin,RD.r,aNil,aCons,xCB,xTup,xLst,truth,tOf,tAnds,tOrs,tNots,xIf,xAnd,xOr,xNot,xIsi,isTy,hAdd,hSub,hNeg,hLt,hLe,hGt,hGe,hIs,hIsNot,hIx,hLen,hInt,hAbs,hMax2,hMin2,h1L,hList,hListS,xMethL,hCountL,lcStep2,lcTurn2,lcAdd2,hTuple,vi,vb,xCall,xCallN,argsD,argD,ioIx,boIx,isOwn,nodupB,disB,xPost_ret,xPost_err,postS,putIo,frzIx,nlR,nlI,nl,nls,Rt.r,permL,tTrue,lcStep,lcTurn,lcAdd,gN,gT,gsNil,gsCons,DL.forget,back,xSeq,seqOf,xEnum,xRng1,xRng2,xRng3,xLstI,xTupI,sPar,noSlot,putRs,sTup,xMut,ownL,mApp,mIns,mPop,mPopAt,mExt,mRev,sSub,sAug,oNone,oSome,xSl,hSl,hStep,xChain,bind_ok',bind_err,bind_bad,List.set_cons_zero,List.set_cons_succ,List.foldl_cons,List.foldl_nil,List.cons_append,List.nil_append,List.replicate_succ,List.replicate_zero,List.append_nil,List.all_cons,List.all_nil,List.map_cons,List.map_nil,List.length_cons,List.length_nil,List.zip_cons_cons,List.filterMap_cons,List.filterMap_nil,List.getElem?_cons_zero,List.getElem?_cons_succ,List.contains_nil,List.contains_cons,Bool.and_true,Bool.true_and,Bool.and_false,Bool.false_and,Bool.not_true,Bool.not_false,Bool.or_true,Bool.true_or,Bool.or_false,Bool.false_or,if_true,if_false,reduceIte,reduceCtorEq,Nat.reduceSub,Nat.reduceAdd,Nat.reduceEqDiff,Option.map_some,Option.map_none,decide_true,decide_false,↓reduceIte,Bool.false_eq_true,Nat.sub_zero,Nat.sub_self,and_self,and_true,true_and,List.length_map,nls_ints,hEq_int,hNe_int,Ok_ok,OkG_some,EndQ_some,EndP_nx',EndP_rv',EndP_rn',LoopP_nx,LoopP_ct,LoopP_bk,LoopP_rt,lc_ite,xMeth,xZip,sAugS,stIx,sSub2,itemsOf,nlI_dk,sMove,ite_self])
    refine Ok.bind (Ok.forR 0 n (fun i s => ∃ (y : Wl) (L : List (Nat × Nat)) (o o2 : Option Sl), (∀ p ∈ L, LtOk p) ∧ L.length = i ∧ y.c ≤ x.c + 3 * i ∧ s = [some (.own (some 0) y.d), some (.val (.int (n : Int))), some (.own none (.list (L.map ltD))), o, o2]) (by ((simp -implicitDefEqProofs -dsimp only [runF,endF_nx,endF_rv,endF_rn,endF_err,initS,ioOut,sSeq,sNil,sPass,sBreak,sCont,sBad,sExpr,sRet,sRetN,sIf,sSet,putR,frz,frzs,xVal,xVar,getS_0,getS_s,getR,ownD,getRs,xOp1,xOp2,fin,RD.r,aNil,aCons,xCB,xTup,xLst,truth,tOf,tAnds,tOrs,tNots,xIf,xAnd,xOr,xNot,xIsi,isTy,hAdd,hSub,hNeg,hLt,hLe,hGt,hGe,hIs,hIsNot,hIx,hLen,hInt,hAbs,hMax2,hMin2,h1L,hList,hListS,xMethL,hCountL,lcStep2,lcTurn2,lcAdd2,hTuple,vi,vb,xCall,xCallN,argsD,argD,ioIx,boIx,isOwn,nodupB,disB,xPost_ret,xPost_err,postS,putIo,frzIx,nlR,nlI,nl,nls,Rt.r,permL,tTrue,lcStep,lcTurn,lcAdd,gN,gT,gsNil,gsCons,DL.forget,back,xSeq,seqOf,xEnum,xRng1,xRng2,xRng3,xLstI,xTupI,sPar,noSlot,putRs,sTup,xMut,ownL,mApp,mIns,mPop,mPopAt,mExt,mRev,sSub,sAug,oNone,oSome,xSl,hSl,hStep,xChain,bind_ok',bind_err,bind_bad,List.set_cons_zero,List.set_cons_succ,List.foldl_cons,List.foldl_nil,List.cons_append,List.nil_append,List.replicate_succ,List.replicate_zero,List.append_nil,List.all_cons,List.all_nil,List.map_cons,List.map_nil,List.length_cons,List.length_nil,List.zip_cons_cons,List.filterMap_cons,List.filterMap_nil,List.getElem?_cons_zero,List.getElem?_cons_succ,List.contains_nil,List.contains_cons,Bool.and_true,Bool.true_and,Bool.and_false,Bool.false_and,Bool.not_true,Bool.not_false,Bool.or_true,Bool.true_or,Bool.or_false,Bool.false_or,if_true,if_false,reduceIte,reduceCtorEq,Nat.reduceSub,Nat.reduceAdd,Nat.reduceEqDiff,Option.map_some,Option.map_none,decide_true,decide_false,↓reduceIte,Bool.false_eq_true,Nat.sub_zero,Nat.sub_self,and_self,and_true,true_and,List.length_map,nls_ints,hEq_int,hNe_int,Ok_ok,OkG_some,EndQ_some,EndP_nx',EndP_rv',EndP_rn',LoopP_nx,LoopP_ct,LoopP_bk,LoopP_rt,lc_ite,xMeth,xZip,sAugS,stIx,sSub2,itemsOf,nlI_dk,sMove,ite_self,hr1, hn1]) <;> rfl)) ⟨x, [], none, none, (fun r h => nomatch h), rfl, Nat.le_refl _, rfl⟩ ?_ ?_)
    · rintro i hi _ ⟨y, L, o, o2, hL, hl, hy, rfl⟩
      obtain ⟨u, y1, hu, h2, e2⟩ := drawV y 5 (by omega) (by omega)
      have e2 : den_law_draw [y.d, .int 5] = .ret (.val (.int (u : Int))) [y1.d] := e2
      have z3 : L.length < line := by unfold line; omega
      have z4 : L.length + 1 ≤ line := by unfold line; omega
      have fin5 : ∀ m : Nat, (1 ≤ m ∧ m.log2 < 9000 ∧ m ≤ 1000000000000000000000000000000) → atI [PyData.int 1, .int 3, .int 12, .int 999999999, .int ((1000000000000000000000000000000 : Nat) : Int)] (u : Int) = some (.int (m : Int)) →
          OkG (gN 3 (.int (0 + (i : Int))) [some (.own (some 0) y.d), some (.val (.int (n : Int))), some (.own none (.list (L.map ltD))), o, o2]) fun s1 => Ok (sSeq (sSet 4 (xOp2 hAdd (xVal (.int 1)) (xCall [true, false] den_law_draw (aCons (xVar 0) (aCons (xOp2 hIx (xLst (aCons (xVal (.int 1)) (aCons (xVal (.int 3)) (aCons (xVal (.int 12)) (aCons (xVal (.int 999999999)) (aCons (xOp2 hPow (xVal (.int 10)) (xVal (.int 30))) (aNil))))))) (xCall [true, false] den_law_draw (aCons (xVar 0) (aCons (xVal (.int 5)) (aNil))))) (aNil)))))) (sExpr (xMut 2 mApp (aCons (xTup (aCons (xVar 4) (aCons (xCall [true, false] den_law_draw (aCons (xVar 0) (aCons (xVal (.int 4)) (aNil)))) (aNil)))) (aNil)))) s1) (LoopP (fun s => ∃ (y : Wl) (L : List (Nat × Nat)) (o o2 : Option Sl), (∀ p ∈ L, LtOk p) ∧ L.length = i + 1 ∧ y.c ≤ x.c + 3 * (i + 1) ∧ s = [some (.own (some 0) y.d), some (.val (.int (n : Int))), some (.own none (.list (L.map ltD))), o, o2]) fun fl => Ok (match fl with
          | .nx s1 => sRet (xVar 2) s1
          | fl => .ok fl) (EndP [true, false] fun r ios => ∃ (L : List (Nat × Nat)) (y : Wl), ((∀ p ∈ L, LtOk p) ∧ L.length = n ∧ y.c ≤ x.c + 3 * n) ∧ r = .new (.list (L.map ltD)) ∧ ios = [y.d])) := fun m hm ha => by
        obtain ⟨⟨g1, g2⟩, e3⟩ := drawG y1 m ⟨hm.1, hm.2.1⟩ (by omega)
        generalize y1.tk m = v at g1 e3
        generalize y1.nx m = y2 at g2 e3
        obtain ⟨w, y3, hw, h4, e4⟩ := drawV y2 4 (by omega) (by omega)
        have e4 : den_law_draw [y2.d, .int 4] = .ret (.val (.int (w : Int))) [y3.d] := e4
        have c2 : (1 : Int) + (v : Int) = ((1 + v : Nat) : Int) := by omega
        (simp -implicitDefEqProofs -dsimp only [runF,endF_nx,endF_rv,endF_rn,endF_err,initS,ioOut,sSeq,sNil,sPass,sBreak,sCont,sBad,sExpr,sRet,sRetN,sIf,sSet,putR,frz,frzs,xVal,xVar,getS_0,getS_s,getR,ownD,getRs,xOp1,xOp2,fin,RD.r,aNil,aCons,xCB,xTup,xLst,truth,tOf,tAnds,tOrs,tNots,xIf,xAnd,xOr,xNot,xIsi,isTy,hAdd,hSub,hNeg,hLt,hLe,hGt,hGe,hIs,hIsNot,hIx,hLen,hInt,hAbs,hMax2,hMin2,h1L,hList,hListS,xMethL,hCountL,lcStep2,lcTurn2,lcAdd2,hTuple,vi,vb,xCall,xCallN,argsD,argD,ioIx,boIx,isOwn,nodupB,disB,xPost_ret,xPost_err,postS,putIo,frzIx,nlR,nlI,nl,nls,Rt.r,permL,tTrue,lcStep,lcTurn,lcAdd,gN,gT,gsNil,gsCons,DL.forget,back,xSeq,seqOf,xEnum,xRng1,xRng2,xRng3,xLstI,xTupI,sPar,noSlot,putRs,sTup,xMut,ownL,mApp,mIns,mPop,mPopAt,mExt,mRev,sSub,sAug,oNone,oSome,xSl,hSl,hStep,xChain,bind_ok',bind_err,bind_bad,List.set_cons_zero,List.set_cons_succ,List.foldl_cons,List.foldl_nil,List.cons_append,List.nil_append,List.replicate_succ,List.replicate_zero,List.append_nil,List.all_cons,List.all_nil,List.map_cons,List.map_nil,List.length_cons,List.length_nil,List.zip_cons_cons,List.filterMap_cons,List.filterMap_nil,List.getElem?_cons_zero,List.getElem?_cons_succ,List.contains_nil,List.contains_cons,Bool.and_true,Bool.true_and,Bool.and_false,Bool.false_and,Bool.not_true,Bool.not_false,Bool.or_true,Bool.true_or,Bool.or_false,Bool.false_or,if_true,if_false,reduceIte,reduceCtorEq,Nat.reduceSub,Nat.reduceAdd,Nat.reduceEqDiff,Option.map_some,Option.map_none,decide_true,decide_false,↓reduceIte,Bool.false_eq_true,Nat.sub_zero,Nat.sub_self,and_self,and_true,true_and,List.length_map,nls_ints,hEq_int,hNe_int,Ok_ok,OkG_some,EndQ_some,EndP_nx',EndP_rv',EndP_rn',LoopP_nx,LoopP_ct,LoopP_bk,LoopP_rt,lc_ite,xMeth,xZip,sAugS,stIx,sSub2,itemsOf,nlI_dk,sMove,ite_self,p30, e2, ha, e3, c2, e4, z3, z4, List.length_append])
        refine ⟨y3, L ++ [(1 + v, w)], some (.val (.int (0 + (i : Int)))), some (.val (.int ((1 + v : Nat) : Int))), fun p hp => ?_, by simp [hl], by omega, by simp⟩
        rcases List.mem_append.mp hp with hp | hp
        · exact hL p hp
        · rw [List.mem_singleton] at hp
          subst hp
          have h5 := hm.2.2
          exact ⟨by show 1 ≤ 1 + v; omega, by show 1 + v ≤ _; omega, hw⟩
      have hu' : u = 0 ∨ u = 1 ∨ u = 2 ∨ u = 3 ∨ u = 4 := by omega
      rcases hu' with rfl | rfl | rfl | rfl | rfl
      · exact fin5 1 ⟨by omega, by rw [show (1 : Nat).log2 = 0 from by decide +kernel]; omega, by omega⟩ (atI_0 _ _)
      · exact fin5 3 ⟨by omega, by rw [show (3 : Nat).log2 = 1 from by decide +kernel]; omega, by omega⟩ (atI_1 _ _ _)
      · exact fin5 12 ⟨by omega, by rw [show (12 : Nat).log2 = 3 from by decide +kernel]; omega, by omega⟩ (atI_2 _ _ _ _)
      · exact fin5 999999999 ⟨by omega, by rw [show (999999999 : Nat).log2 = 29 from by decide +kernel]; omega, by omega⟩ (atI_3 _ _ _ _ _)
      · exact fin5 1000000000000000000000000000000 ⟨by omega, by rw [show (1000000000000000000000000000000 : Nat).log2 = 99 from by decide +kernel]; omega, by omega⟩ (atI_4 _ _ _ _ _ _)
    · rintro _ ⟨y, L, o, o2, hL, hl, hy, rfl⟩
      (simp -implicitDefEqProofs -dsimp only [runF,endF_nx,endF_rv,endF_rn,endF_err,initS,ioOut,sSeq,sNil,sPass,sBreak,sCont,sBad,sExpr,sRet,sRetN,sIf,sSet,putR,frz,frzs,xVal,xVar,getS_0,getS_s,getR,ownD,getRs,xOp1,xOp2,fin,RD.r,aNil,aCons,xCB,xTup,xLst,truth,tOf,tAnds,tOrs,tNots,xIf,xAnd,xOr,xNot,xIsi,isTy,hAdd,hSub,hNeg,hLt,hLe,hGt,hGe,hIs,hIsNot,hIx,hLen,hInt,hAbs,hMax2,hMin2,h1L,hList,hListS,xMethL,hCountL,lcStep2,lcTurn2,lcAdd2,hTuple,vi,vb,xCall,xCallN,argsD,argD,ioIx,boIx,isOwn,nodupB,disB,xPost_ret,xPost_err,postS,putIo,frzIx,nlR,nlI,nl,nls,Rt.r,permL,tTrue,lcStep,lcTurn,lcAdd,gN,gT,gsNil,gsCons,DL.forget,back,xSeq,seqOf,xEnum,xRng1,xRng2,xRng3,xLstI,xTupI,sPar,noSlot,putRs,sTup,xMut,ownL,mApp,mIns,mPop,mPopAt,mExt,mRev,sSub,sAug,oNone,oSome,xSl,hSl,hStep,xChain,bind_ok',bind_err,bind_bad,List.set_cons_zero,List.set_cons_succ,List.foldl_cons,List.foldl_nil,List.cons_append,List.nil_append,List.replicate_succ,List.replicate_zero,List.append_nil,List.all_cons,List.all_nil,List.map_cons,List.map_nil,List.length_cons,List.length_nil,List.zip_cons_cons,List.filterMap_cons,List.filterMap_nil,List.getElem?_cons_zero,List.getElem?_cons_succ,List.contains_nil,List.contains_cons,Bool.and_true,Bool.true_and,Bool.and_false,Bool.false_and,Bool.not_true,Bool.not_false,Bool.or_true,Bool.true_or,Bool.or_false,Bool.false_or,if_true,if_false,reduceIte,reduceCtorEq,Nat.reduceSub,Nat.reduceAdd,Nat.reduceEqDiff,Option.map_some,Option.map_none,decide_true,decide_false,↓reduceIte,Bool.false_eq_true,Nat.sub_zero,Nat.sub_self,and_self,and_true,true_and,List.length_map,nls_ints,hEq_int,hNe_int,Ok_ok,OkG_some,EndQ_some,EndP_nx',EndP_rv',EndP_rn',LoopP_nx,LoopP_ct,LoopP_bk,LoopP_rt,lc_ite,xMeth,xZip,sAugS,stIx,sSub2,itemsOf,nlI_dk,sMove,ite_self])
      exact ⟨L, y, ⟨hL, hl, hy⟩, rfl, rfl⟩
  obtain ⟨_, _, e, ns, y, h1, rfl, rfl⟩ := key
  exact ⟨ns, y, h1, e⟩
end DLS

namespace DLS
open Evl (Ex)
open PySem PySem.Spec PyProof.Rows L2 DL
/-! sorted(set(rows)) -/
def kT (p : List Int) : NK := .tup (p.map .num)
theorem kT_data (p : List Int) : (kT p).data = tI p := by
  unfold kT
  simp only [NestedKey.data]
  rw [datas_num]
theorem tI_inj {p q : List Int} (h : tI p = tI q) : p = q := by
  have h3 := eqv_tI p q
  rw [h, eqv_tI, decide_eq_true rfl] at h3
  exact of_decide_eq_true h3.symm
theorem kT_inj {p q : List Int} (h : kT p = kT q) : p = q := by
  have := congrArg NestedKey.data h
  rw [kT_data, kT_data] at this
  exact tI_inj this
theorem kT_good (p : List Int) : goodK (kT p) := by
  obtain ⟨h1, h2⟩ := nums_flat p
  refine ⟨⟨_, rfl⟩, ?_, h2⟩
  show NestedKey.depthAll (p.map .num) + 1 ≤ 8
  rw [h1]; decide
def srtO (l : List (List Int)) : List (List Int) := srtR (once l)
theorem srtO_mem {l : List (List Int)} {p : List Int} : p ∈ srtO l ↔ p ∈ l := by unfold srtO; rw [(srtR_perm _).mem_iff, once_mem]
theorem srtO_nd (l : List (List Int)) : (srtO l).Nodup := (srtR_perm _).nodup_iff.mpr (once_nd l)
theorem srtO_len (l : List (List Int)) : (srtO l).length ≤ l.length := by unfold srtO; rw [(srtR_perm _).length_eq]; exact once_len l
theorem srtO_lt (l : List (List Int)) : (srtO l).Pairwise (· < ·) := srtR_lt (once_nd l)
theorem setS_tI (rows : List (List Int)) (hz : rows.length ≤ 60) (hne : ∀ r ∈ rows, r ≠ []) : setS (rows.map tI) = some ((srtO rows).map tI) := by
  have md : ∀ L : List (List Int), (L.map kT).map NestedKey.data = L.map tI := fun L => by
    rw [List.map_map]
    exact List.map_congr_left fun p _ => kT_data p
  refine setS_of ⟨rows.map kT, (srtO rows).map kT, (md rows).symm, fun k hk => ?_, ?_, fun k => ?_, ?_, ?_, fun M' hM => ?_⟩
  · obtain ⟨p, _, rfl⟩ := List.mem_map.mp hk
    exact kT_good p
  · exact List.pairwise_map.mpr ((srtO_nd rows).imp fun {a b} h e => h (kT_inj e))
  · simp only [List.mem_map, srtO_mem]
  · rw [List.length_map]
    have := srtO_len rows
    omega
  · rw [md]; exact sortOk_tI fun r hr => hne r (srtO_mem.mp hr)
  · obtain ⟨L', p1, rfl⟩ := perm_lift kT hM (srtO rows) rfl
    rw [md]
    exact sort_eq p1.symm (srtO_lt rows)
abbrev rwP (p : Nat × Nat) : List Int := [(p.1 : Int), (p.2 : Int)]
def ltLt (p q : Nat × Nat) : Prop := p.1 < q.1 ∨ (p.1 = q.1 ∧ p.2 < q.2)
theorem setS_lt (L : List (Nat × Nat)) (hz : L.length ≤ 60) : ∃ M : List (Nat × Nat), setS (L.map ltD) = some (M.map ltD) ∧ (∀ p, p ∈ M ↔ p ∈ L) ∧ M.length ≤ L.length ∧ M.Pairwise ltLt := by
  have e : ∀ L : List (Nat × Nat), L.map ltD = (L.map rwP).map tI := fun L => by rw [List.map_map]; rfl
  have h := setS_tI (L.map rwP) (by simpa using hz) (fun r hr => by obtain ⟨p, _, rfl⟩ := List.mem_map.mp hr; simp [rwP])
  have g : ∀ r ∈ srtO (L.map rwP), rwP ((r.getD 0 0).toNat, (r.getD 1 0).toNat) = r := fun r hr => by
    obtain ⟨p, _, rfl⟩ := List.mem_map.mp (srtO_mem.mp hr)
    simp [rwP]
  have back : ((srtO (L.map rwP)).map fun r => ((r.getD 0 0).toNat, (r.getD 1 0).toNat)).map rwP = srtO (L.map rwP) := by
    rw [List.map_map]
    exact (List.map_congr_left g).trans (List.map_id _)
  refine ⟨(srtO (L.map rwP)).map fun r => ((r.getD 0 0).toNat, (r.getD 1 0).toNat), ?_, fun p => ?_, ?_, ?_⟩
  · rw [e, e, back, h]
  · have inj : ∀ p q : Nat × Nat, rwP p = rwP q → p = q := fun p q z => by
      simp only [rwP, List.cons.injEq, and_true] at z
      exact Prod.ext (by omega) (by omega)
    constructor
    · intro hp
      have := List.mem_map_of_mem (f := rwP) hp
      rw [back, srtO_mem] at this
      obtain ⟨q, hq, z⟩ := List.mem_map.mp this
      rw [← inj _ _ z]; exact hq
    · intro hp
      have : rwP p ∈ srtO (L.map rwP) := srtO_mem.mpr (List.mem_map.mpr ⟨p, hp, rfl⟩)
      rw [← back] at this
      obtain ⟨q, hq, z⟩ := List.mem_map.mp this
      rw [← inj _ _ z]; exact hq
  · rw [List.length_map]
    have := srtO_len (L.map rwP)
    simpa using this
  · have h1 := srtO_lt (L.map rwP)
    rw [← back, List.pairwise_map] at h1
    refine h1.imp fun {p q} h => ?_
    rw [List.cons_lt_cons_iff] at h
    rcases h with h | ⟨h, h2⟩
    · exact .inl (by omega)
    · rw [List.cons_lt_cons_iff] at h2
      rcases h2 with h2 | ⟨_, h2⟩
      · exact .inr ⟨by omega, by omega⟩
      · exact absurd h2 (List.lt_irrefl _)
end DLS

namespace DLS
open Evl (Ex)
open PySem PySem.Spec PyProof.Rows L2 DL
/-! machines -/
abbrev Step := (Nat × Nat) × Nat
abbrev stD (q : Step) : D := .tuple [ltD q.1, .int (q.2 : Int)]
abbrev mrD (r : List Step) : D := .tuple (r.map stD)
structure Mach where
  rows : List (List Step)
  ends : List Nat
abbrev Mach.d (m : Mach) : D := .tuple [.tuple (m.rows.map mrD), .tuple (m.ends.map fun n : Nat => .int (n : Int))]
def MRowOk (n : Nat) (r : List Step) : Prop := (∀ q ∈ r, LtOk q.1 ∧ q.2 < n) ∧ r.length ≤ 12 ∧ (r.map (·.1)).Pairwise ltLt
structure Mach.Ok (m : Mach) : Prop where
  one : 1 ≤ m.rows.length
  few : m.rows.length ≤ 200
  row : ∀ r ∈ m.rows, MRowOk m.rows.length r
  ends : m.ends.Sublist (List.range m.rows.length)
theorem row_lc (y : Wl) (M : List (Nat × Nat)) (n : Nat) (hn : 1 ≤ n ∧ n ≤ 200) (hM : M.length ≤ 12) (a1 a2 a3 a5 : Option Sl) (hc : y.c + 20 < capC) : ∃ (r : List Step) (z : Wl), r.map (·.1) = M ∧ (∀ q ∈ r, q.2 < n) ∧ z.c ≤ y.c + 12 ∧
    xLc [7] (xSeq (xVar 6)) (gN 7) (tTrue) (xTup (aCons (xVar 7) (aCons (xCall [true, false] den_law_draw (aCons (xVar 0) (aCons (xVar 4) (aNil)))) (aNil)))) [some (.own (some 0) y.d), a1, a2, a3, some (.val (.int (n : Int))), a5, some (.own none (.list (M.map ltD))), none] = .ok (.new (.list (r.map stD)), [some (.own (some 0) z.d), a1, a2, a3, some (.val (.int (n : Int))), a5, some (.val (.list (M.map ltD))), none]) := by
  obtain ⟨acc, s2, e, r, z, k1, k2, k3, rfl, rfl⟩ := lcS (vs := [7]) (fi := xSeq (xVar 6)) (g := gN 7) (ft := tTrue) (fe := xTup (aCons (xVar 7) (aCons (xCall [true, false] den_law_draw (aCons (xVar 0) (aCons (xVar 4) (aNil)))) (aNil))))
    (s := [some (.own (some 0) y.d), a1, a2, a3, some (.val (.int (n : Int))), a5, some (.own none (.list (M.map ltD))), none]) [some (.own (some 0) y.d), a1, a2, a3, some (.val (.int (n : Int))), a5, some (.val (.list (M.map ltD))), none]
    M ltD (fun i acc s => ∃ (r : List Step) (z : Wl), r.map (·.1) = M.take i ∧ (∀ q ∈ r, q.2 < n) ∧ z.c ≤ y.c + i ∧ acc = r.map stD ∧ s = [some (.own (some 0) z.d), a1, a2, a3, some (.val (.int (n : Int))), a5, some (.val (.list (M.map ltD))), none])
    (by (simp -implicitDefEqProofs -dsimp only [runF,endF_nx,endF_rv,endF_rn,endF_err,initS,ioOut,sSeq,sNil,sPass,sBreak,sCont,sBad,sExpr,sRet,sRetN,sIf,sSet,putR,frz,frzs,xVal,xVar,getS_0,getS_s,getR,ownD,getRs,xOp1,xOp2,fin,RD.r,aNil,aCons,xCB,xTup,xLst,truth,tOf,tAnds,tOrs,tNots,xIf,xAnd,xOr,xNot,xIsi,isTy,hAdd,hSub,hNeg,hLt,hLe,hGt,hGe,hIs,hIsNot,hIx,hLen,hInt,hAbs,hMax2,hMin2,h1L,hList,hListS,xMethL,hCountL,lcStep2,lcTurn2,lcAdd2,hTuple,vi,vb,xCall,xCallN,argsD,argD,ioIx,boIx,isOwn,nodupB,disB,xPost_ret,xPost_err,postS,putIo,frzIx,nlR,nlI,nl,nls,Rt.r,permL,tTrue,lcStep,lcTurn,lcAdd,gN,gT,gsNil,gsCons,DL.forget,back,xSeq,seqOf,xEnum,xRng1,xRng2,xRng3,xLstI,xTupI,sPar,noSlot,putRs,sTup,xMut,ownL,mApp,mIns,mPop,mPopAt,mExt,mRev,sSub,sAug,oNone,oSome,xSl,hSl,hStep,xChain,bind_ok',bind_err,bind_bad,List.set_cons_zero,List.set_cons_succ,List.foldl_cons,List.foldl_nil,List.cons_append,List.nil_append,List.replicate_succ,List.replicate_zero,List.append_nil,List.all_cons,List.all_nil,List.map_cons,List.map_nil,List.length_cons,List.length_nil,List.zip_cons_cons,List.filterMap_cons,List.filterMap_nil,List.getElem?_cons_zero,List.getElem?_cons_succ,List.contains_nil,List.contains_cons,Bool.and_true,Bool.true_and,Bool.and_false,Bool.false_and,Bool.not_true,Bool.not_false,Bool.or_true,Bool.true_or,Bool.or_false,Bool.false_or,if_true,if_false,reduceIte,reduceCtorEq,Nat.reduceSub,Nat.reduceAdd,Nat.reduceEqDiff,Option.map_some,Option.map_none,decide_true,decide_false,↓reduceIte,Bool.false_eq_true,Nat.sub_zero,Nat.sub_self,and_self,and_true,true_and,List.length_map,nls_ints,hEq_int,hNe_int,Ok_ok,OkG_some,EndQ_some,EndP_nx',EndP_rv',EndP_rn',LoopP_nx,LoopP_ct,LoopP_bk,LoopP_rt,lc_ite,xMeth,xZip,sAugS,stIx,sSub2,itemsOf,nlI_dk,sMove,ite_self])) (by unfold line; omega) ⟨[], y, rfl, (fun _ h => nomatch h), Nat.le_refl _, rfl, rfl⟩ (fun i hi acc s hv => by
      obtain ⟨r, z, k1, k2, k3, rfl, rfl⟩ := hv
      obtain ⟨t, z1, ht, h2, e2⟩ := drawV z n (by omega) (by omega)
      (simp -implicitDefEqProofs -dsimp only [runF,endF_nx,endF_rv,endF_rn,endF_err,initS,ioOut,sSeq,sNil,sPass,sBreak,sCont,sBad,sExpr,sRet,sRetN,sIf,sSet,putR,frz,frzs,xVal,xVar,getS_0,getS_s,getR,ownD,getRs,xOp1,xOp2,fin,RD.r,aNil,aCons,xCB,xTup,xLst,truth,tOf,tAnds,tOrs,tNots,xIf,xAnd,xOr,xNot,xIsi,isTy,hAdd,hSub,hNeg,hLt,hLe,hGt,hGe,hIs,hIsNot,hIx,hLen,hInt,hAbs,hMax2,hMin2,h1L,hList,hListS,xMethL,hCountL,lcStep2,lcTurn2,lcAdd2,hTuple,vi,vb,xCall,xCallN,argsD,argD,ioIx,boIx,isOwn,nodupB,disB,xPost_ret,xPost_err,postS,putIo,frzIx,nlR,nlI,nl,nls,Rt.r,permL,tTrue,lcStep,lcTurn,lcAdd,gN,gT,gsNil,gsCons,DL.forget,back,xSeq,seqOf,xEnum,xRng1,xRng2,xRng3,xLstI,xTupI,sPar,noSlot,putRs,sTup,xMut,ownL,mApp,mIns,mPop,mPopAt,mExt,mRev,sSub,sAug,oNone,oSome,xSl,hSl,hStep,xChain,bind_ok',bind_err,bind_bad,List.set_cons_zero,List.set_cons_succ,List.foldl_cons,List.foldl_nil,List.cons_append,List.nil_append,List.replicate_succ,List.replicate_zero,List.append_nil,List.all_cons,List.all_nil,List.map_cons,List.map_nil,List.length_cons,List.length_nil,List.zip_cons_cons,List.filterMap_cons,List.filterMap_nil,List.getElem?_cons_zero,List.getElem?_cons_succ,List.contains_nil,List.contains_cons,Bool.and_true,Bool.true_and,Bool.and_false,Bool.false_and,Bool.not_true,Bool.not_false,Bool.or_true,Bool.true_or,Bool.or_false,Bool.false_or,if_true,if_false,reduceIte,reduceCtorEq,Nat.reduceSub,Nat.reduceAdd,Nat.reduceEqDiff,Option.map_some,Option.map_none,decide_true,decide_false,↓reduceIte,Bool.false_eq_true,Nat.sub_zero,Nat.sub_self,and_self,and_true,true_and,List.length_map,nls_ints,hEq_int,hNe_int,Ok_ok,OkG_some,EndQ_some,EndP_nx',EndP_rv',EndP_rn',LoopP_nx,LoopP_ct,LoopP_bk,LoopP_rt,lc_ite,xMeth,xZip,sAugS,stIx,sSub2,itemsOf,nlI_dk,sMove,ite_self,e2])
      refine ⟨⟨r ++ [(M[i], t)], z1, ?_, fun q hq => ?_, by omega, by simp, rfl⟩, by simp⟩
      · rw [List.map_append, k1, List.take_add_one, List.getElem?_eq_getElem hi]; rfl
      · rcases List.mem_append.mp hq with hq | hq
        · exact k2 q hq
        · rw [List.mem_singleton.mp hq]; exact ht)
  rw [List.take_length] at k1
  refine ⟨r, z, k1, k2, by omega, ?_⟩
  rw [e]
  (simp -implicitDefEqProofs -dsimp only [runF,endF_nx,endF_rv,endF_rn,endF_err,initS,ioOut,sSeq,sNil,sPass,sBreak,sCont,sBad,sExpr,sRet,sRetN,sIf,sSet,putR,frz,frzs,xVal,xVar,getS_0,getS_s,getR,ownD,getRs,xOp1,xOp2,fin,RD.r,aNil,aCons,xCB,xTup,xLst,truth,tOf,tAnds,tOrs,tNots,xIf,xAnd,xOr,xNot,xIsi,isTy,hAdd,hSub,hNeg,hLt,hLe,hGt,hGe,hIs,hIsNot,hIx,hLen,hInt,hAbs,hMax2,hMin2,h1L,hList,hListS,xMethL,hCountL,lcStep2,lcTurn2,lcAdd2,hTuple,vi,vb,xCall,xCallN,argsD,argD,ioIx,boIx,isOwn,nodupB,disB,xPost_ret,xPost_err,postS,putIo,frzIx,nlR,nlI,nl,nls,Rt.r,permL,tTrue,lcStep,lcTurn,lcAdd,gN,gT,gsNil,gsCons,DL.forget,back,xSeq,seqOf,xEnum,xRng1,xRng2,xRng3,xLstI,xTupI,sPar,noSlot,putRs,sTup,xMut,ownL,mApp,mIns,mPop,mPopAt,mExt,mRev,sSub,sAug,oNone,oSome,xSl,hSl,hStep,xChain,bind_ok',bind_err,bind_bad,List.set_cons_zero,List.set_cons_succ,List.foldl_cons,List.foldl_nil,List.cons_append,List.nil_append,List.replicate_succ,List.replicate_zero,List.append_nil,List.all_cons,List.all_nil,List.map_cons,List.map_nil,List.length_cons,List.length_nil,List.zip_cons_cons,List.filterMap_cons,List.filterMap_nil,List.getElem?_cons_zero,List.getElem?_cons_succ,List.contains_nil,List.contains_cons,Bool.and_true,Bool.true_and,Bool.and_false,Bool.false_and,Bool.not_true,Bool.not_false,Bool.or_true,Bool.true_or,Bool.or_false,Bool.false_or,if_true,if_false,reduceIte,reduceCtorEq,Nat.reduceSub,Nat.reduceAdd,Nat.reduceEqDiff,Option.map_some,Option.map_none,decide_true,decide_false,↓reduceIte,Bool.false_eq_true,Nat.sub_zero,Nat.sub_self,and_self,and_true,true_and,List.length_map,nls_ints,hEq_int,hNe_int,Ok_ok,OkG_some,EndQ_some,EndP_nx',EndP_rv',EndP_rn',LoopP_nx,LoopP_ct,LoopP_bk,LoopP_rt,lc_ite,xMeth,xZip,sAugS,stIx,sSub2,itemsOf,nlI_dk,sMove,ite_self])
theorem ends_lc (y : Wl) (n : Nat) (hn : n ≤ 200) (a1 a2 a3 a5 a6 a7 : Option Sl) (ha2 : a2 = none ∨ ∃ d, a2 = some (.val d)) (hc : y.c + 300 < capC) : ∃ (E : List Nat) (z : Wl), E.Sublist (List.range n) ∧ z.c ≤ y.c + 200 ∧
    xLc [2] (xRng1 (xVar 4)) (gN 2) (tOf (xOp2 hEq (xCall [true, false] den_law_draw (aCons (xVar 0) (aCons (xVal (.int 3)) (aNil)))) (xVal (.int 0)))) (xVar 2) [some (.own (some 0) y.d), a1, a2, a3, some (.val (.int (n : Int))), a5, a6, a7] = .ok (.new (.list (E.map fun n : Nat => .int (n : Int))), [some (.own (some 0) z.d), a1, a2, a3, some (.val (.int (n : Int))), a5, a6, a7]) := by
  have hr1 : rg1Ok (n : Int) = true := rg1Ok_of (by omega)
  have hn1 : (n : Int).toNat = n := Int.toNat_natCast n
  obtain ⟨acc, s2, e, E, z, k1, k2, rfl, rfl⟩ := lcS (vs := [2]) (fi := xRng1 (xVar 4)) (g := gN 2) (ft := tOf (xOp2 hEq (xCall [true, false] den_law_draw (aCons (xVar 0) (aCons (xVal (.int 3)) (aNil)))) (xVal (.int 0)))) (fe := xVar 2)
    (s := [some (.own (some 0) y.d), a1, a2, a3, some (.val (.int (n : Int))), a5, a6, a7]) [some (.own (some 0) y.d), a1, a2, a3, some (.val (.int (n : Int))), a5, a6, a7]
    (List.range n) (fun i : Nat => .int (0 + (i : Int))) (fun i acc s => ∃ (E : List Nat) (z : Wl), E.Sublist (List.range i) ∧ z.c ≤ y.c + i ∧ acc = E.map (fun n : Nat => .int (n : Int)) ∧ s = [some (.own (some 0) z.d), a1, none, a3, some (.val (.int (n : Int))), a5, a6, a7])
    (by (simp -implicitDefEqProofs -dsimp only [runF,endF_nx,endF_rv,endF_rn,endF_err,initS,ioOut,sSeq,sNil,sPass,sBreak,sCont,sBad,sExpr,sRet,sRetN,sIf,sSet,putR,frz,frzs,xVal,xVar,getS_0,getS_s,getR,ownD,getRs,xOp1,xOp2,fin,RD.r,aNil,aCons,xCB,xTup,xLst,truth,tOf,tAnds,tOrs,tNots,xIf,xAnd,xOr,xNot,xIsi,isTy,hAdd,hSub,hNeg,hLt,hLe,hGt,hGe,hIs,hIsNot,hIx,hLen,hInt,hAbs,hMax2,hMin2,h1L,hList,hListS,xMethL,hCountL,lcStep2,lcTurn2,lcAdd2,hTuple,vi,vb,xCall,xCallN,argsD,argD,ioIx,boIx,isOwn,nodupB,disB,xPost_ret,xPost_err,postS,putIo,frzIx,nlR,nlI,nl,nls,Rt.r,permL,tTrue,lcStep,lcTurn,lcAdd,gN,gT,gsNil,gsCons,DL.forget,back,xSeq,seqOf,xEnum,xRng1,xRng2,xRng3,xLstI,xTupI,sPar,noSlot,putRs,sTup,xMut,ownL,mApp,mIns,mPop,mPopAt,mExt,mRev,sSub,sAug,oNone,oSome,xSl,hSl,hStep,xChain,bind_ok',bind_err,bind_bad,List.set_cons_zero,List.set_cons_succ,List.foldl_cons,List.foldl_nil,List.cons_append,List.nil_append,List.replicate_succ,List.replicate_zero,List.append_nil,List.all_cons,List.all_nil,List.map_cons,List.map_nil,List.length_cons,List.length_nil,List.zip_cons_cons,List.filterMap_cons,List.filterMap_nil,List.getElem?_cons_zero,List.getElem?_cons_succ,List.contains_nil,List.contains_cons,Bool.and_true,Bool.true_and,Bool.and_false,Bool.false_and,Bool.not_true,Bool.not_false,Bool.or_true,Bool.true_or,Bool.or_false,Bool.false_or,if_true,if_false,reduceIte,reduceCtorEq,Nat.reduceSub,Nat.reduceAdd,Nat.reduceEqDiff,Option.map_some,Option.map_none,decide_true,decide_false,↓reduceIte,Bool.false_eq_true,Nat.sub_zero,Nat.sub_self,and_self,and_true,true_and,List.length_map,nls_ints,hEq_int,hNe_int,Ok_ok,OkG_some,EndQ_some,EndP_nx',EndP_rv',EndP_rn',LoopP_nx,LoopP_ct,LoopP_bk,LoopP_rt,lc_ite,xMeth,xZip,sAugS,stIx,sSub2,itemsOf,nlI_dk,sMove,ite_self,hr1, hn1, rgD_map])) (by rw [List.length_range]; unfold line; omega) ⟨[], y, List.Sublist.refl _, Nat.le_refl _, rfl, rfl⟩ (fun i hi acc s hv => by
      obtain ⟨E, z, k1, k2, rfl, rfl⟩ := hv
      rw [List.length_range] at hi
      obtain ⟨t, z1, ht, h2, e2⟩ := drawV z 3 (by omega) (by omega)
      have e2 : den_law_draw [z.d, .int 3] = .ret (.val (.int (t : Int))) [z1.d] := e2
      have e0 : (List.range n)[i] = i := by simp
      have c0 : (0 : Int) + (i : Int) = (i : Int) := by omega
      by_cases h0 : (t : Int) = 0
      · (simp -implicitDefEqProofs -dsimp only [runF,endF_nx,endF_rv,endF_rn,endF_err,initS,ioOut,sSeq,sNil,sPass,sBreak,sCont,sBad,sExpr,sRet,sRetN,sIf,sSet,putR,frz,frzs,xVal,xVar,getS_0,getS_s,getR,ownD,getRs,xOp1,xOp2,fin,RD.r,aNil,aCons,xCB,xTup,xLst,truth,tOf,tAnds,tOrs,tNots,xIf,xAnd,xOr,xNot,xIsi,isTy,hAdd,hSub,hNeg,hLt,hLe,hGt,hGe,hIs,hIsNot,hIx,hLen,hInt,hAbs,hMax2,hMin2,h1L,hList,hListS,xMethL,hCountL,lcStep2,lcTurn2,lcAdd2,hTuple,vi,vb,xCall,xCallN,argsD,argD,ioIx,boIx,isOwn,nodupB,disB,xPost_ret,xPost_err,postS,putIo,frzIx,nlR,nlI,nl,nls,Rt.r,permL,tTrue,lcStep,lcTurn,lcAdd,gN,gT,gsNil,gsCons,DL.forget,back,xSeq,seqOf,xEnum,xRng1,xRng2,xRng3,xLstI,xTupI,sPar,noSlot,putRs,sTup,xMut,ownL,mApp,mIns,mPop,mPopAt,mExt,mRev,sSub,sAug,oNone,oSome,xSl,hSl,hStep,xChain,bind_ok',bind_err,bind_bad,List.set_cons_zero,List.set_cons_succ,List.foldl_cons,List.foldl_nil,List.cons_append,List.nil_append,List.replicate_succ,List.replicate_zero,List.append_nil,List.all_cons,List.all_nil,List.map_cons,List.map_nil,List.length_cons,List.length_nil,List.zip_cons_cons,List.filterMap_cons,List.filterMap_nil,List.getElem?_cons_zero,List.getElem?_cons_succ,List.contains_nil,List.contains_cons,Bool.and_true,Bool.true_and,Bool.and_false,Bool.false_and,Bool.not_true,Bool.not_false,Bool.or_true,Bool.true_or,Bool.or_false,Bool.false_or,if_true,if_false,reduceIte,reduceCtorEq,Nat.reduceSub,Nat.reduceAdd,Nat.reduceEqDiff,Option.map_some,Option.map_none,decide_true,decide_false,↓reduceIte,Bool.false_eq_true,Nat.sub_zero,Nat.sub_self,and_self,and_true,true_and,List.length_map,nls_ints,hEq_int,hNe_int,Ok_ok,OkG_some,EndQ_some,EndP_nx',EndP_rv',EndP_rn',LoopP_nx,LoopP_ct,LoopP_bk,LoopP_rt,lc_ite,xMeth,xZip,sAugS,stIx,sSub2,itemsOf,nlI_dk,sMove,ite_self,e2, decide_eq_true h0, e0, c0])
        refine ⟨⟨E ++ [i], z1, ?_, by omega, by simp, rfl⟩, by simp⟩
        rw [List.range_succ]
        exact k1.append (List.Sublist.refl _)
      · (simp -implicitDefEqProofs -dsimp only [runF,endF_nx,endF_rv,endF_rn,endF_err,initS,ioOut,sSeq,sNil,sPass,sBreak,sCont,sBad,sExpr,sRet,sRetN,sIf,sSet,putR,frz,frzs,xVal,xVar,getS_0,getS_s,getR,ownD,getRs,xOp1,xOp2,fin,RD.r,aNil,aCons,xCB,xTup,xLst,truth,tOf,tAnds,tOrs,tNots,xIf,xAnd,xOr,xNot,xIsi,isTy,hAdd,hSub,hNeg,hLt,hLe,hGt,hGe,hIs,hIsNot,hIx,hLen,hInt,hAbs,hMax2,hMin2,h1L,hList,hListS,xMethL,hCountL,lcStep2,lcTurn2,lcAdd2,hTuple,vi,vb,xCall,xCallN,argsD,argD,ioIx,boIx,isOwn,nodupB,disB,xPost_ret,xPost_err,postS,putIo,frzIx,nlR,nlI,nl,nls,Rt.r,permL,tTrue,lcStep,lcTurn,lcAdd,gN,gT,gsNil,gsCons,DL.forget,back,xSeq,seqOf,xEnum,xRng1,xRng2,xRng3,xLstI,xTupI,sPar,noSlot,putRs,sTup,xMut,ownL,mApp,mIns,mPop,mPopAt,mExt,mRev,sSub,sAug,oNone,oSome,xSl,hSl,hStep,xChain,bind_ok',bind_err,bind_bad,List.set_cons_zero,List.set_cons_succ,List.foldl_cons,List.foldl_nil,List.cons_append,List.nil_append,List.replicate_succ,List.replicate_zero,List.append_nil,List.all_cons,List.all_nil,List.map_cons,List.map_nil,List.length_cons,List.length_nil,List.zip_cons_cons,List.filterMap_cons,List.filterMap_nil,List.getElem?_cons_zero,List.getElem?_cons_succ,List.contains_nil,List.contains_cons,Bool.and_true,Bool.true_and,Bool.and_false,Bool.false_and,Bool.not_true,Bool.not_false,Bool.or_true,Bool.true_or,Bool.or_false,Bool.false_or,if_true,if_false,reduceIte,reduceCtorEq,Nat.reduceSub,Nat.reduceAdd,Nat.reduceEqDiff,Option.map_some,Option.map_none,decide_true,decide_false,↓reduceIte,Bool.false_eq_true,Nat.sub_zero,Nat.sub_self,and_self,and_true,true_and,List.length_map,nls_ints,hEq_int,hNe_int,Ok_ok,OkG_some,EndQ_some,EndP_nx',EndP_rv',EndP_rn',LoopP_nx,LoopP_ct,LoopP_bk,LoopP_rt,lc_ite,xMeth,xZip,sAugS,stIx,sSub2,itemsOf,nlI_dk,sMove,ite_self,e2, decide_eq_false h0, e0, c0])
        refine ⟨⟨E, z1, ?_, by omega, rfl, rfl⟩, by simp⟩
        rw [List.range_succ]
        exact k1.trans (List.sublist_append_left _ _))
  rw [List.length_range] at k1 k2
  refine ⟨E, z, k1, by omega, ?_⟩
  rw [e]
  rcases ha2 with rfl | ⟨d, rfl⟩ <;> (simp -implicitDefEqProofs -dsimp only [runF,endF_nx,endF_rv,endF_rn,endF_err,initS,ioOut,sSeq,sNil,sPass,sBreak,sCont,sBad,sExpr,sRet,sRetN,sIf,sSet,putR,frz,frzs,xVal,xVar,getS_0,getS_s,getR,ownD,getRs,xOp1,xOp2,fin,RD.r,aNil,aCons,xCB,xTup,xLst,truth,tOf,tAnds,tOrs,tNots,xIf,xAnd,xOr,xNot,xIsi,isTy,hAdd,hSub,hNeg,hLt,hLe,hGt,hGe,hIs,hIsNot,hIx,hLen,hInt,hAbs,hMax2,hMin2,h1L,hList,hListS,xMethL,hCountL,lcStep2,lcTurn2,lcAdd2,hTuple,vi,vb,xCall,xCallN,argsD,argD,ioIx,boIx,isOwn,nodupB,disB,xPost_ret,xPost_err,postS,putIo,frzIx,nlR,nlI,nl,nls,Rt.r,permL,tTrue,lcStep,lcTurn,lcAdd,gN,gT,gsNil,gsCons,DL.forget,back,xSeq,seqOf,xEnum,xRng1,xRng2,xRng3,xLstI,xTupI,sPar,noSlot,putRs,sTup,xMut,ownL,mApp,mIns,mPop,mPopAt,mExt,mRev,sSub,sAug,oNone,oSome,xSl,hSl,hStep,xChain,bind_ok',bind_err,bind_bad,List.set_cons_zero,List.set_cons_succ,List.foldl_cons,List.foldl_nil,List.cons_append,List.nil_append,List.replicate_succ,List.replicate_zero,List.append_nil,List.all_cons,List.all_nil,List.map_cons,List.map_nil,List.length_cons,List.length_nil,List.zip_cons_cons,List.filterMap_cons,List.filterMap_nil,List.getElem?_cons_zero,List.getElem?_cons_succ,List.contains_nil,List.contains_cons,Bool.and_true,Bool.true_and,Bool.and_false,Bool.false_and,Bool.not_true,Bool.not_false,Bool.or_true,Bool.true_or,Bool.or_false,Bool.false_or,if_true,if_false,reduceIte,reduceCtorEq,Nat.reduceSub,Nat.reduceAdd,Nat.reduceEqDiff,Option.map_some,Option.map_none,decide_true,decide_false,↓reduceIte,Bool.false_eq_true,Nat.sub_zero,Nat.sub_self,and_self,and_true,true_and,List.length_map,nls_ints,hEq_int,hNe_int,Ok_ok,OkG_some,EndQ_some,EndP_nx',EndP_rv',EndP_rn',LoopP_nx,LoopP_ct,LoopP_bk,LoopP_rt,lc_ite,xMeth,xZip,sAugS,stIx,sSub2,itemsOf,nlI_dk,sMove,ite_self])
theorem machine_eq (x : Wl) (most : Nat) (hm : 1 ≤ most ∧ most ≤ 200) (hc : x.c + 20000 < capC) : ∃ (m : Mach) (y : Wl), (m.Ok ∧ y.c ≤ x.c + 15000) ∧ den_law_machine [x.d, .int (most : Int)] = .ret (.val m.d) [y.d] := by
  have key : Ret (den_law_machine [x.d, .int (most : Int)]) fun r ios => ∃ (m : Mach) (y : Wl), (m.Ok ∧ y.c ≤ x.c + 15000) ∧ r = .val m.d ∧ ios = [y.d] := by
    obtain ⟨t, x1, ht, h1, e1⟩ := drawV x most (by omega) (by omega)
    have c1 : (1 : Int) + (t : Int) = ((1 + t : Nat) : Int) := by omega
    obtain ⟨n, hn⟩ : ∃ n, n = 1 + t := ⟨_, rfl⟩
    rw [← hn] at c1
    have hr1 : rg1Ok (n : Int) = true := rg1Ok_of (by omega)
    have hn1 : (n : Int).toNat = n := Int.toNat_natCast n
    apply Ret.run
    (simp -implicitDefEqProofs -dsimp only [runF,endF_nx,endF_rv,endF_rn,endF_err,initS,ioOut,sSeq,sNil,sPass,sBreak,sCont,sBad,sExpr,sRet,sRetN,sIf,sSet,putR,frz,frzs,xVal,xVar,getS_0,getS_s,getR,ownD,getRs,xOp1,xOp2,fin,RD.r,aNil,aCons,xCB,xTup,xLst,truth,tOf,tAnds,tOrs,tNots,xIf,xAnd,xOr,xNot,xIsi,isTy,hAdd,hSub,hNeg,hLt,hLe,hGt,hGe,hIs,hIsNot,hIx,hLen,hInt,hAbs,hMax2,hMin2,h1L,hList,hListS,xMethL,hCountL,lcStep2,lcTurn2,lcAdd2,hTuple,vi,vb,xCall,xCallN,argsD,argD,ioIx,boIx,isOwn,nodupB,disB,xPost_ret,xPost_err,postS,putIo,frzIx,nlR,nlI,nl,nls,Rt.r,permL,tTrue,lcStep,lcTurn,lcAdd,gN,gT,gsNil,gsCons,DL.forget,back,xSeq,seqOf,xEnum,xRng1,xRng2,xRng3,xLstI,xTupI,sPar,noSlot,putRs,sTup,xMut,ownL,mApp,mIns,mPop,mPopAt,mExt,mRev,sSub,sAug,oNone,oSome,xSl,hSl,hStep,xChain,bind_ok',bind_err,bind_bad,List.set_cons_zero,List.set_cons_succ,List.foldl_cons,List.foldl_nil,List.cons_append,List.nil_append,List.replicate_succ,List.replicate_zero,List.append_nil,List.all_cons,List.all_nil,List.map_cons,List.map_nil,List.length_cons,List.length_nil,List.zip_cons_cons,List.filterMap_cons,List.filterMap_nil,List.getElem?_cons_zero,List.getElem?_cons_succ,List.contains_nil,List.contains_cons,Bool.and_true,Bool.true_and,Bool.and_false,Bool.false_and,Bool.not_true,Bool.not_false,Bool.or_true,Bool.true_or,Bool.or_false,Bool.false_or,if_true,if_false,reduceIte,reduceCtorEq,Nat.reduceSub,Nat.reduceAdd,Nat.reduceEqDiff,Option.map_some,Option.map_none,decide_true,decide_false,↓reduceIte,Bool.false_eq_true,Nat.sub_zero,Nat.sub_self,and_self,and_true,true_and,List.length_map,nls_ints,hEq_int,hNe_int,Ok_ok,OkG_some,EndQ_some,EndP_nx',EndP_rv',EndP_rn',LoopP_nx,LoopP_ct,LoopP_bk,LoopP_rt,lc_ite,xMeth,xZip,sAugS,stIx,sSub2,itemsOf,nlI_dk,sMove,ite_self,e1, c1])
    refine Ok.bind (Ok.forR 0 n (fun i s => ∃ (y : Wl) (R : List (List Step)) (o2 o6 : Option Sl), (o2 = none ∨ ∃ d, o2 = some (.val d)) ∧ (∀ r ∈ R, MRowOk n r) ∧ R.length = i ∧ y.c ≤ x1.c + 60 * i ∧ s = [some (.own (some 0) y.d), some (.val (.int (most : Int))), o2, none, some (.val (.int (n : Int))), some (.own none (.list (R.map mrD))), o6, none]) (by ((simp -implicitDefEqProofs -dsimp only [runF,endF_nx,endF_rv,endF_rn,endF_err,initS,ioOut,sSeq,sNil,sPass,sBreak,sCont,sBad,sExpr,sRet,sRetN,sIf,sSet,putR,frz,frzs,xVal,xVar,getS_0,getS_s,getR,ownD,getRs,xOp1,xOp2,fin,RD.r,aNil,aCons,xCB,xTup,xLst,truth,tOf,tAnds,tOrs,tNots,xIf,xAnd,xOr,xNot,xIsi,isTy,hAdd,hSub,hNeg,hLt,hLe,hGt,hGe,hIs,hIsNot,hIx,hLen,hInt,hAbs,hMax2,hMin2,h1L,hList,hListS,xMethL,hCountL,lcStep2,lcTurn2,lcAdd2,hTuple,vi,vb,xCall,xCallN,argsD,argD,ioIx,boIx,isOwn,nodupB,disB,xPost_ret,xPost_err,postS,putIo,frzIx,nlR,nlI,nl,nls,Rt.r,permL,tTrue,lcStep,lcTurn,lcAdd,gN,gT,gsNil,gsCons,DL.forget,back,xSeq,seqOf,xEnum,xRng1,xRng2,xRng3,xLstI,xTupI,sPar,noSlot,putRs,sTup,xMut,ownL,mApp,mIns,mPop,mPopAt,mExt,mRev,sSub,sAug,oNone,oSome,xSl,hSl,hStep,xChain,bind_ok',bind_err,bind_bad,List.set_cons_zero,List.set_cons_succ,List.foldl_cons,List.foldl_nil,List.cons_append,List.nil_append,List.replicate_succ,List.replicate_zero,List.append_nil,List.all_cons,List.all_nil,List.map_cons,List.map_nil,List.length_cons,List.length_nil,List.zip_cons_cons,List.filterMap_cons,List.filterMap_nil,List.getElem?_cons_zero,List.getElem?_cons_succ,List.contains_nil,List.contains_cons,Bool.and_true,Bool.true_and,Bool.and_false,Bool.false_and,Bool.not_true,Bool.not_false,Bool.or_true,Bool.true_or,Bool.or_false,Bool.false_or,if_true,if_false,reduceIte,reduceCtorEq,Nat.reduceSub,Nat.reduceAdd,Nat.reduceEqDiff,Option.map_some,Option.map_none,decide_true,decide_false,↓reduceIte,Bool.false_eq_true,Nat.sub_zero,Nat.sub_self,and_self,and_true,true_and,List.length_map,nls_ints,hEq_int,hNe_int,Ok_ok,OkG_some,EndQ_some,EndP_nx',EndP_rv',EndP_rn',LoopP_nx,LoopP_ct,LoopP_bk,LoopP_rt,lc_ite,xMeth,xZip,sAugS,stIx,sSub2,itemsOf,nlI_dk,sMove,ite_self,hr1, hn1]) <;> rfl)) ⟨x1, [], none, none, .inl rfl, (fun r h => nomatch h), rfl, Nat.le_refl _, rfl⟩ ?_ ?_)
    · rintro i hi _ ⟨y, R, o2, o6, h02, hR, hl, hy, rfl⟩
      obtain ⟨u, y1, hu, h2, e2⟩ := drawV y 5 (by omega) (by omega)
      have e2 : den_law_draw [y.d, .int 5] = .ret (.val (.int (u : Int))) [y1.d] := e2
      obtain ⟨k, hk, ha⟩ : ∃ k : Nat, k ≤ 12 ∧ atI [PyData.int 0, .int 1, .int 2, .int 6, .int 12] (u : Int) = some (.int (k : Int)) := by
        have hu' : u = 0 ∨ u = 1 ∨ u = 2 ∨ u = 3 ∨ u = 4 := by omega
        rcases hu' with rfl | rfl | rfl | rfl | rfl
        · exact ⟨0, by omega, atI_0 _ _⟩
        · exact ⟨1, by omega, atI_1 _ _ _⟩
        · exact ⟨2, by omega, atI_2 _ _ _ _⟩
        · exact ⟨6, by omega, atI_3 _ _ _ _ _⟩
        · exact ⟨12, by omega, atI_4 _ _ _ _ _ _⟩
      obtain ⟨L, y2, ⟨l1, l2, l3⟩, e3⟩ := letters2_eq y1 k (by omega) (by omega)
      obtain ⟨M, m1, m2, m3, m4⟩ := setS_lt L (by omega)
      have eS : xSetL (xCall [true, false] den_law_letters_2 (aCons (xVar 0) (aCons (xOp2 hIx (xLst (aCons (xVal (.int 0)) (aCons (xVal (.int 1)) (aCons (xVal (.int 2)) (aCons (xVal (.int 6)) (aCons (xVal (.int 12)) (aNil))))))) (xCall [true, false] den_law_draw (aCons (xVar 0) (aCons (xVal (.int 5)) (aNil))))) (aNil)))) [some (.own (some 0) y.d), some (.val (.int (most : Int))), some (.val (.int (0 + (i : Int)))), none, some (.val (.int (n : Int))), some (.own none (.list (R.map mrD))), o6, none] =
          .ok (.new (.list (M.map ltD)), [some (.own (some 0) y2.d), some (.val (.int (most : Int))), some (.val (.int (0 + (i : Int)))), none, some (.val (.int (n : Int))), some (.own none (.list (R.map mrD))), o6, none]) := by
        unfold xSetL
        (simp -implicitDefEqProofs -dsimp only [runF,endF_nx,endF_rv,endF_rn,endF_err,initS,ioOut,sSeq,sNil,sPass,sBreak,sCont,sBad,sExpr,sRet,sRetN,sIf,sSet,putR,frz,frzs,xVal,xVar,getS_0,getS_s,getR,ownD,getRs,xOp1,xOp2,fin,RD.r,aNil,aCons,xCB,xTup,xLst,truth,tOf,tAnds,tOrs,tNots,xIf,xAnd,xOr,xNot,xIsi,isTy,hAdd,hSub,hNeg,hLt,hLe,hGt,hGe,hIs,hIsNot,hIx,hLen,hInt,hAbs,hMax2,hMin2,h1L,hList,hListS,xMethL,hCountL,lcStep2,lcTurn2,lcAdd2,hTuple,vi,vb,xCall,xCallN,argsD,argD,ioIx,boIx,isOwn,nodupB,disB,xPost_ret,xPost_err,postS,putIo,frzIx,nlR,nlI,nl,nls,Rt.r,permL,tTrue,lcStep,lcTurn,lcAdd,gN,gT,gsNil,gsCons,DL.forget,back,xSeq,seqOf,xEnum,xRng1,xRng2,xRng3,xLstI,xTupI,sPar,noSlot,putRs,sTup,xMut,ownL,mApp,mIns,mPop,mPopAt,mExt,mRev,sSub,sAug,oNone,oSome,xSl,hSl,hStep,xChain,bind_ok',bind_err,bind_bad,List.set_cons_zero,List.set_cons_succ,List.foldl_cons,List.foldl_nil,List.cons_append,List.nil_append,List.replicate_succ,List.replicate_zero,List.append_nil,List.all_cons,List.all_nil,List.map_cons,List.map_nil,List.length_cons,List.length_nil,List.zip_cons_cons,List.filterMap_cons,List.filterMap_nil,List.getElem?_cons_zero,List.getElem?_cons_succ,List.contains_nil,List.contains_cons,Bool.and_true,Bool.true_and,Bool.and_false,Bool.false_and,Bool.not_true,Bool.not_false,Bool.or_true,Bool.true_or,Bool.or_false,Bool.false_or,if_true,if_false,reduceIte,reduceCtorEq,Nat.reduceSub,Nat.reduceAdd,Nat.reduceEqDiff,Option.map_some,Option.map_none,decide_true,decide_false,↓reduceIte,Bool.false_eq_true,Nat.sub_zero,Nat.sub_self,and_self,and_true,true_and,List.length_map,nls_ints,hEq_int,hNe_int,Ok_ok,OkG_some,EndQ_some,EndP_nx',EndP_rv',EndP_rn',LoopP_nx,LoopP_ct,LoopP_bk,LoopP_rt,lc_ite,xMeth,xZip,sAugS,stIx,sSub2,itemsOf,nlI_dk,sMove,ite_self,e2, ha, e3, m1])
      obtain ⟨r, z, r1, r2, r3, e4⟩ := row_lc y2 M n (by omega) (by omega) (some (.val (.int (most : Int)))) (some (.val (.int (0 + (i : Int))))) none (some (.own none (.list (R.map mrD)))) (by omega)
      have z3 : R.length < line := by unfold line; omega
      have z4 : R.length + 1 ≤ line := by unfold line; omega
      have hrl : r.length = M.length := by rw [← r1, List.length_map]
      have z5 : r.length ≤ line := by unfold line; omega
      (simp -implicitDefEqProofs -dsimp only [runF,endF_nx,endF_rv,endF_rn,endF_err,initS,ioOut,sSeq,sNil,sPass,sBreak,sCont,sBad,sExpr,sRet,sRetN,sIf,sSet,putR,frz,frzs,xVal,xVar,getS_0,getS_s,getR,ownD,getRs,xOp1,xOp2,fin,RD.r,aNil,aCons,xCB,xTup,xLst,truth,tOf,tAnds,tOrs,tNots,xIf,xAnd,xOr,xNot,xIsi,isTy,hAdd,hSub,hNeg,hLt,hLe,hGt,hGe,hIs,hIsNot,hIx,hLen,hInt,hAbs,hMax2,hMin2,h1L,hList,hListS,xMethL,hCountL,lcStep2,lcTurn2,lcAdd2,hTuple,vi,vb,xCall,xCallN,argsD,argD,ioIx,boIx,isOwn,nodupB,disB,xPost_ret,xPost_err,postS,putIo,frzIx,nlR,nlI,nl,nls,Rt.r,permL,tTrue,lcStep,lcTurn,lcAdd,gN,gT,gsNil,gsCons,DL.forget,back,xSeq,seqOf,xEnum,xRng1,xRng2,xRng3,xLstI,xTupI,sPar,noSlot,putRs,sTup,xMut,ownL,mApp,mIns,mPop,mPopAt,mExt,mRev,sSub,sAug,oNone,oSome,xSl,hSl,hStep,xChain,bind_ok',bind_err,bind_bad,List.set_cons_zero,List.set_cons_succ,List.foldl_cons,List.foldl_nil,List.cons_append,List.nil_append,List.replicate_succ,List.replicate_zero,List.append_nil,List.all_cons,List.all_nil,List.map_cons,List.map_nil,List.length_cons,List.length_nil,List.zip_cons_cons,List.filterMap_cons,List.filterMap_nil,List.getElem?_cons_zero,List.getElem?_cons_succ,List.contains_nil,List.contains_cons,Bool.and_true,Bool.true_and,Bool.and_false,Bool.false_and,Bool.not_true,Bool.not_false,Bool.or_true,Bool.true_or,Bool.or_false,Bool.false_or,if_true,if_false,reduceIte,reduceCtorEq,Nat.reduceSub,Nat.reduceAdd,Nat.reduceEqDiff,Option.map_some,Option.map_none,decide_true,decide_false,↓reduceIte,Bool.false_eq_true,Nat.sub_zero,Nat.sub_self,and_self,and_true,true_and,List.length_map,nls_ints,hEq_int,hNe_int,Ok_ok,OkG_some,EndQ_some,EndP_nx',EndP_rv',EndP_rn',LoopP_nx,LoopP_ct,LoopP_bk,LoopP_rt,lc_ite,xMeth,xZip,sAugS,stIx,sSub2,itemsOf,nlI_dk,sMove,ite_self,eS, e4, z3, z4, z5, List.length_append])
      refine ⟨z, R ++ [r], some (.val (.int (0 + (i : Int)))), _, .inr ⟨_, rfl⟩, fun q hq => ?_, by simp [hl], by omega, by simp; rfl⟩
      rcases List.mem_append.mp hq with hq | hq
      · exact hR q hq
      · rw [List.mem_singleton.mp hq]
        refine ⟨fun p hp => ⟨?_, r2 p hp⟩, by omega, by rw [r1]; exact m4⟩
        have : p.1 ∈ M := by rw [← r1]; exact List.mem_map_of_mem hp
        exact l1 _ ((m2 _).mp this)
    · rintro _ ⟨y, R, o2, o6, h02, hR, hl, hy, rfl⟩
      obtain ⟨E, z, k1, k2, e5⟩ := ends_lc y n (by omega) (some (.val (.int (most : Int)))) o2 none (some (.own none (.list (R.map mrD)))) o6 none h02 (by omega)
      have z1 : R.length ≤ line := by unfold line; omega
      have hE := k1.length_le
      rw [List.length_range] at hE
      have z2 : E.length ≤ line := by unfold line; omega
      (simp -implicitDefEqProofs -dsimp only [runF,endF_nx,endF_rv,endF_rn,endF_err,initS,ioOut,sSeq,sNil,sPass,sBreak,sCont,sBad,sExpr,sRet,sRetN,sIf,sSet,putR,frz,frzs,xVal,xVar,getS_0,getS_s,getR,ownD,getRs,xOp1,xOp2,fin,RD.r,aNil,aCons,xCB,xTup,xLst,truth,tOf,tAnds,tOrs,tNots,xIf,xAnd,xOr,xNot,xIsi,isTy,hAdd,hSub,hNeg,hLt,hLe,hGt,hGe,hIs,hIsNot,hIx,hLen,hInt,hAbs,hMax2,hMin2,h1L,hList,hListS,xMethL,hCountL,lcStep2,lcTurn2,lcAdd2,hTuple,vi,vb,xCall,xCallN,argsD,argD,ioIx,boIx,isOwn,nodupB,disB,xPost_ret,xPost_err,postS,putIo,frzIx,nlR,nlI,nl,nls,Rt.r,permL,tTrue,lcStep,lcTurn,lcAdd,gN,gT,gsNil,gsCons,DL.forget,back,xSeq,seqOf,xEnum,xRng1,xRng2,xRng3,xLstI,xTupI,sPar,noSlot,putRs,sTup,xMut,ownL,mApp,mIns,mPop,mPopAt,mExt,mRev,sSub,sAug,oNone,oSome,xSl,hSl,hStep,xChain,bind_ok',bind_err,bind_bad,List.set_cons_zero,List.set_cons_succ,List.foldl_cons,List.foldl_nil,List.cons_append,List.nil_append,List.replicate_succ,List.replicate_zero,List.append_nil,List.all_cons,List.all_nil,List.map_cons,List.map_nil,List.length_cons,List.length_nil,List.zip_cons_cons,List.filterMap_cons,List.filterMap_nil,List.getElem?_cons_zero,List.getElem?_cons_succ,List.contains_nil,List.contains_cons,Bool.and_true,Bool.true_and,Bool.and_false,Bool.false_and,Bool.not_true,Bool.not_false,Bool.or_true,Bool.true_or,Bool.or_false,Bool.false_or,if_true,if_false,reduceIte,reduceCtorEq,Nat.reduceSub,Nat.reduceAdd,Nat.reduceEqDiff,Option.map_some,Option.map_none,decide_true,decide_false,↓reduceIte,Bool.false_eq_true,Nat.sub_zero,Nat.sub_self,and_self,and_true,true_and,List.length_map,nls_ints,hEq_int,hNe_int,Ok_ok,OkG_some,EndQ_some,EndP_nx',EndP_rv',EndP_rn',LoopP_nx,LoopP_ct,LoopP_bk,LoopP_rt,lc_ite,xMeth,xZip,sAugS,stIx,sSub2,itemsOf,nlI_dk,sMove,ite_self,e5, z1, z2])
      exact ⟨⟨R, E⟩, z, ⟨⟨by show 1 ≤ R.length; omega, by show R.length ≤ 200; omega, fun r hr => by show MRowOk R.length r; rw [hl]; exact hR r hr, by show E.Sublist (List.range R.length); rw [hl]; exact k1⟩, by omega⟩, rfl, rfl⟩
  obtain ⟨_, _, e, ns, y, h1, rfl, rfl⟩ := key
  exact ⟨ns, y, h1, e⟩
end DLS

namespace DLS
open Evl (Ex)
open PySem PySem.Spec PyProof.Rows L2 DL
/-! sayings of texts -/
def Say.tx : Say → Prop
  | .lst L => Pats 40 L ∧ L.length ≤ 20
  | .srt _ => True
  | .one _ s => s.tx
  | .two _ s t => s.tx ∧ t.tx
def bud : Nat → Nat
  | 0 => 0
  | n + 1 => 2 * bud n + 1000
theorem at4 (a b c d : D) (u : Nat) (hu : u < 4) : ∃ e, (e = a ∨ e = b ∨ e = c ∨ e = d) ∧ atI [a, b, c, d] (u : Int) = some e := by
  have h : u = 0 ∨ u = 1 ∨ u = 2 ∨ u = 3 := by omega
  rcases h with rfl | rfl | rfl | rfl
  · exact ⟨a, .inl rfl, atI_0 _ _⟩
  · exact ⟨b, .inr (.inl rfl), atI_1 _ _ _⟩
  · exact ⟨c, .inr (.inr (.inl rfl)), atI_2 _ _ _ _⟩
  · exact ⟨d, .inr (.inr (.inr rfl)), atI_3 _ _ _ _ _⟩
theorem at3 (a b c : D) (u : Nat) (hu : u < 3) : ∃ e, (e = a ∨ e = b ∨ e = c) ∧ atI [a, b, c] (u : Int) = some e := by
  have h : u = 0 ∨ u = 1 ∨ u = 2 := by omega
  rcases h with rfl | rfl | rfl
  · exact ⟨a, .inl rfl, atI_0 _ _⟩
  · exact ⟨b, .inr (.inl rfl), atI_1 _ _ _⟩
  · exact ⟨c, .inr (.inr rfl), atI_2 _ _ _ _⟩
theorem saying2_eq : ∀ (n : Nat) (x : Wl) (deep : Nat), 1 ≤ deep → deep ≤ n → x.c + bud n + 100 < capC → ∃ (s : Say) (y : Wl), (s.tx ∧ s.dp ≤ deep ∧ y.c ≤ x.c + bud n) ∧ denN_law_saying_2 n [x.d, .int (deep : Int)] = .ret (.val s.d) [y.d]
  | 0, x, deep, h1, h2, _ => by omega
  | n + 1, x, deep, h1, h2, hc => by
    have hb : bud (n + 1) = 2 * bud n + 1000 := rfl
    rw [hb] at hc ⊢
    have e : denN_law_saying_2 (n + 1) = runF [true, false] 5 (fb_law_saying_2 (denN_law_saying_2 n)) := rfl
    rw [e]
    have key : Ret (runF [true, false] 5 (fb_law_saying_2 (denN_law_saying_2 n)) [x.d, .int (deep : Int)]) fun r ios => ∃ (s : Say) (y : Wl), (s.tx ∧ s.dp ≤ deep ∧ y.c ≤ x.c + (2 * bud n + 1000)) ∧ r = .val s.d ∧ ios = [y.d] := by
      have fin_ : ∀ (way : Nat) (x1 : Wl), x1.c ≤ x.c + 1 → way < 7 → (2 ≤ way → 2 ≤ deep) → (xIf (tOf (xOp2 hGt (xVar 1) (xVal (.int 1)))) (xCall [true, false] den_law_draw (aCons (xVar 0) (aCons (xVal (.int 7)) (aNil)))) (xCall [true, false] den_law_draw (aCons (xVar 0) (aCons (xVal (.int 2)) (aNil))))) [some (.own (some 0) x.d), some (.val (.int (deep : Int))), none, none, none] = .ok (.val (.int (way : Int)), [some (.own (some 0) x1.d), some (.val (.int (deep : Int))), none, none, none]) →
          Ret (runF [true, false] 5 (fb_law_saying_2 (denN_law_saying_2 n)) [x.d, .int (deep : Int)]) fun r ios => ∃ (s : Say) (y : Wl), (s.tx ∧ s.dp ≤ deep ∧ y.c ≤ x.c + (2 * bud n + 1000)) ∧ r = .val s.d ∧ ios = [y.d] := fun way x1 hx1 hw hwd ew => by
        apply Ret.run
        refine Ok.bind (Ok.of (a := Fl.nx [some (.own (some 0) x1.d), some (.val (.int (deep : Int))), some (.val (.int (way : Int))), none, none]) (by unfold sSet; dsimp only [initS, List.cons_append, List.nil_append, List.replicate]; erw [ew]; rfl) ?_)
        dsimp only
        by_cases w0 : (way : Int) = 0
        · obtain ⟨u, y1, hu, g1, e1⟩ := drawV x1 4 (by omega) (by omega)
          obtain ⟨v, y2, hv, g2, e2⟩ := drawV y1 3 (by omega) (by omega)
          have e1 : den_law_draw [x1.d, .int 4] = .ret (.val (.int (u : Int))) [y1.d] := e1
          have e2 : den_law_draw [y1.d, .int 3] = .ret (.val (.int (v : Int))) [y2.d] := e2
          obtain ⟨M, hM, a1⟩ : ∃ M : Nat, M ≤ 20 ∧ atI [PyData.int 2, .int 2, .int 5, .int 20] (u : Int) = some (.int (M : Int)) := by
            obtain ⟨e, h, he⟩ := at4 (.int 2) (.int 2) (.int 5) (.int 20) u hu
            rcases h with rfl | rfl | rfl | rfl
            · exact ⟨2, by omega, he⟩
            · exact ⟨2, by omega, he⟩
            · exact ⟨5, by omega, he⟩
            · exact ⟨20, by omega, he⟩
          obtain ⟨T, hT, a2⟩ : ∃ T : Nat, (1 ≤ T ∧ T ≤ 40) ∧ atI [PyData.int 5, .int 5, .int 40] (v : Int) = some (.int (T : Int)) := by
            obtain ⟨e, h, he⟩ := at3 (.int 5) (.int 5) (.int 40) v hv
            rcases h with rfl | rfl | rfl
            · exact ⟨5, by omega, he⟩
            · exact ⟨5, by omega, he⟩
            · exact ⟨40, by omega, he⟩
          obtain ⟨L, y3, ⟨l1, l2, l3⟩, e3⟩ := list2_eq y2 M T hM hT (by omega)
          (simp -implicitDefEqProofs -dsimp only [runF,endF_nx,endF_rv,endF_rn,endF_err,initS,ioOut,sSeq,sNil,sPass,sBreak,sCont,sBad,sExpr,sRet,sRetN,sIf,sSet,putR,frz,frzs,xVal,xVar,getS_0,getS_s,getR,ownD,getRs,xOp1,xOp2,fin,RD.r,aNil,aCons,xCB,xTup,xLst,truth,tOf,tAnds,tOrs,tNots,xIf,xAnd,xOr,xNot,xIsi,isTy,hAdd,hSub,hNeg,hLt,hLe,hGt,hGe,hIs,hIsNot,hIx,hLen,hInt,hAbs,hMax2,hMin2,h1L,hList,hListS,xMethL,hCountL,lcStep2,lcTurn2,lcAdd2,hTuple,vi,vb,xCall,xCallN,argsD,argD,ioIx,boIx,isOwn,nodupB,disB,xPost_ret,xPost_err,postS,putIo,frzIx,nlR,nlI,nl,nls,Rt.r,permL,tTrue,lcStep,lcTurn,lcAdd,gN,gT,gsNil,gsCons,DL.forget,back,xSeq,seqOf,xEnum,xRng1,xRng2,xRng3,xLstI,xTupI,sPar,noSlot,putRs,sTup,xMut,ownL,mApp,mIns,mPop,mPopAt,mExt,mRev,sSub,sAug,oNone,oSome,xSl,hSl,hStep,xChain,bind_ok',bind_err,bind_bad,List.set_cons_zero,List.set_cons_succ,List.foldl_cons,List.foldl_nil,List.cons_append,List.nil_append,List.replicate_succ,List.replicate_zero,List.append_nil,List.all_cons,List.all_nil,List.map_cons,List.map_nil,List.length_cons,List.length_nil,List.zip_cons_cons,List.filterMap_cons,List.filterMap_nil,List.getElem?_cons_zero,List.getElem?_cons_succ,List.contains_nil,List.contains_cons,Bool.and_true,Bool.true_and,Bool.and_false,Bool.false_and,Bool.not_true,Bool.not_false,Bool.or_true,Bool.true_or,Bool.or_false,Bool.false_or,if_true,if_false,reduceIte,reduceCtorEq,Nat.reduceSub,Nat.reduceAdd,Nat.reduceEqDiff,Option.map_some,Option.map_none,decide_true,decide_false,↓reduceIte,Bool.false_eq_true,Nat.sub_zero,Nat.sub_self,and_self,and_true,true_and,List.length_map,nls_ints,hEq_int,hNe_int,Ok_ok,OkG_some,EndQ_some,EndP_nx',EndP_rv',EndP_rn',LoopP_nx,LoopP_ct,LoopP_bk,LoopP_rt,lc_ite,xMeth,xZip,sAugS,stIx,sSub2,itemsOf,nlI_dk,sMove,ite_self,decide_eq_true w0, e1, e2, a1, a2, e3])
          exact ⟨.lst L, y3, ⟨⟨fun r hr => ⟨(l1 r hr).1, (l1 r hr).2.1, by have := (l1 r hr).2.2; omega⟩, by omega⟩, by show 1 ≤ deep; omega, by omega⟩, rfl, rfl⟩
        by_cases w1 : (way : Int) = 1
        · obtain ⟨u, y1, hu, g1, e1⟩ := drawV x1 4 (by omega) (by omega)
          have e1 : den_law_draw [x1.d, .int 4] = .ret (.val (.int (u : Int))) [y1.d] := e1
          obtain ⟨k, a1⟩ : ∃ k : Sorter, atI [PyData.str "stack", .str "popper", .str "queues", .str "bubble"] (u : Int) = some (.str k.nm) := by
            obtain ⟨e, h, he⟩ := at4 (.str "stack") (.str "popper") (.str "queues") (.str "bubble") u hu
            rcases h with rfl | rfl | rfl | rfl
            · exact ⟨.stack, he⟩
            · exact ⟨.popper, he⟩
            · exact ⟨.queues, he⟩
            · exact ⟨.bubble, he⟩
          (simp -implicitDefEqProofs -dsimp only [runF,endF_nx,endF_rv,endF_rn,endF_err,initS,ioOut,sSeq,sNil,sPass,sBreak,sCont,sBad,sExpr,sRet,sRetN,sIf,sSet,putR,frz,frzs,xVal,xVar,getS_0,getS_s,getR,ownD,getRs,xOp1,xOp2,fin,RD.r,aNil,aCons,xCB,xTup,xLst,truth,tOf,tAnds,tOrs,tNots,xIf,xAnd,xOr,xNot,xIsi,isTy,hAdd,hSub,hNeg,hLt,hLe,hGt,hGe,hIs,hIsNot,hIx,hLen,hInt,hAbs,hMax2,hMin2,h1L,hList,hListS,xMethL,hCountL,lcStep2,lcTurn2,lcAdd2,hTuple,vi,vb,xCall,xCallN,argsD,argD,ioIx,boIx,isOwn,nodupB,disB,xPost_ret,xPost_err,postS,putIo,frzIx,nlR,nlI,nl,nls,Rt.r,permL,tTrue,lcStep,lcTurn,lcAdd,gN,gT,gsNil,gsCons,DL.forget,back,xSeq,seqOf,xEnum,xRng1,xRng2,xRng3,xLstI,xTupI,sPar,noSlot,putRs,sTup,xMut,ownL,mApp,mIns,mPop,mPopAt,mExt,mRev,sSub,sAug,oNone,oSome,xSl,hSl,hStep,xChain,bind_ok',bind_err,bind_bad,List.set_cons_zero,List.set_cons_succ,List.foldl_cons,List.foldl_nil,List.cons_append,List.nil_append,List.replicate_succ,List.replicate_zero,List.append_nil,List.all_cons,List.all_nil,List.map_cons,List.map_nil,List.length_cons,List.length_nil,List.zip_cons_cons,List.filterMap_cons,List.filterMap_nil,List.getElem?_cons_zero,List.getElem?_cons_succ,List.contains_nil,List.contains_cons,Bool.and_true,Bool.true_and,Bool.and_false,Bool.false_and,Bool.not_true,Bool.not_false,Bool.or_true,Bool.true_or,Bool.or_false,Bool.false_or,if_true,if_false,reduceIte,reduceCtorEq,Nat.reduceSub,Nat.reduceAdd,Nat.reduceEqDiff,Option.map_some,Option.map_none,decide_true,decide_false,↓reduceIte,Bool.false_eq_true,Nat.sub_zero,Nat.sub_self,and_self,and_true,true_and,List.length_map,nls_ints,hEq_int,hNe_int,Ok_ok,OkG_some,EndQ_some,EndP_nx',EndP_rv',EndP_rn',LoopP_nx,LoopP_ct,LoopP_bk,LoopP_rt,lc_ite,xMeth,xZip,sAugS,stIx,sSub2,itemsOf,nlI_dk,sMove,ite_self,decide_eq_false w0, decide_eq_true w1, e1, a1])
          exact ⟨.srt k, y1, ⟨trivial, by show 1 ≤ deep; omega, by omega⟩, rfl, rfl⟩
        have hd2 := hwd (by omega)
        have c1 : (deep : Int) - 1 = ((deep - 1 : Nat) : Int) := by omega
        by_cases w5 : (way : Int) < 5
        · obtain ⟨w, a1⟩ : ∃ w : Way, atI [PyData.str "turned", .str "mirrored", .str "inverse"] ((way : Int) - 2) = some (.str w.nm) := by
            have hh : way = 2 ∨ way = 3 ∨ way = 4 := by omega
            rcases hh with rfl | rfl | rfl
            · exact ⟨.turned, atI_0 _ _⟩
            · exact ⟨.mirrored, atI_1 _ _ _⟩
            · exact ⟨.inverse, atI_2 _ _ _ _⟩
          obtain ⟨s, y1, ⟨s1, s2, s3⟩, e1⟩ := saying2_eq n x1 (deep - 1) (by omega) (by omega) (by omega)
          (simp -implicitDefEqProofs -dsimp only [runF,endF_nx,endF_rv,endF_rn,endF_err,initS,ioOut,sSeq,sNil,sPass,sBreak,sCont,sBad,sExpr,sRet,sRetN,sIf,sSet,putR,frz,frzs,xVal,xVar,getS_0,getS_s,getR,ownD,getRs,xOp1,xOp2,fin,RD.r,aNil,aCons,xCB,xTup,xLst,truth,tOf,tAnds,tOrs,tNots,xIf,xAnd,xOr,xNot,xIsi,isTy,hAdd,hSub,hNeg,hLt,hLe,hGt,hGe,hIs,hIsNot,hIx,hLen,hInt,hAbs,hMax2,hMin2,h1L,hList,hListS,xMethL,hCountL,lcStep2,lcTurn2,lcAdd2,hTuple,vi,vb,xCall,xCallN,argsD,argD,ioIx,boIx,isOwn,nodupB,disB,xPost_ret,xPost_err,postS,putIo,frzIx,nlR,nlI,nl,nls,Rt.r,permL,tTrue,lcStep,lcTurn,lcAdd,gN,gT,gsNil,gsCons,DL.forget,back,xSeq,seqOf,xEnum,xRng1,xRng2,xRng3,xLstI,xTupI,sPar,noSlot,putRs,sTup,xMut,ownL,mApp,mIns,mPop,mPopAt,mExt,mRev,sSub,sAug,oNone,oSome,xSl,hSl,hStep,xChain,bind_ok',bind_err,bind_bad,List.set_cons_zero,List.set_cons_succ,List.foldl_cons,List.foldl_nil,List.cons_append,List.nil_append,List.replicate_succ,List.replicate_zero,List.append_nil,List.all_cons,List.all_nil,List.map_cons,List.map_nil,List.length_cons,List.length_nil,List.zip_cons_cons,List.filterMap_cons,List.filterMap_nil,List.getElem?_cons_zero,List.getElem?_cons_succ,List.contains_nil,List.contains_cons,Bool.and_true,Bool.true_and,Bool.and_false,Bool.false_and,Bool.not_true,Bool.not_false,Bool.or_true,Bool.true_or,Bool.or_false,Bool.false_or,if_true,if_false,reduceIte,reduceCtorEq,Nat.reduceSub,Nat.reduceAdd,Nat.reduceEqDiff,Option.map_some,Option.map_none,decide_true,decide_false,↓reduceIte,Bool.false_eq_true,Nat.sub_zero,Nat.sub_self,and_self,and_true,true_and,List.length_map,nls_ints,hEq_int,hNe_int,Ok_ok,OkG_some,EndQ_some,EndP_nx',EndP_rv',EndP_rn',LoopP_nx,LoopP_ct,LoopP_bk,LoopP_rt,lc_ite,xMeth,xZip,sAugS,stIx,sSub2,itemsOf,nlI_dk,sMove,ite_self,decide_eq_false w0, decide_eq_false w1, decide_eq_true w5, a1, c1, e1])
          exact ⟨.one w s, y1, ⟨s1, by show s.dp + 1 ≤ deep; omega, by omega⟩, rfl, rfl⟩
        · obtain ⟨b, a1⟩ : ∃ b : Bool, atI [PyData.str "both", .str "either"] ((way : Int) - 5) = some (.str (twoNm b)) := by
            have hh : way = 5 ∨ way = 6 := by omega
            rcases hh with rfl | rfl
            · exact ⟨true, atI_0 _ _⟩
            · exact ⟨false, atI_1 _ _ _⟩
          obtain ⟨m, hm, c2⟩ : ∃ m : Nat, (1 ≤ m ∧ m ≤ deep - 1) ∧ (if (2 : Int) < ((deep - 1 : Nat) : Int) then (2 : Int) else ((deep - 1 : Nat) : Int)) = (m : Int) := by
            by_cases h : (2 : Int) < ((deep - 1 : Nat) : Int)
            · rw [if_pos h]; exact ⟨2, by omega, rfl⟩
            · rw [if_neg h]; exact ⟨deep - 1, by omega, rfl⟩
          obtain ⟨s, y1, ⟨s1, s2, s3⟩, e1⟩ := saying2_eq n x1 (deep - 1) (by omega) (by omega) (by omega)
          obtain ⟨t, y2, ⟨t1, t2, t3⟩, e2⟩ := saying2_eq n y1 m hm.1 (by omega) (by omega)
          obtain ⟨u, y3, hu, g3, e3⟩ := drawV y2 2 (by omega) (by omega)
          have e3 : den_law_draw [y2.d, .int 2] = .ret (.val (.int (u : Int))) [y3.d] := e3
          have hu2 : u = 0 ∨ u = 1 := by omega
          rcases hu2 with rfl | rfl
          · have a2 : atI [s.d, t.d] ((0 : Nat) : Int) = some s.d := atI_0 _ _
            have a3 : atI [s.d, t.d] (1 - ((0 : Nat) : Int)) = some t.d := atI_1 _ _ _
            (simp -implicitDefEqProofs -dsimp only [runF,endF_nx,endF_rv,endF_rn,endF_err,initS,ioOut,sSeq,sNil,sPass,sBreak,sCont,sBad,sExpr,sRet,sRetN,sIf,sSet,putR,frz,frzs,xVal,xVar,getS_0,getS_s,getR,ownD,getRs,xOp1,xOp2,fin,RD.r,aNil,aCons,xCB,xTup,xLst,truth,tOf,tAnds,tOrs,tNots,xIf,xAnd,xOr,xNot,xIsi,isTy,hAdd,hSub,hNeg,hLt,hLe,hGt,hGe,hIs,hIsNot,hIx,hLen,hInt,hAbs,hMax2,hMin2,h1L,hList,hListS,xMethL,hCountL,lcStep2,lcTurn2,lcAdd2,hTuple,vi,vb,xCall,xCallN,argsD,argD,ioIx,boIx,isOwn,nodupB,disB,xPost_ret,xPost_err,postS,putIo,frzIx,nlR,nlI,nl,nls,Rt.r,permL,tTrue,lcStep,lcTurn,lcAdd,gN,gT,gsNil,gsCons,DL.forget,back,xSeq,seqOf,xEnum,xRng1,xRng2,xRng3,xLstI,xTupI,sPar,noSlot,putRs,sTup,xMut,ownL,mApp,mIns,mPop,mPopAt,mExt,mRev,sSub,sAug,oNone,oSome,xSl,hSl,hStep,xChain,bind_ok',bind_err,bind_bad,List.set_cons_zero,List.set_cons_succ,List.foldl_cons,List.foldl_nil,List.cons_append,List.nil_append,List.replicate_succ,List.replicate_zero,List.append_nil,List.all_cons,List.all_nil,List.map_cons,List.map_nil,List.length_cons,List.length_nil,List.zip_cons_cons,List.filterMap_cons,List.filterMap_nil,List.getElem?_cons_zero,List.getElem?_cons_succ,List.contains_nil,List.contains_cons,Bool.and_true,Bool.true_and,Bool.and_false,Bool.false_and,Bool.not_true,Bool.not_false,Bool.or_true,Bool.true_or,Bool.or_false,Bool.false_or,if_true,if_false,reduceIte,reduceCtorEq,Nat.reduceSub,Nat.reduceAdd,Nat.reduceEqDiff,Option.map_some,Option.map_none,decide_true,decide_false,↓reduceIte,Bool.false_eq_true,Nat.sub_zero,Nat.sub_self,and_self,and_true,true_and,List.length_map,nls_ints,hEq_int,hNe_int,Ok_ok,OkG_some,EndQ_some,EndP_nx',EndP_rv',EndP_rn',LoopP_nx,LoopP_ct,LoopP_bk,LoopP_rt,lc_ite,xMeth,xZip,sAugS,stIx,sSub2,itemsOf,nlI_dk,sMove,ite_self,decide_eq_false w0, decide_eq_false w1, decide_eq_false w5, a1, c1, c2, e1, e2, e3, a2, a3])
            exact ⟨.two b s t, y3, ⟨⟨s1, t1⟩, by show max s.dp t.dp + 1 ≤ deep; omega, by omega⟩, rfl, rfl⟩
          · have a2 : atI [s.d, t.d] ((1 : Nat) : Int) = some t.d := atI_1 _ _ _
            have a3 : atI [s.d, t.d] (1 - ((1 : Nat) : Int)) = some s.d := atI_0 _ _
            (simp -implicitDefEqProofs -dsimp only [runF,endF_nx,endF_rv,endF_rn,endF_err,initS,ioOut,sSeq,sNil,sPass,sBreak,sCont,sBad,sExpr,sRet,sRetN,sIf,sSet,putR,frz,frzs,xVal,xVar,getS_0,getS_s,getR,ownD,getRs,xOp1,xOp2,fin,RD.r,aNil,aCons,xCB,xTup,xLst,truth,tOf,tAnds,tOrs,tNots,xIf,xAnd,xOr,xNot,xIsi,isTy,hAdd,hSub,hNeg,hLt,hLe,hGt,hGe,hIs,hIsNot,hIx,hLen,hInt,hAbs,hMax2,hMin2,h1L,hList,hListS,xMethL,hCountL,lcStep2,lcTurn2,lcAdd2,hTuple,vi,vb,xCall,xCallN,argsD,argD,ioIx,boIx,isOwn,nodupB,disB,xPost_ret,xPost_err,postS,putIo,frzIx,nlR,nlI,nl,nls,Rt.r,permL,tTrue,lcStep,lcTurn,lcAdd,gN,gT,gsNil,gsCons,DL.forget,back,xSeq,seqOf,xEnum,xRng1,xRng2,xRng3,xLstI,xTupI,sPar,noSlot,putRs,sTup,xMut,ownL,mApp,mIns,mPop,mPopAt,mExt,mRev,sSub,sAug,oNone,oSome,xSl,hSl,hStep,xChain,bind_ok',bind_err,bind_bad,List.set_cons_zero,List.set_cons_succ,List.foldl_cons,List.foldl_nil,List.cons_append,List.nil_append,List.replicate_succ,List.replicate_zero,List.append_nil,List.all_cons,List.all_nil,List.map_cons,List.map_nil,List.length_cons,List.length_nil,List.zip_cons_cons,List.filterMap_cons,List.filterMap_nil,List.getElem?_cons_zero,List.getElem?_cons_succ,List.contains_nil,List.contains_cons,Bool.and_true,Bool.true_and,Bool.and_false,Bool.false_and,Bool.not_true,Bool.not_false,Bool.or_true,Bool.true_or,Bool.or_false,Bool.false_or,if_true,if_false,reduceIte,reduceCtorEq,Nat.reduceSub,Nat.reduceAdd,Nat.reduceEqDiff,Option.map_some,Option.map_none,decide_true,decide_false,↓reduceIte,Bool.false_eq_true,Nat.sub_zero,Nat.sub_self,and_self,and_true,true_and,List.length_map,nls_ints,hEq_int,hNe_int,Ok_ok,OkG_some,EndQ_some,EndP_nx',EndP_rv',EndP_rn',LoopP_nx,LoopP_ct,LoopP_bk,LoopP_rt,lc_ite,xMeth,xZip,sAugS,stIx,sSub2,itemsOf,nlI_dk,sMove,ite_self,decide_eq_false w0, decide_eq_false w1, decide_eq_false w5, a1, c1, c2, e1, e2, e3, a2, a3])
            exact ⟨.two b t s, y3, ⟨⟨t1, s1⟩, by show max t.dp s.dp + 1 ≤ deep; omega, by omega⟩, rfl, rfl⟩
      by_cases hd : (deep : Int) > 1
      · obtain ⟨u, y1, hu, g1, e1⟩ := drawV x 7 (by omega) (by omega)
        have e1 : den_law_draw [x.d, .int 7] = .ret (.val (.int (u : Int))) [y1.d] := e1
        exact fin_ u y1 g1 hu (fun _ => by omega) (by (simp -implicitDefEqProofs -dsimp only [runF,endF_nx,endF_rv,endF_rn,endF_err,initS,ioOut,sSeq,sNil,sPass,sBreak,sCont,sBad,sExpr,sRet,sRetN,sIf,sSet,putR,frz,frzs,xVal,xVar,getS_0,getS_s,getR,ownD,getRs,xOp1,xOp2,fin,RD.r,aNil,aCons,xCB,xTup,xLst,truth,tOf,tAnds,tOrs,tNots,xIf,xAnd,xOr,xNot,xIsi,isTy,hAdd,hSub,hNeg,hLt,hLe,hGt,hGe,hIs,hIsNot,hIx,hLen,hInt,hAbs,hMax2,hMin2,h1L,hList,hListS,xMethL,hCountL,lcStep2,lcTurn2,lcAdd2,hTuple,vi,vb,xCall,xCallN,argsD,argD,ioIx,boIx,isOwn,nodupB,disB,xPost_ret,xPost_err,postS,putIo,frzIx,nlR,nlI,nl,nls,Rt.r,permL,tTrue,lcStep,lcTurn,lcAdd,gN,gT,gsNil,gsCons,DL.forget,back,xSeq,seqOf,xEnum,xRng1,xRng2,xRng3,xLstI,xTupI,sPar,noSlot,putRs,sTup,xMut,ownL,mApp,mIns,mPop,mPopAt,mExt,mRev,sSub,sAug,oNone,oSome,xSl,hSl,hStep,xChain,bind_ok',bind_err,bind_bad,List.set_cons_zero,List.set_cons_succ,List.foldl_cons,List.foldl_nil,List.cons_append,List.nil_append,List.replicate_succ,List.replicate_zero,List.append_nil,List.all_cons,List.all_nil,List.map_cons,List.map_nil,List.length_cons,List.length_nil,List.zip_cons_cons,List.filterMap_cons,List.filterMap_nil,List.getElem?_cons_zero,List.getElem?_cons_succ,List.contains_nil,List.contains_cons,Bool.and_true,Bool.true_and,Bool.and_false,Bool.false_and,Bool.not_true,Bool.not_false,Bool.or_true,Bool.true_or,Bool.or_false,Bool.false_or,if_true,if_false,reduceIte,reduceCtorEq,Nat.reduceSub,Nat.reduceAdd,Nat.reduceEqDiff,Option.map_some,Option.map_none,decide_true,decide_false,↓reduceIte,Bool.false_eq_true,Nat.sub_zero,Nat.sub_self,and_self,and_true,true_and,List.length_map,nls_ints,hEq_int,hNe_int,Ok_ok,OkG_some,EndQ_some,EndP_nx',EndP_rv',EndP_rn',LoopP_nx,LoopP_ct,LoopP_bk,LoopP_rt,lc_ite,xMeth,xZip,sAugS,stIx,sSub2,itemsOf,nlI_dk,sMove,ite_self,decide_eq_true hd, e1]))
      · obtain ⟨u, y1, hu, g1, e1⟩ := drawV x 2 (by omega) (by omega)
        have e1 : den_law_draw [x.d, .int 2] = .ret (.val (.int (u : Int))) [y1.d] := e1
        exact fin_ u y1 g1 (by omega) (fun h => by omega) (by (simp -implicitDefEqProofs -dsimp only [runF,endF_nx,endF_rv,endF_rn,endF_err,initS,ioOut,sSeq,sNil,sPass,sBreak,sCont,sBad,sExpr,sRet,sRetN,sIf,sSet,putR,frz,frzs,xVal,xVar,getS_0,getS_s,getR,ownD,getRs,xOp1,xOp2,fin,RD.r,aNil,aCons,xCB,xTup,xLst,truth,tOf,tAnds,tOrs,tNots,xIf,xAnd,xOr,xNot,xIsi,isTy,hAdd,hSub,hNeg,hLt,hLe,hGt,hGe,hIs,hIsNot,hIx,hLen,hInt,hAbs,hMax2,hMin2,h1L,hList,hListS,xMethL,hCountL,lcStep2,lcTurn2,lcAdd2,hTuple,vi,vb,xCall,xCallN,argsD,argD,ioIx,boIx,isOwn,nodupB,disB,xPost_ret,xPost_err,postS,putIo,frzIx,nlR,nlI,nl,nls,Rt.r,permL,tTrue,lcStep,lcTurn,lcAdd,gN,gT,gsNil,gsCons,DL.forget,back,xSeq,seqOf,xEnum,xRng1,xRng2,xRng3,xLstI,xTupI,sPar,noSlot,putRs,sTup,xMut,ownL,mApp,mIns,mPop,mPopAt,mExt,mRev,sSub,sAug,oNone,oSome,xSl,hSl,hStep,xChain,bind_ok',bind_err,bind_bad,List.set_cons_zero,List.set_cons_succ,List.foldl_cons,List.foldl_nil,List.cons_append,List.nil_append,List.replicate_succ,List.replicate_zero,List.append_nil,List.all_cons,List.all_nil,List.map_cons,List.map_nil,List.length_cons,List.length_nil,List.zip_cons_cons,List.filterMap_cons,List.filterMap_nil,List.getElem?_cons_zero,List.getElem?_cons_succ,List.contains_nil,List.contains_cons,Bool.and_true,Bool.true_and,Bool.and_false,Bool.false_and,Bool.not_true,Bool.not_false,Bool.or_true,Bool.true_or,Bool.or_false,Bool.false_or,if_true,if_false,reduceIte,reduceCtorEq,Nat.reduceSub,Nat.reduceAdd,Nat.reduceEqDiff,Option.map_some,Option.map_none,decide_true,decide_false,↓reduceIte,Bool.false_eq_true,Nat.sub_zero,Nat.sub_self,and_self,and_true,true_and,List.length_map,nls_ints,hEq_int,hNe_int,Ok_ok,OkG_some,EndQ_some,EndP_nx',EndP_rv',EndP_rn',LoopP_nx,LoopP_ct,LoopP_bk,LoopP_rt,lc_ite,xMeth,xZip,sAugS,stIx,sSub2,itemsOf,nlI_dk,sMove,ite_self,decide_eq_false hd, e1]))
    obtain ⟨_, _, e, ns, y, h1, rfl, rfl⟩ := key
    exact ⟨ns, y, h1, e⟩
end DLS

namespace DLS
open Evl (Ex)
open PySem PySem.Spec PyProof.Rows L2 DL TL
/-! texts, their signs and lengths -/
structure Tx (k : Nat) (w : PySem.Str) : Prop where
  asc : ∀ c ∈ tl w, c < 128
  len : w.length ≤ k
theorem tl_len (w : PySem.Str) : (tl w).length = w.length := (len_tl w).symm
theorem Tx.mono {k m : Nat} {w : PySem.Str} (h : Tx k w) (hk : k ≤ m) : Tx m w := ⟨h.asc, Nat.le_trans h.len hk⟩
theorem app_len (a b : PySem.Str) : (a ++ b).length = a.length + b.length := by rw [← tl_len, tl_append, List.length_append, tl_len, tl_len]
theorem Tx.app {a b : Nat} {x y : PySem.Str} (h : Tx a x) (h2 : Tx b y) : Tx (a + b) (x ++ y) := by
  refine ⟨fun c hc => ?_, by rw [app_len]; exact Nat.add_le_add h.len h2.len⟩
  rw [tl_append] at hc
  rcases List.mem_append.mp hc with hc | hc
  · exact h.asc c hc
  · exact h2.asc c hc
theorem tx_join : ∀ {ws : List PySem.Str} {k s : Nat} {y : PySem.Str}, (∀ w ∈ ws, Tx k w) → Tx s y → Tx (ws.length * (k + s)) (Str.join y ws)
  | [], k, s, y, _, _ => ⟨fun c hc => by simp [Str.join, tl, Str.empty] at hc, by simp [Str.join, Str.empty, Str.length]⟩
  | [w], k, s, y, h, _ => (h w (List.mem_singleton.mpr rfl)).mono (by simp)
  | w :: v :: r, k, s, y, h, hy => by
    have h1 := (h w List.mem_cons_self).app hy
    have h2 := h1.app (tx_join (ws := v :: r) (fun u hu => h u (List.mem_cons_of_mem _ hu)) hy)
    refine Tx.mono (w := w ++ y ++ Str.join y (v :: r)) h2 ?_
    simp only [List.length_cons]
    rw [Nat.succ_mul (r.length + 1)]
    omega
theorem tx_lit {s : PySem.Str} {k : Nat} (h : s.cps.all (· < 128) = true) (hk : s.length ≤ k) : Tx k s := by
  refine ⟨fun c hc => ?_, hk⟩
  have := Array.all_eq_true_iff_forall_mem.mp h c (Array.mem_toList_iff.mp hc)
  simpa using this
theorem Tx.strOk {k : Nat} {w : PySem.Str} (h : Tx k w) : PyData.strOk w = true := by
  unfold PyData.strOk
  rw [Array.all_eq_true_iff_forall_mem]
  intro c hc
  have := h.asc c (Array.mem_toList_iff.mpr hc)
  simp only [decide_eq_true_eq]
  omega
/-- the text of a number -/
def numT (n : Nat) : PySem.Str := Str.ofString (toString ((n : Nat) : Int))
theorem tl_numT (n : Nat) : tl (numT n) = numL n := tl_num n
theorem tx_num {n k : Nat} (hk : 0 < k) (h : n < 10 ^ k) : Tx k (numT n) := by
  refine ⟨fun c hc => ?_, ?_⟩
  · rw [tl_numT] at hc
    have := numL_digits n c hc
    omega
  · rw [← tl_len, tl_numT]
    exact numL_len hk h
theorem hStr_num {n : Nat} (h : n.log2 < 1920) : hStr [.int (n : Int)] = some (.val (.str (numT n))) := by
  show (if (n : Int).natAbs.log2 < 1920 then some (RD.val (.str (numT n))) else none) = _
  rw [if_pos (by simpa using h)]
theorem hStr_s {n : Nat} (h : n < 1000000) : hStr [.int (n : Int)] = some (.val (.str (numT n))) := hStr_num (by have := log2_of (n := n) (k := 20) (by omega) (by omega); omega)
def dashT : PySem.Str := Str.ofString "-"
/-- words with something between -/
def listedT (ws : List PySem.Str) (y : PySem.Str) : PySem.Str := if ws = [] then dashT else Str.join y ws
theorem tx_listed {ws : List PySem.Str} {k s : Nat} {y : PySem.Str} (h : ∀ w ∈ ws, Tx k w) (hy : Tx s y) : Tx (ws.length * (k + s) + 1) (listedT ws y) := by
  unfold listedT
  split
  · exact tx_lit (by decide +kernel) (by rw [show dashT.length = 1 from by decide +kernel]; omega)
  · exact (tx_join h hy).mono (by omega)
theorem lens_le {ws : List PySem.Str} {k : Nat} (h : ∀ w ∈ ws, Tx k w) : (ws.map (·.length)).sum ≤ ws.length * k := by
  induction ws with
  | nil => simp
  | cons w ws ih =>
    have h1 := (h w List.mem_cons_self).len
    have h2 := ih fun v hv => h v (List.mem_cons_of_mem _ hv)
    simp only [List.map_cons, List.sum_cons, List.length_cons]
    rw [Nat.succ_mul]
    omega
theorem hJoin_of {ws : List PySem.Str} {k s : Nat} {y : PySem.Str} (h : ∀ w ∈ ws, Tx k w) (hy : Tx s y) (hz : ws.length * (k + s) ≤ line) : hJoin y (.list (ws.map .str)) = some (.val (.str (Str.join y ws))) := by
  have h1 := lens_le h
  have h2 : ws.length * y.length ≤ ws.length * s := Nat.mul_le_mul_left _ hy.len
  rw [Nat.mul_add] at hz
  unfold hJoin itemsOf
  dsimp only
  rw [strsOf_map]
  dsimp only
  rw [if_pos (by omega), join_eq]
theorem fl_strs {ws : List PySem.Str} {k : Nat} (h : ∀ w ∈ ws, Tx k w) : fl 60 (.list (ws.map .str)) = true := by
  show flAll 59 (ws.map .str) = true
  induction ws with
  | nil => rfl
  | cons w ws ih =>
    show (fl 59 (.str w) && flAll 59 (ws.map .str)) = true
    rw [ih fun v hv => h v (List.mem_cons_of_mem _ hv)]
    show (PyData.strOk w && true) = true
    rw [(h w List.mem_cons_self).strOk]
    rfl
theorem hNe_strs {ws : List PySem.Str} {k : Nat} (h : ∀ w ∈ ws, Tx k w) : hNe (.list (ws.map .str)) (.list []) = some (.val (.bool (decide (ws ≠ [])))) := by
  unfold hNe
  rw [fl_strs h]
  cases ws with
  | nil => rfl
  | cons w ws => rfl
theorem listed_eq {ws : List PySem.Str} {k s : Nat} {y : PySem.Str} (h : ∀ w ∈ ws, Tx k w) (hy : Tx s y) (hz : ws.length * (k + s) ≤ line) : den_listed [.list (ws.map .str), .str y] = .ret (.val (.str (listedT ws y))) [] := by
  have hj := hJoin_of h hy hz
  apply Ret.eq
  apply Ret.run
  by_cases h0 : ws = []
  · subst h0
    have d : decide (((0 : Nat) : Int) > 0) = false := by decide
    (simp -implicitDefEqProofs -dsimp only [runF,endF_nx,endF_rv,endF_rn,endF_err,initS,ioOut,sSeq,sNil,sPass,sBreak,sCont,sBad,sExpr,sRet,sRetN,sIf,sSet,putR,frz,frzs,xVal,xVar,getS_0,getS_s,getR,ownD,getRs,xOp1,xOp2,fin,RD.r,aNil,aCons,xCB,xTup,xLst,truth,tOf,tAnds,tOrs,tNots,xIf,xAnd,xOr,xNot,xIsi,isTy,hAdd,hSub,hNeg,hLt,hLe,hGt,hGe,hIs,hIsNot,hIx,hLen,hInt,hAbs,hMax2,hMin2,h1L,hList,hListS,xMethL,hCountL,lcStep2,lcTurn2,lcAdd2,hTuple,vi,vb,xCall,xCallN,argsD,argD,ioIx,boIx,isOwn,nodupB,disB,xPost_ret,xPost_err,postS,putIo,frzIx,nlR,nlI,nl,nls,Rt.r,permL,tTrue,lcStep,lcTurn,lcAdd,gN,gT,gsNil,gsCons,DL.forget,back,xSeq,seqOf,xEnum,xRng1,xRng2,xRng3,xLstI,xTupI,sPar,noSlot,putRs,sTup,xMut,ownL,mApp,mIns,mPop,mPopAt,mExt,mRev,sSub,sAug,oNone,oSome,xSl,hSl,hStep,xChain,bind_ok',bind_err,bind_bad,List.set_cons_zero,List.set_cons_succ,List.foldl_cons,List.foldl_nil,List.cons_append,List.nil_append,List.replicate_succ,List.replicate_zero,List.append_nil,List.all_cons,List.all_nil,List.map_cons,List.map_nil,List.length_cons,List.length_nil,List.zip_cons_cons,List.filterMap_cons,List.filterMap_nil,List.getElem?_cons_zero,List.getElem?_cons_succ,List.contains_nil,List.contains_cons,Bool.and_true,Bool.true_and,Bool.and_false,Bool.false_and,Bool.not_true,Bool.not_false,Bool.or_true,Bool.true_or,Bool.or_false,Bool.false_or,if_true,if_false,reduceIte,reduceCtorEq,Nat.reduceSub,Nat.reduceAdd,Nat.reduceEqDiff,Option.map_some,Option.map_none,decide_true,decide_false,↓reduceIte,Bool.false_eq_true,Nat.sub_zero,Nat.sub_self,and_self,and_true,true_and,List.length_map,nls_ints,hEq_int,hNe_int,Ok_ok,OkG_some,EndQ_some,EndP_nx',EndP_rv',EndP_rn',LoopP_nx,LoopP_ct,LoopP_bk,LoopP_rt,lc_ite,xMeth,xZip,sAugS,stIx,sSub2,itemsOf,nlI_dk,sMove,ite_self,d])
    rfl
  · have hl : 0 < ws.length := List.length_pos_iff.mpr h0
    have d : decide ((ws.length : Int) > 0) = true := decide_eq_true (by omega)
    (simp -implicitDefEqProofs -dsimp only [runF,endF_nx,endF_rv,endF_rn,endF_err,initS,ioOut,sSeq,sNil,sPass,sBreak,sCont,sBad,sExpr,sRet,sRetN,sIf,sSet,putR,frz,frzs,xVal,xVar,getS_0,getS_s,getR,ownD,getRs,xOp1,xOp2,fin,RD.r,aNil,aCons,xCB,xTup,xLst,truth,tOf,tAnds,tOrs,tNots,xIf,xAnd,xOr,xNot,xIsi,isTy,hAdd,hSub,hNeg,hLt,hLe,hGt,hGe,hIs,hIsNot,hIx,hLen,hInt,hAbs,hMax2,hMin2,h1L,hList,hListS,xMethL,hCountL,lcStep2,lcTurn2,lcAdd2,hTuple,vi,vb,xCall,xCallN,argsD,argD,ioIx,boIx,isOwn,nodupB,disB,xPost_ret,xPost_err,postS,putIo,frzIx,nlR,nlI,nl,nls,Rt.r,permL,tTrue,lcStep,lcTurn,lcAdd,gN,gT,gsNil,gsCons,DL.forget,back,xSeq,seqOf,xEnum,xRng1,xRng2,xRng3,xLstI,xTupI,sPar,noSlot,putRs,sTup,xMut,ownL,mApp,mIns,mPop,mPopAt,mExt,mRev,sSub,sAug,oNone,oSome,xSl,hSl,hStep,xChain,bind_ok',bind_err,bind_bad,List.set_cons_zero,List.set_cons_succ,List.foldl_cons,List.foldl_nil,List.cons_append,List.nil_append,List.replicate_succ,List.replicate_zero,List.append_nil,List.all_cons,List.all_nil,List.map_cons,List.map_nil,List.length_cons,List.length_nil,List.zip_cons_cons,List.filterMap_cons,List.filterMap_nil,List.getElem?_cons_zero,List.getElem?_cons_succ,List.contains_nil,List.contains_cons,Bool.and_true,Bool.true_and,Bool.and_false,Bool.false_and,Bool.not_true,Bool.not_false,Bool.or_true,Bool.true_or,Bool.or_false,Bool.false_or,if_true,if_false,reduceIte,reduceCtorEq,Nat.reduceSub,Nat.reduceAdd,Nat.reduceEqDiff,Option.map_some,Option.map_none,decide_true,decide_false,↓reduceIte,Bool.false_eq_true,Nat.sub_zero,Nat.sub_self,and_self,and_true,true_and,List.length_map,nls_ints,hEq_int,hNe_int,Ok_ok,OkG_some,EndQ_some,EndP_nx',EndP_rv',EndP_rn',LoopP_nx,LoopP_ct,LoopP_bk,LoopP_rt,lc_ite,xMeth,xZip,sAugS,stIx,sSub2,itemsOf,nlI_dk,sMove,ite_self,xM1, d, hj])
    unfold listedT
    rw [if_neg h0]
theorem law_listed_eq {ws : List PySem.Str} {k s : Nat} {y : PySem.Str} (h : ∀ w ∈ ws, Tx k w) (hy : Tx s y) (hz : ws.length * (k + s) ≤ line) : den_law_listed [.list (ws.map .str), .str y] = .ret (.val (.str (listedT ws y))) [] := by
  have hj := hJoin_of h hy hz
  have hn := hNe_strs h
  apply Ret.eq
  apply Ret.run
  by_cases h0 : ws = []
  · subst h0
    rw [decide_eq_false (by simp)] at hn
    (simp -implicitDefEqProofs -dsimp only [runF,endF_nx,endF_rv,endF_rn,endF_err,initS,ioOut,sSeq,sNil,sPass,sBreak,sCont,sBad,sExpr,sRet,sRetN,sIf,sSet,putR,frz,frzs,xVal,xVar,getS_0,getS_s,getR,ownD,getRs,xOp1,xOp2,fin,RD.r,aNil,aCons,xCB,xTup,xLst,truth,tOf,tAnds,tOrs,tNots,xIf,xAnd,xOr,xNot,xIsi,isTy,hAdd,hSub,hNeg,hLt,hLe,hGt,hGe,hIs,hIsNot,hIx,hLen,hInt,hAbs,hMax2,hMin2,h1L,hList,hListS,xMethL,hCountL,lcStep2,lcTurn2,lcAdd2,hTuple,vi,vb,xCall,xCallN,argsD,argD,ioIx,boIx,isOwn,nodupB,disB,xPost_ret,xPost_err,postS,putIo,frzIx,nlR,nlI,nl,nls,Rt.r,permL,tTrue,lcStep,lcTurn,lcAdd,gN,gT,gsNil,gsCons,DL.forget,back,xSeq,seqOf,xEnum,xRng1,xRng2,xRng3,xLstI,xTupI,sPar,noSlot,putRs,sTup,xMut,ownL,mApp,mIns,mPop,mPopAt,mExt,mRev,sSub,sAug,oNone,oSome,xSl,hSl,hStep,xChain,bind_ok',bind_err,bind_bad,List.set_cons_zero,List.set_cons_succ,List.foldl_cons,List.foldl_nil,List.cons_append,List.nil_append,List.replicate_succ,List.replicate_zero,List.append_nil,List.all_cons,List.all_nil,List.map_cons,List.map_nil,List.length_cons,List.length_nil,List.zip_cons_cons,List.filterMap_cons,List.filterMap_nil,List.getElem?_cons_zero,List.getElem?_cons_succ,List.contains_nil,List.contains_cons,Bool.and_true,Bool.true_and,Bool.and_false,Bool.false_and,Bool.not_true,Bool.not_false,Bool.or_true,Bool.true_or,Bool.or_false,Bool.false_or,if_true,if_false,reduceIte,reduceCtorEq,Nat.reduceSub,Nat.reduceAdd,Nat.reduceEqDiff,Option.map_some,Option.map_none,decide_true,decide_false,↓reduceIte,Bool.false_eq_true,Nat.sub_zero,Nat.sub_self,and_self,and_true,true_and,List.length_map,nls_ints,hEq_int,hNe_int,Ok_ok,OkG_some,EndQ_some,EndP_nx',EndP_rv',EndP_rn',LoopP_nx,LoopP_ct,LoopP_bk,LoopP_rt,lc_ite,xMeth,xZip,sAugS,stIx,sSub2,itemsOf,nlI_dk,sMove,ite_self,show hNe (.list []) (.list []) = some (.val (.bool false)) from hn])
    rfl
  · rw [decide_eq_true h0] at hn
    (simp -implicitDefEqProofs -dsimp only [runF,endF_nx,endF_rv,endF_rn,endF_err,initS,ioOut,sSeq,sNil,sPass,sBreak,sCont,sBad,sExpr,sRet,sRetN,sIf,sSet,putR,frz,frzs,xVal,xVar,getS_0,getS_s,getR,ownD,getRs,xOp1,xOp2,fin,RD.r,aNil,aCons,xCB,xTup,xLst,truth,tOf,tAnds,tOrs,tNots,xIf,xAnd,xOr,xNot,xIsi,isTy,hAdd,hSub,hNeg,hLt,hLe,hGt,hGe,hIs,hIsNot,hIx,hLen,hInt,hAbs,hMax2,hMin2,h1L,hList,hListS,xMethL,hCountL,lcStep2,lcTurn2,lcAdd2,hTuple,vi,vb,xCall,xCallN,argsD,argD,ioIx,boIx,isOwn,nodupB,disB,xPost_ret,xPost_err,postS,putIo,frzIx,nlR,nlI,nl,nls,Rt.r,permL,tTrue,lcStep,lcTurn,lcAdd,gN,gT,gsNil,gsCons,DL.forget,back,xSeq,seqOf,xEnum,xRng1,xRng2,xRng3,xLstI,xTupI,sPar,noSlot,putRs,sTup,xMut,ownL,mApp,mIns,mPop,mPopAt,mExt,mRev,sSub,sAug,oNone,oSome,xSl,hSl,hStep,xChain,bind_ok',bind_err,bind_bad,List.set_cons_zero,List.set_cons_succ,List.foldl_cons,List.foldl_nil,List.cons_append,List.nil_append,List.replicate_succ,List.replicate_zero,List.append_nil,List.all_cons,List.all_nil,List.map_cons,List.map_nil,List.length_cons,List.length_nil,List.zip_cons_cons,List.filterMap_cons,List.filterMap_nil,List.getElem?_cons_zero,List.getElem?_cons_succ,List.contains_nil,List.contains_cons,Bool.and_true,Bool.true_and,Bool.and_false,Bool.false_and,Bool.not_true,Bool.not_false,Bool.or_true,Bool.true_or,Bool.or_false,Bool.false_or,if_true,if_false,reduceIte,reduceCtorEq,Nat.reduceSub,Nat.reduceAdd,Nat.reduceEqDiff,Option.map_some,Option.map_none,decide_true,decide_false,↓reduceIte,Bool.false_eq_true,Nat.sub_zero,Nat.sub_self,and_self,and_true,true_and,List.length_map,nls_ints,hEq_int,hNe_int,Ok_ok,OkG_some,EndQ_some,EndP_nx',EndP_rv',EndP_rn',LoopP_nx,LoopP_ct,LoopP_bk,LoopP_rt,lc_ite,xMeth,xZip,sAugS,stIx,sSub2,itemsOf,nlI_dk,sMove,ite_self,xM1, hn, hj])
    unfold listedT
    rw [if_neg h0]
end DLS

namespace DLS
open Evl (Ex)
open PySem PySem.Spec PyProof.Rows L2 DL TL
/-! texts of orders, lists, letters, words -/
abbrev sp1 : PySem.Str := Str.ofString " "
abbrev com2 : PySem.Str := Str.ofString ", "
theorem tx_sp1 : Tx 1 sp1 := tx_lit (by decide +kernel) (by decide +kernel)
theorem tx_com2 : Tx 2 com2 := tx_lit (by decide +kernel) (by decide +kernel)
theorem hStr_i {a : Int} (h0 : 0 ≤ a) (h : a < 1000000) : hStr [.int a] = some (.val (.str (numT a.toNat))) := by
  obtain ⟨n, rfl⟩ : ∃ n : Nat, a = n := ⟨a.toNat, by omega⟩
  rw [Int.toNat_natCast]
  exact hStr_s (by omega)
def SmallO (ns : List Int) : Prop := ns.length ≤ 40 ∧ ∀ a ∈ ns, 0 ≤ a ∧ a ≤ 40
theorem smallO {ns : List Int} (h : IsOrd ns) (hl : ns.length ≤ 40) : SmallO ns := ⟨hl, fun a ha => by have := h.mem.mp ha; omega⟩
def orderT (ns : List Int) : PySem.Str := listedT (ns.map fun a => numT a.toNat) sp1
theorem tx_nums {ns : List Int} (h : SmallO ns) : ∀ w ∈ ns.map (fun a => numT a.toNat), Tx 2 w := fun w hw => by
  obtain ⟨a, ha, rfl⟩ := List.mem_map.mp hw
  have := h.2 a ha
  exact tx_num (by omega) (by omega)
theorem tx_order {ns : List Int} (h : SmallO ns) : Tx 121 (orderT ns) := by
  refine (tx_listed (tx_nums h) tx_sp1).mono ?_
  have := h.1
  rw [List.length_map]
  omega
theorem nums_lc {ns : List Int} (h : SmallO ns) : xLc [1] (xSeq (xVar 0)) (gN 1) (tTrue) (xCB hStr (aCons (xVar 1) (aNil))) [some (.val (tI ns)), none] = .ok (.new (.list ((ns.map fun a => numT a.toNat).map .str)), [some (.val (tI ns)), none]) := by
  rw [lcA (s := [some (.val (tI ns)), none]) ns .int (fun a => .str (numT a.toNat)) (by (simp -implicitDefEqProofs -dsimp only [runF,endF_nx,endF_rv,endF_rn,endF_err,initS,ioOut,sSeq,sNil,sPass,sBreak,sCont,sBad,sExpr,sRet,sRetN,sIf,sSet,putR,frz,frzs,xVal,xVar,getS_0,getS_s,getR,ownD,getRs,xOp1,xOp2,fin,RD.r,aNil,aCons,xCB,xTup,xLst,truth,tOf,tAnds,tOrs,tNots,xIf,xAnd,xOr,xNot,xIsi,isTy,hAdd,hSub,hNeg,hLt,hLe,hGt,hGe,hIs,hIsNot,hIx,hLen,hInt,hAbs,hMax2,hMin2,h1L,hList,hListS,xMethL,hCountL,lcStep2,lcTurn2,lcAdd2,hTuple,vi,vb,xCall,xCallN,argsD,argD,ioIx,boIx,isOwn,nodupB,disB,xPost_ret,xPost_err,postS,putIo,frzIx,nlR,nlI,nl,nls,Rt.r,permL,tTrue,lcStep,lcTurn,lcAdd,gN,gT,gsNil,gsCons,DL.forget,back,xSeq,seqOf,xEnum,xRng1,xRng2,xRng3,xLstI,xTupI,sPar,noSlot,putRs,sTup,xMut,ownL,mApp,mIns,mPop,mPopAt,mExt,mRev,sSub,sAug,oNone,oSome,xSl,hSl,hStep,xChain,bind_ok',bind_err,bind_bad,List.set_cons_zero,List.set_cons_succ,List.foldl_cons,List.foldl_nil,List.cons_append,List.nil_append,List.replicate_succ,List.replicate_zero,List.append_nil,List.all_cons,List.all_nil,List.map_cons,List.map_nil,List.length_cons,List.length_nil,List.zip_cons_cons,List.filterMap_cons,List.filterMap_nil,List.getElem?_cons_zero,List.getElem?_cons_succ,List.contains_nil,List.contains_cons,Bool.and_true,Bool.true_and,Bool.and_false,Bool.false_and,Bool.not_true,Bool.not_false,Bool.or_true,Bool.true_or,Bool.or_false,Bool.false_or,if_true,if_false,reduceIte,reduceCtorEq,Nat.reduceSub,Nat.reduceAdd,Nat.reduceEqDiff,Option.map_some,Option.map_none,decide_true,decide_false,↓reduceIte,Bool.false_eq_true,Nat.sub_zero,Nat.sub_self,and_self,and_true,true_and,List.length_map,nls_ints,hEq_int,hNe_int,Ok_ok,OkG_some,EndQ_some,EndP_nx',EndP_rv',EndP_rn',LoopP_nx,LoopP_ct,LoopP_bk,LoopP_rt,lc_ite,xMeth,xZip,sAugS,stIx,sSub2,itemsOf,nlI_dk,sMove,ite_self])) (by have := h.1; unfold line; omega) (fun a ha acc => by
    have := h.2 a ha
    (simp -implicitDefEqProofs -dsimp only [runF,endF_nx,endF_rv,endF_rn,endF_err,initS,ioOut,sSeq,sNil,sPass,sBreak,sCont,sBad,sExpr,sRet,sRetN,sIf,sSet,putR,frz,frzs,xVal,xVar,getS_0,getS_s,getR,ownD,getRs,xOp1,xOp2,fin,RD.r,aNil,aCons,xCB,xTup,xLst,truth,tOf,tAnds,tOrs,tNots,xIf,xAnd,xOr,xNot,xIsi,isTy,hAdd,hSub,hNeg,hLt,hLe,hGt,hGe,hIs,hIsNot,hIx,hLen,hInt,hAbs,hMax2,hMin2,h1L,hList,hListS,xMethL,hCountL,lcStep2,lcTurn2,lcAdd2,hTuple,vi,vb,xCall,xCallN,argsD,argD,ioIx,boIx,isOwn,nodupB,disB,xPost_ret,xPost_err,postS,putIo,frzIx,nlR,nlI,nl,nls,Rt.r,permL,tTrue,lcStep,lcTurn,lcAdd,gN,gT,gsNil,gsCons,DL.forget,back,xSeq,seqOf,xEnum,xRng1,xRng2,xRng3,xLstI,xTupI,sPar,noSlot,putRs,sTup,xMut,ownL,mApp,mIns,mPop,mPopAt,mExt,mRev,sSub,sAug,oNone,oSome,xSl,hSl,hStep,xChain,bind_ok',bind_err,bind_bad,List.set_cons_zero,List.set_cons_succ,List.foldl_cons,List.foldl_nil,List.cons_append,List.nil_append,List.replicate_succ,List.replicate_zero,List.append_nil,List.all_cons,List.all_nil,List.map_cons,List.map_nil,List.length_cons,List.length_nil,List.zip_cons_cons,List.filterMap_cons,List.filterMap_nil,List.getElem?_cons_zero,List.getElem?_cons_succ,List.contains_nil,List.contains_cons,Bool.and_true,Bool.true_and,Bool.and_false,Bool.false_and,Bool.not_true,Bool.not_false,Bool.or_true,Bool.true_or,Bool.or_false,Bool.false_or,if_true,if_false,reduceIte,reduceCtorEq,Nat.reduceSub,Nat.reduceAdd,Nat.reduceEqDiff,Option.map_some,Option.map_none,decide_true,decide_false,↓reduceIte,Bool.false_eq_true,Nat.sub_zero,Nat.sub_self,and_self,and_true,true_and,List.length_map,nls_ints,hEq_int,hNe_int,Ok_ok,OkG_some,EndQ_some,EndP_nx',EndP_rv',EndP_rn',LoopP_nx,LoopP_ct,LoopP_bk,LoopP_rt,lc_ite,xMeth,xZip,sAugS,stIx,sSub2,itemsOf,nlI_dk,sMove,ite_self,hStr_i (a := a) (by omega) (by omega)]))]
  rw [List.map_map]
  rfl
theorem show_order_eq {ns : List Int} (h : SmallO ns) : den_show_order [tI ns] = .ret (.val (.str (orderT ns))) [] := by
  have hz := h.1
  have h1 := listed_eq (tx_nums h) tx_sp1 (by rw [List.length_map]; unfold line; omega)
  have h2 := nums_lc h
  apply Ret.eq
  apply Ret.run
  (simp -implicitDefEqProofs -dsimp only [runF,endF_nx,endF_rv,endF_rn,endF_err,initS,ioOut,sSeq,sNil,sPass,sBreak,sCont,sBad,sExpr,sRet,sRetN,sIf,sSet,putR,frz,frzs,xVal,xVar,getS_0,getS_s,getR,ownD,getRs,xOp1,xOp2,fin,RD.r,aNil,aCons,xCB,xTup,xLst,truth,tOf,tAnds,tOrs,tNots,xIf,xAnd,xOr,xNot,xIsi,isTy,hAdd,hSub,hNeg,hLt,hLe,hGt,hGe,hIs,hIsNot,hIx,hLen,hInt,hAbs,hMax2,hMin2,h1L,hList,hListS,xMethL,hCountL,lcStep2,lcTurn2,lcAdd2,hTuple,vi,vb,xCall,xCallN,argsD,argD,ioIx,boIx,isOwn,nodupB,disB,xPost_ret,xPost_err,postS,putIo,frzIx,nlR,nlI,nl,nls,Rt.r,permL,tTrue,lcStep,lcTurn,lcAdd,gN,gT,gsNil,gsCons,DL.forget,back,xSeq,seqOf,xEnum,xRng1,xRng2,xRng3,xLstI,xTupI,sPar,noSlot,putRs,sTup,xMut,ownL,mApp,mIns,mPop,mPopAt,mExt,mRev,sSub,sAug,oNone,oSome,xSl,hSl,hStep,xChain,bind_ok',bind_err,bind_bad,List.set_cons_zero,List.set_cons_succ,List.foldl_cons,List.foldl_nil,List.cons_append,List.nil_append,List.replicate_succ,List.replicate_zero,List.append_nil,List.all_cons,List.all_nil,List.map_cons,List.map_nil,List.length_cons,List.length_nil,List.zip_cons_cons,List.filterMap_cons,List.filterMap_nil,List.getElem?_cons_zero,List.getElem?_cons_succ,List.contains_nil,List.contains_cons,Bool.and_true,Bool.true_and,Bool.and_false,Bool.false_and,Bool.not_true,Bool.not_false,Bool.or_true,Bool.true_or,Bool.or_false,Bool.false_or,if_true,if_false,reduceIte,reduceCtorEq,Nat.reduceSub,Nat.reduceAdd,Nat.reduceEqDiff,Option.map_some,Option.map_none,decide_true,decide_false,↓reduceIte,Bool.false_eq_true,Nat.sub_zero,Nat.sub_self,and_self,and_true,true_and,List.length_map,nls_ints,hEq_int,hNe_int,Ok_ok,OkG_some,EndQ_some,EndP_nx',EndP_rv',EndP_rn',LoopP_nx,LoopP_ct,LoopP_bk,LoopP_rt,lc_ite,xMeth,xZip,sAugS,stIx,sSub2,itemsOf,nlI_dk,sMove,ite_self,h2, h1])
  rfl
theorem said_order_eq {ns : List Int} (h : SmallO ns) : den_law_said_order [tI ns] = .ret (.val (.str (orderT ns))) [] := by
  have hz := h.1
  have h1 := law_listed_eq (tx_nums h) tx_sp1 (by rw [List.length_map]; unfold line; omega)
  have h2 := nums_lc h
  apply Ret.eq
  apply Ret.run
  (simp -implicitDefEqProofs -dsimp only [runF,endF_nx,endF_rv,endF_rn,endF_err,initS,ioOut,sSeq,sNil,sPass,sBreak,sCont,sBad,sExpr,sRet,sRetN,sIf,sSet,putR,frz,frzs,xVal,xVar,getS_0,getS_s,getR,ownD,getRs,xOp1,xOp2,fin,RD.r,aNil,aCons,xCB,xTup,xLst,truth,tOf,tAnds,tOrs,tNots,xIf,xAnd,xOr,xNot,xIsi,isTy,hAdd,hSub,hNeg,hLt,hLe,hGt,hGe,hIs,hIsNot,hIx,hLen,hInt,hAbs,hMax2,hMin2,h1L,hList,hListS,xMethL,hCountL,lcStep2,lcTurn2,lcAdd2,hTuple,vi,vb,xCall,xCallN,argsD,argD,ioIx,boIx,isOwn,nodupB,disB,xPost_ret,xPost_err,postS,putIo,frzIx,nlR,nlI,nl,nls,Rt.r,permL,tTrue,lcStep,lcTurn,lcAdd,gN,gT,gsNil,gsCons,DL.forget,back,xSeq,seqOf,xEnum,xRng1,xRng2,xRng3,xLstI,xTupI,sPar,noSlot,putRs,sTup,xMut,ownL,mApp,mIns,mPop,mPopAt,mExt,mRev,sSub,sAug,oNone,oSome,xSl,hSl,hStep,xChain,bind_ok',bind_err,bind_bad,List.set_cons_zero,List.set_cons_succ,List.foldl_cons,List.foldl_nil,List.cons_append,List.nil_append,List.replicate_succ,List.replicate_zero,List.append_nil,List.all_cons,List.all_nil,List.map_cons,List.map_nil,List.length_cons,List.length_nil,List.zip_cons_cons,List.filterMap_cons,List.filterMap_nil,List.getElem?_cons_zero,List.getElem?_cons_succ,List.contains_nil,List.contains_cons,Bool.and_true,Bool.true_and,Bool.and_false,Bool.false_and,Bool.not_true,Bool.not_false,Bool.or_true,Bool.true_or,Bool.or_false,Bool.false_or,if_true,if_false,reduceIte,reduceCtorEq,Nat.reduceSub,Nat.reduceAdd,Nat.reduceEqDiff,Option.map_some,Option.map_none,decide_true,decide_false,↓reduceIte,Bool.false_eq_true,Nat.sub_zero,Nat.sub_self,and_self,and_true,true_and,List.length_map,nls_ints,hEq_int,hNe_int,Ok_ok,OkG_some,EndQ_some,EndP_nx',EndP_rv',EndP_rn',LoopP_nx,LoopP_ct,LoopP_bk,LoopP_rt,lc_ite,xMeth,xZip,sAugS,stIx,sSub2,itemsOf,nlI_dk,sMove,ite_self,h2, h1])
  rfl
def SmallL (L : List (List Int)) : Prop := L.length ≤ 20 ∧ ∀ ns ∈ L, SmallO ns
theorem smallL {L : List (List Int)} {k : Nat} (hk : k ≤ 40) (h : Pats k L) (hl : L.length ≤ 20) : SmallL L := ⟨hl, fun ns hn => smallO (h ns hn).1 (Nat.le_trans (h ns hn).2.2 hk)⟩
def listT (L : List (List Int)) : PySem.Str := listedT (L.map orderT) com2
theorem tx_orders {L : List (List Int)} (h : SmallL L) : ∀ w ∈ L.map orderT, Tx 121 w := fun w hw => by
  obtain ⟨a, ha, rfl⟩ := List.mem_map.mp hw
  exact tx_order (h.2 a ha)
theorem tx_list {L : List (List Int)} (h : SmallL L) : Tx 2461 (listT L) := by
  refine (tx_listed (tx_orders h) tx_com2).mono ?_
  have := h.1
  rw [List.length_map]
  omega
theorem show_list_eq {L : List (List Int)} (h : SmallL L) : den_show_list [rowsD L] = .ret (.val (.str (listT L))) [] := by
  have hz := h.1
  have h1 := listed_eq (tx_orders h) tx_com2 (by rw [List.length_map]; unfold line; omega)
  apply Ret.eq
  apply Ret.run
  (simp -implicitDefEqProofs -dsimp only [runF,endF_nx,endF_rv,endF_rn,endF_err,initS,ioOut,sSeq,sNil,sPass,sBreak,sCont,sBad,sExpr,sRet,sRetN,sIf,sSet,putR,frz,frzs,xVal,xVar,getS_0,getS_s,getR,ownD,getRs,xOp1,xOp2,fin,RD.r,aNil,aCons,xCB,xTup,xLst,truth,tOf,tAnds,tOrs,tNots,xIf,xAnd,xOr,xNot,xIsi,isTy,hAdd,hSub,hNeg,hLt,hLe,hGt,hGe,hIs,hIsNot,hIx,hLen,hInt,hAbs,hMax2,hMin2,h1L,hList,hListS,xMethL,hCountL,lcStep2,lcTurn2,lcAdd2,hTuple,vi,vb,xCall,xCallN,argsD,argD,ioIx,boIx,isOwn,nodupB,disB,xPost_ret,xPost_err,postS,putIo,frzIx,nlR,nlI,nl,nls,Rt.r,permL,tTrue,lcStep,lcTurn,lcAdd,gN,gT,gsNil,gsCons,DL.forget,back,xSeq,seqOf,xEnum,xRng1,xRng2,xRng3,xLstI,xTupI,sPar,noSlot,putRs,sTup,xMut,ownL,mApp,mIns,mPop,mPopAt,mExt,mRev,sSub,sAug,oNone,oSome,xSl,hSl,hStep,xChain,bind_ok',bind_err,bind_bad,List.set_cons_zero,List.set_cons_succ,List.foldl_cons,List.foldl_nil,List.cons_append,List.nil_append,List.replicate_succ,List.replicate_zero,List.append_nil,List.all_cons,List.all_nil,List.map_cons,List.map_nil,List.length_cons,List.length_nil,List.zip_cons_cons,List.filterMap_cons,List.filterMap_nil,List.getElem?_cons_zero,List.getElem?_cons_succ,List.contains_nil,List.contains_cons,Bool.and_true,Bool.true_and,Bool.and_false,Bool.false_and,Bool.not_true,Bool.not_false,Bool.or_true,Bool.true_or,Bool.or_false,Bool.false_or,if_true,if_false,reduceIte,reduceCtorEq,Nat.reduceSub,Nat.reduceAdd,Nat.reduceEqDiff,Option.map_some,Option.map_none,decide_true,decide_false,↓reduceIte,Bool.false_eq_true,Nat.sub_zero,Nat.sub_self,and_self,and_true,true_and,List.length_map,nls_ints,hEq_int,hNe_int,Ok_ok,OkG_some,EndQ_some,EndP_nx',EndP_rv',EndP_rn',LoopP_nx,LoopP_ct,LoopP_bk,LoopP_rt,lc_ite,xMeth,xZip,sAugS,stIx,sSub2,itemsOf,nlI_dk,sMove,ite_self])
  rw [lcA (s := [some (.val (rowsD L)), none]) L tI (fun a => .str (orderT a)) (by (simp -implicitDefEqProofs -dsimp only [runF,endF_nx,endF_rv,endF_rn,endF_err,initS,ioOut,sSeq,sNil,sPass,sBreak,sCont,sBad,sExpr,sRet,sRetN,sIf,sSet,putR,frz,frzs,xVal,xVar,getS_0,getS_s,getR,ownD,getRs,xOp1,xOp2,fin,RD.r,aNil,aCons,xCB,xTup,xLst,truth,tOf,tAnds,tOrs,tNots,xIf,xAnd,xOr,xNot,xIsi,isTy,hAdd,hSub,hNeg,hLt,hLe,hGt,hGe,hIs,hIsNot,hIx,hLen,hInt,hAbs,hMax2,hMin2,h1L,hList,hListS,xMethL,hCountL,lcStep2,lcTurn2,lcAdd2,hTuple,vi,vb,xCall,xCallN,argsD,argD,ioIx,boIx,isOwn,nodupB,disB,xPost_ret,xPost_err,postS,putIo,frzIx,nlR,nlI,nl,nls,Rt.r,permL,tTrue,lcStep,lcTurn,lcAdd,gN,gT,gsNil,gsCons,DL.forget,back,xSeq,seqOf,xEnum,xRng1,xRng2,xRng3,xLstI,xTupI,sPar,noSlot,putRs,sTup,xMut,ownL,mApp,mIns,mPop,mPopAt,mExt,mRev,sSub,sAug,oNone,oSome,xSl,hSl,hStep,xChain,bind_ok',bind_err,bind_bad,List.set_cons_zero,List.set_cons_succ,List.foldl_cons,List.foldl_nil,List.cons_append,List.nil_append,List.replicate_succ,List.replicate_zero,List.append_nil,List.all_cons,List.all_nil,List.map_cons,List.map_nil,List.length_cons,List.length_nil,List.zip_cons_cons,List.filterMap_cons,List.filterMap_nil,List.getElem?_cons_zero,List.getElem?_cons_succ,List.contains_nil,List.contains_cons,Bool.and_true,Bool.true_and,Bool.and_false,Bool.false_and,Bool.not_true,Bool.not_false,Bool.or_true,Bool.true_or,Bool.or_false,Bool.false_or,if_true,if_false,reduceIte,reduceCtorEq,Nat.reduceSub,Nat.reduceAdd,Nat.reduceEqDiff,Option.map_some,Option.map_none,decide_true,decide_false,↓reduceIte,Bool.false_eq_true,Nat.sub_zero,Nat.sub_self,and_self,and_true,true_and,List.length_map,nls_ints,hEq_int,hNe_int,Ok_ok,OkG_some,EndQ_some,EndP_nx',EndP_rv',EndP_rn',LoopP_nx,LoopP_ct,LoopP_bk,LoopP_rt,lc_ite,xMeth,xZip,sAugS,stIx,sSub2,itemsOf,nlI_dk,sMove,ite_self])) (by unfold line; omega) (fun a ha acc => by (simp -implicitDefEqProofs -dsimp only [runF,endF_nx,endF_rv,endF_rn,endF_err,initS,ioOut,sSeq,sNil,sPass,sBreak,sCont,sBad,sExpr,sRet,sRetN,sIf,sSet,putR,frz,frzs,xVal,xVar,getS_0,getS_s,getR,ownD,getRs,xOp1,xOp2,fin,RD.r,aNil,aCons,xCB,xTup,xLst,truth,tOf,tAnds,tOrs,tNots,xIf,xAnd,xOr,xNot,xIsi,isTy,hAdd,hSub,hNeg,hLt,hLe,hGt,hGe,hIs,hIsNot,hIx,hLen,hInt,hAbs,hMax2,hMin2,h1L,hList,hListS,xMethL,hCountL,lcStep2,lcTurn2,lcAdd2,hTuple,vi,vb,xCall,xCallN,argsD,argD,ioIx,boIx,isOwn,nodupB,disB,xPost_ret,xPost_err,postS,putIo,frzIx,nlR,nlI,nl,nls,Rt.r,permL,tTrue,lcStep,lcTurn,lcAdd,gN,gT,gsNil,gsCons,DL.forget,back,xSeq,seqOf,xEnum,xRng1,xRng2,xRng3,xLstI,xTupI,sPar,noSlot,putRs,sTup,xMut,ownL,mApp,mIns,mPop,mPopAt,mExt,mRev,sSub,sAug,oNone,oSome,xSl,hSl,hStep,xChain,bind_ok',bind_err,bind_bad,List.set_cons_zero,List.set_cons_succ,List.foldl_cons,List.foldl_nil,List.cons_append,List.nil_append,List.replicate_succ,List.replicate_zero,List.append_nil,List.all_cons,List.all_nil,List.map_cons,List.map_nil,List.length_cons,List.length_nil,List.zip_cons_cons,List.filterMap_cons,List.filterMap_nil,List.getElem?_cons_zero,List.getElem?_cons_succ,List.contains_nil,List.contains_cons,Bool.and_true,Bool.true_and,Bool.and_false,Bool.false_and,Bool.not_true,Bool.not_false,Bool.or_true,Bool.true_or,Bool.or_false,Bool.false_or,if_true,if_false,reduceIte,reduceCtorEq,Nat.reduceSub,Nat.reduceAdd,Nat.reduceEqDiff,Option.map_some,Option.map_none,decide_true,decide_false,↓reduceIte,Bool.false_eq_true,Nat.sub_zero,Nat.sub_self,and_self,and_true,true_and,List.length_map,nls_ints,hEq_int,hNe_int,Ok_ok,OkG_some,EndQ_some,EndP_nx',EndP_rv',EndP_rn',LoopP_nx,LoopP_ct,LoopP_bk,LoopP_rt,lc_ite,xMeth,xZip,sAugS,stIx,sSub2,itemsOf,nlI_dk,sMove,ite_self,show_order_eq (h.2 a ha)]))]
  have e : List.map (fun a => PyData.str (orderT a)) L = (L.map orderT).map .str := by rw [List.map_map]; rfl
  rw [e]
  (simp -implicitDefEqProofs -dsimp only [runF,endF_nx,endF_rv,endF_rn,endF_err,initS,ioOut,sSeq,sNil,sPass,sBreak,sCont,sBad,sExpr,sRet,sRetN,sIf,sSet,putR,frz,frzs,xVal,xVar,getS_0,getS_s,getR,ownD,getRs,xOp1,xOp2,fin,RD.r,aNil,aCons,xCB,xTup,xLst,truth,tOf,tAnds,tOrs,tNots,xIf,xAnd,xOr,xNot,xIsi,isTy,hAdd,hSub,hNeg,hLt,hLe,hGt,hGe,hIs,hIsNot,hIx,hLen,hInt,hAbs,hMax2,hMin2,h1L,hList,hListS,xMethL,hCountL,lcStep2,lcTurn2,lcAdd2,hTuple,vi,vb,xCall,xCallN,argsD,argD,ioIx,boIx,isOwn,nodupB,disB,xPost_ret,xPost_err,postS,putIo,frzIx,nlR,nlI,nl,nls,Rt.r,permL,tTrue,lcStep,lcTurn,lcAdd,gN,gT,gsNil,gsCons,DL.forget,back,xSeq,seqOf,xEnum,xRng1,xRng2,xRng3,xLstI,xTupI,sPar,noSlot,putRs,sTup,xMut,ownL,mApp,mIns,mPop,mPopAt,mExt,mRev,sSub,sAug,oNone,oSome,xSl,hSl,hStep,xChain,bind_ok',bind_err,bind_bad,List.set_cons_zero,List.set_cons_succ,List.foldl_cons,List.foldl_nil,List.cons_append,List.nil_append,List.replicate_succ,List.replicate_zero,List.append_nil,List.all_cons,List.all_nil,List.map_cons,List.map_nil,List.length_cons,List.length_nil,List.zip_cons_cons,List.filterMap_cons,List.filterMap_nil,List.getElem?_cons_zero,List.getElem?_cons_succ,List.contains_nil,List.contains_cons,Bool.and_true,Bool.true_and,Bool.and_false,Bool.false_and,Bool.not_true,Bool.not_false,Bool.or_true,Bool.true_or,Bool.or_false,Bool.false_or,if_true,if_false,reduceIte,reduceCtorEq,Nat.reduceSub,Nat.reduceAdd,Nat.reduceEqDiff,Option.map_some,Option.map_none,decide_true,decide_false,↓reduceIte,Bool.false_eq_true,Nat.sub_zero,Nat.sub_self,and_self,and_true,true_and,List.length_map,nls_ints,hEq_int,hNe_int,Ok_ok,OkG_some,EndQ_some,EndP_nx',EndP_rv',EndP_rn',LoopP_nx,LoopP_ct,LoopP_bk,LoopP_rt,lc_ite,xMeth,xZip,sAugS,stIx,sSub2,itemsOf,nlI_dk,sMove,ite_self,h1])
  rfl
theorem said_list_eq {L : List (List Int)} (h : SmallL L) : den_law_said_list [rowsD L] = .ret (.val (.str (listT L))) [] := by
  have hz := h.1
  have h1 := law_listed_eq (tx_orders h) tx_com2 (by rw [List.length_map]; unfold line; omega)
  apply Ret.eq
  apply Ret.run
  (simp -implicitDefEqProofs -dsimp only [runF,endF_nx,endF_rv,endF_rn,endF_err,initS,ioOut,sSeq,sNil,sPass,sBreak,sCont,sBad,sExpr,sRet,sRetN,sIf,sSet,putR,frz,frzs,xVal,xVar,getS_0,getS_s,getR,ownD,getRs,xOp1,xOp2,fin,RD.r,aNil,aCons,xCB,xTup,xLst,truth,tOf,tAnds,tOrs,tNots,xIf,xAnd,xOr,xNot,xIsi,isTy,hAdd,hSub,hNeg,hLt,hLe,hGt,hGe,hIs,hIsNot,hIx,hLen,hInt,hAbs,hMax2,hMin2,h1L,hList,hListS,xMethL,hCountL,lcStep2,lcTurn2,lcAdd2,hTuple,vi,vb,xCall,xCallN,argsD,argD,ioIx,boIx,isOwn,nodupB,disB,xPost_ret,xPost_err,postS,putIo,frzIx,nlR,nlI,nl,nls,Rt.r,permL,tTrue,lcStep,lcTurn,lcAdd,gN,gT,gsNil,gsCons,DL.forget,back,xSeq,seqOf,xEnum,xRng1,xRng2,xRng3,xLstI,xTupI,sPar,noSlot,putRs,sTup,xMut,ownL,mApp,mIns,mPop,mPopAt,mExt,mRev,sSub,sAug,oNone,oSome,xSl,hSl,hStep,xChain,bind_ok',bind_err,bind_bad,List.set_cons_zero,List.set_cons_succ,List.foldl_cons,List.foldl_nil,List.cons_append,List.nil_append,List.replicate_succ,List.replicate_zero,List.append_nil,List.all_cons,List.all_nil,List.map_cons,List.map_nil,List.length_cons,List.length_nil,List.zip_cons_cons,List.filterMap_cons,List.filterMap_nil,List.getElem?_cons_zero,List.getElem?_cons_succ,List.contains_nil,List.contains_cons,Bool.and_true,Bool.true_and,Bool.and_false,Bool.false_and,Bool.not_true,Bool.not_false,Bool.or_true,Bool.true_or,Bool.or_false,Bool.false_or,if_true,if_false,reduceIte,reduceCtorEq,Nat.reduceSub,Nat.reduceAdd,Nat.reduceEqDiff,Option.map_some,Option.map_none,decide_true,decide_false,↓reduceIte,Bool.false_eq_true,Nat.sub_zero,Nat.sub_self,and_self,and_true,true_and,List.length_map,nls_ints,hEq_int,hNe_int,Ok_ok,OkG_some,EndQ_some,EndP_nx',EndP_rv',EndP_rn',LoopP_nx,LoopP_ct,LoopP_bk,LoopP_rt,lc_ite,xMeth,xZip,sAugS,stIx,sSub2,itemsOf,nlI_dk,sMove,ite_self])
  rw [lcA (s := [some (.val (rowsD L)), none]) L tI (fun a => .str (orderT a)) (by (simp -implicitDefEqProofs -dsimp only [runF,endF_nx,endF_rv,endF_rn,endF_err,initS,ioOut,sSeq,sNil,sPass,sBreak,sCont,sBad,sExpr,sRet,sRetN,sIf,sSet,putR,frz,frzs,xVal,xVar,getS_0,getS_s,getR,ownD,getRs,xOp1,xOp2,fin,RD.r,aNil,aCons,xCB,xTup,xLst,truth,tOf,tAnds,tOrs,tNots,xIf,xAnd,xOr,xNot,xIsi,isTy,hAdd,hSub,hNeg,hLt,hLe,hGt,hGe,hIs,hIsNot,hIx,hLen,hInt,hAbs,hMax2,hMin2,h1L,hList,hListS,xMethL,hCountL,lcStep2,lcTurn2,lcAdd2,hTuple,vi,vb,xCall,xCallN,argsD,argD,ioIx,boIx,isOwn,nodupB,disB,xPost_ret,xPost_err,postS,putIo,frzIx,nlR,nlI,nl,nls,Rt.r,permL,tTrue,lcStep,lcTurn,lcAdd,gN,gT,gsNil,gsCons,DL.forget,back,xSeq,seqOf,xEnum,xRng1,xRng2,xRng3,xLstI,xTupI,sPar,noSlot,putRs,sTup,xMut,ownL,mApp,mIns,mPop,mPopAt,mExt,mRev,sSub,sAug,oNone,oSome,xSl,hSl,hStep,xChain,bind_ok',bind_err,bind_bad,List.set_cons_zero,List.set_cons_succ,List.foldl_cons,List.foldl_nil,List.cons_append,List.nil_append,List.replicate_succ,List.replicate_zero,List.append_nil,List.all_cons,List.all_nil,List.map_cons,List.map_nil,List.length_cons,List.length_nil,List.zip_cons_cons,List.filterMap_cons,List.filterMap_nil,List.getElem?_cons_zero,List.getElem?_cons_succ,List.contains_nil,List.contains_cons,Bool.and_true,Bool.true_and,Bool.and_false,Bool.false_and,Bool.not_true,Bool.not_false,Bool.or_true,Bool.true_or,Bool.or_false,Bool.false_or,if_true,if_false,reduceIte,reduceCtorEq,Nat.reduceSub,Nat.reduceAdd,Nat.reduceEqDiff,Option.map_some,Option.map_none,decide_true,decide_false,↓reduceIte,Bool.false_eq_true,Nat.sub_zero,Nat.sub_self,and_self,and_true,true_and,List.length_map,nls_ints,hEq_int,hNe_int,Ok_ok,OkG_some,EndQ_some,EndP_nx',EndP_rv',EndP_rn',LoopP_nx,LoopP_ct,LoopP_bk,LoopP_rt,lc_ite,xMeth,xZip,sAugS,stIx,sSub2,itemsOf,nlI_dk,sMove,ite_self])) (by unfold line; omega) (fun a ha acc => by (simp -implicitDefEqProofs -dsimp only [runF,endF_nx,endF_rv,endF_rn,endF_err,initS,ioOut,sSeq,sNil,sPass,sBreak,sCont,sBad,sExpr,sRet,sRetN,sIf,sSet,putR,frz,frzs,xVal,xVar,getS_0,getS_s,getR,ownD,getRs,xOp1,xOp2,fin,RD.r,aNil,aCons,xCB,xTup,xLst,truth,tOf,tAnds,tOrs,tNots,xIf,xAnd,xOr,xNot,xIsi,isTy,hAdd,hSub,hNeg,hLt,hLe,hGt,hGe,hIs,hIsNot,hIx,hLen,hInt,hAbs,hMax2,hMin2,h1L,hList,hListS,xMethL,hCountL,lcStep2,lcTurn2,lcAdd2,hTuple,vi,vb,xCall,xCallN,argsD,argD,ioIx,boIx,isOwn,nodupB,disB,xPost_ret,xPost_err,postS,putIo,frzIx,nlR,nlI,nl,nls,Rt.r,permL,tTrue,lcStep,lcTurn,lcAdd,gN,gT,gsNil,gsCons,DL.forget,back,xSeq,seqOf,xEnum,xRng1,xRng2,xRng3,xLstI,xTupI,sPar,noSlot,putRs,sTup,xMut,ownL,mApp,mIns,mPop,mPopAt,mExt,mRev,sSub,sAug,oNone,oSome,xSl,hSl,hStep,xChain,bind_ok',bind_err,bind_bad,List.set_cons_zero,List.set_cons_succ,List.foldl_cons,List.foldl_nil,List.cons_append,List.nil_append,List.replicate_succ,List.replicate_zero,List.append_nil,List.all_cons,List.all_nil,List.map_cons,List.map_nil,List.length_cons,List.length_nil,List.zip_cons_cons,List.filterMap_cons,List.filterMap_nil,List.getElem?_cons_zero,List.getElem?_cons_succ,List.contains_nil,List.contains_cons,Bool.and_true,Bool.true_and,Bool.and_false,Bool.false_and,Bool.not_true,Bool.not_false,Bool.or_true,Bool.true_or,Bool.or_false,Bool.false_or,if_true,if_false,reduceIte,reduceCtorEq,Nat.reduceSub,Nat.reduceAdd,Nat.reduceEqDiff,Option.map_some,Option.map_none,decide_true,decide_false,↓reduceIte,Bool.false_eq_true,Nat.sub_zero,Nat.sub_self,and_self,and_true,true_and,List.length_map,nls_ints,hEq_int,hNe_int,Ok_ok,OkG_some,EndQ_some,EndP_nx',EndP_rv',EndP_rn',LoopP_nx,LoopP_ct,LoopP_bk,LoopP_rt,lc_ite,xMeth,xZip,sAugS,stIx,sSub2,itemsOf,nlI_dk,sMove,ite_self,said_order_eq (h.2 a ha)]))]
  have e : List.map (fun a => PyData.str (orderT a)) L = (L.map orderT).map .str := by rw [List.map_map]; rfl
  rw [e]
  (simp -implicitDefEqProofs -dsimp only [runF,endF_nx,endF_rv,endF_rn,endF_err,initS,ioOut,sSeq,sNil,sPass,sBreak,sCont,sBad,sExpr,sRet,sRetN,sIf,sSet,putR,frz,frzs,xVal,xVar,getS_0,getS_s,getR,ownD,getRs,xOp1,xOp2,fin,RD.r,aNil,aCons,xCB,xTup,xLst,truth,tOf,tAnds,tOrs,tNots,xIf,xAnd,xOr,xNot,xIsi,isTy,hAdd,hSub,hNeg,hLt,hLe,hGt,hGe,hIs,hIsNot,hIx,hLen,hInt,hAbs,hMax2,hMin2,h1L,hList,hListS,xMethL,hCountL,lcStep2,lcTurn2,lcAdd2,hTuple,vi,vb,xCall,xCallN,argsD,argD,ioIx,boIx,isOwn,nodupB,disB,xPost_ret,xPost_err,postS,putIo,frzIx,nlR,nlI,nl,nls,Rt.r,permL,tTrue,lcStep,lcTurn,lcAdd,gN,gT,gsNil,gsCons,DL.forget,back,xSeq,seqOf,xEnum,xRng1,xRng2,xRng3,xLstI,xTupI,sPar,noSlot,putRs,sTup,xMut,ownL,mApp,mIns,mPop,mPopAt,mExt,mRev,sSub,sAug,oNone,oSome,xSl,hSl,hStep,xChain,bind_ok',bind_err,bind_bad,List.set_cons_zero,List.set_cons_succ,List.foldl_cons,List.foldl_nil,List.cons_append,List.nil_append,List.replicate_succ,List.replicate_zero,List.append_nil,List.all_cons,List.all_nil,List.map_cons,List.map_nil,List.length_cons,List.length_nil,List.zip_cons_cons,List.filterMap_cons,List.filterMap_nil,List.getElem?_cons_zero,List.getElem?_cons_succ,List.contains_nil,List.contains_cons,Bool.and_true,Bool.true_and,Bool.and_false,Bool.false_and,Bool.not_true,Bool.not_false,Bool.or_true,Bool.true_or,Bool.or_false,Bool.false_or,if_true,if_false,reduceIte,reduceCtorEq,Nat.reduceSub,Nat.reduceAdd,Nat.reduceEqDiff,Option.map_some,Option.map_none,decide_true,decide_false,↓reduceIte,Bool.false_eq_true,Nat.sub_zero,Nat.sub_self,and_self,and_true,true_and,List.length_map,nls_ints,hEq_int,hNe_int,Ok_ok,OkG_some,EndQ_some,EndP_nx',EndP_rv',EndP_rn',LoopP_nx,LoopP_ct,LoopP_bk,LoopP_rt,lc_ite,xMeth,xZip,sAugS,stIx,sSub2,itemsOf,nlI_dk,sMove,ite_self,h1])
  rfl
/-! letters -/
def wayC (w : Nat) : Nat := [109, 108, 114, 102].getD w 0
def wayT (w : Nat) : PySem.Str := ⟨#[wayC w]⟩
theorem ways_len : (Str.ofString "mlrf").length ≤ line := by rw [show (Str.ofString "mlrf").length = 4 from by decide +kernel]; decide
theorem ways_at {w : Nat} (h : w < 4) : atI (Str.ofString "mlrf").cps.toList (w : Int) = some (wayC w) := by
  have hh : w = 0 ∨ w = 1 ∨ w = 2 ∨ w = 3 := by omega
  rw [show (Str.ofString "mlrf").cps.toList = [109, 108, 114, 102] from by decide +kernel]
  rcases hh with rfl | rfl | rfl | rfl <;> rfl
theorem tx_way {w : Nat} (h : w < 4) : Tx 1 (wayT w) := by
  have hh : w = 0 ∨ w = 1 ∨ w = 2 ∨ w = 3 := by omega
  rcases hh with rfl | rfl | rfl | rfl <;> exact tx_lit (by decide +kernel) (by decide +kernel)
def letterT (p : Nat × Nat) : PySem.Str := numT p.1 ++ wayT p.2
theorem log_slot {n : Nat} (h : n ≤ 1000000000000000000000000000000) : n.log2 < 1920 := by
  have := log2_of (n := n) (k := 100) (Nat.lt_of_le_of_lt h (by decide)) (by omega)
  omega
theorem tx_slot {n : Nat} (h : n ≤ 1000000000000000000000000000000) : Tx 31 (numT n) := tx_num (by omega) (Nat.lt_of_le_of_lt h (by decide))
theorem tx_letter {p : Nat × Nat} (h : LtOk p) : Tx 32 (letterT p) := (tx_slot h.2.1).app (tx_way h.2.2)
theorem letter_add {p : Nat × Nat} (h : LtOk p) : (numT p.1).length + (wayT p.2).length ≤ line := by
  have h1 := (tx_slot h.2.1).len
  have h2 := (tx_way h.2.2).len
  unfold line
  omega
theorem show_letter_eq {p : Nat × Nat} (h : LtOk p) : den_show_letter [ltD p] = .ret (.val (.str (letterT p))) [] := by
  have z := letter_add h
  have z2 : (numT p.1).length + Str.length ⟨#[wayC p.2]⟩ ≤ line := z
  apply Ret.eq
  apply Ret.run
  (simp -implicitDefEqProofs -dsimp only [runF,endF_nx,endF_rv,endF_rn,endF_err,initS,ioOut,sSeq,sNil,sPass,sBreak,sCont,sBad,sExpr,sRet,sRetN,sIf,sSet,putR,frz,frzs,xVal,xVar,getS_0,getS_s,getR,ownD,getRs,xOp1,xOp2,fin,RD.r,aNil,aCons,xCB,xTup,xLst,truth,tOf,tAnds,tOrs,tNots,xIf,xAnd,xOr,xNot,xIsi,isTy,hAdd,hSub,hNeg,hLt,hLe,hGt,hGe,hIs,hIsNot,hIx,hLen,hInt,hAbs,hMax2,hMin2,h1L,hList,hListS,xMethL,hCountL,lcStep2,lcTurn2,lcAdd2,hTuple,vi,vb,xCall,xCallN,argsD,argD,ioIx,boIx,isOwn,nodupB,disB,xPost_ret,xPost_err,postS,putIo,frzIx,nlR,nlI,nl,nls,Rt.r,permL,tTrue,lcStep,lcTurn,lcAdd,gN,gT,gsNil,gsCons,DL.forget,back,xSeq,seqOf,xEnum,xRng1,xRng2,xRng3,xLstI,xTupI,sPar,noSlot,putRs,sTup,xMut,ownL,mApp,mIns,mPop,mPopAt,mExt,mRev,sSub,sAug,oNone,oSome,xSl,hSl,hStep,xChain,bind_ok',bind_err,bind_bad,List.set_cons_zero,List.set_cons_succ,List.foldl_cons,List.foldl_nil,List.cons_append,List.nil_append,List.replicate_succ,List.replicate_zero,List.append_nil,List.all_cons,List.all_nil,List.map_cons,List.map_nil,List.length_cons,List.length_nil,List.zip_cons_cons,List.filterMap_cons,List.filterMap_nil,List.getElem?_cons_zero,List.getElem?_cons_succ,List.contains_nil,List.contains_cons,Bool.and_true,Bool.true_and,Bool.and_false,Bool.false_and,Bool.not_true,Bool.not_false,Bool.or_true,Bool.true_or,Bool.or_false,Bool.false_or,if_true,if_false,reduceIte,reduceCtorEq,Nat.reduceSub,Nat.reduceAdd,Nat.reduceEqDiff,Option.map_some,Option.map_none,decide_true,decide_false,↓reduceIte,Bool.false_eq_true,Nat.sub_zero,Nat.sub_self,and_self,and_true,true_and,List.length_map,nls_ints,hEq_int,hNe_int,Ok_ok,OkG_some,EndQ_some,EndP_nx',EndP_rv',EndP_rn',LoopP_nx,LoopP_ct,LoopP_bk,LoopP_rt,lc_ite,xMeth,xZip,sAugS,stIx,sSub2,itemsOf,nlI_dk,sMove,ite_self,hStr_num (log_slot h.2.1), ways_len, ways_at h.2.2, z2])
  rfl
theorem said_letter_eq {p : Nat × Nat} (h : LtOk p) : den_law_said_letter [ltD p] = .ret (.val (.str (letterT p))) [] := by
  have z := letter_add h
  have z2 : (numT p.1).length + Str.length ⟨#[wayC p.2]⟩ ≤ line := z
  apply Ret.eq
  apply Ret.run
  (simp -implicitDefEqProofs -dsimp only [runF,endF_nx,endF_rv,endF_rn,endF_err,initS,ioOut,sSeq,sNil,sPass,sBreak,sCont,sBad,sExpr,sRet,sRetN,sIf,sSet,putR,frz,frzs,xVal,xVar,getS_0,getS_s,getR,ownD,getRs,xOp1,xOp2,fin,RD.r,aNil,aCons,xCB,xTup,xLst,truth,tOf,tAnds,tOrs,tNots,xIf,xAnd,xOr,xNot,xIsi,isTy,hAdd,hSub,hNeg,hLt,hLe,hGt,hGe,hIs,hIsNot,hIx,hLen,hInt,hAbs,hMax2,hMin2,h1L,hList,hListS,xMethL,hCountL,lcStep2,lcTurn2,lcAdd2,hTuple,vi,vb,xCall,xCallN,argsD,argD,ioIx,boIx,isOwn,nodupB,disB,xPost_ret,xPost_err,postS,putIo,frzIx,nlR,nlI,nl,nls,Rt.r,permL,tTrue,lcStep,lcTurn,lcAdd,gN,gT,gsNil,gsCons,DL.forget,back,xSeq,seqOf,xEnum,xRng1,xRng2,xRng3,xLstI,xTupI,sPar,noSlot,putRs,sTup,xMut,ownL,mApp,mIns,mPop,mPopAt,mExt,mRev,sSub,sAug,oNone,oSome,xSl,hSl,hStep,xChain,bind_ok',bind_err,bind_bad,List.set_cons_zero,List.set_cons_succ,List.foldl_cons,List.foldl_nil,List.cons_append,List.nil_append,List.replicate_succ,List.replicate_zero,List.append_nil,List.all_cons,List.all_nil,List.map_cons,List.map_nil,List.length_cons,List.length_nil,List.zip_cons_cons,List.filterMap_cons,List.filterMap_nil,List.getElem?_cons_zero,List.getElem?_cons_succ,List.contains_nil,List.contains_cons,Bool.and_true,Bool.true_and,Bool.and_false,Bool.false_and,Bool.not_true,Bool.not_false,Bool.or_true,Bool.true_or,Bool.or_false,Bool.false_or,if_true,if_false,reduceIte,reduceCtorEq,Nat.reduceSub,Nat.reduceAdd,Nat.reduceEqDiff,Option.map_some,Option.map_none,decide_true,decide_false,↓reduceIte,Bool.false_eq_true,Nat.sub_zero,Nat.sub_self,and_self,and_true,true_and,List.length_map,nls_ints,hEq_int,hNe_int,Ok_ok,OkG_some,EndQ_some,EndP_nx',EndP_rv',EndP_rn',LoopP_nx,LoopP_ct,LoopP_bk,LoopP_rt,lc_ite,xMeth,xZip,sAugS,stIx,sSub2,itemsOf,nlI_dk,sMove,ite_self,atI_0, atI_1, hStr_num (log_slot h.2.1), ways_len, ways_at h.2.2, z2])
  rfl
def SmallW (L : List (Nat × Nat)) : Prop := L.length ≤ 60 ∧ ∀ p ∈ L, LtOk p
def wordT (L : List (Nat × Nat)) : PySem.Str := listedT (L.map letterT) sp1
theorem tx_letters {L : List (Nat × Nat)} (h : ∀ p ∈ L, LtOk p) : ∀ w ∈ L.map letterT, Tx 32 w := fun w hw => by
  obtain ⟨a, ha, rfl⟩ := List.mem_map.mp hw
  exact tx_letter (h a ha)
theorem tx_word {L : List (Nat × Nat)} (h : SmallW L) : Tx 1981 (wordT L) := by
  refine (tx_listed (tx_letters h.2) tx_sp1).mono ?_
  have := h.1
  rw [List.length_map]
  omega
abbrev wordD (L : List (Nat × Nat)) : D := .tuple (L.map ltD)
theorem show_word_eq {L : List (Nat × Nat)} (h : SmallW L) : den_show_word [wordD L] = .ret (.val (.str (wordT L))) [] := by
  have hz := h.1
  have h1 := listed_eq (tx_letters h.2) tx_sp1 (by rw [List.length_map]; unfold line; omega)
  apply Ret.eq
  apply Ret.run
  (simp -implicitDefEqProofs -dsimp only [runF,endF_nx,endF_rv,endF_rn,endF_err,initS,ioOut,sSeq,sNil,sPass,sBreak,sCont,sBad,sExpr,sRet,sRetN,sIf,sSet,putR,frz,frzs,xVal,xVar,getS_0,getS_s,getR,ownD,getRs,xOp1,xOp2,fin,RD.r,aNil,aCons,xCB,xTup,xLst,truth,tOf,tAnds,tOrs,tNots,xIf,xAnd,xOr,xNot,xIsi,isTy,hAdd,hSub,hNeg,hLt,hLe,hGt,hGe,hIs,hIsNot,hIx,hLen,hInt,hAbs,hMax2,hMin2,h1L,hList,hListS,xMethL,hCountL,lcStep2,lcTurn2,lcAdd2,hTuple,vi,vb,xCall,xCallN,argsD,argD,ioIx,boIx,isOwn,nodupB,disB,xPost_ret,xPost_err,postS,putIo,frzIx,nlR,nlI,nl,nls,Rt.r,permL,tTrue,lcStep,lcTurn,lcAdd,gN,gT,gsNil,gsCons,DL.forget,back,xSeq,seqOf,xEnum,xRng1,xRng2,xRng3,xLstI,xTupI,sPar,noSlot,putRs,sTup,xMut,ownL,mApp,mIns,mPop,mPopAt,mExt,mRev,sSub,sAug,oNone,oSome,xSl,hSl,hStep,xChain,bind_ok',bind_err,bind_bad,List.set_cons_zero,List.set_cons_succ,List.foldl_cons,List.foldl_nil,List.cons_append,List.nil_append,List.replicate_succ,List.replicate_zero,List.append_nil,List.all_cons,List.all_nil,List.map_cons,List.map_nil,List.length_cons,List.length_nil,List.zip_cons_cons,List.filterMap_cons,List.filterMap_nil,List.getElem?_cons_zero,List.getElem?_cons_succ,List.contains_nil,List.contains_cons,Bool.and_true,Bool.true_and,Bool.and_false,Bool.false_and,Bool.not_true,Bool.not_false,Bool.or_true,Bool.true_or,Bool.or_false,Bool.false_or,if_true,if_false,reduceIte,reduceCtorEq,Nat.reduceSub,Nat.reduceAdd,Nat.reduceEqDiff,Option.map_some,Option.map_none,decide_true,decide_false,↓reduceIte,Bool.false_eq_true,Nat.sub_zero,Nat.sub_self,and_self,and_true,true_and,List.length_map,nls_ints,hEq_int,hNe_int,Ok_ok,OkG_some,EndQ_some,EndP_nx',EndP_rv',EndP_rn',LoopP_nx,LoopP_ct,LoopP_bk,LoopP_rt,lc_ite,xMeth,xZip,sAugS,stIx,sSub2,itemsOf,nlI_dk,sMove,ite_self])
  rw [lcA (s := [some (.val (wordD L)), none]) L ltD (fun a => .str (letterT a)) (by (simp -implicitDefEqProofs -dsimp only [runF,endF_nx,endF_rv,endF_rn,endF_err,initS,ioOut,sSeq,sNil,sPass,sBreak,sCont,sBad,sExpr,sRet,sRetN,sIf,sSet,putR,frz,frzs,xVal,xVar,getS_0,getS_s,getR,ownD,getRs,xOp1,xOp2,fin,RD.r,aNil,aCons,xCB,xTup,xLst,truth,tOf,tAnds,tOrs,tNots,xIf,xAnd,xOr,xNot,xIsi,isTy,hAdd,hSub,hNeg,hLt,hLe,hGt,hGe,hIs,hIsNot,hIx,hLen,hInt,hAbs,hMax2,hMin2,h1L,hList,hListS,xMethL,hCountL,lcStep2,lcTurn2,lcAdd2,hTuple,vi,vb,xCall,xCallN,argsD,argD,ioIx,boIx,isOwn,nodupB,disB,xPost_ret,xPost_err,postS,putIo,frzIx,nlR,nlI,nl,nls,Rt.r,permL,tTrue,lcStep,lcTurn,lcAdd,gN,gT,gsNil,gsCons,DL.forget,back,xSeq,seqOf,xEnum,xRng1,xRng2,xRng3,xLstI,xTupI,sPar,noSlot,putRs,sTup,xMut,ownL,mApp,mIns,mPop,mPopAt,mExt,mRev,sSub,sAug,oNone,oSome,xSl,hSl,hStep,xChain,bind_ok',bind_err,bind_bad,List.set_cons_zero,List.set_cons_succ,List.foldl_cons,List.foldl_nil,List.cons_append,List.nil_append,List.replicate_succ,List.replicate_zero,List.append_nil,List.all_cons,List.all_nil,List.map_cons,List.map_nil,List.length_cons,List.length_nil,List.zip_cons_cons,List.filterMap_cons,List.filterMap_nil,List.getElem?_cons_zero,List.getElem?_cons_succ,List.contains_nil,List.contains_cons,Bool.and_true,Bool.true_and,Bool.and_false,Bool.false_and,Bool.not_true,Bool.not_false,Bool.or_true,Bool.true_or,Bool.or_false,Bool.false_or,if_true,if_false,reduceIte,reduceCtorEq,Nat.reduceSub,Nat.reduceAdd,Nat.reduceEqDiff,Option.map_some,Option.map_none,decide_true,decide_false,↓reduceIte,Bool.false_eq_true,Nat.sub_zero,Nat.sub_self,and_self,and_true,true_and,List.length_map,nls_ints,hEq_int,hNe_int,Ok_ok,OkG_some,EndQ_some,EndP_nx',EndP_rv',EndP_rn',LoopP_nx,LoopP_ct,LoopP_bk,LoopP_rt,lc_ite,xMeth,xZip,sAugS,stIx,sSub2,itemsOf,nlI_dk,sMove,ite_self])) (by unfold line; omega) (fun a ha acc => by (simp -implicitDefEqProofs -dsimp only [runF,endF_nx,endF_rv,endF_rn,endF_err,initS,ioOut,sSeq,sNil,sPass,sBreak,sCont,sBad,sExpr,sRet,sRetN,sIf,sSet,putR,frz,frzs,xVal,xVar,getS_0,getS_s,getR,ownD,getRs,xOp1,xOp2,fin,RD.r,aNil,aCons,xCB,xTup,xLst,truth,tOf,tAnds,tOrs,tNots,xIf,xAnd,xOr,xNot,xIsi,isTy,hAdd,hSub,hNeg,hLt,hLe,hGt,hGe,hIs,hIsNot,hIx,hLen,hInt,hAbs,hMax2,hMin2,h1L,hList,hListS,xMethL,hCountL,lcStep2,lcTurn2,lcAdd2,hTuple,vi,vb,xCall,xCallN,argsD,argD,ioIx,boIx,isOwn,nodupB,disB,xPost_ret,xPost_err,postS,putIo,frzIx,nlR,nlI,nl,nls,Rt.r,permL,tTrue,lcStep,lcTurn,lcAdd,gN,gT,gsNil,gsCons,DL.forget,back,xSeq,seqOf,xEnum,xRng1,xRng2,xRng3,xLstI,xTupI,sPar,noSlot,putRs,sTup,xMut,ownL,mApp,mIns,mPop,mPopAt,mExt,mRev,sSub,sAug,oNone,oSome,xSl,hSl,hStep,xChain,bind_ok',bind_err,bind_bad,List.set_cons_zero,List.set_cons_succ,List.foldl_cons,List.foldl_nil,List.cons_append,List.nil_append,List.replicate_succ,List.replicate_zero,List.append_nil,List.all_cons,List.all_nil,List.map_cons,List.map_nil,List.length_cons,List.length_nil,List.zip_cons_cons,List.filterMap_cons,List.filterMap_nil,List.getElem?_cons_zero,List.getElem?_cons_succ,List.contains_nil,List.contains_cons,Bool.and_true,Bool.true_and,Bool.and_false,Bool.false_and,Bool.not_true,Bool.not_false,Bool.or_true,Bool.true_or,Bool.or_false,Bool.false_or,if_true,if_false,reduceIte,reduceCtorEq,Nat.reduceSub,Nat.reduceAdd,Nat.reduceEqDiff,Option.map_some,Option.map_none,decide_true,decide_false,↓reduceIte,Bool.false_eq_true,Nat.sub_zero,Nat.sub_self,and_self,and_true,true_and,List.length_map,nls_ints,hEq_int,hNe_int,Ok_ok,OkG_some,EndQ_some,EndP_nx',EndP_rv',EndP_rn',LoopP_nx,LoopP_ct,LoopP_bk,LoopP_rt,lc_ite,xMeth,xZip,sAugS,stIx,sSub2,itemsOf,nlI_dk,sMove,ite_self,show_letter_eq (h.2 a ha)]))]
  have e : List.map (fun a => PyData.str (letterT a)) L = (L.map letterT).map .str := by rw [List.map_map]; rfl
  rw [e]
  (simp -implicitDefEqProofs -dsimp only [runF,endF_nx,endF_rv,endF_rn,endF_err,initS,ioOut,sSeq,sNil,sPass,sBreak,sCont,sBad,sExpr,sRet,sRetN,sIf,sSet,putR,frz,frzs,xVal,xVar,getS_0,getS_s,getR,ownD,getRs,xOp1,xOp2,fin,RD.r,aNil,aCons,xCB,xTup,xLst,truth,tOf,tAnds,tOrs,tNots,xIf,xAnd,xOr,xNot,xIsi,isTy,hAdd,hSub,hNeg,hLt,hLe,hGt,hGe,hIs,hIsNot,hIx,hLen,hInt,hAbs,hMax2,hMin2,h1L,hList,hListS,xMethL,hCountL,lcStep2,lcTurn2,lcAdd2,hTuple,vi,vb,xCall,xCallN,argsD,argD,ioIx,boIx,isOwn,nodupB,disB,xPost_ret,xPost_err,postS,putIo,frzIx,nlR,nlI,nl,nls,Rt.r,permL,tTrue,lcStep,lcTurn,lcAdd,gN,gT,gsNil,gsCons,DL.forget,back,xSeq,seqOf,xEnum,xRng1,xRng2,xRng3,xLstI,xTupI,sPar,noSlot,putRs,sTup,xMut,ownL,mApp,mIns,mPop,mPopAt,mExt,mRev,sSub,sAug,oNone,oSome,xSl,hSl,hStep,xChain,bind_ok',bind_err,bind_bad,List.set_cons_zero,List.set_cons_succ,List.foldl_cons,List.foldl_nil,List.cons_append,List.nil_append,List.replicate_succ,List.replicate_zero,List.append_nil,List.all_cons,List.all_nil,List.map_cons,List.map_nil,List.length_cons,List.length_nil,List.zip_cons_cons,List.filterMap_cons,List.filterMap_nil,List.getElem?_cons_zero,List.getElem?_cons_succ,List.contains_nil,List.contains_cons,Bool.and_true,Bool.true_and,Bool.and_false,Bool.false_and,Bool.not_true,Bool.not_false,Bool.or_true,Bool.true_or,Bool.or_false,Bool.false_or,if_true,if_false,reduceIte,reduceCtorEq,Nat.reduceSub,Nat.reduceAdd,Nat.reduceEqDiff,Option.map_some,Option.map_none,decide_true,decide_false,↓reduceIte,Bool.false_eq_true,Nat.sub_zero,Nat.sub_self,and_self,and_true,true_and,List.length_map,nls_ints,hEq_int,hNe_int,Ok_ok,OkG_some,EndQ_some,EndP_nx',EndP_rv',EndP_rn',LoopP_nx,LoopP_ct,LoopP_bk,LoopP_rt,lc_ite,xMeth,xZip,sAugS,stIx,sSub2,itemsOf,nlI_dk,sMove,ite_self,h1])
  rfl
theorem said_word_eq {L : List (Nat × Nat)} (h : SmallW L) : den_law_said_word [wordD L] = .ret (.val (.str (wordT L))) [] := by
  have hz := h.1
  have h1 := law_listed_eq (tx_letters h.2) tx_sp1 (by rw [List.length_map]; unfold line; omega)
  apply Ret.eq
  apply Ret.run
  (simp -implicitDefEqProofs -dsimp only [runF,endF_nx,endF_rv,endF_rn,endF_err,initS,ioOut,sSeq,sNil,sPass,sBreak,sCont,sBad,sExpr,sRet,sRetN,sIf,sSet,putR,frz,frzs,xVal,xVar,getS_0,getS_s,getR,ownD,getRs,xOp1,xOp2,fin,RD.r,aNil,aCons,xCB,xTup,xLst,truth,tOf,tAnds,tOrs,tNots,xIf,xAnd,xOr,xNot,xIsi,isTy,hAdd,hSub,hNeg,hLt,hLe,hGt,hGe,hIs,hIsNot,hIx,hLen,hInt,hAbs,hMax2,hMin2,h1L,hList,hListS,xMethL,hCountL,lcStep2,lcTurn2,lcAdd2,hTuple,vi,vb,xCall,xCallN,argsD,argD,ioIx,boIx,isOwn,nodupB,disB,xPost_ret,xPost_err,postS,putIo,frzIx,nlR,nlI,nl,nls,Rt.r,permL,tTrue,lcStep,lcTurn,lcAdd,gN,gT,gsNil,gsCons,DL.forget,back,xSeq,seqOf,xEnum,xRng1,xRng2,xRng3,xLstI,xTupI,sPar,noSlot,putRs,sTup,xMut,ownL,mApp,mIns,mPop,mPopAt,mExt,mRev,sSub,sAug,oNone,oSome,xSl,hSl,hStep,xChain,bind_ok',bind_err,bind_bad,List.set_cons_zero,List.set_cons_succ,List.foldl_cons,List.foldl_nil,List.cons_append,List.nil_append,List.replicate_succ,List.replicate_zero,List.append_nil,List.all_cons,List.all_nil,List.map_cons,List.map_nil,List.length_cons,List.length_nil,List.zip_cons_cons,List.filterMap_cons,List.filterMap_nil,List.getElem?_cons_zero,List.getElem?_cons_succ,List.contains_nil,List.contains_cons,Bool.and_true,Bool.true_and,Bool.and_false,Bool.false_and,Bool.not_true,Bool.not_false,Bool.or_true,Bool.true_or,Bool.or_false,Bool.false_or,if_true,if_false,reduceIte,reduceCtorEq,Nat.reduceSub,Nat.reduceAdd,Nat.reduceEqDiff,Option.map_some,Option.map_none,decide_true,decide_false,↓reduceIte,Bool.false_eq_true,Nat.sub_zero,Nat.sub_self,and_self,and_true,true_and,List.length_map,nls_ints,hEq_int,hNe_int,Ok_ok,OkG_some,EndQ_some,EndP_nx',EndP_rv',EndP_rn',LoopP_nx,LoopP_ct,LoopP_bk,LoopP_rt,lc_ite,xMeth,xZip,sAugS,stIx,sSub2,itemsOf,nlI_dk,sMove,ite_self])
  rw [lcA (s := [some (.val (wordD L)), none]) L ltD (fun a => .str (letterT a)) (by (simp -implicitDefEqProofs -dsimp only [runF,endF_nx,endF_rv,endF_rn,endF_err,initS,ioOut,sSeq,sNil,sPass,sBreak,sCont,sBad,sExpr,sRet,sRetN,sIf,sSet,putR,frz,frzs,xVal,xVar,getS_0,getS_s,getR,ownD,getRs,xOp1,xOp2,fin,RD.r,aNil,aCons,xCB,xTup,xLst,truth,tOf,tAnds,tOrs,tNots,xIf,xAnd,xOr,xNot,xIsi,isTy,hAdd,hSub,hNeg,hLt,hLe,hGt,hGe,hIs,hIsNot,hIx,hLen,hInt,hAbs,hMax2,hMin2,h1L,hList,hListS,xMethL,hCountL,lcStep2,lcTurn2,lcAdd2,hTuple,vi,vb,xCall,xCallN,argsD,argD,ioIx,boIx,isOwn,nodupB,disB,xPost_ret,xPost_err,postS,putIo,frzIx,nlR,nlI,nl,nls,Rt.r,permL,tTrue,lcStep,lcTurn,lcAdd,gN,gT,gsNil,gsCons,DL.forget,back,xSeq,seqOf,xEnum,xRng1,xRng2,xRng3,xLstI,xTupI,sPar,noSlot,putRs,sTup,xMut,ownL,mApp,mIns,mPop,mPopAt,mExt,mRev,sSub,sAug,oNone,oSome,xSl,hSl,hStep,xChain,bind_ok',bind_err,bind_bad,List.set_cons_zero,List.set_cons_succ,List.foldl_cons,List.foldl_nil,List.cons_append,List.nil_append,List.replicate_succ,List.replicate_zero,List.append_nil,List.all_cons,List.all_nil,List.map_cons,List.map_nil,List.length_cons,List.length_nil,List.zip_cons_cons,List.filterMap_cons,List.filterMap_nil,List.getElem?_cons_zero,List.getElem?_cons_succ,List.contains_nil,List.contains_cons,Bool.and_true,Bool.true_and,Bool.and_false,Bool.false_and,Bool.not_true,Bool.not_false,Bool.or_true,Bool.true_or,Bool.or_false,Bool.false_or,if_true,if_false,reduceIte,reduceCtorEq,Nat.reduceSub,Nat.reduceAdd,Nat.reduceEqDiff,Option.map_some,Option.map_none,decide_true,decide_false,↓reduceIte,Bool.false_eq_true,Nat.sub_zero,Nat.sub_self,and_self,and_true,true_and,List.length_map,nls_ints,hEq_int,hNe_int,Ok_ok,OkG_some,EndQ_some,EndP_nx',EndP_rv',EndP_rn',LoopP_nx,LoopP_ct,LoopP_bk,LoopP_rt,lc_ite,xMeth,xZip,sAugS,stIx,sSub2,itemsOf,nlI_dk,sMove,ite_self])) (by unfold line; omega) (fun a ha acc => by (simp -implicitDefEqProofs -dsimp only [runF,endF_nx,endF_rv,endF_rn,endF_err,initS,ioOut,sSeq,sNil,sPass,sBreak,sCont,sBad,sExpr,sRet,sRetN,sIf,sSet,putR,frz,frzs,xVal,xVar,getS_0,getS_s,getR,ownD,getRs,xOp1,xOp2,fin,RD.r,aNil,aCons,xCB,xTup,xLst,truth,tOf,tAnds,tOrs,tNots,xIf,xAnd,xOr,xNot,xIsi,isTy,hAdd,hSub,hNeg,hLt,hLe,hGt,hGe,hIs,hIsNot,hIx,hLen,hInt,hAbs,hMax2,hMin2,h1L,hList,hListS,xMethL,hCountL,lcStep2,lcTurn2,lcAdd2,hTuple,vi,vb,xCall,xCallN,argsD,argD,ioIx,boIx,isOwn,nodupB,disB,xPost_ret,xPost_err,postS,putIo,frzIx,nlR,nlI,nl,nls,Rt.r,permL,tTrue,lcStep,lcTurn,lcAdd,gN,gT,gsNil,gsCons,DL.forget,back,xSeq,seqOf,xEnum,xRng1,xRng2,xRng3,xLstI,xTupI,sPar,noSlot,putRs,sTup,xMut,ownL,mApp,mIns,mPop,mPopAt,mExt,mRev,sSub,sAug,oNone,oSome,xSl,hSl,hStep,xChain,bind_ok',bind_err,bind_bad,List.set_cons_zero,List.set_cons_succ,List.foldl_cons,List.foldl_nil,List.cons_append,List.nil_append,List.replicate_succ,List.replicate_zero,List.append_nil,List.all_cons,List.all_nil,List.map_cons,List.map_nil,List.length_cons,List.length_nil,List.zip_cons_cons,List.filterMap_cons,List.filterMap_nil,List.getElem?_cons_zero,List.getElem?_cons_succ,List.contains_nil,List.contains_cons,Bool.and_true,Bool.true_and,Bool.and_false,Bool.false_and,Bool.not_true,Bool.not_false,Bool.or_true,Bool.true_or,Bool.or_false,Bool.false_or,if_true,if_false,reduceIte,reduceCtorEq,Nat.reduceSub,Nat.reduceAdd,Nat.reduceEqDiff,Option.map_some,Option.map_none,decide_true,decide_false,↓reduceIte,Bool.false_eq_true,Nat.sub_zero,Nat.sub_self,and_self,and_true,true_and,List.length_map,nls_ints,hEq_int,hNe_int,Ok_ok,OkG_some,EndQ_some,EndP_nx',EndP_rv',EndP_rn',LoopP_nx,LoopP_ct,LoopP_bk,LoopP_rt,lc_ite,xMeth,xZip,sAugS,stIx,sSub2,itemsOf,nlI_dk,sMove,ite_self,said_letter_eq (h.2 a ha)]))]
  have e : List.map (fun a => PyData.str (letterT a)) L = (L.map letterT).map .str := by rw [List.map_map]; rfl
  rw [e]
  (simp -implicitDefEqProofs -dsimp only [runF,endF_nx,endF_rv,endF_rn,endF_err,initS,ioOut,sSeq,sNil,sPass,sBreak,sCont,sBad,sExpr,sRet,sRetN,sIf,sSet,putR,frz,frzs,xVal,xVar,getS_0,getS_s,getR,ownD,getRs,xOp1,xOp2,fin,RD.r,aNil,aCons,xCB,xTup,xLst,truth,tOf,tAnds,tOrs,tNots,xIf,xAnd,xOr,xNot,xIsi,isTy,hAdd,hSub,hNeg,hLt,hLe,hGt,hGe,hIs,hIsNot,hIx,hLen,hInt,hAbs,hMax2,hMin2,h1L,hList,hListS,xMethL,hCountL,lcStep2,lcTurn2,lcAdd2,hTuple,vi,vb,xCall,xCallN,argsD,argD,ioIx,boIx,isOwn,nodupB,disB,xPost_ret,xPost_err,postS,putIo,frzIx,nlR,nlI,nl,nls,Rt.r,permL,tTrue,lcStep,lcTurn,lcAdd,gN,gT,gsNil,gsCons,DL.forget,back,xSeq,seqOf,xEnum,xRng1,xRng2,xRng3,xLstI,xTupI,sPar,noSlot,putRs,sTup,xMut,ownL,mApp,mIns,mPop,mPopAt,mExt,mRev,sSub,sAug,oNone,oSome,xSl,hSl,hStep,xChain,bind_ok',bind_err,bind_bad,List.set_cons_zero,List.set_cons_succ,List.foldl_cons,List.foldl_nil,List.cons_append,List.nil_append,List.replicate_succ,List.replicate_zero,List.append_nil,List.all_cons,List.all_nil,List.map_cons,List.map_nil,List.length_cons,List.length_nil,List.zip_cons_cons,List.filterMap_cons,List.filterMap_nil,List.getElem?_cons_zero,List.getElem?_cons_succ,List.contains_nil,List.contains_cons,Bool.and_true,Bool.true_and,Bool.and_false,Bool.false_and,Bool.not_true,Bool.not_false,Bool.or_true,Bool.true_or,Bool.or_false,Bool.false_or,if_true,if_false,reduceIte,reduceCtorEq,Nat.reduceSub,Nat.reduceAdd,Nat.reduceEqDiff,Option.map_some,Option.map_none,decide_true,decide_false,↓reduceIte,Bool.false_eq_true,Nat.sub_zero,Nat.sub_self,and_self,and_true,true_and,List.length_map,nls_ints,hEq_int,hNe_int,Ok_ok,OkG_some,EndQ_some,EndP_nx',EndP_rv',EndP_rn',LoopP_nx,LoopP_ct,LoopP_bk,LoopP_rt,lc_ite,xMeth,xZip,sAugS,stIx,sSub2,itemsOf,nlI_dk,sMove,ite_self,h1])
  rfl
end DLS

namespace DLS
open Evl (Ex)
open PySem PySem.Spec PyProof.Rows L2 DL TL
/-! texts of machines -/
abbrev endT : PySem.Str := Str.ofString " end"
abbrev colT : PySem.Str := Str.ofString " : "
abbrev nlT : PySem.Str := Str.ofString "\n"
abbrev nilT : PySem.Str := Str.ofString ""
theorem tx_end : Tx 4 endT := tx_lit (by decide +kernel) (by decide +kernel)
theorem tx_col : Tx 3 colT := tx_lit (by decide +kernel) (by decide +kernel)
theorem tx_nl : Tx 1 nlT := tx_lit (by decide +kernel) (by decide +kernel)
theorem tx_nil : Tx 0 nilT := tx_lit (by decide +kernel) (by decide +kernel)
theorem nil_emp : Str.empty = nilT := by decide +kernel
def stepT (q : Step) : PySem.Str := letterT q.1 ++ sp1 ++ numT q.2
theorem tx_st {n : Nat} (h : n < 1000) : Tx 3 (numT n) := tx_num (by omega) h
theorem tx_step {q : Step} (h : LtOk q.1) (h2 : q.2 < 1000) : Tx 36 (stepT q) := ((tx_letter h).app tx_sp1).app (tx_st h2)
theorem hIn_nats (k : Nat) (E : List Nat) : hIn (.int (k : Int)) (.tuple (E.map fun n : Nat => .int (n : Int))) = some (.val (.bool (decide (k ∈ E)))) := by
  have e : (E.map fun n : Nat => PyData.int (n : Int)) = (E.map fun n : Nat => (n : Int)).map .int := by rw [List.map_map]; rfl
  refine hIn_of (ds := E.map fun n : Nat => .int (n : Int)) rfl ?_ ?_
  · rw [e]
    have := fl_tI 59 (E.map fun n : Nat => (n : Int))
    rw [this]; rfl
  · clear e
    induction E with
    | nil => rfl
    | cons a E ih =>
      unfold inD at ih ⊢
      rw [List.map_cons, List.any_cons, ih, eqv_int]
      by_cases h : a = k
      · subst h
        rw [decide_eq_true rfl, Bool.true_or, decide_eq_true List.mem_cons_self]
      · rw [decide_eq_false (show ¬ ((a : Int) = (k : Int)) by omega), Bool.false_or]
        refine decide_eq_decide.mpr ⟨fun h => List.mem_cons_of_mem _ h, fun z => ?_⟩
        rcases List.mem_cons.mp z with z | z
        · exact absurd z.symm h
        · exact z
def nameT (E : List Nat) (k : Nat) : PySem.Str := numT k ++ (if k ∈ E then endT else nilT)
def lineT (E : List Nat) (k : Nat) (r : List Step) : PySem.Str := nameT E k ++ colT ++ listedT (r.map stepT) com2
theorem tx_name (E : List Nat) {k : Nat} (h : k < 1000) : Tx 7 (nameT E k) := by
  unfold nameT
  by_cases hk : k ∈ E
  · rw [if_pos hk]; exact (tx_st h).app tx_end
  · rw [if_neg hk]; exact ((tx_st h).app tx_nil).mono (by omega)
theorem tx_steps {n : Nat} {r : List Step} (hn : n ≤ 200) (h : MRowOk n r) : ∀ w ∈ r.map stepT, Tx 36 w := fun w hw => by
  obtain ⟨q, hq, rfl⟩ := List.mem_map.mp hw
  have := h.1 q hq
  exact tx_step this.1 (by omega)
theorem tx_row {n : Nat} {r : List Step} (hn : n ≤ 200) (h : MRowOk n r) : Tx 457 (listedT (r.map stepT) com2) := by
  refine (tx_listed (tx_steps hn h) tx_com2).mono ?_
  have := h.2.1
  rw [List.length_map]
  omega
theorem tx_line (E : List Nat) {k n : Nat} {r : List Step} (hk : k < 1000) (hn : n ≤ 200) (h : MRowOk n r) : Tx 467 (lineT E k r) := ((tx_name E hk).app tx_col).app (tx_row hn h)
def linesN (E : List Nat) (R : List (List Step)) (i : Nat) : List PySem.Str := (List.range i).map fun k => lineT E k (R.getD k [])
theorem linesN_succ (E : List Nat) (R : List (List Step)) (i : Nat) (h : i < R.length) : linesN E R (i + 1) = linesN E R i ++ [lineT E i R[i]] := by
  unfold linesN
  rw [List.range_succ, List.map_append, List.map_singleton, List.getD_eq_getElem?_getD, List.getElem?_eq_getElem h]
  rfl
theorem linesN_len (E : List Nat) (R : List (List Step)) (i : Nat) : (linesN E R i).length = i := by unfold linesN; rw [List.length_map, List.length_range]
def machT (m : Mach) : PySem.Str := Str.join nlT (linesN m.ends m.rows m.rows.length)
theorem tx_lines {m : Mach} (h : m.Ok) : ∀ w ∈ linesN m.ends m.rows m.rows.length, Tx 467 w := fun w hw => by
  obtain ⟨k, hk, rfl⟩ := List.mem_map.mp hw
  rw [List.mem_range] at hk
  have hf := h.few
  rw [List.getD_eq_getElem?_getD, List.getElem?_eq_getElem hk]
  exact tx_line _ (by omega) hf (h.row _ (List.getElem_mem hk))
theorem tx_mach {m : Mach} (h : m.Ok) : Tx 93600 (machT m) := by
  refine (tx_join (tx_lines h) tx_nl).mono ?_
  have := h.few
  rw [linesN_len]
  omega
theorem steps_map (r : List Step) : List.map (fun q => PyData.str (stepT q)) r = (r.map stepT).map .str := by rw [List.map_map]; rfl
theorem step_len {q : Step} (h : LtOk q.1) (h2 : q.2 < 1000) : (letterT q.1).length + sp1.length ≤ line ∧ (letterT q.1 ++ sp1).length + (numT q.2).length ≤ line := by
  have h3 := (tx_letter h).len
  have h4 := (tx_st h2).len
  have h5 := ((tx_letter h).app tx_sp1).len
  have h6 := tx_sp1.len
  unfold line
  omega
theorem line_len (E : List Nat) {k n : Nat} {r : List Step} (hk : k < 1000) (hn : n ≤ 200) (h : MRowOk n r) :
    ((numT k).length + (if k ∈ E then endT else nilT).length ≤ line ∧ (nameT E k).length + colT.length ≤ line) ∧ (nameT E k ++ colT).length + (listedT (r.map stepT) com2).length ≤ line := by
  have h1 := (tx_st hk).len
  have h2 := (tx_name E hk).len
  have h3 := tx_col.len
  have h4 := ((tx_name E hk).app tx_col).len
  have h5 := (tx_row hn h).len
  have h6 : (if k ∈ E then endT else nilT).length ≤ 4 := by
    split
    · exact tx_end.len
    · exact Nat.le_trans tx_nil.len (by omega)
  unfold line
  omega
theorem show_machine_eq {m : Mach} (h : m.Ok) : den_show_machine [m.d] = .ret (.val (.str (machT m))) [] := by
  obtain ⟨R, E⟩ := m
  have hf : R.length ≤ 200 := h.few
  have hrow : ∀ r ∈ R, MRowOk R.length r := h.row
  have hj := hJoin_of (tx_lines h) tx_nl (by rw [linesN_len]; unfold line; show R.length * _ ≤ _; omega)
  apply Ret.eq
  apply Ret.run
  (simp -implicitDefEqProofs -dsimp only [runF,endF_nx,endF_rv,endF_rn,endF_err,initS,ioOut,sSeq,sNil,sPass,sBreak,sCont,sBad,sExpr,sRet,sRetN,sIf,sSet,putR,frz,frzs,xVal,xVar,getS_0,getS_s,getR,ownD,getRs,xOp1,xOp2,fin,RD.r,aNil,aCons,xCB,xTup,xLst,truth,tOf,tAnds,tOrs,tNots,xIf,xAnd,xOr,xNot,xIsi,isTy,hAdd,hSub,hNeg,hLt,hLe,hGt,hGe,hIs,hIsNot,hIx,hLen,hInt,hAbs,hMax2,hMin2,h1L,hList,hListS,xMethL,hCountL,lcStep2,lcTurn2,lcAdd2,hTuple,vi,vb,xCall,xCallN,argsD,argD,ioIx,boIx,isOwn,nodupB,disB,xPost_ret,xPost_err,postS,putIo,frzIx,nlR,nlI,nl,nls,Rt.r,permL,tTrue,lcStep,lcTurn,lcAdd,gN,gT,gsNil,gsCons,DL.forget,back,xSeq,seqOf,xEnum,xRng1,xRng2,xRng3,xLstI,xTupI,sPar,noSlot,putRs,sTup,xMut,ownL,mApp,mIns,mPop,mPopAt,mExt,mRev,sSub,sAug,oNone,oSome,xSl,hSl,hStep,xChain,bind_ok',bind_err,bind_bad,List.set_cons_zero,List.set_cons_succ,List.foldl_cons,List.foldl_nil,List.cons_append,List.nil_append,List.replicate_succ,List.replicate_zero,List.append_nil,List.all_cons,List.all_nil,List.map_cons,List.map_nil,List.length_cons,List.length_nil,List.zip_cons_cons,List.filterMap_cons,List.filterMap_nil,List.getElem?_cons_zero,List.getElem?_cons_succ,List.contains_nil,List.contains_cons,Bool.and_true,Bool.true_and,Bool.and_false,Bool.false_and,Bool.not_true,Bool.not_false,Bool.or_true,Bool.true_or,Bool.or_false,Bool.false_or,if_true,if_false,reduceIte,reduceCtorEq,Nat.reduceSub,Nat.reduceAdd,Nat.reduceEqDiff,Option.map_some,Option.map_none,decide_true,decide_false,↓reduceIte,Bool.false_eq_true,Nat.sub_zero,Nat.sub_self,and_self,and_true,true_and,List.length_map,nls_ints,hEq_int,hNe_int,Ok_ok,OkG_some,EndQ_some,EndP_nx',EndP_rv',EndP_rn',LoopP_nx,LoopP_ct,LoopP_bk,LoopP_rt,lc_ite,xMeth,xZip,sAugS,stIx,sSub2,itemsOf,nlI_dk,sMove,ite_self])
  refine Ok.bind (Ok.forE R mrD (fun i s => ∃ (o4 o5 o6 : Option Sl), s = [some (.val (Mach.d ⟨R, E⟩)), some (.own none (.list ((linesN E R i).map .str))), some (.val (.tuple (R.map mrD))), some (.val (.tuple (E.map fun n : Nat => .int (n : Int)))), o4, o5, o6, none, none]) (by ((simp -implicitDefEqProofs -dsimp only [runF,endF_nx,endF_rv,endF_rn,endF_err,initS,ioOut,sSeq,sNil,sPass,sBreak,sCont,sBad,sExpr,sRet,sRetN,sIf,sSet,putR,frz,frzs,xVal,xVar,getS_0,getS_s,getR,ownD,getRs,xOp1,xOp2,fin,RD.r,aNil,aCons,xCB,xTup,xLst,truth,tOf,tAnds,tOrs,tNots,xIf,xAnd,xOr,xNot,xIsi,isTy,hAdd,hSub,hNeg,hLt,hLe,hGt,hGe,hIs,hIsNot,hIx,hLen,hInt,hAbs,hMax2,hMin2,h1L,hList,hListS,xMethL,hCountL,lcStep2,lcTurn2,lcAdd2,hTuple,vi,vb,xCall,xCallN,argsD,argD,ioIx,boIx,isOwn,nodupB,disB,xPost_ret,xPost_err,postS,putIo,frzIx,nlR,nlI,nl,nls,Rt.r,permL,tTrue,lcStep,lcTurn,lcAdd,gN,gT,gsNil,gsCons,DL.forget,back,xSeq,seqOf,xEnum,xRng1,xRng2,xRng3,xLstI,xTupI,sPar,noSlot,putRs,sTup,xMut,ownL,mApp,mIns,mPop,mPopAt,mExt,mRev,sSub,sAug,oNone,oSome,xSl,hSl,hStep,xChain,bind_ok',bind_err,bind_bad,List.set_cons_zero,List.set_cons_succ,List.foldl_cons,List.foldl_nil,List.cons_append,List.nil_append,List.replicate_succ,List.replicate_zero,List.append_nil,List.all_cons,List.all_nil,List.map_cons,List.map_nil,List.length_cons,List.length_nil,List.zip_cons_cons,List.filterMap_cons,List.filterMap_nil,List.getElem?_cons_zero,List.getElem?_cons_succ,List.contains_nil,List.contains_cons,Bool.and_true,Bool.true_and,Bool.and_false,Bool.false_and,Bool.not_true,Bool.not_false,Bool.or_true,Bool.true_or,Bool.or_false,Bool.false_or,if_true,if_false,reduceIte,reduceCtorEq,Nat.reduceSub,Nat.reduceAdd,Nat.reduceEqDiff,Option.map_some,Option.map_none,decide_true,decide_false,↓reduceIte,Bool.false_eq_true,Nat.sub_zero,Nat.sub_self,and_self,and_true,true_and,List.length_map,nls_ints,hEq_int,hNe_int,Ok_ok,OkG_some,EndQ_some,EndP_nx',EndP_rv',EndP_rn',LoopP_nx,LoopP_ct,LoopP_bk,LoopP_rt,lc_ite,xMeth,xZip,sAugS,stIx,sSub2,itemsOf,nlI_dk,sMove,ite_self]) <;> rfl)) ⟨none, none, none, rfl⟩ ?_ ?_)
  · rintro i hi _ ⟨o4, o5, o6, rfl⟩
    have hr := hrow _ (List.getElem_mem hi)
    have hs := linesN_succ E R i hi
    have hll := linesN_len E R i
    generalize R[i] = r at hr hs
    have h1 := listed_eq (tx_steps hf hr) tx_com2 (by rw [List.length_map]; have := hr.2.1; unfold line; omega)
    obtain ⟨⟨z1, z2⟩, z3⟩ := line_len E (k := i) (by omega) hf hr
    have z4 : (linesN E R i).length < line := by unfold line; omega
    have z5 : (linesN E R i).length + 1 ≤ line := by unfold line; omega
    have elc : ∀ o6 : Option Sl, xLc [7, 8] (xSeq (xVar 5)) (gT (gsCons (gN 7) (gsCons (gN 8) (gsNil)))) (tTrue) (xOp2 hAdd (xOp2 hAdd (xCall [false] den_show_letter (aCons (xVar 7) (aNil))) (xVal (.str " "))) (xCB hStr (aCons (xVar 8) (aNil)))) [some (.val (Mach.d ⟨R, E⟩)), some (.own none (.list ((linesN E R i).map .str))), some (.val (.tuple (R.map mrD))), some (.val (.tuple (E.map fun n : Nat => .int (n : Int)))), some (.val (.int (i : Int))), some (.val (mrD r)), o6, none, none] =
        .ok (.new (.list ((r.map stepT).map .str)), [some (.val (Mach.d ⟨R, E⟩)), some (.own none (.list ((linesN E R i).map .str))), some (.val (.tuple (R.map mrD))), some (.val (.tuple (E.map fun n : Nat => .int (n : Int)))), some (.val (.int (i : Int))), some (.val (mrD r)), o6, none, none]) := fun o6 => by
      rw [lcA (s := [some (.val (Mach.d ⟨R, E⟩)), some (.own none (.list ((linesN E R i).map .str))), some (.val (.tuple (R.map mrD))), some (.val (.tuple (E.map fun n : Nat => .int (n : Int)))), some (.val (.int (i : Int))), some (.val (mrD r)), o6, none, none]) r stD (fun q => .str (stepT q)) (by (simp -implicitDefEqProofs -dsimp only [runF,endF_nx,endF_rv,endF_rn,endF_err,initS,ioOut,sSeq,sNil,sPass,sBreak,sCont,sBad,sExpr,sRet,sRetN,sIf,sSet,putR,frz,frzs,xVal,xVar,getS_0,getS_s,getR,ownD,getRs,xOp1,xOp2,fin,RD.r,aNil,aCons,xCB,xTup,xLst,truth,tOf,tAnds,tOrs,tNots,xIf,xAnd,xOr,xNot,xIsi,isTy,hAdd,hSub,hNeg,hLt,hLe,hGt,hGe,hIs,hIsNot,hIx,hLen,hInt,hAbs,hMax2,hMin2,h1L,hList,hListS,xMethL,hCountL,lcStep2,lcTurn2,lcAdd2,hTuple,vi,vb,xCall,xCallN,argsD,argD,ioIx,boIx,isOwn,nodupB,disB,xPost_ret,xPost_err,postS,putIo,frzIx,nlR,nlI,nl,nls,Rt.r,permL,tTrue,lcStep,lcTurn,lcAdd,gN,gT,gsNil,gsCons,DL.forget,back,xSeq,seqOf,xEnum,xRng1,xRng2,xRng3,xLstI,xTupI,sPar,noSlot,putRs,sTup,xMut,ownL,mApp,mIns,mPop,mPopAt,mExt,mRev,sSub,sAug,oNone,oSome,xSl,hSl,hStep,xChain,bind_ok',bind_err,bind_bad,List.set_cons_zero,List.set_cons_succ,List.foldl_cons,List.foldl_nil,List.cons_append,List.nil_append,List.replicate_succ,List.replicate_zero,List.append_nil,List.all_cons,List.all_nil,List.map_cons,List.map_nil,List.length_cons,List.length_nil,List.zip_cons_cons,List.filterMap_cons,List.filterMap_nil,List.getElem?_cons_zero,List.getElem?_cons_succ,List.contains_nil,List.contains_cons,Bool.and_true,Bool.true_and,Bool.and_false,Bool.false_and,Bool.not_true,Bool.not_false,Bool.or_true,Bool.true_or,Bool.or_false,Bool.false_or,if_true,if_false,reduceIte,reduceCtorEq,Nat.reduceSub,Nat.reduceAdd,Nat.reduceEqDiff,Option.map_some,Option.map_none,decide_true,decide_false,↓reduceIte,Bool.false_eq_true,Nat.sub_zero,Nat.sub_self,and_self,and_true,true_and,List.length_map,nls_ints,hEq_int,hNe_int,Ok_ok,OkG_some,EndQ_some,EndP_nx',EndP_rv',EndP_rn',LoopP_nx,LoopP_ct,LoopP_bk,LoopP_rt,lc_ite,xMeth,xZip,sAugS,stIx,sSub2,itemsOf,nlI_dk,sMove,ite_self])) (by have := hr.2.1; unfold line; omega) (fun q hq acc => by
        have hq2 := hr.1 q hq
        obtain ⟨y1, y2⟩ := step_len hq2.1 (by omega : q.2 < 1000)
        (simp -implicitDefEqProofs -dsimp only [runF,endF_nx,endF_rv,endF_rn,endF_err,initS,ioOut,sSeq,sNil,sPass,sBreak,sCont,sBad,sExpr,sRet,sRetN,sIf,sSet,putR,frz,frzs,xVal,xVar,getS_0,getS_s,getR,ownD,getRs,xOp1,xOp2,fin,RD.r,aNil,aCons,xCB,xTup,xLst,truth,tOf,tAnds,tOrs,tNots,xIf,xAnd,xOr,xNot,xIsi,isTy,hAdd,hSub,hNeg,hLt,hLe,hGt,hGe,hIs,hIsNot,hIx,hLen,hInt,hAbs,hMax2,hMin2,h1L,hList,hListS,xMethL,hCountL,lcStep2,lcTurn2,lcAdd2,hTuple,vi,vb,xCall,xCallN,argsD,argD,ioIx,boIx,isOwn,nodupB,disB,xPost_ret,xPost_err,postS,putIo,frzIx,nlR,nlI,nl,nls,Rt.r,permL,tTrue,lcStep,lcTurn,lcAdd,gN,gT,gsNil,gsCons,DL.forget,back,xSeq,seqOf,xEnum,xRng1,xRng2,xRng3,xLstI,xTupI,sPar,noSlot,putRs,sTup,xMut,ownL,mApp,mIns,mPop,mPopAt,mExt,mRev,sSub,sAug,oNone,oSome,xSl,hSl,hStep,xChain,bind_ok',bind_err,bind_bad,List.set_cons_zero,List.set_cons_succ,List.foldl_cons,List.foldl_nil,List.cons_append,List.nil_append,List.replicate_succ,List.replicate_zero,List.append_nil,List.all_cons,List.all_nil,List.map_cons,List.map_nil,List.length_cons,List.length_nil,List.zip_cons_cons,List.filterMap_cons,List.filterMap_nil,List.getElem?_cons_zero,List.getElem?_cons_succ,List.contains_nil,List.contains_cons,Bool.and_true,Bool.true_and,Bool.and_false,Bool.false_and,Bool.not_true,Bool.not_false,Bool.or_true,Bool.true_or,Bool.or_false,Bool.false_or,if_true,if_false,reduceIte,reduceCtorEq,Nat.reduceSub,Nat.reduceAdd,Nat.reduceEqDiff,Option.map_some,Option.map_none,decide_true,decide_false,↓reduceIte,Bool.false_eq_true,Nat.sub_zero,Nat.sub_self,and_self,and_true,true_and,List.length_map,nls_ints,hEq_int,hNe_int,Ok_ok,OkG_some,EndQ_some,EndP_nx',EndP_rv',EndP_rn',LoopP_nx,LoopP_ct,LoopP_bk,LoopP_rt,lc_ite,xMeth,xZip,sAugS,stIx,sSub2,itemsOf,nlI_dk,sMove,ite_self,show_letter_eq hq2.1, y1, y2, hStr_s (n := q.2) (by omega)])
        rfl)]
      rw [steps_map]
      (simp -implicitDefEqProofs -dsimp only [runF,endF_nx,endF_rv,endF_rn,endF_err,initS,ioOut,sSeq,sNil,sPass,sBreak,sCont,sBad,sExpr,sRet,sRetN,sIf,sSet,putR,frz,frzs,xVal,xVar,getS_0,getS_s,getR,ownD,getRs,xOp1,xOp2,fin,RD.r,aNil,aCons,xCB,xTup,xLst,truth,tOf,tAnds,tOrs,tNots,xIf,xAnd,xOr,xNot,xIsi,isTy,hAdd,hSub,hNeg,hLt,hLe,hGt,hGe,hIs,hIsNot,hIx,hLen,hInt,hAbs,hMax2,hMin2,h1L,hList,hListS,xMethL,hCountL,lcStep2,lcTurn2,lcAdd2,hTuple,vi,vb,xCall,xCallN,argsD,argD,ioIx,boIx,isOwn,nodupB,disB,xPost_ret,xPost_err,postS,putIo,frzIx,nlR,nlI,nl,nls,Rt.r,permL,tTrue,lcStep,lcTurn,lcAdd,gN,gT,gsNil,gsCons,DL.forget,back,xSeq,seqOf,xEnum,xRng1,xRng2,xRng3,xLstI,xTupI,sPar,noSlot,putRs,sTup,xMut,ownL,mApp,mIns,mPop,mPopAt,mExt,mRev,sSub,sAug,oNone,oSome,xSl,hSl,hStep,xChain,bind_ok',bind_err,bind_bad,List.set_cons_zero,List.set_cons_succ,List.foldl_cons,List.foldl_nil,List.cons_append,List.nil_append,List.replicate_succ,List.replicate_zero,List.append_nil,List.all_cons,List.all_nil,List.map_cons,List.map_nil,List.length_cons,List.length_nil,List.zip_cons_cons,List.filterMap_cons,List.filterMap_nil,List.getElem?_cons_zero,List.getElem?_cons_succ,List.contains_nil,List.contains_cons,Bool.and_true,Bool.true_and,Bool.and_false,Bool.false_and,Bool.not_true,Bool.not_false,Bool.or_true,Bool.true_or,Bool.or_false,Bool.false_or,if_true,if_false,reduceIte,reduceCtorEq,Nat.reduceSub,Nat.reduceAdd,Nat.reduceEqDiff,Option.map_some,Option.map_none,decide_true,decide_false,↓reduceIte,Bool.false_eq_true,Nat.sub_zero,Nat.sub_self,and_self,and_true,true_and,List.length_map,nls_ints,hEq_int,hNe_int,Ok_ok,OkG_some,EndQ_some,EndP_nx',EndP_rv',EndP_rn',LoopP_nx,LoopP_ct,LoopP_bk,LoopP_rt,lc_ite,xMeth,xZip,sAugS,stIx,sSub2,itemsOf,nlI_dk,sMove,ite_self])
    by_cases hE : i ∈ E
    · rw [if_pos hE] at z1
      have en : nameT E i = numT i ++ endT := by unfold nameT; rw [if_pos hE]
      rw [en] at z2 z3
      (simp -implicitDefEqProofs -dsimp only [runF,endF_nx,endF_rv,endF_rn,endF_err,initS,ioOut,sSeq,sNil,sPass,sBreak,sCont,sBad,sExpr,sRet,sRetN,sIf,sSet,putR,frz,frzs,xVal,xVar,getS_0,getS_s,getR,ownD,getRs,xOp1,xOp2,fin,RD.r,aNil,aCons,xCB,xTup,xLst,truth,tOf,tAnds,tOrs,tNots,xIf,xAnd,xOr,xNot,xIsi,isTy,hAdd,hSub,hNeg,hLt,hLe,hGt,hGe,hIs,hIsNot,hIx,hLen,hInt,hAbs,hMax2,hMin2,h1L,hList,hListS,xMethL,hCountL,lcStep2,lcTurn2,lcAdd2,hTuple,vi,vb,xCall,xCallN,argsD,argD,ioIx,boIx,isOwn,nodupB,disB,xPost_ret,xPost_err,postS,putIo,frzIx,nlR,nlI,nl,nls,Rt.r,permL,tTrue,lcStep,lcTurn,lcAdd,gN,gT,gsNil,gsCons,DL.forget,back,xSeq,seqOf,xEnum,xRng1,xRng2,xRng3,xLstI,xTupI,sPar,noSlot,putRs,sTup,xMut,ownL,mApp,mIns,mPop,mPopAt,mExt,mRev,sSub,sAug,oNone,oSome,xSl,hSl,hStep,xChain,bind_ok',bind_err,bind_bad,List.set_cons_zero,List.set_cons_succ,List.foldl_cons,List.foldl_nil,List.cons_append,List.nil_append,List.replicate_succ,List.replicate_zero,List.append_nil,List.all_cons,List.all_nil,List.map_cons,List.map_nil,List.length_cons,List.length_nil,List.zip_cons_cons,List.filterMap_cons,List.filterMap_nil,List.getElem?_cons_zero,List.getElem?_cons_succ,List.contains_nil,List.contains_cons,Bool.and_true,Bool.true_and,Bool.and_false,Bool.false_and,Bool.not_true,Bool.not_false,Bool.or_true,Bool.true_or,Bool.or_false,Bool.false_or,if_true,if_false,reduceIte,reduceCtorEq,Nat.reduceSub,Nat.reduceAdd,Nat.reduceEqDiff,Option.map_some,Option.map_none,decide_true,decide_false,↓reduceIte,Bool.false_eq_true,Nat.sub_zero,Nat.sub_self,and_self,and_true,true_and,List.length_map,nls_ints,hEq_int,hNe_int,Ok_ok,OkG_some,EndQ_some,EndP_nx',EndP_rv',EndP_rn',LoopP_nx,LoopP_ct,LoopP_bk,LoopP_rt,lc_ite,xMeth,xZip,sAugS,stIx,sSub2,itemsOf,nlI_dk,sMove,ite_self,hStr_s (n := i) (by omega), hIn_nats, decide_eq_true hE, z1, z2, z3, elc, h1, z4, z5, List.length_append])
      have eL : (linesN E R (i + 1)).map PyData.str = (linesN E R i).map PyData.str ++ [.str (numT i ++ endT ++ colT ++ listedT (r.map stepT) com2)] := by
        rw [hs, List.map_append]
        unfold lineT
        rw [en]
        rfl
      rw [eL]
      exact ⟨_, _, _, rfl⟩
    · rw [if_neg hE] at z1
      have en : nameT E i = numT i ++ nilT := by unfold nameT; rw [if_neg hE]
      rw [en] at z2 z3
      (simp -implicitDefEqProofs -dsimp only [runF,endF_nx,endF_rv,endF_rn,endF_err,initS,ioOut,sSeq,sNil,sPass,sBreak,sCont,sBad,sExpr,sRet,sRetN,sIf,sSet,putR,frz,frzs,xVal,xVar,getS_0,getS_s,getR,ownD,getRs,xOp1,xOp2,fin,RD.r,aNil,aCons,xCB,xTup,xLst,truth,tOf,tAnds,tOrs,tNots,xIf,xAnd,xOr,xNot,xIsi,isTy,hAdd,hSub,hNeg,hLt,hLe,hGt,hGe,hIs,hIsNot,hIx,hLen,hInt,hAbs,hMax2,hMin2,h1L,hList,hListS,xMethL,hCountL,lcStep2,lcTurn2,lcAdd2,hTuple,vi,vb,xCall,xCallN,argsD,argD,ioIx,boIx,isOwn,nodupB,disB,xPost_ret,xPost_err,postS,putIo,frzIx,nlR,nlI,nl,nls,Rt.r,permL,tTrue,lcStep,lcTurn,lcAdd,gN,gT,gsNil,gsCons,DL.forget,back,xSeq,seqOf,xEnum,xRng1,xRng2,xRng3,xLstI,xTupI,sPar,noSlot,putRs,sTup,xMut,ownL,mApp,mIns,mPop,mPopAt,mExt,mRev,sSub,sAug,oNone,oSome,xSl,hSl,hStep,xChain,bind_ok',bind_err,bind_bad,List.set_cons_zero,List.set_cons_succ,List.foldl_cons,List.foldl_nil,List.cons_append,List.nil_append,List.replicate_succ,List.replicate_zero,List.append_nil,List.all_cons,List.all_nil,List.map_cons,List.map_nil,List.length_cons,List.length_nil,List.zip_cons_cons,List.filterMap_cons,List.filterMap_nil,List.getElem?_cons_zero,List.getElem?_cons_succ,List.contains_nil,List.contains_cons,Bool.and_true,Bool.true_and,Bool.and_false,Bool.false_and,Bool.not_true,Bool.not_false,Bool.or_true,Bool.true_or,Bool.or_false,Bool.false_or,if_true,if_false,reduceIte,reduceCtorEq,Nat.reduceSub,Nat.reduceAdd,Nat.reduceEqDiff,Option.map_some,Option.map_none,decide_true,decide_false,↓reduceIte,Bool.false_eq_true,Nat.sub_zero,Nat.sub_self,and_self,and_true,true_and,List.length_map,nls_ints,hEq_int,hNe_int,Ok_ok,OkG_some,EndQ_some,EndP_nx',EndP_rv',EndP_rn',LoopP_nx,LoopP_ct,LoopP_bk,LoopP_rt,lc_ite,xMeth,xZip,sAugS,stIx,sSub2,itemsOf,nlI_dk,sMove,ite_self,hStr_s (n := i) (by omega), hIn_nats, decide_eq_false hE, z1, z2, z3, elc, h1, z4, z5, List.length_append])
      have eL : (linesN E R (i + 1)).map PyData.str = (linesN E R i).map PyData.str ++ [.str (numT i ++ nilT ++ colT ++ listedT (r.map stepT) com2)] := by
        rw [hs, List.map_append]
        unfold lineT
        rw [en]
        rfl
      rw [eL]
      exact ⟨_, _, _, rfl⟩
  · rintro _ ⟨o4, o5, o6, rfl⟩
    (simp -implicitDefEqProofs -dsimp only [runF,endF_nx,endF_rv,endF_rn,endF_err,initS,ioOut,sSeq,sNil,sPass,sBreak,sCont,sBad,sExpr,sRet,sRetN,sIf,sSet,putR,frz,frzs,xVal,xVar,getS_0,getS_s,getR,ownD,getRs,xOp1,xOp2,fin,RD.r,aNil,aCons,xCB,xTup,xLst,truth,tOf,tAnds,tOrs,tNots,xIf,xAnd,xOr,xNot,xIsi,isTy,hAdd,hSub,hNeg,hLt,hLe,hGt,hGe,hIs,hIsNot,hIx,hLen,hInt,hAbs,hMax2,hMin2,h1L,hList,hListS,xMethL,hCountL,lcStep2,lcTurn2,lcAdd2,hTuple,vi,vb,xCall,xCallN,argsD,argD,ioIx,boIx,isOwn,nodupB,disB,xPost_ret,xPost_err,postS,putIo,frzIx,nlR,nlI,nl,nls,Rt.r,permL,tTrue,lcStep,lcTurn,lcAdd,gN,gT,gsNil,gsCons,DL.forget,back,xSeq,seqOf,xEnum,xRng1,xRng2,xRng3,xLstI,xTupI,sPar,noSlot,putRs,sTup,xMut,ownL,mApp,mIns,mPop,mPopAt,mExt,mRev,sSub,sAug,oNone,oSome,xSl,hSl,hStep,xChain,bind_ok',bind_err,bind_bad,List.set_cons_zero,List.set_cons_succ,List.foldl_cons,List.foldl_nil,List.cons_append,List.nil_append,List.replicate_succ,List.replicate_zero,List.append_nil,List.all_cons,List.all_nil,List.map_cons,List.map_nil,List.length_cons,List.length_nil,List.zip_cons_cons,List.filterMap_cons,List.filterMap_nil,List.getElem?_cons_zero,List.getElem?_cons_succ,List.contains_nil,List.contains_cons,Bool.and_true,Bool.true_and,Bool.and_false,Bool.false_and,Bool.not_true,Bool.not_false,Bool.or_true,Bool.true_or,Bool.or_false,Bool.false_or,if_true,if_false,reduceIte,reduceCtorEq,Nat.reduceSub,Nat.reduceAdd,Nat.reduceEqDiff,Option.map_some,Option.map_none,decide_true,decide_false,↓reduceIte,Bool.false_eq_true,Nat.sub_zero,Nat.sub_self,and_self,and_true,true_and,List.length_map,nls_ints,hEq_int,hNe_int,Ok_ok,OkG_some,EndQ_some,EndP_nx',EndP_rv',EndP_rn',LoopP_nx,LoopP_ct,LoopP_bk,LoopP_rt,lc_ite,xMeth,xZip,sAugS,stIx,sSub2,itemsOf,nlI_dk,sMove,ite_self,xM1, show hJoin (Str.ofString "\n") (.list ((linesN E R R.length).map .str)) = _ from hj])
    rfl
theorem said_machine_eq {m : Mach} (h : m.Ok) : den_law_said_machine [m.d] = .ret (.val (.str (machT m))) [] := by
  obtain ⟨R, E⟩ := m
  have hf : R.length ≤ 200 := h.few
  have hrow : ∀ r ∈ R, MRowOk R.length r := h.row
  have hj := hJoin_of (tx_lines h) tx_nl (by rw [linesN_len]; unfold line; show R.length * _ ≤ _; omega)
  have hr1 : rg1Ok (R.length : Int) = true := rg1Ok_of (by omega)
  have hn1 : (R.length : Int).toNat = R.length := Int.toNat_natCast _
  apply Ret.eq
  apply Ret.run
  (simp -implicitDefEqProofs -dsimp only [runF,endF_nx,endF_rv,endF_rn,endF_err,initS,ioOut,sSeq,sNil,sPass,sBreak,sCont,sBad,sExpr,sRet,sRetN,sIf,sSet,putR,frz,frzs,xVal,xVar,getS_0,getS_s,getR,ownD,getRs,xOp1,xOp2,fin,RD.r,aNil,aCons,xCB,xTup,xLst,truth,tOf,tAnds,tOrs,tNots,xIf,xAnd,xOr,xNot,xIsi,isTy,hAdd,hSub,hNeg,hLt,hLe,hGt,hGe,hIs,hIsNot,hIx,hLen,hInt,hAbs,hMax2,hMin2,h1L,hList,hListS,xMethL,hCountL,lcStep2,lcTurn2,lcAdd2,hTuple,vi,vb,xCall,xCallN,argsD,argD,ioIx,boIx,isOwn,nodupB,disB,xPost_ret,xPost_err,postS,putIo,frzIx,nlR,nlI,nl,nls,Rt.r,permL,tTrue,lcStep,lcTurn,lcAdd,gN,gT,gsNil,gsCons,DL.forget,back,xSeq,seqOf,xEnum,xRng1,xRng2,xRng3,xLstI,xTupI,sPar,noSlot,putRs,sTup,xMut,ownL,mApp,mIns,mPop,mPopAt,mExt,mRev,sSub,sAug,oNone,oSome,xSl,hSl,hStep,xChain,bind_ok',bind_err,bind_bad,List.set_cons_zero,List.set_cons_succ,List.foldl_cons,List.foldl_nil,List.cons_append,List.nil_append,List.replicate_succ,List.replicate_zero,List.append_nil,List.all_cons,List.all_nil,List.map_cons,List.map_nil,List.length_cons,List.length_nil,List.zip_cons_cons,List.filterMap_cons,List.filterMap_nil,List.getElem?_cons_zero,List.getElem?_cons_succ,List.contains_nil,List.contains_cons,Bool.and_true,Bool.true_and,Bool.and_false,Bool.false_and,Bool.not_true,Bool.not_false,Bool.or_true,Bool.true_or,Bool.or_false,Bool.false_or,if_true,if_false,reduceIte,reduceCtorEq,Nat.reduceSub,Nat.reduceAdd,Nat.reduceEqDiff,Option.map_some,Option.map_none,decide_true,decide_false,↓reduceIte,Bool.false_eq_true,Nat.sub_zero,Nat.sub_self,and_self,and_true,true_and,List.length_map,nls_ints,hEq_int,hNe_int,Ok_ok,OkG_some,EndQ_some,EndP_nx',EndP_rv',EndP_rn',LoopP_nx,LoopP_ct,LoopP_bk,LoopP_rt,lc_ite,xMeth,xZip,sAugS,stIx,sSub2,itemsOf,nlI_dk,sMove,ite_self])
  refine Ok.bind (Ok.forR 0 R.length (fun i s => ∃ (o2 o3 o4 : Option Sl), s = [some (.val (Mach.d ⟨R, E⟩)), some (.own none (.list ((linesN E R i).map .str))), o2, o3, o4, none, none]) (by ((simp -implicitDefEqProofs -dsimp only [runF,endF_nx,endF_rv,endF_rn,endF_err,initS,ioOut,sSeq,sNil,sPass,sBreak,sCont,sBad,sExpr,sRet,sRetN,sIf,sSet,putR,frz,frzs,xVal,xVar,getS_0,getS_s,getR,ownD,getRs,xOp1,xOp2,fin,RD.r,aNil,aCons,xCB,xTup,xLst,truth,tOf,tAnds,tOrs,tNots,xIf,xAnd,xOr,xNot,xIsi,isTy,hAdd,hSub,hNeg,hLt,hLe,hGt,hGe,hIs,hIsNot,hIx,hLen,hInt,hAbs,hMax2,hMin2,h1L,hList,hListS,xMethL,hCountL,lcStep2,lcTurn2,lcAdd2,hTuple,vi,vb,xCall,xCallN,argsD,argD,ioIx,boIx,isOwn,nodupB,disB,xPost_ret,xPost_err,postS,putIo,frzIx,nlR,nlI,nl,nls,Rt.r,permL,tTrue,lcStep,lcTurn,lcAdd,gN,gT,gsNil,gsCons,DL.forget,back,xSeq,seqOf,xEnum,xRng1,xRng2,xRng3,xLstI,xTupI,sPar,noSlot,putRs,sTup,xMut,ownL,mApp,mIns,mPop,mPopAt,mExt,mRev,sSub,sAug,oNone,oSome,xSl,hSl,hStep,xChain,bind_ok',bind_err,bind_bad,List.set_cons_zero,List.set_cons_succ,List.foldl_cons,List.foldl_nil,List.cons_append,List.nil_append,List.replicate_succ,List.replicate_zero,List.append_nil,List.all_cons,List.all_nil,List.map_cons,List.map_nil,List.length_cons,List.length_nil,List.zip_cons_cons,List.filterMap_cons,List.filterMap_nil,List.getElem?_cons_zero,List.getElem?_cons_succ,List.contains_nil,List.contains_cons,Bool.and_true,Bool.true_and,Bool.and_false,Bool.false_and,Bool.not_true,Bool.not_false,Bool.or_true,Bool.true_or,Bool.or_false,Bool.false_or,if_true,if_false,reduceIte,reduceCtorEq,Nat.reduceSub,Nat.reduceAdd,Nat.reduceEqDiff,Option.map_some,Option.map_none,decide_true,decide_false,↓reduceIte,Bool.false_eq_true,Nat.sub_zero,Nat.sub_self,and_self,and_true,true_and,List.length_map,nls_ints,hEq_int,hNe_int,Ok_ok,OkG_some,EndQ_some,EndP_nx',EndP_rv',EndP_rn',LoopP_nx,LoopP_ct,LoopP_bk,LoopP_rt,lc_ite,xMeth,xZip,sAugS,stIx,sSub2,itemsOf,nlI_dk,sMove,ite_self,atI_0, hr1, hn1]) <;> rfl)) ⟨none, none, none, rfl⟩ ?_ ?_)
  · rintro i hi _ ⟨o2, o3, o4, rfl⟩
    have c0 : (0 : Int) + (i : Int) = (i : Int) := by omega
    have hr := hrow _ (List.getElem_mem hi)
    have hs := linesN_succ E R i hi
    have hll := linesN_len E R i
    have ha : atI (R.map mrD) (i : Int) = some (mrD R[i]) := by rw [atI_nat']; simp [hi]
    generalize R[i] = r at hr hs ha
    have h1 := law_listed_eq (tx_steps hf hr) tx_com2 (by rw [List.length_map]; have := hr.2.1; unfold line; omega)
    obtain ⟨⟨z1, z2⟩, z3⟩ := line_len E (k := i) (by omega) hf hr
    have z4 : (linesN E R i).length < line := by unfold line; omega
    have z5 : (linesN E R i).length + 1 ≤ line := by unfold line; omega
    have elc : xLc [5, 6] (xSeq (xOp2 hIx (xOp2 hIx (xVar 0) (xVal (.int 0))) (xVar 2))) (gT (gsCons (gN 5) (gsCons (gN 6) (gsNil)))) (tTrue) (xOp2 hAdd (xOp2 hAdd (xCall [false] den_law_said_letter (aCons (xVar 5) (aNil))) (xVal (.str " "))) (xCB hStr (aCons (xVar 6) (aNil)))) [some (.val (Mach.d ⟨R, E⟩)), some (.own none (.list ((linesN E R i).map .str))), some (.val (.int (i : Int))), o3, o4, none, none] =
        .ok (.new (.list ((r.map stepT).map .str)), [some (.val (Mach.d ⟨R, E⟩)), some (.own none (.list ((linesN E R i).map .str))), some (.val (.int (i : Int))), o3, o4, none, none]) := by
      rw [lcA (s := [some (.val (Mach.d ⟨R, E⟩)), some (.own none (.list ((linesN E R i).map .str))), some (.val (.int (i : Int))), o3, o4, none, none]) r stD (fun q => .str (stepT q)) (by (simp -implicitDefEqProofs -dsimp only [runF,endF_nx,endF_rv,endF_rn,endF_err,initS,ioOut,sSeq,sNil,sPass,sBreak,sCont,sBad,sExpr,sRet,sRetN,sIf,sSet,putR,frz,frzs,xVal,xVar,getS_0,getS_s,getR,ownD,getRs,xOp1,xOp2,fin,RD.r,aNil,aCons,xCB,xTup,xLst,truth,tOf,tAnds,tOrs,tNots,xIf,xAnd,xOr,xNot,xIsi,isTy,hAdd,hSub,hNeg,hLt,hLe,hGt,hGe,hIs,hIsNot,hIx,hLen,hInt,hAbs,hMax2,hMin2,h1L,hList,hListS,xMethL,hCountL,lcStep2,lcTurn2,lcAdd2,hTuple,vi,vb,xCall,xCallN,argsD,argD,ioIx,boIx,isOwn,nodupB,disB,xPost_ret,xPost_err,postS,putIo,frzIx,nlR,nlI,nl,nls,Rt.r,permL,tTrue,lcStep,lcTurn,lcAdd,gN,gT,gsNil,gsCons,DL.forget,back,xSeq,seqOf,xEnum,xRng1,xRng2,xRng3,xLstI,xTupI,sPar,noSlot,putRs,sTup,xMut,ownL,mApp,mIns,mPop,mPopAt,mExt,mRev,sSub,sAug,oNone,oSome,xSl,hSl,hStep,xChain,bind_ok',bind_err,bind_bad,List.set_cons_zero,List.set_cons_succ,List.foldl_cons,List.foldl_nil,List.cons_append,List.nil_append,List.replicate_succ,List.replicate_zero,List.append_nil,List.all_cons,List.all_nil,List.map_cons,List.map_nil,List.length_cons,List.length_nil,List.zip_cons_cons,List.filterMap_cons,List.filterMap_nil,List.getElem?_cons_zero,List.getElem?_cons_succ,List.contains_nil,List.contains_cons,Bool.and_true,Bool.true_and,Bool.and_false,Bool.false_and,Bool.not_true,Bool.not_false,Bool.or_true,Bool.true_or,Bool.or_false,Bool.false_or,if_true,if_false,reduceIte,reduceCtorEq,Nat.reduceSub,Nat.reduceAdd,Nat.reduceEqDiff,Option.map_some,Option.map_none,decide_true,decide_false,↓reduceIte,Bool.false_eq_true,Nat.sub_zero,Nat.sub_self,and_self,and_true,true_and,List.length_map,nls_ints,hEq_int,hNe_int,Ok_ok,OkG_some,EndQ_some,EndP_nx',EndP_rv',EndP_rn',LoopP_nx,LoopP_ct,LoopP_bk,LoopP_rt,lc_ite,xMeth,xZip,sAugS,stIx,sSub2,itemsOf,nlI_dk,sMove,ite_self,atI_0, ha])) (by have := hr.2.1; unfold line; omega) (fun q hq acc => by
        have hq2 := hr.1 q hq
        obtain ⟨y1, y2⟩ := step_len hq2.1 (by omega : q.2 < 1000)
        (simp -implicitDefEqProofs -dsimp only [runF,endF_nx,endF_rv,endF_rn,endF_err,initS,ioOut,sSeq,sNil,sPass,sBreak,sCont,sBad,sExpr,sRet,sRetN,sIf,sSet,putR,frz,frzs,xVal,xVar,getS_0,getS_s,getR,ownD,getRs,xOp1,xOp2,fin,RD.r,aNil,aCons,xCB,xTup,xLst,truth,tOf,tAnds,tOrs,tNots,xIf,xAnd,xOr,xNot,xIsi,isTy,hAdd,hSub,hNeg,hLt,hLe,hGt,hGe,hIs,hIsNot,hIx,hLen,hInt,hAbs,hMax2,hMin2,h1L,hList,hListS,xMethL,hCountL,lcStep2,lcTurn2,lcAdd2,hTuple,vi,vb,xCall,xCallN,argsD,argD,ioIx,boIx,isOwn,nodupB,disB,xPost_ret,xPost_err,postS,putIo,frzIx,nlR,nlI,nl,nls,Rt.r,permL,tTrue,lcStep,lcTurn,lcAdd,gN,gT,gsNil,gsCons,DL.forget,back,xSeq,seqOf,xEnum,xRng1,xRng2,xRng3,xLstI,xTupI,sPar,noSlot,putRs,sTup,xMut,ownL,mApp,mIns,mPop,mPopAt,mExt,mRev,sSub,sAug,oNone,oSome,xSl,hSl,hStep,xChain,bind_ok',bind_err,bind_bad,List.set_cons_zero,List.set_cons_succ,List.foldl_cons,List.foldl_nil,List.cons_append,List.nil_append,List.replicate_succ,List.replicate_zero,List.append_nil,List.all_cons,List.all_nil,List.map_cons,List.map_nil,List.length_cons,List.length_nil,List.zip_cons_cons,List.filterMap_cons,List.filterMap_nil,List.getElem?_cons_zero,List.getElem?_cons_succ,List.contains_nil,List.contains_cons,Bool.and_true,Bool.true_and,Bool.and_false,Bool.false_and,Bool.not_true,Bool.not_false,Bool.or_true,Bool.true_or,Bool.or_false,Bool.false_or,if_true,if_false,reduceIte,reduceCtorEq,Nat.reduceSub,Nat.reduceAdd,Nat.reduceEqDiff,Option.map_some,Option.map_none,decide_true,decide_false,↓reduceIte,Bool.false_eq_true,Nat.sub_zero,Nat.sub_self,and_self,and_true,true_and,List.length_map,nls_ints,hEq_int,hNe_int,Ok_ok,OkG_some,EndQ_some,EndP_nx',EndP_rv',EndP_rn',LoopP_nx,LoopP_ct,LoopP_bk,LoopP_rt,lc_ite,xMeth,xZip,sAugS,stIx,sSub2,itemsOf,nlI_dk,sMove,ite_self,said_letter_eq hq2.1, y1, y2, hStr_s (n := q.2) (by omega)])
        rfl)]
      rw [steps_map]
      (simp -implicitDefEqProofs -dsimp only [runF,endF_nx,endF_rv,endF_rn,endF_err,initS,ioOut,sSeq,sNil,sPass,sBreak,sCont,sBad,sExpr,sRet,sRetN,sIf,sSet,putR,frz,frzs,xVal,xVar,getS_0,getS_s,getR,ownD,getRs,xOp1,xOp2,fin,RD.r,aNil,aCons,xCB,xTup,xLst,truth,tOf,tAnds,tOrs,tNots,xIf,xAnd,xOr,xNot,xIsi,isTy,hAdd,hSub,hNeg,hLt,hLe,hGt,hGe,hIs,hIsNot,hIx,hLen,hInt,hAbs,hMax2,hMin2,h1L,hList,hListS,xMethL,hCountL,lcStep2,lcTurn2,lcAdd2,hTuple,vi,vb,xCall,xCallN,argsD,argD,ioIx,boIx,isOwn,nodupB,disB,xPost_ret,xPost_err,postS,putIo,frzIx,nlR,nlI,nl,nls,Rt.r,permL,tTrue,lcStep,lcTurn,lcAdd,gN,gT,gsNil,gsCons,DL.forget,back,xSeq,seqOf,xEnum,xRng1,xRng2,xRng3,xLstI,xTupI,sPar,noSlot,putRs,sTup,xMut,ownL,mApp,mIns,mPop,mPopAt,mExt,mRev,sSub,sAug,oNone,oSome,xSl,hSl,hStep,xChain,bind_ok',bind_err,bind_bad,List.set_cons_zero,List.set_cons_succ,List.foldl_cons,List.foldl_nil,List.cons_append,List.nil_append,List.replicate_succ,List.replicate_zero,List.append_nil,List.all_cons,List.all_nil,List.map_cons,List.map_nil,List.length_cons,List.length_nil,List.zip_cons_cons,List.filterMap_cons,List.filterMap_nil,List.getElem?_cons_zero,List.getElem?_cons_succ,List.contains_nil,List.contains_cons,Bool.and_true,Bool.true_and,Bool.and_false,Bool.false_and,Bool.not_true,Bool.not_false,Bool.or_true,Bool.true_or,Bool.or_false,Bool.false_or,if_true,if_false,reduceIte,reduceCtorEq,Nat.reduceSub,Nat.reduceAdd,Nat.reduceEqDiff,Option.map_some,Option.map_none,decide_true,decide_false,↓reduceIte,Bool.false_eq_true,Nat.sub_zero,Nat.sub_self,and_self,and_true,true_and,List.length_map,nls_ints,hEq_int,hNe_int,Ok_ok,OkG_some,EndQ_some,EndP_nx',EndP_rv',EndP_rn',LoopP_nx,LoopP_ct,LoopP_bk,LoopP_rt,lc_ite,xMeth,xZip,sAugS,stIx,sSub2,itemsOf,nlI_dk,sMove,ite_self])
    by_cases hE : i ∈ E
    · rw [if_pos hE] at z1
      have en : nameT E i = numT i ++ endT := by unfold nameT; rw [if_pos hE]
      rw [en] at z2 z3
      have eL : (linesN E R (i + 1)).map PyData.str = (linesN E R i).map PyData.str ++ [.str (numT i ++ endT ++ colT ++ listedT (r.map stepT) com2)] := by
        rw [hs, List.map_append]
        unfold lineT
        rw [en]
        rfl
      have em : hMulS (.str (Str.ofString " end")) (.int 1) = some (.val (.str (Str.ofString " end"))) := rfl
      (simp -implicitDefEqProofs -dsimp only [runF,endF_nx,endF_rv,endF_rn,endF_err,initS,ioOut,sSeq,sNil,sPass,sBreak,sCont,sBad,sExpr,sRet,sRetN,sIf,sSet,putR,frz,frzs,xVal,xVar,getS_0,getS_s,getR,ownD,getRs,xOp1,xOp2,fin,RD.r,aNil,aCons,xCB,xTup,xLst,truth,tOf,tAnds,tOrs,tNots,xIf,xAnd,xOr,xNot,xIsi,isTy,hAdd,hSub,hNeg,hLt,hLe,hGt,hGe,hIs,hIsNot,hIx,hLen,hInt,hAbs,hMax2,hMin2,h1L,hList,hListS,xMethL,hCountL,lcStep2,lcTurn2,lcAdd2,hTuple,vi,vb,xCall,xCallN,argsD,argD,ioIx,boIx,isOwn,nodupB,disB,xPost_ret,xPost_err,postS,putIo,frzIx,nlR,nlI,nl,nls,Rt.r,permL,tTrue,lcStep,lcTurn,lcAdd,gN,gT,gsNil,gsCons,DL.forget,back,xSeq,seqOf,xEnum,xRng1,xRng2,xRng3,xLstI,xTupI,sPar,noSlot,putRs,sTup,xMut,ownL,mApp,mIns,mPop,mPopAt,mExt,mRev,sSub,sAug,oNone,oSome,xSl,hSl,hStep,xChain,bind_ok',bind_err,bind_bad,List.set_cons_zero,List.set_cons_succ,List.foldl_cons,List.foldl_nil,List.cons_append,List.nil_append,List.replicate_succ,List.replicate_zero,List.append_nil,List.all_cons,List.all_nil,List.map_cons,List.map_nil,List.length_cons,List.length_nil,List.zip_cons_cons,List.filterMap_cons,List.filterMap_nil,List.getElem?_cons_zero,List.getElem?_cons_succ,List.contains_nil,List.contains_cons,Bool.and_true,Bool.true_and,Bool.and_false,Bool.false_and,Bool.not_true,Bool.not_false,Bool.or_true,Bool.true_or,Bool.or_false,Bool.false_or,if_true,if_false,reduceIte,reduceCtorEq,Nat.reduceSub,Nat.reduceAdd,Nat.reduceEqDiff,Option.map_some,Option.map_none,decide_true,decide_false,↓reduceIte,Bool.false_eq_true,Nat.sub_zero,Nat.sub_self,and_self,and_true,true_and,List.length_map,nls_ints,hEq_int,hNe_int,Ok_ok,OkG_some,EndQ_some,EndP_nx',EndP_rv',EndP_rn',LoopP_nx,LoopP_ct,LoopP_bk,LoopP_rt,lc_ite,xMeth,xZip,sAugS,stIx,sSub2,itemsOf,nlI_dk,sMove,ite_self,c0, elc, atI_1, hStr_s (n := i) (by omega), hIn_nats, decide_eq_true hE, em, z1, z2, z3, h1, z4, z5, List.length_append])
      rw [eL]
      exact ⟨_, _, _, rfl⟩
    · rw [if_neg hE] at z1
      have en : nameT E i = numT i ++ nilT := by unfold nameT; rw [if_neg hE]
      rw [en] at z2 z3
      have eL : (linesN E R (i + 1)).map PyData.str = (linesN E R i).map PyData.str ++ [.str (numT i ++ nilT ++ colT ++ listedT (r.map stepT) com2)] := by
        rw [hs, List.map_append]
        unfold lineT
        rw [en]
        rfl
      have em : hMulS (.str (Str.ofString " end")) (.int 0) = some (.val (.str nilT)) := by rw [← nil_emp]; rfl
      (simp -implicitDefEqProofs -dsimp only [runF,endF_nx,endF_rv,endF_rn,endF_err,initS,ioOut,sSeq,sNil,sPass,sBreak,sCont,sBad,sExpr,sRet,sRetN,sIf,sSet,putR,frz,frzs,xVal,xVar,getS_0,getS_s,getR,ownD,getRs,xOp1,xOp2,fin,RD.r,aNil,aCons,xCB,xTup,xLst,truth,tOf,tAnds,tOrs,tNots,xIf,xAnd,xOr,xNot,xIsi,isTy,hAdd,hSub,hNeg,hLt,hLe,hGt,hGe,hIs,hIsNot,hIx,hLen,hInt,hAbs,hMax2,hMin2,h1L,hList,hListS,xMethL,hCountL,lcStep2,lcTurn2,lcAdd2,hTuple,vi,vb,xCall,xCallN,argsD,argD,ioIx,boIx,isOwn,nodupB,disB,xPost_ret,xPost_err,postS,putIo,frzIx,nlR,nlI,nl,nls,Rt.r,permL,tTrue,lcStep,lcTurn,lcAdd,gN,gT,gsNil,gsCons,DL.forget,back,xSeq,seqOf,xEnum,xRng1,xRng2,xRng3,xLstI,xTupI,sPar,noSlot,putRs,sTup,xMut,ownL,mApp,mIns,mPop,mPopAt,mExt,mRev,sSub,sAug,oNone,oSome,xSl,hSl,hStep,xChain,bind_ok',bind_err,bind_bad,List.set_cons_zero,List.set_cons_succ,List.foldl_cons,List.foldl_nil,List.cons_append,List.nil_append,List.replicate_succ,List.replicate_zero,List.append_nil,List.all_cons,List.all_nil,List.map_cons,List.map_nil,List.length_cons,List.length_nil,List.zip_cons_cons,List.filterMap_cons,List.filterMap_nil,List.getElem?_cons_zero,List.getElem?_cons_succ,List.contains_nil,List.contains_cons,Bool.and_true,Bool.true_and,Bool.and_false,Bool.false_and,Bool.not_true,Bool.not_false,Bool.or_true,Bool.true_or,Bool.or_false,Bool.false_or,if_true,if_false,reduceIte,reduceCtorEq,Nat.reduceSub,Nat.reduceAdd,Nat.reduceEqDiff,Option.map_some,Option.map_none,decide_true,decide_false,↓reduceIte,Bool.false_eq_true,Nat.sub_zero,Nat.sub_self,and_self,and_true,true_and,List.length_map,nls_ints,hEq_int,hNe_int,Ok_ok,OkG_some,EndQ_some,EndP_nx',EndP_rv',EndP_rn',LoopP_nx,LoopP_ct,LoopP_bk,LoopP_rt,lc_ite,xMeth,xZip,sAugS,stIx,sSub2,itemsOf,nlI_dk,sMove,ite_self,c0, elc, atI_1, hStr_s (n := i) (by omega), hIn_nats, decide_eq_false hE, em, z1, z2, z3, h1, z4, z5, List.length_append])
      rw [eL]
      exact ⟨_, _, _, rfl⟩
  · rintro _ ⟨o2, o3, o4, rfl⟩
    (simp -implicitDefEqProofs -dsimp only [runF,endF_nx,endF_rv,endF_rn,endF_err,initS,ioOut,sSeq,sNil,sPass,sBreak,sCont,sBad,sExpr,sRet,sRetN,sIf,sSet,putR,frz,frzs,xVal,xVar,getS_0,getS_s,getR,ownD,getRs,xOp1,xOp2,fin,RD.r,aNil,aCons,xCB,xTup,xLst,truth,tOf,tAnds,tOrs,tNots,xIf,xAnd,xOr,xNot,xIsi,isTy,hAdd,hSub,hNeg,hLt,hLe,hGt,hGe,hIs,hIsNot,hIx,hLen,hInt,hAbs,hMax2,hMin2,h1L,hList,hListS,xMethL,hCountL,lcStep2,lcTurn2,lcAdd2,hTuple,vi,vb,xCall,xCallN,argsD,argD,ioIx,boIx,isOwn,nodupB,disB,xPost_ret,xPost_err,postS,putIo,frzIx,nlR,nlI,nl,nls,Rt.r,permL,tTrue,lcStep,lcTurn,lcAdd,gN,gT,gsNil,gsCons,DL.forget,back,xSeq,seqOf,xEnum,xRng1,xRng2,xRng3,xLstI,xTupI,sPar,noSlot,putRs,sTup,xMut,ownL,mApp,mIns,mPop,mPopAt,mExt,mRev,sSub,sAug,oNone,oSome,xSl,hSl,hStep,xChain,bind_ok',bind_err,bind_bad,List.set_cons_zero,List.set_cons_succ,List.foldl_cons,List.foldl_nil,List.cons_append,List.nil_append,List.replicate_succ,List.replicate_zero,List.append_nil,List.all_cons,List.all_nil,List.map_cons,List.map_nil,List.length_cons,List.length_nil,List.zip_cons_cons,List.filterMap_cons,List.filterMap_nil,List.getElem?_cons_zero,List.getElem?_cons_succ,List.contains_nil,List.contains_cons,Bool.and_true,Bool.true_and,Bool.and_false,Bool.false_and,Bool.not_true,Bool.not_false,Bool.or_true,Bool.true_or,Bool.or_false,Bool.false_or,if_true,if_false,reduceIte,reduceCtorEq,Nat.reduceSub,Nat.reduceAdd,Nat.reduceEqDiff,Option.map_some,Option.map_none,decide_true,decide_false,↓reduceIte,Bool.false_eq_true,Nat.sub_zero,Nat.sub_self,and_self,and_true,true_and,List.length_map,nls_ints,hEq_int,hNe_int,Ok_ok,OkG_some,EndQ_some,EndP_nx',EndP_rv',EndP_rn',LoopP_nx,LoopP_ct,LoopP_bk,LoopP_rt,lc_ite,xMeth,xZip,sAugS,stIx,sSub2,itemsOf,nlI_dk,sMove,ite_self,xM1, show hJoin (Str.ofString "\n") (.list ((linesN E R R.length).map .str)) = _ from hj])
    rfl
end DLS

namespace DLS
open Evl (Ex)
open PySem PySem.Spec PyProof.Rows L2 DL TL
/-! texts of sayings -/
abbrev lsA : PySem.Str := Str.ofString "(list ["
abbrev lsB : PySem.Str := Str.ofString "])"
abbrev srA : PySem.Str := Str.ofString "(sorted "
abbrev lbT : PySem.Str := Str.ofString "("
abbrev rbT : PySem.Str := Str.ofString ")"
theorem tx_lsA : Tx 7 lsA := tx_lit (by decide +kernel) (by decide +kernel)
theorem tx_lsB : Tx 2 lsB := tx_lit (by decide +kernel) (by decide +kernel)
theorem tx_srA : Tx 8 srA := tx_lit (by decide +kernel) (by decide +kernel)
theorem tx_lb : Tx 1 lbT := tx_lit (by decide +kernel) (by decide +kernel)
theorem tx_rb : Tx 1 rbT := tx_lit (by decide +kernel) (by decide +kernel)
theorem tx_sorter (k : Sorter) : Tx 6 k.nm := by cases k <;> exact tx_lit (by decide +kernel) (by decide +kernel)
theorem tx_wnm (w : Way) : Tx 8 w.nm := by cases w <;> exact tx_lit (by decide +kernel) (by decide +kernel)
theorem tx_two (b : Bool) : Tx 6 (twoNm b) := by cases b <;> exact tx_lit (by decide +kernel) (by decide +kernel)
def sayT : Say → PySem.Str
  | .lst L => lsA ++ listT L ++ lsB
  | .srt k => srA ++ k.nm ++ rbT
  | .one w s => lbT ++ (w.nm ++ sp1 ++ sayT s) ++ rbT
  | .two b s t => lbT ++ (twoNm b ++ sp1 ++ (sayT s ++ sp1 ++ sayT t)) ++ rbT
def bnd : Nat → Nat
  | 0 => 0
  | n + 1 => 2 * bnd n + 2500
theorem Say.smallL {L : List (List Int)} (h : (Say.lst L).tx) : SmallL L := DLS.smallL (Nat.le_refl _) h.1 h.2
theorem tx_say : ∀ (n : Nat) (s : Say), s.tx → s.dp ≤ n → Tx (bnd n) (sayT s)
  | 0, s, _, h => by have := s.dp_pos; omega
  | n + 1, .lst L, h, _ => (((tx_lsA.app (tx_list (Say.smallL h))).app tx_lsB)).mono (by show _ ≤ 2 * bnd n + 2500; omega)
  | n + 1, .srt k, h, _ => (((tx_srA.app (tx_sorter k)).app tx_rb)).mono (by show _ ≤ 2 * bnd n + 2500; omega)
  | n + 1, .one w s, h, hd => by
    have hs : s.dp ≤ n := by have : s.dp + 1 ≤ n + 1 := hd; omega
    exact ((tx_lb.app (((tx_wnm w).app tx_sp1).app (tx_say n s h hs))).app tx_rb).mono (by show _ ≤ 2 * bnd n + 2500; omega)
  | n + 1, .two b s t, h, hd => by
    have hs : max s.dp t.dp + 1 ≤ n + 1 := hd
    exact ((tx_lb.app (((tx_two b).app tx_sp1).app (((tx_say n s h.1 (by omega)).app tx_sp1).app (tx_say n t h.2 (by omega))))).app tx_rb).mono (by show _ ≤ 2 * bnd n + 2500; omega)
theorem bnd_mono {m n : Nat} (h : m ≤ n) : bnd m ≤ bnd n := by
  induction h with
  | refl => exact Nat.le_refl _
  | step _ ih => exact Nat.le_trans ih (by show bnd _ ≤ 2 * bnd _ + 2500; omega)
theorem bnd12 : bnd 12 + 100 ≤ line := by decide +kernel
theorem hJoin_raw {ws : List PySem.Str} {y : PySem.Str} (h : (ws.map (·.length)).sum + ws.length * y.length ≤ line) : hJoin y (.list (ws.map .str)) = some (.val (.str (Str.join y ws))) := by
  unfold hJoin itemsOf
  dsimp only
  rw [strsOf_map]
  dsimp only
  rw [if_pos h, join_eq]
theorem hJoin2 {a b : PySem.Str} (h : a.length + 1 + b.length + 1 ≤ line) : hJoin sp1 (.list [.str a, .str b]) = some (.val (.str (a ++ sp1 ++ b))) :=
  hJoin_raw (ws := [a, b]) (y := sp1) (by rw [show sp1.length = 1 from by decide +kernel]; simp only [List.map_cons, List.map_nil, List.sum_cons, List.sum_nil, List.length_cons, List.length_nil]; omega)
theorem hJoin3 {a b c : PySem.Str} (h : a.length + 1 + b.length + 1 + c.length + 1 ≤ line) : hJoin sp1 (.list [.str a, .str b, .str c]) = some (.val (.str (a ++ sp1 ++ (b ++ sp1 ++ c)))) :=
  hJoin_raw (ws := [a, b, c]) (y := sp1) (by rw [show sp1.length = 1 from by decide +kernel]; simp only [List.map_cons, List.map_nil, List.sum_cons, List.sum_nil, List.length_cons, List.length_nil]; omega)
theorem show_saying_eq : ∀ (n : Nat) (s : Say), n ≤ 12 → s.tx → s.dp ≤ n → denN_show_saying n [s.d] = .ret (.val (.str (sayT s))) []
  | 0, s, _, _, h => by have := s.dp_pos; omega
  | n + 1, .lst L, hn, h, _ => by
    have hL := Say.smallL h
    have z1 : lsA.length + (listT L).length ≤ line := by have := tx_lsA.len; have := (tx_list hL).len; unfold line; omega
    have z2 : (lsA ++ listT L).length + lsB.length ≤ line := by have := (tx_lsA.app (tx_list hL)).len; have := tx_lsB.len; unfold line; omega
    have e : denN_show_saying (n + 1) = runF [false] 2 (fb_show_saying (denN_show_saying n)) := rfl
    rw [e]
    apply Ret.eq
    apply Ret.run
    (simp -implicitDefEqProofs -dsimp only [runF,endF_nx,endF_rv,endF_rn,endF_err,initS,ioOut,sSeq,sNil,sPass,sBreak,sCont,sBad,sExpr,sRet,sRetN,sIf,sSet,putR,frz,frzs,xVal,xVar,getS_0,getS_s,getR,ownD,getRs,xOp1,xOp2,fin,RD.r,aNil,aCons,xCB,xTup,xLst,truth,tOf,tAnds,tOrs,tNots,xIf,xAnd,xOr,xNot,xIsi,isTy,hAdd,hSub,hNeg,hLt,hLe,hGt,hGe,hIs,hIsNot,hIx,hLen,hInt,hAbs,hMax2,hMin2,h1L,hList,hListS,xMethL,hCountL,lcStep2,lcTurn2,lcAdd2,hTuple,vi,vb,xCall,xCallN,argsD,argD,ioIx,boIx,isOwn,nodupB,disB,xPost_ret,xPost_err,postS,putIo,frzIx,nlR,nlI,nl,nls,Rt.r,permL,tTrue,lcStep,lcTurn,lcAdd,gN,gT,gsNil,gsCons,DL.forget,back,xSeq,seqOf,xEnum,xRng1,xRng2,xRng3,xLstI,xTupI,sPar,noSlot,putRs,sTup,xMut,ownL,mApp,mIns,mPop,mPopAt,mExt,mRev,sSub,sAug,oNone,oSome,xSl,hSl,hStep,xChain,bind_ok',bind_err,bind_bad,List.set_cons_zero,List.set_cons_succ,List.foldl_cons,List.foldl_nil,List.cons_append,List.nil_append,List.replicate_succ,List.replicate_zero,List.append_nil,List.all_cons,List.all_nil,List.map_cons,List.map_nil,List.length_cons,List.length_nil,List.zip_cons_cons,List.filterMap_cons,List.filterMap_nil,List.getElem?_cons_zero,List.getElem?_cons_succ,List.contains_nil,List.contains_cons,Bool.and_true,Bool.true_and,Bool.and_false,Bool.false_and,Bool.not_true,Bool.not_false,Bool.or_true,Bool.true_or,Bool.or_false,Bool.false_or,if_true,if_false,reduceIte,reduceCtorEq,Nat.reduceSub,Nat.reduceAdd,Nat.reduceEqDiff,Option.map_some,Option.map_none,decide_true,decide_false,↓reduceIte,Bool.false_eq_true,Nat.sub_zero,Nat.sub_self,and_self,and_true,true_and,List.length_map,nls_ints,hEq_int,hNe_int,Ok_ok,OkG_some,EndQ_some,EndP_nx',EndP_rv',EndP_rn',LoopP_nx,LoopP_ct,LoopP_bk,LoopP_rt,lc_ite,xMeth,xZip,sAugS,stIx,sSub2,itemsOf,nlI_dk,sMove,ite_self,Say.d, atI_0, atI_1, eq_ll, show_list_eq hL, z1, z2])
    rfl
  | n + 1, .srt k, hn, h, _ => by
    have z1 : srA.length + k.nm.length ≤ line := by have := tx_srA.len; have := (tx_sorter k).len; unfold line; omega
    have z2 : (srA ++ k.nm).length + rbT.length ≤ line := by have := (tx_srA.app (tx_sorter k)).len; have := tx_rb.len; unfold line; omega
    have e : denN_show_saying (n + 1) = runF [false] 2 (fb_show_saying (denN_show_saying n)) := rfl
    rw [e]
    apply Ret.eq
    apply Ret.run
    (simp -implicitDefEqProofs -dsimp only [runF,endF_nx,endF_rv,endF_rn,endF_err,initS,ioOut,sSeq,sNil,sPass,sBreak,sCont,sBad,sExpr,sRet,sRetN,sIf,sSet,putR,frz,frzs,xVal,xVar,getS_0,getS_s,getR,ownD,getRs,xOp1,xOp2,fin,RD.r,aNil,aCons,xCB,xTup,xLst,truth,tOf,tAnds,tOrs,tNots,xIf,xAnd,xOr,xNot,xIsi,isTy,hAdd,hSub,hNeg,hLt,hLe,hGt,hGe,hIs,hIsNot,hIx,hLen,hInt,hAbs,hMax2,hMin2,h1L,hList,hListS,xMethL,hCountL,lcStep2,lcTurn2,lcAdd2,hTuple,vi,vb,xCall,xCallN,argsD,argD,ioIx,boIx,isOwn,nodupB,disB,xPost_ret,xPost_err,postS,putIo,frzIx,nlR,nlI,nl,nls,Rt.r,permL,tTrue,lcStep,lcTurn,lcAdd,gN,gT,gsNil,gsCons,DL.forget,back,xSeq,seqOf,xEnum,xRng1,xRng2,xRng3,xLstI,xTupI,sPar,noSlot,putRs,sTup,xMut,ownL,mApp,mIns,mPop,mPopAt,mExt,mRev,sSub,sAug,oNone,oSome,xSl,hSl,hStep,xChain,bind_ok',bind_err,bind_bad,List.set_cons_zero,List.set_cons_succ,List.foldl_cons,List.foldl_nil,List.cons_append,List.nil_append,List.replicate_succ,List.replicate_zero,List.append_nil,List.all_cons,List.all_nil,List.map_cons,List.map_nil,List.length_cons,List.length_nil,List.zip_cons_cons,List.filterMap_cons,List.filterMap_nil,List.getElem?_cons_zero,List.getElem?_cons_succ,List.contains_nil,List.contains_cons,Bool.and_true,Bool.true_and,Bool.and_false,Bool.false_and,Bool.not_true,Bool.not_false,Bool.or_true,Bool.true_or,Bool.or_false,Bool.false_or,if_true,if_false,reduceIte,reduceCtorEq,Nat.reduceSub,Nat.reduceAdd,Nat.reduceEqDiff,Option.map_some,Option.map_none,decide_true,decide_false,↓reduceIte,Bool.false_eq_true,Nat.sub_zero,Nat.sub_self,and_self,and_true,true_and,List.length_map,nls_ints,hEq_int,hNe_int,Ok_ok,OkG_some,EndQ_some,EndP_nx',EndP_rv',EndP_rn',LoopP_nx,LoopP_ct,LoopP_bk,LoopP_rt,lc_ite,xMeth,xZip,sAugS,stIx,sSub2,itemsOf,nlI_dk,sMove,ite_self,Say.d, atI_0, atI_1, eq_sl, eq_ss, z1, z2])
    rfl
  | n + 1, .one w s, hn, h, hd => by
    have hs : s.dp ≤ n := by have : s.dp + 1 ≤ n + 1 := hd; omega
    have ih := show_saying_eq n s (by omega) h hs
    have hb := bnd_mono (show n + 1 ≤ 12 by omega)
    have hb2 : bnd (n + 1) = 2 * bnd n + 2500 := rfl
    have hb3 := bnd12
    have t1 := tx_say n s h hs
    have l1' := t1.len
    have l2' := (tx_wnm w).len
    have hj := hJoin2 (a := w.nm) (b := sayT s) (by omega)
    have t2 := ((tx_wnm w).app tx_sp1).app t1
    have z1 : lbT.length + (w.nm ++ sp1 ++ sayT s).length ≤ line := by have := t2.len; have := tx_lb.len; omega
    have z2 : (lbT ++ (w.nm ++ sp1 ++ sayT s)).length + rbT.length ≤ line := by have := (tx_lb.app t2).len; have := tx_rb.len; omega
    have e : denN_show_saying (n + 1) = runF [false] 2 (fb_show_saying (denN_show_saying n)) := rfl
    rw [e]
    apply Ret.eq
    apply Ret.run
    have elc : xLc [1] (xSeq (xSl (xVar 0) (oSome (xVal (.int 1))) (oNone))) (gN 1) (tTrue) (xCall [false] (denN_show_saying n) (aCons (xVar 1) (aNil))) [some (.val (Say.one w s).d), none] = .ok (.new (.list [.str (sayT s)]), [some (.val (Say.one w s).d), none]) := by
      rw [lcA (s := [some (.val (Say.one w s).d), none]) [s] Say.d (fun s => .str (sayT s)) (by (simp -implicitDefEqProofs -dsimp only [runF,endF_nx,endF_rv,endF_rn,endF_err,initS,ioOut,sSeq,sNil,sPass,sBreak,sCont,sBad,sExpr,sRet,sRetN,sIf,sSet,putR,frz,frzs,xVal,xVar,getS_0,getS_s,getR,ownD,getRs,xOp1,xOp2,fin,RD.r,aNil,aCons,xCB,xTup,xLst,truth,tOf,tAnds,tOrs,tNots,xIf,xAnd,xOr,xNot,xIsi,isTy,hAdd,hSub,hNeg,hLt,hLe,hGt,hGe,hIs,hIsNot,hIx,hLen,hInt,hAbs,hMax2,hMin2,h1L,hList,hListS,xMethL,hCountL,lcStep2,lcTurn2,lcAdd2,hTuple,vi,vb,xCall,xCallN,argsD,argD,ioIx,boIx,isOwn,nodupB,disB,xPost_ret,xPost_err,postS,putIo,frzIx,nlR,nlI,nl,nls,Rt.r,permL,tTrue,lcStep,lcTurn,lcAdd,gN,gT,gsNil,gsCons,DL.forget,back,xSeq,seqOf,xEnum,xRng1,xRng2,xRng3,xLstI,xTupI,sPar,noSlot,putRs,sTup,xMut,ownL,mApp,mIns,mPop,mPopAt,mExt,mRev,sSub,sAug,oNone,oSome,xSl,hSl,hStep,xChain,bind_ok',bind_err,bind_bad,List.set_cons_zero,List.set_cons_succ,List.foldl_cons,List.foldl_nil,List.cons_append,List.nil_append,List.replicate_succ,List.replicate_zero,List.append_nil,List.all_cons,List.all_nil,List.map_cons,List.map_nil,List.length_cons,List.length_nil,List.zip_cons_cons,List.filterMap_cons,List.filterMap_nil,List.getElem?_cons_zero,List.getElem?_cons_succ,List.contains_nil,List.contains_cons,Bool.and_true,Bool.true_and,Bool.and_false,Bool.false_and,Bool.not_true,Bool.not_false,Bool.or_true,Bool.true_or,Bool.or_false,Bool.false_or,if_true,if_false,reduceIte,reduceCtorEq,Nat.reduceSub,Nat.reduceAdd,Nat.reduceEqDiff,Option.map_some,Option.map_none,decide_true,decide_false,↓reduceIte,Bool.false_eq_true,Nat.sub_zero,Nat.sub_self,and_self,and_true,true_and,List.length_map,nls_ints,hEq_int,hNe_int,Ok_ok,OkG_some,EndQ_some,EndP_nx',EndP_rv',EndP_rn',LoopP_nx,LoopP_ct,LoopP_bk,LoopP_rt,lc_ite,xMeth,xZip,sAugS,stIx,sSub2,itemsOf,nlI_dk,sMove,ite_self,Say.d, rest_sl])) l1 (fun a ha acc => by
        rw [List.mem_singleton] at ha
        subst ha
        (simp -implicitDefEqProofs -dsimp only [runF,endF_nx,endF_rv,endF_rn,endF_err,initS,ioOut,sSeq,sNil,sPass,sBreak,sCont,sBad,sExpr,sRet,sRetN,sIf,sSet,putR,frz,frzs,xVal,xVar,getS_0,getS_s,getR,ownD,getRs,xOp1,xOp2,fin,RD.r,aNil,aCons,xCB,xTup,xLst,truth,tOf,tAnds,tOrs,tNots,xIf,xAnd,xOr,xNot,xIsi,isTy,hAdd,hSub,hNeg,hLt,hLe,hGt,hGe,hIs,hIsNot,hIx,hLen,hInt,hAbs,hMax2,hMin2,h1L,hList,hListS,xMethL,hCountL,lcStep2,lcTurn2,lcAdd2,hTuple,vi,vb,xCall,xCallN,argsD,argD,ioIx,boIx,isOwn,nodupB,disB,xPost_ret,xPost_err,postS,putIo,frzIx,nlR,nlI,nl,nls,Rt.r,permL,tTrue,lcStep,lcTurn,lcAdd,gN,gT,gsNil,gsCons,DL.forget,back,xSeq,seqOf,xEnum,xRng1,xRng2,xRng3,xLstI,xTupI,sPar,noSlot,putRs,sTup,xMut,ownL,mApp,mIns,mPop,mPopAt,mExt,mRev,sSub,sAug,oNone,oSome,xSl,hSl,hStep,xChain,bind_ok',bind_err,bind_bad,List.set_cons_zero,List.set_cons_succ,List.foldl_cons,List.foldl_nil,List.cons_append,List.nil_append,List.replicate_succ,List.replicate_zero,List.append_nil,List.all_cons,List.all_nil,List.map_cons,List.map_nil,List.length_cons,List.length_nil,List.zip_cons_cons,List.filterMap_cons,List.filterMap_nil,List.getElem?_cons_zero,List.getElem?_cons_succ,List.contains_nil,List.contains_cons,Bool.and_true,Bool.true_and,Bool.and_false,Bool.false_and,Bool.not_true,Bool.not_false,Bool.or_true,Bool.true_or,Bool.or_false,Bool.false_or,if_true,if_false,reduceIte,reduceCtorEq,Nat.reduceSub,Nat.reduceAdd,Nat.reduceEqDiff,Option.map_some,Option.map_none,decide_true,decide_false,↓reduceIte,Bool.false_eq_true,Nat.sub_zero,Nat.sub_self,and_self,and_true,true_and,List.length_map,nls_ints,hEq_int,hNe_int,Ok_ok,OkG_some,EndQ_some,EndP_nx',EndP_rv',EndP_rn',LoopP_nx,LoopP_ct,LoopP_bk,LoopP_rt,lc_ite,xMeth,xZip,sAugS,stIx,sSub2,itemsOf,nlI_dk,sMove,ite_self,ih]))]
      rfl
    rw [show (Say.one w s).d = .tuple [.str w.nm, s.d] from rfl] at elc
    (simp -implicitDefEqProofs -dsimp only [runF,endF_nx,endF_rv,endF_rn,endF_err,initS,ioOut,sSeq,sNil,sPass,sBreak,sCont,sBad,sExpr,sRet,sRetN,sIf,sSet,putR,frz,frzs,xVal,xVar,getS_0,getS_s,getR,ownD,getRs,xOp1,xOp2,fin,RD.r,aNil,aCons,xCB,xTup,xLst,truth,tOf,tAnds,tOrs,tNots,xIf,xAnd,xOr,xNot,xIsi,isTy,hAdd,hSub,hNeg,hLt,hLe,hGt,hGe,hIs,hIsNot,hIx,hLen,hInt,hAbs,hMax2,hMin2,h1L,hList,hListS,xMethL,hCountL,lcStep2,lcTurn2,lcAdd2,hTuple,vi,vb,xCall,xCallN,argsD,argD,ioIx,boIx,isOwn,nodupB,disB,xPost_ret,xPost_err,postS,putIo,frzIx,nlR,nlI,nl,nls,Rt.r,permL,tTrue,lcStep,lcTurn,lcAdd,gN,gT,gsNil,gsCons,DL.forget,back,xSeq,seqOf,xEnum,xRng1,xRng2,xRng3,xLstI,xTupI,sPar,noSlot,putRs,sTup,xMut,ownL,mApp,mIns,mPop,mPopAt,mExt,mRev,sSub,sAug,oNone,oSome,xSl,hSl,hStep,xChain,bind_ok',bind_err,bind_bad,List.set_cons_zero,List.set_cons_succ,List.foldl_cons,List.foldl_nil,List.cons_append,List.nil_append,List.replicate_succ,List.replicate_zero,List.append_nil,List.all_cons,List.all_nil,List.map_cons,List.map_nil,List.length_cons,List.length_nil,List.zip_cons_cons,List.filterMap_cons,List.filterMap_nil,List.getElem?_cons_zero,List.getElem?_cons_succ,List.contains_nil,List.contains_cons,Bool.and_true,Bool.true_and,Bool.and_false,Bool.false_and,Bool.not_true,Bool.not_false,Bool.or_true,Bool.true_or,Bool.or_false,Bool.false_or,if_true,if_false,reduceIte,reduceCtorEq,Nat.reduceSub,Nat.reduceAdd,Nat.reduceEqDiff,Option.map_some,Option.map_none,decide_true,decide_false,↓reduceIte,Bool.false_eq_true,Nat.sub_zero,Nat.sub_self,and_self,and_true,true_and,List.length_map,nls_ints,hEq_int,hNe_int,Ok_ok,OkG_some,EndQ_some,EndP_nx',EndP_rv',EndP_rn',LoopP_nx,LoopP_ct,LoopP_bk,LoopP_rt,lc_ite,xMeth,xZip,sAugS,stIx,sSub2,itemsOf,nlI_dk,sMove,ite_self,xM1, Say.d, elc, atI_0, eq_wl, eq_ws, show 1 + 1 ≤ line from by decide, l2, hj, z1, z2])
    rfl
  | n + 1, .two b s t, hn, h, hd => by
    have hs : max s.dp t.dp + 1 ≤ n + 1 := hd
    have ih := show_saying_eq n s (by omega) h.1 (by omega)
    have ih2 := show_saying_eq n t (by omega) h.2 (by omega)
    have hb := bnd_mono (show n + 1 ≤ 12 by omega)
    have hb2 : bnd (n + 1) = 2 * bnd n + 2500 := rfl
    have hb3 := bnd12
    have t1 := tx_say n s h.1 (by omega)
    have t3 := tx_say n t h.2 (by omega)
    have l1' := t1.len
    have l3' := t3.len
    have l2' := (tx_two b).len
    have hj := hJoin3 (a := twoNm b) (b := sayT s) (c := sayT t) (by omega)
    have t2 := ((tx_two b).app tx_sp1).app ((t1.app tx_sp1).app t3)
    have z1 : lbT.length + (twoNm b ++ sp1 ++ (sayT s ++ sp1 ++ sayT t)).length ≤ line := by have := t2.len; have := tx_lb.len; omega
    have z2 : (lbT ++ (twoNm b ++ sp1 ++ (sayT s ++ sp1 ++ sayT t))).length + rbT.length ≤ line := by have := (tx_lb.app t2).len; have := tx_rb.len; omega
    have e : denN_show_saying (n + 1) = runF [false] 2 (fb_show_saying (denN_show_saying n)) := rfl
    rw [e]
    apply Ret.eq
    apply Ret.run
    have elc : xLc [1] (xSeq (xSl (xVar 0) (oSome (xVal (.int 1))) (oNone))) (gN 1) (tTrue) (xCall [false] (denN_show_saying n) (aCons (xVar 1) (aNil))) [some (.val (Say.two b s t).d), none] = .ok (.new (.list [.str (sayT s), .str (sayT t)]), [some (.val (Say.two b s t).d), none]) := by
      rw [lcA (s := [some (.val (Say.two b s t).d), none]) [s, t] Say.d (fun s => .str (sayT s)) (by (simp -implicitDefEqProofs -dsimp only [runF,endF_nx,endF_rv,endF_rn,endF_err,initS,ioOut,sSeq,sNil,sPass,sBreak,sCont,sBad,sExpr,sRet,sRetN,sIf,sSet,putR,frz,frzs,xVal,xVar,getS_0,getS_s,getR,ownD,getRs,xOp1,xOp2,fin,RD.r,aNil,aCons,xCB,xTup,xLst,truth,tOf,tAnds,tOrs,tNots,xIf,xAnd,xOr,xNot,xIsi,isTy,hAdd,hSub,hNeg,hLt,hLe,hGt,hGe,hIs,hIsNot,hIx,hLen,hInt,hAbs,hMax2,hMin2,h1L,hList,hListS,xMethL,hCountL,lcStep2,lcTurn2,lcAdd2,hTuple,vi,vb,xCall,xCallN,argsD,argD,ioIx,boIx,isOwn,nodupB,disB,xPost_ret,xPost_err,postS,putIo,frzIx,nlR,nlI,nl,nls,Rt.r,permL,tTrue,lcStep,lcTurn,lcAdd,gN,gT,gsNil,gsCons,DL.forget,back,xSeq,seqOf,xEnum,xRng1,xRng2,xRng3,xLstI,xTupI,sPar,noSlot,putRs,sTup,xMut,ownL,mApp,mIns,mPop,mPopAt,mExt,mRev,sSub,sAug,oNone,oSome,xSl,hSl,hStep,xChain,bind_ok',bind_err,bind_bad,List.set_cons_zero,List.set_cons_succ,List.foldl_cons,List.foldl_nil,List.cons_append,List.nil_append,List.replicate_succ,List.replicate_zero,List.append_nil,List.all_cons,List.all_nil,List.map_cons,List.map_nil,List.length_cons,List.length_nil,List.zip_cons_cons,List.filterMap_cons,List.filterMap_nil,List.getElem?_cons_zero,List.getElem?_cons_succ,List.contains_nil,List.contains_cons,Bool.and_true,Bool.true_and,Bool.and_false,Bool.false_and,Bool.not_true,Bool.not_false,Bool.or_true,Bool.true_or,Bool.or_false,Bool.false_or,if_true,if_false,reduceIte,reduceCtorEq,Nat.reduceSub,Nat.reduceAdd,Nat.reduceEqDiff,Option.map_some,Option.map_none,decide_true,decide_false,↓reduceIte,Bool.false_eq_true,Nat.sub_zero,Nat.sub_self,and_self,and_true,true_and,List.length_map,nls_ints,hEq_int,hNe_int,Ok_ok,OkG_some,EndQ_some,EndP_nx',EndP_rv',EndP_rn',LoopP_nx,LoopP_ct,LoopP_bk,LoopP_rt,lc_ite,xMeth,xZip,sAugS,stIx,sSub2,itemsOf,nlI_dk,sMove,ite_self,Say.d, rest_sl])) l2 (fun a ha acc => by
        rcases List.mem_cons.mp ha with rfl | ha
        · (simp -implicitDefEqProofs -dsimp only [runF,endF_nx,endF_rv,endF_rn,endF_err,initS,ioOut,sSeq,sNil,sPass,sBreak,sCont,sBad,sExpr,sRet,sRetN,sIf,sSet,putR,frz,frzs,xVal,xVar,getS_0,getS_s,getR,ownD,getRs,xOp1,xOp2,fin,RD.r,aNil,aCons,xCB,xTup,xLst,truth,tOf,tAnds,tOrs,tNots,xIf,xAnd,xOr,xNot,xIsi,isTy,hAdd,hSub,hNeg,hLt,hLe,hGt,hGe,hIs,hIsNot,hIx,hLen,hInt,hAbs,hMax2,hMin2,h1L,hList,hListS,xMethL,hCountL,lcStep2,lcTurn2,lcAdd2,hTuple,vi,vb,xCall,xCallN,argsD,argD,ioIx,boIx,isOwn,nodupB,disB,xPost_ret,xPost_err,postS,putIo,frzIx,nlR,nlI,nl,nls,Rt.r,permL,tTrue,lcStep,lcTurn,lcAdd,gN,gT,gsNil,gsCons,DL.forget,back,xSeq,seqOf,xEnum,xRng1,xRng2,xRng3,xLstI,xTupI,sPar,noSlot,putRs,sTup,xMut,ownL,mApp,mIns,mPop,mPopAt,mExt,mRev,sSub,sAug,oNone,oSome,xSl,hSl,hStep,xChain,bind_ok',bind_err,bind_bad,List.set_cons_zero,List.set_cons_succ,List.foldl_cons,List.foldl_nil,List.cons_append,List.nil_append,List.replicate_succ,List.replicate_zero,List.append_nil,List.all_cons,List.all_nil,List.map_cons,List.map_nil,List.length_cons,List.length_nil,List.zip_cons_cons,List.filterMap_cons,List.filterMap_nil,List.getElem?_cons_zero,List.getElem?_cons_succ,List.contains_nil,List.contains_cons,Bool.and_true,Bool.true_and,Bool.and_false,Bool.false_and,Bool.not_true,Bool.not_false,Bool.or_true,Bool.true_or,Bool.or_false,Bool.false_or,if_true,if_false,reduceIte,reduceCtorEq,Nat.reduceSub,Nat.reduceAdd,Nat.reduceEqDiff,Option.map_some,Option.map_none,decide_true,decide_false,↓reduceIte,Bool.false_eq_true,Nat.sub_zero,Nat.sub_self,and_self,and_true,true_and,List.length_map,nls_ints,hEq_int,hNe_int,Ok_ok,OkG_some,EndQ_some,EndP_nx',EndP_rv',EndP_rn',LoopP_nx,LoopP_ct,LoopP_bk,LoopP_rt,lc_ite,xMeth,xZip,sAugS,stIx,sSub2,itemsOf,nlI_dk,sMove,ite_self,ih])
        · rw [List.mem_singleton] at ha
          subst ha
          (simp -implicitDefEqProofs -dsimp only [runF,endF_nx,endF_rv,endF_rn,endF_err,initS,ioOut,sSeq,sNil,sPass,sBreak,sCont,sBad,sExpr,sRet,sRetN,sIf,sSet,putR,frz,frzs,xVal,xVar,getS_0,getS_s,getR,ownD,getRs,xOp1,xOp2,fin,RD.r,aNil,aCons,xCB,xTup,xLst,truth,tOf,tAnds,tOrs,tNots,xIf,xAnd,xOr,xNot,xIsi,isTy,hAdd,hSub,hNeg,hLt,hLe,hGt,hGe,hIs,hIsNot,hIx,hLen,hInt,hAbs,hMax2,hMin2,h1L,hList,hListS,xMethL,hCountL,lcStep2,lcTurn2,lcAdd2,hTuple,vi,vb,xCall,xCallN,argsD,argD,ioIx,boIx,isOwn,nodupB,disB,xPost_ret,xPost_err,postS,putIo,frzIx,nlR,nlI,nl,nls,Rt.r,permL,tTrue,lcStep,lcTurn,lcAdd,gN,gT,gsNil,gsCons,DL.forget,back,xSeq,seqOf,xEnum,xRng1,xRng2,xRng3,xLstI,xTupI,sPar,noSlot,putRs,sTup,xMut,ownL,mApp,mIns,mPop,mPopAt,mExt,mRev,sSub,sAug,oNone,oSome,xSl,hSl,hStep,xChain,bind_ok',bind_err,bind_bad,List.set_cons_zero,List.set_cons_succ,List.foldl_cons,List.foldl_nil,List.cons_append,List.nil_append,List.replicate_succ,List.replicate_zero,List.append_nil,List.all_cons,List.all_nil,List.map_cons,List.map_nil,List.length_cons,List.length_nil,List.zip_cons_cons,List.filterMap_cons,List.filterMap_nil,List.getElem?_cons_zero,List.getElem?_cons_succ,List.contains_nil,List.contains_cons,Bool.and_true,Bool.true_and,Bool.and_false,Bool.false_and,Bool.not_true,Bool.not_false,Bool.or_true,Bool.true_or,Bool.or_false,Bool.false_or,if_true,if_false,reduceIte,reduceCtorEq,Nat.reduceSub,Nat.reduceAdd,Nat.reduceEqDiff,Option.map_some,Option.map_none,decide_true,decide_false,↓reduceIte,Bool.false_eq_true,Nat.sub_zero,Nat.sub_self,and_self,and_true,true_and,List.length_map,nls_ints,hEq_int,hNe_int,Ok_ok,OkG_some,EndQ_some,EndP_nx',EndP_rv',EndP_rn',LoopP_nx,LoopP_ct,LoopP_bk,LoopP_rt,lc_ite,xMeth,xZip,sAugS,stIx,sSub2,itemsOf,nlI_dk,sMove,ite_self,ih2]))]
      rfl
    rw [show (Say.two b s t).d = .tuple [.str (twoNm b), s.d, t.d] from rfl] at elc
    (simp -implicitDefEqProofs -dsimp only [runF,endF_nx,endF_rv,endF_rn,endF_err,initS,ioOut,sSeq,sNil,sPass,sBreak,sCont,sBad,sExpr,sRet,sRetN,sIf,sSet,putR,frz,frzs,xVal,xVar,getS_0,getS_s,getR,ownD,getRs,xOp1,xOp2,fin,RD.r,aNil,aCons,xCB,xTup,xLst,truth,tOf,tAnds,tOrs,tNots,xIf,xAnd,xOr,xNot,xIsi,isTy,hAdd,hSub,hNeg,hLt,hLe,hGt,hGe,hIs,hIsNot,hIx,hLen,hInt,hAbs,hMax2,hMin2,h1L,hList,hListS,xMethL,hCountL,lcStep2,lcTurn2,lcAdd2,hTuple,vi,vb,xCall,xCallN,argsD,argD,ioIx,boIx,isOwn,nodupB,disB,xPost_ret,xPost_err,postS,putIo,frzIx,nlR,nlI,nl,nls,Rt.r,permL,tTrue,lcStep,lcTurn,lcAdd,gN,gT,gsNil,gsCons,DL.forget,back,xSeq,seqOf,xEnum,xRng1,xRng2,xRng3,xLstI,xTupI,sPar,noSlot,putRs,sTup,xMut,ownL,mApp,mIns,mPop,mPopAt,mExt,mRev,sSub,sAug,oNone,oSome,xSl,hSl,hStep,xChain,bind_ok',bind_err,bind_bad,List.set_cons_zero,List.set_cons_succ,List.foldl_cons,List.foldl_nil,List.cons_append,List.nil_append,List.replicate_succ,List.replicate_zero,List.append_nil,List.all_cons,List.all_nil,List.map_cons,List.map_nil,List.length_cons,List.length_nil,List.zip_cons_cons,List.filterMap_cons,List.filterMap_nil,List.getElem?_cons_zero,List.getElem?_cons_succ,List.contains_nil,List.contains_cons,Bool.and_true,Bool.true_and,Bool.and_false,Bool.false_and,Bool.not_true,Bool.not_false,Bool.or_true,Bool.true_or,Bool.or_false,Bool.false_or,if_true,if_false,reduceIte,reduceCtorEq,Nat.reduceSub,Nat.reduceAdd,Nat.reduceEqDiff,Option.map_some,Option.map_none,decide_true,decide_false,↓reduceIte,Bool.false_eq_true,Nat.sub_zero,Nat.sub_self,and_self,and_true,true_and,List.length_map,nls_ints,hEq_int,hNe_int,Ok_ok,OkG_some,EndQ_some,EndP_nx',EndP_rv',EndP_rn',LoopP_nx,LoopP_ct,LoopP_bk,LoopP_rt,lc_ite,xMeth,xZip,sAugS,stIx,sSub2,itemsOf,nlI_dk,sMove,ite_self,xM1, Say.d, elc, atI_0, eq_tl, eq_ts, show 1 + 2 ≤ line from by decide, show 3 ≤ line from by decide, hj, z1, z2])
    rfl
theorem said_saying_eq : ∀ (n : Nat) (s : Say), n ≤ 12 → s.tx → s.dp ≤ n → denN_law_said_saying n [s.d] = .ret (.val (.str (sayT s))) []
  | 0, s, _, _, h => by have := s.dp_pos; omega
  | n + 1, .lst L, hn, h, _ => by
    have hL := Say.smallL h
    have z1 : lsA.length + (listT L).length ≤ line := by have := tx_lsA.len; have := (tx_list hL).len; unfold line; omega
    have z2 : (lsA ++ listT L).length + lsB.length ≤ line := by have := (tx_lsA.app (tx_list hL)).len; have := tx_lsB.len; unfold line; omega
    have e : denN_law_said_saying (n + 1) = runF [false] 2 (fb_law_said_saying (denN_law_said_saying n)) := rfl
    rw [e]
    apply Ret.eq
    apply Ret.run
    (simp -implicitDefEqProofs -dsimp only [runF,endF_nx,endF_rv,endF_rn,endF_err,initS,ioOut,sSeq,sNil,sPass,sBreak,sCont,sBad,sExpr,sRet,sRetN,sIf,sSet,putR,frz,frzs,xVal,xVar,getS_0,getS_s,getR,ownD,getRs,xOp1,xOp2,fin,RD.r,aNil,aCons,xCB,xTup,xLst,truth,tOf,tAnds,tOrs,tNots,xIf,xAnd,xOr,xNot,xIsi,isTy,hAdd,hSub,hNeg,hLt,hLe,hGt,hGe,hIs,hIsNot,hIx,hLen,hInt,hAbs,hMax2,hMin2,h1L,hList,hListS,xMethL,hCountL,lcStep2,lcTurn2,lcAdd2,hTuple,vi,vb,xCall,xCallN,argsD,argD,ioIx,boIx,isOwn,nodupB,disB,xPost_ret,xPost_err,postS,putIo,frzIx,nlR,nlI,nl,nls,Rt.r,permL,tTrue,lcStep,lcTurn,lcAdd,gN,gT,gsNil,gsCons,DL.forget,back,xSeq,seqOf,xEnum,xRng1,xRng2,xRng3,xLstI,xTupI,sPar,noSlot,putRs,sTup,xMut,ownL,mApp,mIns,mPop,mPopAt,mExt,mRev,sSub,sAug,oNone,oSome,xSl,hSl,hStep,xChain,bind_ok',bind_err,bind_bad,List.set_cons_zero,List.set_cons_succ,List.foldl_cons,List.foldl_nil,List.cons_append,List.nil_append,List.replicate_succ,List.replicate_zero,List.append_nil,List.all_cons,List.all_nil,List.map_cons,List.map_nil,List.length_cons,List.length_nil,List.zip_cons_cons,List.filterMap_cons,List.filterMap_nil,List.getElem?_cons_zero,List.getElem?_cons_succ,List.contains_nil,List.contains_cons,Bool.and_true,Bool.true_and,Bool.and_false,Bool.false_and,Bool.not_true,Bool.not_false,Bool.or_true,Bool.true_or,Bool.or_false,Bool.false_or,if_true,if_false,reduceIte,reduceCtorEq,Nat.reduceSub,Nat.reduceAdd,Nat.reduceEqDiff,Option.map_some,Option.map_none,decide_true,decide_false,↓reduceIte,Bool.false_eq_true,Nat.sub_zero,Nat.sub_self,and_self,and_true,true_and,List.length_map,nls_ints,hEq_int,hNe_int,Ok_ok,OkG_some,EndQ_some,EndP_nx',EndP_rv',EndP_rn',LoopP_nx,LoopP_ct,LoopP_bk,LoopP_rt,lc_ite,xMeth,xZip,sAugS,stIx,sSub2,itemsOf,nlI_dk,sMove,ite_self,Say.d, atI_0, atI_1, eq_ll, said_list_eq hL, z1, z2])
    rfl
  | n + 1, .srt k, hn, h, _ => by
    have z1 : srA.length + k.nm.length ≤ line := by have := tx_srA.len; have := (tx_sorter k).len; unfold line; omega
    have z2 : (srA ++ k.nm).length + rbT.length ≤ line := by have := (tx_srA.app (tx_sorter k)).len; have := tx_rb.len; unfold line; omega
    have e : denN_law_said_saying (n + 1) = runF [false] 2 (fb_law_said_saying (denN_law_said_saying n)) := rfl
    rw [e]
    apply Ret.eq
    apply Ret.run
    (simp -implicitDefEqProofs -dsimp only [runF,endF_nx,endF_rv,endF_rn,endF_err,initS,ioOut,sSeq,sNil,sPass,sBreak,sCont,sBad,sExpr,sRet,sRetN,sIf,sSet,putR,frz,frzs,xVal,xVar,getS_0,getS_s,getR,ownD,getRs,xOp1,xOp2,fin,RD.r,aNil,aCons,xCB,xTup,xLst,truth,tOf,tAnds,tOrs,tNots,xIf,xAnd,xOr,xNot,xIsi,isTy,hAdd,hSub,hNeg,hLt,hLe,hGt,hGe,hIs,hIsNot,hIx,hLen,hInt,hAbs,hMax2,hMin2,h1L,hList,hListS,xMethL,hCountL,lcStep2,lcTurn2,lcAdd2,hTuple,vi,vb,xCall,xCallN,argsD,argD,ioIx,boIx,isOwn,nodupB,disB,xPost_ret,xPost_err,postS,putIo,frzIx,nlR,nlI,nl,nls,Rt.r,permL,tTrue,lcStep,lcTurn,lcAdd,gN,gT,gsNil,gsCons,DL.forget,back,xSeq,seqOf,xEnum,xRng1,xRng2,xRng3,xLstI,xTupI,sPar,noSlot,putRs,sTup,xMut,ownL,mApp,mIns,mPop,mPopAt,mExt,mRev,sSub,sAug,oNone,oSome,xSl,hSl,hStep,xChain,bind_ok',bind_err,bind_bad,List.set_cons_zero,List.set_cons_succ,List.foldl_cons,List.foldl_nil,List.cons_append,List.nil_append,List.replicate_succ,List.replicate_zero,List.append_nil,List.all_cons,List.all_nil,List.map_cons,List.map_nil,List.length_cons,List.length_nil,List.zip_cons_cons,List.filterMap_cons,List.filterMap_nil,List.getElem?_cons_zero,List.getElem?_cons_succ,List.contains_nil,List.contains_cons,Bool.and_true,Bool.true_and,Bool.and_false,Bool.false_and,Bool.not_true,Bool.not_false,Bool.or_true,Bool.true_or,Bool.or_false,Bool.false_or,if_true,if_false,reduceIte,reduceCtorEq,Nat.reduceSub,Nat.reduceAdd,Nat.reduceEqDiff,Option.map_some,Option.map_none,decide_true,decide_false,↓reduceIte,Bool.false_eq_true,Nat.sub_zero,Nat.sub_self,and_self,and_true,true_and,List.length_map,nls_ints,hEq_int,hNe_int,Ok_ok,OkG_some,EndQ_some,EndP_nx',EndP_rv',EndP_rn',LoopP_nx,LoopP_ct,LoopP_bk,LoopP_rt,lc_ite,xMeth,xZip,sAugS,stIx,sSub2,itemsOf,nlI_dk,sMove,ite_self,Say.d, atI_0, atI_1, eq_sl, eq_ss, z1, z2])
    rfl
  | n + 1, .one w s, hn, h, hd => by
    have hs : s.dp ≤ n := by have : s.dp + 1 ≤ n + 1 := hd; omega
    have ih := said_saying_eq n s (by omega) h hs
    have hb := bnd_mono (show n + 1 ≤ 12 by omega)
    have hb2 : bnd (n + 1) = 2 * bnd n + 2500 := rfl
    have hb3 := bnd12
    have t1 := tx_say n s h hs
    have l1' := t1.len
    have l2' := (tx_wnm w).len
    have hj := hJoin2 (a := w.nm) (b := sayT s) (by omega)
    have t2 := ((tx_wnm w).app tx_sp1).app t1
    have z1 : lbT.length + (w.nm ++ sp1 ++ sayT s).length ≤ line := by have := t2.len; have := tx_lb.len; omega
    have z2 : (lbT ++ (w.nm ++ sp1 ++ sayT s)).length + rbT.length ≤ line := by have := (tx_lb.app t2).len; have := tx_rb.len; omega
    have e : denN_law_said_saying (n + 1) = runF [false] 2 (fb_law_said_saying (denN_law_said_saying n)) := rfl
    rw [e]
    apply Ret.eq
    apply Ret.run
    have elc : xLc [1] (xSeq (xSl (xVar 0) (oSome (xVal (.int 1))) (oNone))) (gN 1) (tTrue) (xCall [false] (denN_law_said_saying n) (aCons (xVar 1) (aNil))) [some (.val (Say.one w s).d), none] = .ok (.new (.list [.str (sayT s)]), [some (.val (Say.one w s).d), none]) := by
      rw [lcA (s := [some (.val (Say.one w s).d), none]) [s] Say.d (fun s => .str (sayT s)) (by (simp -implicitDefEqProofs -dsimp only [runF,endF_nx,endF_rv,endF_rn,endF_err,initS,ioOut,sSeq,sNil,sPass,sBreak,sCont,sBad,sExpr,sRet,sRetN,sIf,sSet,putR,frz,frzs,xVal,xVar,getS_0,getS_s,getR,ownD,getRs,xOp1,xOp2,fin,RD.r,aNil,aCons,xCB,xTup,xLst,truth,tOf,tAnds,tOrs,tNots,xIf,xAnd,xOr,xNot,xIsi,isTy,hAdd,hSub,hNeg,hLt,hLe,hGt,hGe,hIs,hIsNot,hIx,hLen,hInt,hAbs,hMax2,hMin2,h1L,hList,hListS,xMethL,hCountL,lcStep2,lcTurn2,lcAdd2,hTuple,vi,vb,xCall,xCallN,argsD,argD,ioIx,boIx,isOwn,nodupB,disB,xPost_ret,xPost_err,postS,putIo,frzIx,nlR,nlI,nl,nls,Rt.r,permL,tTrue,lcStep,lcTurn,lcAdd,gN,gT,gsNil,gsCons,DL.forget,back,xSeq,seqOf,xEnum,xRng1,xRng2,xRng3,xLstI,xTupI,sPar,noSlot,putRs,sTup,xMut,ownL,mApp,mIns,mPop,mPopAt,mExt,mRev,sSub,sAug,oNone,oSome,xSl,hSl,hStep,xChain,bind_ok',bind_err,bind_bad,List.set_cons_zero,List.set_cons_succ,List.foldl_cons,List.foldl_nil,List.cons_append,List.nil_append,List.replicate_succ,List.replicate_zero,List.append_nil,List.all_cons,List.all_nil,List.map_cons,List.map_nil,List.length_cons,List.length_nil,List.zip_cons_cons,List.filterMap_cons,List.filterMap_nil,List.getElem?_cons_zero,List.getElem?_cons_succ,List.contains_nil,List.contains_cons,Bool.and_true,Bool.true_and,Bool.and_false,Bool.false_and,Bool.not_true,Bool.not_false,Bool.or_true,Bool.true_or,Bool.or_false,Bool.false_or,if_true,if_false,reduceIte,reduceCtorEq,Nat.reduceSub,Nat.reduceAdd,Nat.reduceEqDiff,Option.map_some,Option.map_none,decide_true,decide_false,↓reduceIte,Bool.false_eq_true,Nat.sub_zero,Nat.sub_self,and_self,and_true,true_and,List.length_map,nls_ints,hEq_int,hNe_int,Ok_ok,OkG_some,EndQ_some,EndP_nx',EndP_rv',EndP_rn',LoopP_nx,LoopP_ct,LoopP_bk,LoopP_rt,lc_ite,xMeth,xZip,sAugS,stIx,sSub2,itemsOf,nlI_dk,sMove,ite_self,Say.d, rest_sl])) l1 (fun a ha acc => by
        rw [List.mem_singleton] at ha
        subst ha
        (simp -implicitDefEqProofs -dsimp only [runF,endF_nx,endF_rv,endF_rn,endF_err,initS,ioOut,sSeq,sNil,sPass,sBreak,sCont,sBad,sExpr,sRet,sRetN,sIf,sSet,putR,frz,frzs,xVal,xVar,getS_0,getS_s,getR,ownD,getRs,xOp1,xOp2,fin,RD.r,aNil,aCons,xCB,xTup,xLst,truth,tOf,tAnds,tOrs,tNots,xIf,xAnd,xOr,xNot,xIsi,isTy,hAdd,hSub,hNeg,hLt,hLe,hGt,hGe,hIs,hIsNot,hIx,hLen,hInt,hAbs,hMax2,hMin2,h1L,hList,hListS,xMethL,hCountL,lcStep2,lcTurn2,lcAdd2,hTuple,vi,vb,xCall,xCallN,argsD,argD,ioIx,boIx,isOwn,nodupB,disB,xPost_ret,xPost_err,postS,putIo,frzIx,nlR,nlI,nl,nls,Rt.r,permL,tTrue,lcStep,lcTurn,lcAdd,gN,gT,gsNil,gsCons,DL.forget,back,xSeq,seqOf,xEnum,xRng1,xRng2,xRng3,xLstI,xTupI,sPar,noSlot,putRs,sTup,xMut,ownL,mApp,mIns,mPop,mPopAt,mExt,mRev,sSub,sAug,oNone,oSome,xSl,hSl,hStep,xChain,bind_ok',bind_err,bind_bad,List.set_cons_zero,List.set_cons_succ,List.foldl_cons,List.foldl_nil,List.cons_append,List.nil_append,List.replicate_succ,List.replicate_zero,List.append_nil,List.all_cons,List.all_nil,List.map_cons,List.map_nil,List.length_cons,List.length_nil,List.zip_cons_cons,List.filterMap_cons,List.filterMap_nil,List.getElem?_cons_zero,List.getElem?_cons_succ,List.contains_nil,List.contains_cons,Bool.and_true,Bool.true_and,Bool.and_false,Bool.false_and,Bool.not_true,Bool.not_false,Bool.or_true,Bool.true_or,Bool.or_false,Bool.false_or,if_true,if_false,reduceIte,reduceCtorEq,Nat.reduceSub,Nat.reduceAdd,Nat.reduceEqDiff,Option.map_some,Option.map_none,decide_true,decide_false,↓reduceIte,Bool.false_eq_true,Nat.sub_zero,Nat.sub_self,and_self,and_true,true_and,List.length_map,nls_ints,hEq_int,hNe_int,Ok_ok,OkG_some,EndQ_some,EndP_nx',EndP_rv',EndP_rn',LoopP_nx,LoopP_ct,LoopP_bk,LoopP_rt,lc_ite,xMeth,xZip,sAugS,stIx,sSub2,itemsOf,nlI_dk,sMove,ite_self,ih]))]
      rfl
    rw [show (Say.one w s).d = .tuple [.str w.nm, s.d] from rfl] at elc
    (simp -implicitDefEqProofs -dsimp only [runF,endF_nx,endF_rv,endF_rn,endF_err,initS,ioOut,sSeq,sNil,sPass,sBreak,sCont,sBad,sExpr,sRet,sRetN,sIf,sSet,putR,frz,frzs,xVal,xVar,getS_0,getS_s,getR,ownD,getRs,xOp1,xOp2,fin,RD.r,aNil,aCons,xCB,xTup,xLst,truth,tOf,tAnds,tOrs,tNots,xIf,xAnd,xOr,xNot,xIsi,isTy,hAdd,hSub,hNeg,hLt,hLe,hGt,hGe,hIs,hIsNot,hIx,hLen,hInt,hAbs,hMax2,hMin2,h1L,hList,hListS,xMethL,hCountL,lcStep2,lcTurn2,lcAdd2,hTuple,vi,vb,xCall,xCallN,argsD,argD,ioIx,boIx,isOwn,nodupB,disB,xPost_ret,xPost_err,postS,putIo,frzIx,nlR,nlI,nl,nls,Rt.r,permL,tTrue,lcStep,lcTurn,lcAdd,gN,gT,gsNil,gsCons,DL.forget,back,xSeq,seqOf,xEnum,xRng1,xRng2,xRng3,xLstI,xTupI,sPar,noSlot,putRs,sTup,xMut,ownL,mApp,mIns,mPop,mPopAt,mExt,mRev,sSub,sAug,oNone,oSome,xSl,hSl,hStep,xChain,bind_ok',bind_err,bind_bad,List.set_cons_zero,List.set_cons_succ,List.foldl_cons,List.foldl_nil,List.cons_append,List.nil_append,List.replicate_succ,List.replicate_zero,List.append_nil,List.all_cons,List.all_nil,List.map_cons,List.map_nil,List.length_cons,List.length_nil,List.zip_cons_cons,List.filterMap_cons,List.filterMap_nil,List.getElem?_cons_zero,List.getElem?_cons_succ,List.contains_nil,List.contains_cons,Bool.and_true,Bool.true_and,Bool.and_false,Bool.false_and,Bool.not_true,Bool.not_false,Bool.or_true,Bool.true_or,Bool.or_false,Bool.false_or,if_true,if_false,reduceIte,reduceCtorEq,Nat.reduceSub,Nat.reduceAdd,Nat.reduceEqDiff,Option.map_some,Option.map_none,decide_true,decide_false,↓reduceIte,Bool.false_eq_true,Nat.sub_zero,Nat.sub_self,and_self,and_true,true_and,List.length_map,nls_ints,hEq_int,hNe_int,Ok_ok,OkG_some,EndQ_some,EndP_nx',EndP_rv',EndP_rn',LoopP_nx,LoopP_ct,LoopP_bk,LoopP_rt,lc_ite,xMeth,xZip,sAugS,stIx,sSub2,itemsOf,nlI_dk,sMove,ite_self,xM1, Say.d, elc, atI_0, eq_wl, eq_ws, show 1 + 1 ≤ line from by decide, l2, hj, z1, z2])
    rfl
  | n + 1, .two b s t, hn, h, hd => by
    have hs : max s.dp t.dp + 1 ≤ n + 1 := hd
    have ih := said_saying_eq n s (by omega) h.1 (by omega)
    have ih2 := said_saying_eq n t (by omega) h.2 (by omega)
    have hb := bnd_mono (show n + 1 ≤ 12 by omega)
    have hb2 : bnd (n + 1) = 2 * bnd n + 2500 := rfl
    have hb3 := bnd12
    have t1 := tx_say n s h.1 (by omega)
    have t3 := tx_say n t h.2 (by omega)
    have l1' := t1.len
    have l3' := t3.len
    have l2' := (tx_two b).len
    have hj := hJoin3 (a := twoNm b) (b := sayT s) (c := sayT t) (by omega)
    have t2 := ((tx_two b).app tx_sp1).app ((t1.app tx_sp1).app t3)
    have z1 : lbT.length + (twoNm b ++ sp1 ++ (sayT s ++ sp1 ++ sayT t)).length ≤ line := by have := t2.len; have := tx_lb.len; omega
    have z2 : (lbT ++ (twoNm b ++ sp1 ++ (sayT s ++ sp1 ++ sayT t))).length + rbT.length ≤ line := by have := (tx_lb.app t2).len; have := tx_rb.len; omega
    have e : denN_law_said_saying (n + 1) = runF [false] 2 (fb_law_said_saying (denN_law_said_saying n)) := rfl
    rw [e]
    apply Ret.eq
    apply Ret.run
    have elc : xLc [1] (xSeq (xSl (xVar 0) (oSome (xVal (.int 1))) (oNone))) (gN 1) (tTrue) (xCall [false] (denN_law_said_saying n) (aCons (xVar 1) (aNil))) [some (.val (Say.two b s t).d), none] = .ok (.new (.list [.str (sayT s), .str (sayT t)]), [some (.val (Say.two b s t).d), none]) := by
      rw [lcA (s := [some (.val (Say.two b s t).d), none]) [s, t] Say.d (fun s => .str (sayT s)) (by (simp -implicitDefEqProofs -dsimp only [runF,endF_nx,endF_rv,endF_rn,endF_err,initS,ioOut,sSeq,sNil,sPass,sBreak,sCont,sBad,sExpr,sRet,sRetN,sIf,sSet,putR,frz,frzs,xVal,xVar,getS_0,getS_s,getR,ownD,getRs,xOp1,xOp2,fin,RD.r,aNil,aCons,xCB,xTup,xLst,truth,tOf,tAnds,tOrs,tNots,xIf,xAnd,xOr,xNot,xIsi,isTy,hAdd,hSub,hNeg,hLt,hLe,hGt,hGe,hIs,hIsNot,hIx,hLen,hInt,hAbs,hMax2,hMin2,h1L,hList,hListS,xMethL,hCountL,lcStep2,lcTurn2,lcAdd2,hTuple,vi,vb,xCall,xCallN,argsD,argD,ioIx,boIx,isOwn,nodupB,disB,xPost_ret,xPost_err,postS,putIo,frzIx,nlR,nlI,nl,nls,Rt.r,permL,tTrue,lcStep,lcTurn,lcAdd,gN,gT,gsNil,gsCons,DL.forget,back,xSeq,seqOf,xEnum,xRng1,xRng2,xRng3,xLstI,xTupI,sPar,noSlot,putRs,sTup,xMut,ownL,mApp,mIns,mPop,mPopAt,mExt,mRev,sSub,sAug,oNone,oSome,xSl,hSl,hStep,xChain,bind_ok',bind_err,bind_bad,List.set_cons_zero,List.set_cons_succ,List.foldl_cons,List.foldl_nil,List.cons_append,List.nil_append,List.replicate_succ,List.replicate_zero,List.append_nil,List.all_cons,List.all_nil,List.map_cons,List.map_nil,List.length_cons,List.length_nil,List.zip_cons_cons,List.filterMap_cons,List.filterMap_nil,List.getElem?_cons_zero,List.getElem?_cons_succ,List.contains_nil,List.contains_cons,Bool.and_true,Bool.true_and,Bool.and_false,Bool.false_and,Bool.not_true,Bool.not_false,Bool.or_true,Bool.true_or,Bool.or_false,Bool.false_or,if_true,if_false,reduceIte,reduceCtorEq,Nat.reduceSub,Nat.reduceAdd,Nat.reduceEqDiff,Option.map_some,Option.map_none,decide_true,decide_false,↓reduceIte,Bool.false_eq_true,Nat.sub_zero,Nat.sub_self,and_self,and_true,true_and,List.length_map,nls_ints,hEq_int,hNe_int,Ok_ok,OkG_some,EndQ_some,EndP_nx',EndP_rv',EndP_rn',LoopP_nx,LoopP_ct,LoopP_bk,LoopP_rt,lc_ite,xMeth,xZip,sAugS,stIx,sSub2,itemsOf,nlI_dk,sMove,ite_self,Say.d, rest_sl])) l2 (fun a ha acc => by
        rcases List.mem_cons.mp ha with rfl | ha
        · (simp -implicitDefEqProofs -dsimp only [runF,endF_nx,endF_rv,endF_rn,endF_err,initS,ioOut,sSeq,sNil,sPass,sBreak,sCont,sBad,sExpr,sRet,sRetN,sIf,sSet,putR,frz,frzs,xVal,xVar,getS_0,getS_s,getR,ownD,getRs,xOp1,xOp2,fin,RD.r,aNil,aCons,xCB,xTup,xLst,truth,tOf,tAnds,tOrs,tNots,xIf,xAnd,xOr,xNot,xIsi,isTy,hAdd,hSub,hNeg,hLt,hLe,hGt,hGe,hIs,hIsNot,hIx,hLen,hInt,hAbs,hMax2,hMin2,h1L,hList,hListS,xMethL,hCountL,lcStep2,lcTurn2,lcAdd2,hTuple,vi,vb,xCall,xCallN,argsD,argD,ioIx,boIx,isOwn,nodupB,disB,xPost_ret,xPost_err,postS,putIo,frzIx,nlR,nlI,nl,nls,Rt.r,permL,tTrue,lcStep,lcTurn,lcAdd,gN,gT,gsNil,gsCons,DL.forget,back,xSeq,seqOf,xEnum,xRng1,xRng2,xRng3,xLstI,xTupI,sPar,noSlot,putRs,sTup,xMut,ownL,mApp,mIns,mPop,mPopAt,mExt,mRev,sSub,sAug,oNone,oSome,xSl,hSl,hStep,xChain,bind_ok',bind_err,bind_bad,List.set_cons_zero,List.set_cons_succ,List.foldl_cons,List.foldl_nil,List.cons_append,List.nil_append,List.replicate_succ,List.replicate_zero,List.append_nil,List.all_cons,List.all_nil,List.map_cons,List.map_nil,List.length_cons,List.length_nil,List.zip_cons_cons,List.filterMap_cons,List.filterMap_nil,List.getElem?_cons_zero,List.getElem?_cons_succ,List.contains_nil,List.contains_cons,Bool.and_true,Bool.true_and,Bool.and_false,Bool.false_and,Bool.not_true,Bool.not_false,Bool.or_true,Bool.true_or,Bool.or_false,Bool.false_or,if_true,if_false,reduceIte,reduceCtorEq,Nat.reduceSub,Nat.reduceAdd,Nat.reduceEqDiff,Option.map_some,Option.map_none,decide_true,decide_false,↓reduceIte,Bool.false_eq_true,Nat.sub_zero,Nat.sub_self,and_self,and_true,true_and,List.length_map,nls_ints,hEq_int,hNe_int,Ok_ok,OkG_some,EndQ_some,EndP_nx',EndP_rv',EndP_rn',LoopP_nx,LoopP_ct,LoopP_bk,LoopP_rt,lc_ite,xMeth,xZip,sAugS,stIx,sSub2,itemsOf,nlI_dk,sMove,ite_self,ih])
        · rw [List.mem_singleton] at ha
          subst ha
          (simp -implicitDefEqProofs -dsimp only [runF,endF_nx,endF_rv,endF_rn,endF_err,initS,ioOut,sSeq,sNil,sPass,sBreak,sCont,sBad,sExpr,sRet,sRetN,sIf,sSet,putR,frz,frzs,xVal,xVar,getS_0,getS_s,getR,ownD,getRs,xOp1,xOp2,fin,RD.r,aNil,aCons,xCB,xTup,xLst,truth,tOf,tAnds,tOrs,tNots,xIf,xAnd,xOr,xNot,xIsi,isTy,hAdd,hSub,hNeg,hLt,hLe,hGt,hGe,hIs,hIsNot,hIx,hLen,hInt,hAbs,hMax2,hMin2,h1L,hList,hListS,xMethL,hCountL,lcStep2,lcTurn2,lcAdd2,hTuple,vi,vb,xCall,xCallN,argsD,argD,ioIx,boIx,isOwn,nodupB,disB,xPost_ret,xPost_err,postS,putIo,frzIx,nlR,nlI,nl,nls,Rt.r,permL,tTrue,lcStep,lcTurn,lcAdd,gN,gT,gsNil,gsCons,DL.forget,back,xSeq,seqOf,xEnum,xRng1,xRng2,xRng3,xLstI,xTupI,sPar,noSlot,putRs,sTup,xMut,ownL,mApp,mIns,mPop,mPopAt,mExt,mRev,sSub,sAug,oNone,oSome,xSl,hSl,hStep,xChain,bind_ok',bind_err,bind_bad,List.set_cons_zero,List.set_cons_succ,List.foldl_cons,List.foldl_nil,List.cons_append,List.nil_append,List.replicate_succ,List.replicate_zero,List.append_nil,List.all_cons,List.all_nil,List.map_cons,List.map_nil,List.length_cons,List.length_nil,List.zip_cons_cons,List.filterMap_cons,List.filterMap_nil,List.getElem?_cons_zero,List.getElem?_cons_succ,List.contains_nil,List.contains_cons,Bool.and_true,Bool.true_and,Bool.and_false,Bool.false_and,Bool.not_true,Bool.not_false,Bool.or_true,Bool.true_or,Bool.or_false,Bool.false_or,if_true,if_false,reduceIte,reduceCtorEq,Nat.reduceSub,Nat.reduceAdd,Nat.reduceEqDiff,Option.map_some,Option.map_none,decide_true,decide_false,↓reduceIte,Bool.false_eq_true,Nat.sub_zero,Nat.sub_self,and_self,and_true,true_and,List.length_map,nls_ints,hEq_int,hNe_int,Ok_ok,OkG_some,EndQ_some,EndP_nx',EndP_rv',EndP_rn',LoopP_nx,LoopP_ct,LoopP_bk,LoopP_rt,lc_ite,xMeth,xZip,sAugS,stIx,sSub2,itemsOf,nlI_dk,sMove,ite_self,ih2]))]
      rfl
    rw [show (Say.two b s t).d = .tuple [.str (twoNm b), s.d, t.d] from rfl] at elc
    (simp -implicitDefEqProofs -dsimp only [runF,endF_nx,endF_rv,endF_rn,endF_err,initS,ioOut,sSeq,sNil,sPass,sBreak,sCont,sBad,sExpr,sRet,sRetN,sIf,sSet,putR,frz,frzs,xVal,xVar,getS_0,getS_s,getR,ownD,getRs,xOp1,xOp2,fin,RD.r,aNil,aCons,xCB,xTup,xLst,truth,tOf,tAnds,tOrs,tNots,xIf,xAnd,xOr,xNot,xIsi,isTy,hAdd,hSub,hNeg,hLt,hLe,hGt,hGe,hIs,hIsNot,hIx,hLen,hInt,hAbs,hMax2,hMin2,h1L,hList,hListS,xMethL,hCountL,lcStep2,lcTurn2,lcAdd2,hTuple,vi,vb,xCall,xCallN,argsD,argD,ioIx,boIx,isOwn,nodupB,disB,xPost_ret,xPost_err,postS,putIo,frzIx,nlR,nlI,nl,nls,Rt.r,permL,tTrue,lcStep,lcTurn,lcAdd,gN,gT,gsNil,gsCons,DL.forget,back,xSeq,seqOf,xEnum,xRng1,xRng2,xRng3,xLstI,xTupI,sPar,noSlot,putRs,sTup,xMut,ownL,mApp,mIns,mPop,mPopAt,mExt,mRev,sSub,sAug,oNone,oSome,xSl,hSl,hStep,xChain,bind_ok',bind_err,bind_bad,List.set_cons_zero,List.set_cons_succ,List.foldl_cons,List.foldl_nil,List.cons_append,List.nil_append,List.replicate_succ,List.replicate_zero,List.append_nil,List.all_cons,List.all_nil,List.map_cons,List.map_nil,List.length_cons,List.length_nil,List.zip_cons_cons,List.filterMap_cons,List.filterMap_nil,List.getElem?_cons_zero,List.getElem?_cons_succ,List.contains_nil,List.contains_cons,Bool.and_true,Bool.true_and,Bool.and_false,Bool.false_and,Bool.not_true,Bool.not_false,Bool.or_true,Bool.true_or,Bool.or_false,Bool.false_or,if_true,if_false,reduceIte,reduceCtorEq,Nat.reduceSub,Nat.reduceAdd,Nat.reduceEqDiff,Option.map_some,Option.map_none,decide_true,decide_false,↓reduceIte,Bool.false_eq_true,Nat.sub_zero,Nat.sub_self,and_self,and_true,true_and,List.length_map,nls_ints,hEq_int,hNe_int,Ok_ok,OkG_some,EndQ_some,EndP_nx',EndP_rv',EndP_rn',LoopP_nx,LoopP_ct,LoopP_bk,LoopP_rt,lc_ite,xMeth,xZip,sAugS,stIx,sSub2,itemsOf,nlI_dk,sMove,ite_self,xM1, Say.d, elc, atI_0, eq_tl, eq_ts, show 1 + 2 ≤ line from by decide, show 3 ≤ line from by decide, hj, z1, z2])
    rfl
end DLS

set_option exponentiation.threshold 3000
namespace DLS
open Evl (Ex)
open PySem PySem.Spec PyProof.Rows L2 DL TL
/-! numbers -/
theorem power_eq (n : Nat) (hn : n ≤ 400) : den_law_power [.int (n : Int)] = .ret (.val (.int ((10 ^ n : Nat) : Int))) [] := by
  have hr1 : rg1Ok (n : Int) = true := rg1Ok_of (by omega)
  have hn1 : (n : Int).toNat = n := Int.toNat_natCast n
  have hmu : ∀ z : Int, hMul (.int z) (.int 10) = some (.val (.int (z * 10))) := fun z => hMul_r (by decide)
  apply Ret.eq
  apply Ret.run
  (simp -implicitDefEqProofs -dsimp only [runF,endF_nx,endF_rv,endF_rn,endF_err,initS,ioOut,sSeq,sNil,sPass,sBreak,sCont,sBad,sExpr,sRet,sRetN,sIf,sSet,putR,frz,frzs,xVal,xVar,getS_0,getS_s,getR,ownD,getRs,xOp1,xOp2,fin,RD.r,aNil,aCons,xCB,xTup,xLst,truth,tOf,tAnds,tOrs,tNots,xIf,xAnd,xOr,xNot,xIsi,isTy,hAdd,hSub,hNeg,hLt,hLe,hGt,hGe,hIs,hIsNot,hIx,hLen,hInt,hAbs,hMax2,hMin2,h1L,hList,hListS,xMethL,hCountL,lcStep2,lcTurn2,lcAdd2,hTuple,vi,vb,xCall,xCallN,argsD,argD,ioIx,boIx,isOwn,nodupB,disB,xPost_ret,xPost_err,postS,putIo,frzIx,nlR,nlI,nl,nls,Rt.r,permL,tTrue,lcStep,lcTurn,lcAdd,gN,gT,gsNil,gsCons,DL.forget,back,xSeq,seqOf,xEnum,xRng1,xRng2,xRng3,xLstI,xTupI,sPar,noSlot,putRs,sTup,xMut,ownL,mApp,mIns,mPop,mPopAt,mExt,mRev,sSub,sAug,oNone,oSome,xSl,hSl,hStep,xChain,bind_ok',bind_err,bind_bad,List.set_cons_zero,List.set_cons_succ,List.foldl_cons,List.foldl_nil,List.cons_append,List.nil_append,List.replicate_succ,List.replicate_zero,List.append_nil,List.all_cons,List.all_nil,List.map_cons,List.map_nil,List.length_cons,List.length_nil,List.zip_cons_cons,List.filterMap_cons,List.filterMap_nil,List.getElem?_cons_zero,List.getElem?_cons_succ,List.contains_nil,List.contains_cons,Bool.and_true,Bool.true_and,Bool.and_false,Bool.false_and,Bool.not_true,Bool.not_false,Bool.or_true,Bool.true_or,Bool.or_false,Bool.false_or,if_true,if_false,reduceIte,reduceCtorEq,Nat.reduceSub,Nat.reduceAdd,Nat.reduceEqDiff,Option.map_some,Option.map_none,decide_true,decide_false,↓reduceIte,Bool.false_eq_true,Nat.sub_zero,Nat.sub_self,and_self,and_true,true_and,List.length_map,nls_ints,hEq_int,hNe_int,Ok_ok,OkG_some,EndQ_some,EndP_nx',EndP_rv',EndP_rn',LoopP_nx,LoopP_ct,LoopP_bk,LoopP_rt,lc_ite,xMeth,xZip,sAugS,stIx,sSub2,itemsOf,nlI_dk,sMove,ite_self])
  refine Ok.bind (Ok.forR 0 n (fun i s => ∃ o : Option Sl, s = [some (.val (.int (n : Int))), some (.val (.int ((10 ^ i : Nat) : Int))), o]) (by ((simp -implicitDefEqProofs -dsimp only [runF,endF_nx,endF_rv,endF_rn,endF_err,initS,ioOut,sSeq,sNil,sPass,sBreak,sCont,sBad,sExpr,sRet,sRetN,sIf,sSet,putR,frz,frzs,xVal,xVar,getS_0,getS_s,getR,ownD,getRs,xOp1,xOp2,fin,RD.r,aNil,aCons,xCB,xTup,xLst,truth,tOf,tAnds,tOrs,tNots,xIf,xAnd,xOr,xNot,xIsi,isTy,hAdd,hSub,hNeg,hLt,hLe,hGt,hGe,hIs,hIsNot,hIx,hLen,hInt,hAbs,hMax2,hMin2,h1L,hList,hListS,xMethL,hCountL,lcStep2,lcTurn2,lcAdd2,hTuple,vi,vb,xCall,xCallN,argsD,argD,ioIx,boIx,isOwn,nodupB,disB,xPost_ret,xPost_err,postS,putIo,frzIx,nlR,nlI,nl,nls,Rt.r,permL,tTrue,lcStep,lcTurn,lcAdd,gN,gT,gsNil,gsCons,DL.forget,back,xSeq,seqOf,xEnum,xRng1,xRng2,xRng3,xLstI,xTupI,sPar,noSlot,putRs,sTup,xMut,ownL,mApp,mIns,mPop,mPopAt,mExt,mRev,sSub,sAug,oNone,oSome,xSl,hSl,hStep,xChain,bind_ok',bind_err,bind_bad,List.set_cons_zero,List.set_cons_succ,List.foldl_cons,List.foldl_nil,List.cons_append,List.nil_append,List.replicate_succ,List.replicate_zero,List.append_nil,List.all_cons,List.all_nil,List.map_cons,List.map_nil,List.length_cons,List.length_nil,List.zip_cons_cons,List.filterMap_cons,List.filterMap_nil,List.getElem?_cons_zero,List.getElem?_cons_succ,List.contains_nil,List.contains_cons,Bool.and_true,Bool.true_and,Bool.and_false,Bool.false_and,Bool.not_true,Bool.not_false,Bool.or_true,Bool.true_or,Bool.or_false,Bool.false_or,if_true,if_false,reduceIte,reduceCtorEq,Nat.reduceSub,Nat.reduceAdd,Nat.reduceEqDiff,Option.map_some,Option.map_none,decide_true,decide_false,↓reduceIte,Bool.false_eq_true,Nat.sub_zero,Nat.sub_self,and_self,and_true,true_and,List.length_map,nls_ints,hEq_int,hNe_int,Ok_ok,OkG_some,EndQ_some,EndP_nx',EndP_rv',EndP_rn',LoopP_nx,LoopP_ct,LoopP_bk,LoopP_rt,lc_ite,xMeth,xZip,sAugS,stIx,sSub2,itemsOf,nlI_dk,sMove,ite_self,hr1, hn1]) <;> rfl)) ⟨none, rfl⟩ ?_ ?_)
  · rintro i hi _ ⟨o, rfl⟩
    (simp -implicitDefEqProofs -dsimp only [runF,endF_nx,endF_rv,endF_rn,endF_err,initS,ioOut,sSeq,sNil,sPass,sBreak,sCont,sBad,sExpr,sRet,sRetN,sIf,sSet,putR,frz,frzs,xVal,xVar,getS_0,getS_s,getR,ownD,getRs,xOp1,xOp2,fin,RD.r,aNil,aCons,xCB,xTup,xLst,truth,tOf,tAnds,tOrs,tNots,xIf,xAnd,xOr,xNot,xIsi,isTy,hAdd,hSub,hNeg,hLt,hLe,hGt,hGe,hIs,hIsNot,hIx,hLen,hInt,hAbs,hMax2,hMin2,h1L,hList,hListS,xMethL,hCountL,lcStep2,lcTurn2,lcAdd2,hTuple,vi,vb,xCall,xCallN,argsD,argD,ioIx,boIx,isOwn,nodupB,disB,xPost_ret,xPost_err,postS,putIo,frzIx,nlR,nlI,nl,nls,Rt.r,permL,tTrue,lcStep,lcTurn,lcAdd,gN,gT,gsNil,gsCons,DL.forget,back,xSeq,seqOf,xEnum,xRng1,xRng2,xRng3,xLstI,xTupI,sPar,noSlot,putRs,sTup,xMut,ownL,mApp,mIns,mPop,mPopAt,mExt,mRev,sSub,sAug,oNone,oSome,xSl,hSl,hStep,xChain,bind_ok',bind_err,bind_bad,List.set_cons_zero,List.set_cons_succ,List.foldl_cons,List.foldl_nil,List.cons_append,List.nil_append,List.replicate_succ,List.replicate_zero,List.append_nil,List.all_cons,List.all_nil,List.map_cons,List.map_nil,List.length_cons,List.length_nil,List.zip_cons_cons,List.filterMap_cons,List.filterMap_nil,List.getElem?_cons_zero,List.getElem?_cons_succ,List.contains_nil,List.contains_cons,Bool.and_true,Bool.true_and,Bool.and_false,Bool.false_and,Bool.not_true,Bool.not_false,Bool.or_true,Bool.true_or,Bool.or_false,Bool.false_or,if_true,if_false,reduceIte,reduceCtorEq,Nat.reduceSub,Nat.reduceAdd,Nat.reduceEqDiff,Option.map_some,Option.map_none,decide_true,decide_false,↓reduceIte,Bool.false_eq_true,Nat.sub_zero,Nat.sub_self,and_self,and_true,true_and,List.length_map,nls_ints,hEq_int,hNe_int,Ok_ok,OkG_some,EndQ_some,EndP_nx',EndP_rv',EndP_rn',LoopP_nx,LoopP_ct,LoopP_bk,LoopP_rt,lc_ite,xMeth,xZip,sAugS,stIx,sSub2,itemsOf,nlI_dk,sMove,ite_self,hmu])
    exact ⟨_, by rw [Nat.pow_succ]; rfl⟩
  · rintro _ ⟨o, rfl⟩
    (simp -implicitDefEqProofs -dsimp only [runF,endF_nx,endF_rv,endF_rn,endF_err,initS,ioOut,sSeq,sNil,sPass,sBreak,sCont,sBad,sExpr,sRet,sRetN,sIf,sSet,putR,frz,frzs,xVal,xVar,getS_0,getS_s,getR,ownD,getRs,xOp1,xOp2,fin,RD.r,aNil,aCons,xCB,xTup,xLst,truth,tOf,tAnds,tOrs,tNots,xIf,xAnd,xOr,xNot,xIsi,isTy,hAdd,hSub,hNeg,hLt,hLe,hGt,hGe,hIs,hIsNot,hIx,hLen,hInt,hAbs,hMax2,hMin2,h1L,hList,hListS,xMethL,hCountL,lcStep2,lcTurn2,lcAdd2,hTuple,vi,vb,xCall,xCallN,argsD,argD,ioIx,boIx,isOwn,nodupB,disB,xPost_ret,xPost_err,postS,putIo,frzIx,nlR,nlI,nl,nls,Rt.r,permL,tTrue,lcStep,lcTurn,lcAdd,gN,gT,gsNil,gsCons,DL.forget,back,xSeq,seqOf,xEnum,xRng1,xRng2,xRng3,xLstI,xTupI,sPar,noSlot,putRs,sTup,xMut,ownL,mApp,mIns,mPop,mPopAt,mExt,mRev,sSub,sAug,oNone,oSome,xSl,hSl,hStep,xChain,bind_ok',bind_err,bind_bad,List.set_cons_zero,List.set_cons_succ,List.foldl_cons,List.foldl_nil,List.cons_append,List.nil_append,List.replicate_succ,List.replicate_zero,List.append_nil,List.all_cons,List.all_nil,List.map_cons,List.map_nil,List.length_cons,List.length_nil,List.zip_cons_cons,List.filterMap_cons,List.filterMap_nil,List.getElem?_cons_zero,List.getElem?_cons_succ,List.contains_nil,List.contains_cons,Bool.and_true,Bool.true_and,Bool.and_false,Bool.false_and,Bool.not_true,Bool.not_false,Bool.or_true,Bool.true_or,Bool.or_false,Bool.false_or,if_true,if_false,reduceIte,reduceCtorEq,Nat.reduceSub,Nat.reduceAdd,Nat.reduceEqDiff,Option.map_some,Option.map_none,decide_true,decide_false,↓reduceIte,Bool.false_eq_true,Nat.sub_zero,Nat.sub_self,and_self,and_true,true_and,List.length_map,nls_ints,hEq_int,hNe_int,Ok_ok,OkG_some,EndQ_some,EndP_nx',EndP_rv',EndP_rn',LoopP_nx,LoopP_ct,LoopP_bk,LoopP_rt,lc_ite,xMeth,xZip,sAugS,stIx,sSub2,itemsOf,nlI_dk,sMove,ite_self])
theorem log_pow {n k : Nat} (h : n ≤ 2 * 10 ^ k) (hk : k ≤ 300) : n.log2 < 1000 := by
  refine log2_of (Nat.lt_of_le_of_lt h ?_) (by omega)
  have h1 : 10 ^ k ≤ 10 ^ 300 := Nat.pow_le_pow_right (by omega) hk
  have h2 : 2 * 10 ^ 300 < 2 ^ 1000 := by decide +kernel
  exact Nat.lt_of_le_of_lt (Nat.mul_le_mul_left 2 h1) h2
def BigN (n : Nat) : Prop := n.log2 < 1000
/-- top by bottom in lowest terms: no greater -/
theorem lowest_eq (a : Int) (b : Nat) (hb : 0 < b) (h1 : BigN a.natAbs) (h2 : BigN b) : ∃ (c : Int) (d : Nat), (0 < d ∧ d ≤ b ∧ c.natAbs ≤ a.natAbs) ∧ den_law_lowest [.int a, .int (b : Int)] = .ret (.val (.tuple [.int c, .int (d : Int)])) [] := by
  have key : Ret (den_law_lowest [.int a, .int (b : Int)]) fun r ios => ∃ (c : Int) (d : Nat), (0 < d ∧ d ≤ b ∧ c.natAbs ≤ a.natAbs) ∧ r = .val (.tuple [.int c, .int (d : Int)]) ∧ ios = [] := by
    have ea : (if a < 0 then -a else a) = ((a.natAbs : Nat) : Int) := by split <;> omega
    apply Ret.run
    (simp -implicitDefEqProofs -dsimp only [runF,endF_nx,endF_rv,endF_rn,endF_err,initS,ioOut,sSeq,sNil,sPass,sBreak,sCont,sBad,sExpr,sRet,sRetN,sIf,sSet,putR,frz,frzs,xVal,xVar,getS_0,getS_s,getR,ownD,getRs,xOp1,xOp2,fin,RD.r,aNil,aCons,xCB,xTup,xLst,truth,tOf,tAnds,tOrs,tNots,xIf,xAnd,xOr,xNot,xIsi,isTy,hAdd,hSub,hNeg,hLt,hLe,hGt,hGe,hIs,hIsNot,hIx,hLen,hInt,hAbs,hMax2,hMin2,h1L,hList,hListS,xMethL,hCountL,lcStep2,lcTurn2,lcAdd2,hTuple,vi,vb,xCall,xCallN,argsD,argD,ioIx,boIx,isOwn,nodupB,disB,xPost_ret,xPost_err,postS,putIo,frzIx,nlR,nlI,nl,nls,Rt.r,permL,tTrue,lcStep,lcTurn,lcAdd,gN,gT,gsNil,gsCons,DL.forget,back,xSeq,seqOf,xEnum,xRng1,xRng2,xRng3,xLstI,xTupI,sPar,noSlot,putRs,sTup,xMut,ownL,mApp,mIns,mPop,mPopAt,mExt,mRev,sSub,sAug,oNone,oSome,xSl,hSl,hStep,xChain,bind_ok',bind_err,bind_bad,List.set_cons_zero,List.set_cons_succ,List.foldl_cons,List.foldl_nil,List.cons_append,List.nil_append,List.replicate_succ,List.replicate_zero,List.append_nil,List.all_cons,List.all_nil,List.map_cons,List.map_nil,List.length_cons,List.length_nil,List.zip_cons_cons,List.filterMap_cons,List.filterMap_nil,List.getElem?_cons_zero,List.getElem?_cons_succ,List.contains_nil,List.contains_cons,Bool.and_true,Bool.true_and,Bool.and_false,Bool.false_and,Bool.not_true,Bool.not_false,Bool.or_true,Bool.true_or,Bool.or_false,Bool.false_or,if_true,if_false,reduceIte,reduceCtorEq,Nat.reduceSub,Nat.reduceAdd,Nat.reduceEqDiff,Option.map_some,Option.map_none,decide_true,decide_false,↓reduceIte,Bool.false_eq_true,Nat.sub_zero,Nat.sub_self,and_self,and_true,true_and,List.length_map,nls_ints,hEq_int,hNe_int,Ok_ok,OkG_some,EndQ_some,EndP_nx',EndP_rv',EndP_rn',LoopP_nx,LoopP_ct,LoopP_bk,LoopP_rt,lc_ite,xMeth,xZip,sAugS,stIx,sSub2,itemsOf,nlI_dk,sMove,ite_self,ea])
    have mono : ∀ {x y : Nat}, x ≤ y → BigN y → BigN x := fun {x y} h hy => by
      unfold BigN at hy ⊢
      by_cases h0 : y = 0
      · subst h0
        have : x = 0 := by omega
        subst this; exact hy
      · have := (Nat.log2_lt h0).mp hy
        exact log2_of (Nat.lt_of_le_of_lt h this) (by omega)
    refine Ok.bind (Ok.while (fun m s => ∃ (x y : Nat), BigN x ∧ m = y ∧ (0 < x ∨ 0 < y) ∧ Nat.gcd x y = Nat.gcd a.natAbs b ∧ BigN y ∧ s = [some (.val (.int a)), some (.val (.int (b : Int))), some (.val (.int (x : Int))), some (.val (.int (y : Int)))]) b ⟨a.natAbs, b, h1, rfl, .inr hb, rfl, h2, rfl⟩ ?_)
    rintro y _ ⟨x, _, g1, rfl, g3, g4, g5, rfl⟩
    by_cases hy : y = 0
    · subst hy
      have d0 : decide (((0 : Nat) : Int) = 0) = true := by decide
      have hx : 0 < x := by omega
      rw [Nat.gcd_zero_right] at g4
      have hdv : ∀ z : Int, hDiv (.int z) (.int (x : Int)) = some (.val (.int (z / x))) := fun z => hDiv_g (by omega) (by have : x.log2 < 1000 := g1; simpa using (by omega : x.log2 < 9000))
      have x1 : x ∣ a.natAbs := by rw [g4]; exact Nat.gcd_dvd_left _ _
      have x2 : x ∣ b := by rw [g4]; exact Nat.gcd_dvd_right _ _
      (simp -implicitDefEqProofs -dsimp only [runF,endF_nx,endF_rv,endF_rn,endF_err,initS,ioOut,sSeq,sNil,sPass,sBreak,sCont,sBad,sExpr,sRet,sRetN,sIf,sSet,putR,frz,frzs,xVal,xVar,getS_0,getS_s,getR,ownD,getRs,xOp1,xOp2,fin,RD.r,aNil,aCons,xCB,xTup,xLst,truth,tOf,tAnds,tOrs,tNots,xIf,xAnd,xOr,xNot,xIsi,isTy,hAdd,hSub,hNeg,hLt,hLe,hGt,hGe,hIs,hIsNot,hIx,hLen,hInt,hAbs,hMax2,hMin2,h1L,hList,hListS,xMethL,hCountL,lcStep2,lcTurn2,lcAdd2,hTuple,vi,vb,xCall,xCallN,argsD,argD,ioIx,boIx,isOwn,nodupB,disB,xPost_ret,xPost_err,postS,putIo,frzIx,nlR,nlI,nl,nls,Rt.r,permL,tTrue,lcStep,lcTurn,lcAdd,gN,gT,gsNil,gsCons,DL.forget,back,xSeq,seqOf,xEnum,xRng1,xRng2,xRng3,xLstI,xTupI,sPar,noSlot,putRs,sTup,xMut,ownL,mApp,mIns,mPop,mPopAt,mExt,mRev,sSub,sAug,oNone,oSome,xSl,hSl,hStep,xChain,bind_ok',bind_err,bind_bad,List.set_cons_zero,List.set_cons_succ,List.foldl_cons,List.foldl_nil,List.cons_append,List.nil_append,List.replicate_succ,List.replicate_zero,List.append_nil,List.all_cons,List.all_nil,List.map_cons,List.map_nil,List.length_cons,List.length_nil,List.zip_cons_cons,List.filterMap_cons,List.filterMap_nil,List.getElem?_cons_zero,List.getElem?_cons_succ,List.contains_nil,List.contains_cons,Bool.and_true,Bool.true_and,Bool.and_false,Bool.false_and,Bool.not_true,Bool.not_false,Bool.or_true,Bool.true_or,Bool.or_false,Bool.false_or,if_true,if_false,reduceIte,reduceCtorEq,Nat.reduceSub,Nat.reduceAdd,Nat.reduceEqDiff,Option.map_some,Option.map_none,decide_true,decide_false,↓reduceIte,Bool.false_eq_true,Nat.sub_zero,Nat.sub_self,and_self,and_true,true_and,List.length_map,nls_ints,hEq_int,hNe_int,Ok_ok,OkG_some,EndQ_some,EndP_nx',EndP_rv',EndP_rn',LoopP_nx,LoopP_ct,LoopP_bk,LoopP_rt,lc_ite,xMeth,xZip,sAugS,stIx,sSub2,itemsOf,nlI_dk,sMove,ite_self,d0, hdv])
      refine ⟨a / x, b / x, ⟨Nat.div_pos (Nat.le_of_dvd hb x2) hx, Nat.div_le_self _ _, ?_⟩, rfl⟩
      obtain ⟨c, hc⟩ : (x : Int) ∣ a := Int.ofNat_dvd_left.mpr x1
      subst hc
      rw [Int.mul_ediv_cancel_left _ (by omega), Int.natAbs_mul]
      exact Nat.le_mul_of_pos_left _ (by simpa using hx)
    · have d0 : decide ((y : Int) = 0) = false := decide_eq_false (by omega)
      have hmo : ∀ z : Int, hMod (.int z) (.int (y : Int)) = some (.val (.int (z % y))) := fun z => hMod_p (by omega)
      (simp -implicitDefEqProofs -dsimp only [runF,endF_nx,endF_rv,endF_rn,endF_err,initS,ioOut,sSeq,sNil,sPass,sBreak,sCont,sBad,sExpr,sRet,sRetN,sIf,sSet,putR,frz,frzs,xVal,xVar,getS_0,getS_s,getR,ownD,getRs,xOp1,xOp2,fin,RD.r,aNil,aCons,xCB,xTup,xLst,truth,tOf,tAnds,tOrs,tNots,xIf,xAnd,xOr,xNot,xIsi,isTy,hAdd,hSub,hNeg,hLt,hLe,hGt,hGe,hIs,hIsNot,hIx,hLen,hInt,hAbs,hMax2,hMin2,h1L,hList,hListS,xMethL,hCountL,lcStep2,lcTurn2,lcAdd2,hTuple,vi,vb,xCall,xCallN,argsD,argD,ioIx,boIx,isOwn,nodupB,disB,xPost_ret,xPost_err,postS,putIo,frzIx,nlR,nlI,nl,nls,Rt.r,permL,tTrue,lcStep,lcTurn,lcAdd,gN,gT,gsNil,gsCons,DL.forget,back,xSeq,seqOf,xEnum,xRng1,xRng2,xRng3,xLstI,xTupI,sPar,noSlot,putRs,sTup,xMut,ownL,mApp,mIns,mPop,mPopAt,mExt,mRev,sSub,sAug,oNone,oSome,xSl,hSl,hStep,xChain,bind_ok',bind_err,bind_bad,List.set_cons_zero,List.set_cons_succ,List.foldl_cons,List.foldl_nil,List.cons_append,List.nil_append,List.replicate_succ,List.replicate_zero,List.append_nil,List.all_cons,List.all_nil,List.map_cons,List.map_nil,List.length_cons,List.length_nil,List.zip_cons_cons,List.filterMap_cons,List.filterMap_nil,List.getElem?_cons_zero,List.getElem?_cons_succ,List.contains_nil,List.contains_cons,Bool.and_true,Bool.true_and,Bool.and_false,Bool.false_and,Bool.not_true,Bool.not_false,Bool.or_true,Bool.true_or,Bool.or_false,Bool.false_or,if_true,if_false,reduceIte,reduceCtorEq,Nat.reduceSub,Nat.reduceAdd,Nat.reduceEqDiff,Option.map_some,Option.map_none,decide_true,decide_false,↓reduceIte,Bool.false_eq_true,Nat.sub_zero,Nat.sub_self,and_self,and_true,true_and,List.length_map,nls_ints,hEq_int,hNe_int,Ok_ok,OkG_some,EndQ_some,EndP_nx',EndP_rv',EndP_rn',LoopP_nx,LoopP_ct,LoopP_bk,LoopP_rt,lc_ite,xMeth,xZip,sAugS,stIx,sSub2,itemsOf,nlI_dk,sMove,ite_self,d0, hmo])
      refine ⟨x % y, Nat.mod_lt _ (by omega), y, x % y, g5, rfl, .inl (by omega), ?_, mono (Nat.mod_le _ _) g1, rfl⟩
      rw [Nat.gcd_comm y, ← Nat.gcd_rec, Nat.gcd_comm, g4]
  obtain ⟨_, _, e, c, d, h1, rfl, rfl⟩ := key
  exact ⟨c, d, h1, e⟩
structure Num where
  top : Int
  bot : Nat
  h1 : top.natAbs.log2 < 1000
  h2 : bot.log2 < 1000
abbrev Num.d (a : Num) : D := .tuple [.int a.top, .int (a.bot : Int)]
def intT (a : Int) : PySem.Str := Str.ofString (toString a)
theorem hStr_int {a : Int} (h : a.natAbs.log2 < 1000) : hStr [.int a] = some (.val (.str (intT a))) := by
  show (if a.natAbs.log2 < 1920 then some (RD.val (.str (intT a))) else none) = _
  rw [if_pos (by omega)]
theorem pow_le : (2 : Nat) ^ 1000 ≤ 10 ^ 302 := by decide +kernel
theorem small_of {n : Nat} (h : n.log2 < 1000) : n < 10 ^ 302 := by
  by_cases h0 : n = 0
  · subst h0; exact Nat.pow_pos (by omega)
  · exact Nat.lt_of_lt_of_le ((Nat.log2_lt h0).mp h) pow_le
theorem tx_intT {a : Int} (h : a.natAbs.log2 < 1000) : Tx 303 (intT a) := by
  have hs := small_of h
  refine ⟨fun c hc => ?_, ?_⟩
  · apply Classical.byContradiction
    intro hn
    exact int_text_free' c ⟨by omega, by omega⟩ a hc
  · cases a with
    | ofNat n => exact Nat.le_trans (tx_num (n := n) (k := 302) (by omega) hs).len (by omega)
    | negSucc n =>
      have h1 := (tx_num (n := n + 1) (k := 302) (by omega) hs).len
      have h2 : (numT (n + 1)).length = (toString ((n + 1 : Nat) : Int)).length := PySem.ofString_length _
      have h3 : (intT (Int.negSucc n)).length = (toString (Int.negSucc n)).length := PySem.ofString_length _
      have h4 : toString (Int.negSucc n) = "-" ++ toString ((n + 1 : Nat) : Int) := rfl
      rw [h3, h4, String.length_append, ← h2]
      show 1 + _ ≤ 303
      omega
abbrev slT : PySem.Str := Str.ofString "/"
theorem tx_sl : Tx 1 slT := tx_lit (by decide +kernel) (by decide +kernel)
def numberT (a : Num) : PySem.Str := if a.bot = 1 then intT a.top else intT a.top ++ slT ++ numT a.bot
theorem tx_bot (a : Num) : Tx 302 (numT a.bot) := tx_num (by omega) (small_of a.h2)
theorem num_len (a : Num) : (intT a.top).length + slT.length ≤ line ∧ (intT a.top ++ slT).length + (numT a.bot).length ≤ line := by
  have h1 := (tx_intT a.h1).len
  have h2 := tx_sl.len
  have h3 := ((tx_intT a.h1).app tx_sl).len
  have h4 := (tx_bot a).len
  unfold line
  omega
theorem tx_number (a : Num) : Tx 700 (numberT a) := by
  unfold numberT
  split
  · exact (tx_intT a.h1).mono (by omega)
  · exact (((tx_intT a.h1).app tx_sl).app (tx_bot a)).mono (by omega)
theorem show_number_eq (a : Num) : den_show_number [a.d] = .ret (.val (.str (numberT a))) [] := by
  obtain ⟨z1, z2⟩ := num_len a
  have e1 := hStr_int a.h1
  have e2 := hStr_num (n := a.bot) (by have := a.h2; omega)
  apply Ret.eq
  apply Ret.run
  by_cases hb : a.bot = 1
  · have d : decide ((a.bot : Int) = 1) = true := decide_eq_true (by omega)
    (simp -implicitDefEqProofs -dsimp only [runF,endF_nx,endF_rv,endF_rn,endF_err,initS,ioOut,sSeq,sNil,sPass,sBreak,sCont,sBad,sExpr,sRet,sRetN,sIf,sSet,putR,frz,frzs,xVal,xVar,getS_0,getS_s,getR,ownD,getRs,xOp1,xOp2,fin,RD.r,aNil,aCons,xCB,xTup,xLst,truth,tOf,tAnds,tOrs,tNots,xIf,xAnd,xOr,xNot,xIsi,isTy,hAdd,hSub,hNeg,hLt,hLe,hGt,hGe,hIs,hIsNot,hIx,hLen,hInt,hAbs,hMax2,hMin2,h1L,hList,hListS,xMethL,hCountL,lcStep2,lcTurn2,lcAdd2,hTuple,vi,vb,xCall,xCallN,argsD,argD,ioIx,boIx,isOwn,nodupB,disB,xPost_ret,xPost_err,postS,putIo,frzIx,nlR,nlI,nl,nls,Rt.r,permL,tTrue,lcStep,lcTurn,lcAdd,gN,gT,gsNil,gsCons,DL.forget,back,xSeq,seqOf,xEnum,xRng1,xRng2,xRng3,xLstI,xTupI,sPar,noSlot,putRs,sTup,xMut,ownL,mApp,mIns,mPop,mPopAt,mExt,mRev,sSub,sAug,oNone,oSome,xSl,hSl,hStep,xChain,bind_ok',bind_err,bind_bad,List.set_cons_zero,List.set_cons_succ,List.foldl_cons,List.foldl_nil,List.cons_append,List.nil_append,List.replicate_succ,List.replicate_zero,List.append_nil,List.all_cons,List.all_nil,List.map_cons,List.map_nil,List.length_cons,List.length_nil,List.zip_cons_cons,List.filterMap_cons,List.filterMap_nil,List.getElem?_cons_zero,List.getElem?_cons_succ,List.contains_nil,List.contains_cons,Bool.and_true,Bool.true_and,Bool.and_false,Bool.false_and,Bool.not_true,Bool.not_false,Bool.or_true,Bool.true_or,Bool.or_false,Bool.false_or,if_true,if_false,reduceIte,reduceCtorEq,Nat.reduceSub,Nat.reduceAdd,Nat.reduceEqDiff,Option.map_some,Option.map_none,decide_true,decide_false,↓reduceIte,Bool.false_eq_true,Nat.sub_zero,Nat.sub_self,and_self,and_true,true_and,List.length_map,nls_ints,hEq_int,hNe_int,Ok_ok,OkG_some,EndQ_some,EndP_nx',EndP_rv',EndP_rn',LoopP_nx,LoopP_ct,LoopP_bk,LoopP_rt,lc_ite,xMeth,xZip,sAugS,stIx,sSub2,itemsOf,nlI_dk,sMove,ite_self,d, e1])
    unfold numberT
    rw [if_pos hb]
  · have d : decide ((a.bot : Int) = 1) = false := decide_eq_false (by omega)
    (simp -implicitDefEqProofs -dsimp only [runF,endF_nx,endF_rv,endF_rn,endF_err,initS,ioOut,sSeq,sNil,sPass,sBreak,sCont,sBad,sExpr,sRet,sRetN,sIf,sSet,putR,frz,frzs,xVal,xVar,getS_0,getS_s,getR,ownD,getRs,xOp1,xOp2,fin,RD.r,aNil,aCons,xCB,xTup,xLst,truth,tOf,tAnds,tOrs,tNots,xIf,xAnd,xOr,xNot,xIsi,isTy,hAdd,hSub,hNeg,hLt,hLe,hGt,hGe,hIs,hIsNot,hIx,hLen,hInt,hAbs,hMax2,hMin2,h1L,hList,hListS,xMethL,hCountL,lcStep2,lcTurn2,lcAdd2,hTuple,vi,vb,xCall,xCallN,argsD,argD,ioIx,boIx,isOwn,nodupB,disB,xPost_ret,xPost_err,postS,putIo,frzIx,nlR,nlI,nl,nls,Rt.r,permL,tTrue,lcStep,lcTurn,lcAdd,gN,gT,gsNil,gsCons,DL.forget,back,xSeq,seqOf,xEnum,xRng1,xRng2,xRng3,xLstI,xTupI,sPar,noSlot,putRs,sTup,xMut,ownL,mApp,mIns,mPop,mPopAt,mExt,mRev,sSub,sAug,oNone,oSome,xSl,hSl,hStep,xChain,bind_ok',bind_err,bind_bad,List.set_cons_zero,List.set_cons_succ,List.foldl_cons,List.foldl_nil,List.cons_append,List.nil_append,List.replicate_succ,List.replicate_zero,List.append_nil,List.all_cons,List.all_nil,List.map_cons,List.map_nil,List.length_cons,List.length_nil,List.zip_cons_cons,List.filterMap_cons,List.filterMap_nil,List.getElem?_cons_zero,List.getElem?_cons_succ,List.contains_nil,List.contains_cons,Bool.and_true,Bool.true_and,Bool.and_false,Bool.false_and,Bool.not_true,Bool.not_false,Bool.or_true,Bool.true_or,Bool.or_false,Bool.false_or,if_true,if_false,reduceIte,reduceCtorEq,Nat.reduceSub,Nat.reduceAdd,Nat.reduceEqDiff,Option.map_some,Option.map_none,decide_true,decide_false,↓reduceIte,Bool.false_eq_true,Nat.sub_zero,Nat.sub_self,and_self,and_true,true_and,List.length_map,nls_ints,hEq_int,hNe_int,Ok_ok,OkG_some,EndQ_some,EndP_nx',EndP_rv',EndP_rn',LoopP_nx,LoopP_ct,LoopP_bk,LoopP_rt,lc_ite,xMeth,xZip,sAugS,stIx,sSub2,itemsOf,nlI_dk,sMove,ite_self,d, e1, e2, z1, z2])
    unfold numberT
    rw [if_neg hb]
theorem number_eq (x : Wl) (hc : x.c + 100 < capC) : ∃ (a : Num) (y : Wl), y.c ≤ x.c + 10 ∧ den_law_number [x.d] = .ret (.val a.d) [y.d] := by
  have key : Ret (den_law_number [x.d]) fun r ios => ∃ (a : Num) (y : Wl), y.c ≤ x.c + 10 ∧ r = .val a.d ∧ ios = [y.d] := by
    obtain ⟨u, y1, hu, g1, e1⟩ := drawV x 3 (by omega) (by omega)
    have e1 : den_law_draw [x.d, .int 3] = .ret (.val (.int (u : Int))) [y1.d] := e1
    obtain ⟨m, hm, a1⟩ : ∃ m : Nat, (1 ≤ m ∧ m ≤ 299) ∧ atI [PyData.int 2, .int 9, .int 299] (u : Int) = some (.int (m : Int)) := by
      obtain ⟨e, h, he⟩ := at3 (.int 2) (.int 9) (.int 299) u hu
      rcases h with rfl | rfl | rfl
      · exact ⟨2, by omega, he⟩
      · exact ⟨9, by omega, he⟩
      · exact ⟨299, by omega, he⟩
    obtain ⟨v, y2, hv, g2, e2⟩ := drawV y1 m (by omega) (by omega)
    have c1 : (1 : Int) + (v : Int) = ((1 + v : Nat) : Int) := by omega
    have ep := power_eq (1 + v) (by omega)
    obtain ⟨P, hP⟩ : ∃ P : Nat, P = 10 ^ (1 + v) := ⟨_, rfl⟩
    have hP0 : 1 ≤ P := by rw [hP]; exact Nat.pow_pos (by omega)
    have hlog : ∀ n, n ≤ 2 * P → n.log2 < 1000 := fun n h => log_pow (k := 1 + v) (by rw [← hP]; exact h) (by omega)
    rw [← hP] at ep
    clear hP
    have hmu : hMul (.int 2) (.int (P : Int)) = some (.val (.int ((2 * P : Nat) : Int))) := hMul_l (by decide)
    obtain ⟨⟨t1, t2⟩, e3⟩ := drawG y2 (2 * P) ⟨by omega, by have := hlog (2 * P) (Nat.le_refl _); omega⟩ (by omega)
    generalize y2.tk (2 * P) = t at t1 e3
    generalize y2.nx (2 * P) = y3 at t2 e3
    obtain ⟨⟨w1, w2⟩, e4⟩ := drawG y3 P ⟨by omega, by have := hlog P (by omega); omega⟩ (by omega)
    generalize y3.tk P = w at w1 e4
    generalize y3.nx P = y4 at w2 e4
    obtain ⟨z, y5, hz, g5, e5⟩ := drawV y4 2 (by omega) (by omega)
    have e5 : den_law_draw [y4.d, .int 2] = .ret (.val (.int (z : Int))) [y5.d] := e5
    obtain ⟨q, hq, a2⟩ : ∃ q : Nat, q < P ∧ atI [PyData.int 0, .int (w : Int)] (z : Int) = some (.int (q : Int)) := by
      have : z = 0 ∨ z = 1 := by omega
      rcases this with rfl | rfl
      · exact ⟨0, by omega, atI_0 _ _⟩
      · exact ⟨w, w1, atI_1 _ _ _⟩
    have c2 : (1 : Int) + (q : Int) = ((1 + q : Nat) : Int) := by omega
    obtain ⟨c, d, ⟨k1, k2, k3⟩, e6⟩ := lowest_eq ((t : Int) - (P : Int)) (1 + q) (by omega) (hlog _ (by omega)) (hlog _ (by omega))
    apply Ret.run
    (simp -implicitDefEqProofs -dsimp only [runF,endF_nx,endF_rv,endF_rn,endF_err,initS,ioOut,sSeq,sNil,sPass,sBreak,sCont,sBad,sExpr,sRet,sRetN,sIf,sSet,putR,frz,frzs,xVal,xVar,getS_0,getS_s,getR,ownD,getRs,xOp1,xOp2,fin,RD.r,aNil,aCons,xCB,xTup,xLst,truth,tOf,tAnds,tOrs,tNots,xIf,xAnd,xOr,xNot,xIsi,isTy,hAdd,hSub,hNeg,hLt,hLe,hGt,hGe,hIs,hIsNot,hIx,hLen,hInt,hAbs,hMax2,hMin2,h1L,hList,hListS,xMethL,hCountL,lcStep2,lcTurn2,lcAdd2,hTuple,vi,vb,xCall,xCallN,argsD,argD,ioIx,boIx,isOwn,nodupB,disB,xPost_ret,xPost_err,postS,putIo,frzIx,nlR,nlI,nl,nls,Rt.r,permL,tTrue,lcStep,lcTurn,lcAdd,gN,gT,gsNil,gsCons,DL.forget,back,xSeq,seqOf,xEnum,xRng1,xRng2,xRng3,xLstI,xTupI,sPar,noSlot,putRs,sTup,xMut,ownL,mApp,mIns,mPop,mPopAt,mExt,mRev,sSub,sAug,oNone,oSome,xSl,hSl,hStep,xChain,bind_ok',bind_err,bind_bad,List.set_cons_zero,List.set_cons_succ,List.foldl_cons,List.foldl_nil,List.cons_append,List.nil_append,List.replicate_succ,List.replicate_zero,List.append_nil,List.all_cons,List.all_nil,List.map_cons,List.map_nil,List.length_cons,List.length_nil,List.zip_cons_cons,List.filterMap_cons,List.filterMap_nil,List.getElem?_cons_zero,List.getElem?_cons_succ,List.contains_nil,List.contains_cons,Bool.and_true,Bool.true_and,Bool.and_false,Bool.false_and,Bool.not_true,Bool.not_false,Bool.or_true,Bool.true_or,Bool.or_false,Bool.false_or,if_true,if_false,reduceIte,reduceCtorEq,Nat.reduceSub,Nat.reduceAdd,Nat.reduceEqDiff,Option.map_some,Option.map_none,decide_true,decide_false,↓reduceIte,Bool.false_eq_true,Nat.sub_zero,Nat.sub_self,and_self,and_true,true_and,List.length_map,nls_ints,hEq_int,hNe_int,Ok_ok,OkG_some,EndQ_some,EndP_nx',EndP_rv',EndP_rn',LoopP_nx,LoopP_ct,LoopP_bk,LoopP_rt,lc_ite,xMeth,xZip,sAugS,stIx,sSub2,itemsOf,nlI_dk,sMove,ite_self,e1, a1, e2, c1, ep, hmu, e3, e4, e5, a2, c2, e6])
    exact ⟨⟨c, d, hlog _ (by omega), hlog _ (by omega)⟩, y5, by omega, rfl, rfl⟩
  obtain ⟨_, _, e, a, y, h1, rfl, rfl⟩ := key
  exact ⟨a, y, h1, e⟩
end DLS

namespace DLS
open Evl (Ex)
open PySem PySem.Spec PyProof.Rows L2 DL TL
/-! things and their texts -/
structure Rw where
  k : Nat
  d : D
  t : PySem.Str
abbrev Rw.e (r : Rw) : D := .tuple [.int (r.k : Int), r.d, .str r.t]
structure Rw.ok (r : Rw) : Prop where
  sh : ∀ b, den_law_shown [.int (r.k : Int), r.d, .bool b] = .ret (.val (.str r.t)) []
  tx : Tx 16000000 r.t
theorem atN {L : List Nat} {u B : Nat} (hu : u < L.length) (hB : ∀ x ∈ L, x ≤ B) : ∃ m : Nat, (m ∈ L ∧ m ≤ B) ∧ atI (L.map fun n : Nat => PyData.int (n : Int)) (u : Int) = some (.int (m : Int)) :=
  ⟨L[u], ⟨List.getElem_mem hu, hB _ (List.getElem_mem hu)⟩, by rw [atI_nat']; simp [hu]⟩
theorem shown_ord {ns : List Int} (h : SmallO ns) : Rw.ok ⟨0, tI ns, orderT ns⟩ := by
  refine ⟨fun b => ?_, (tx_order h).mono (by omega)⟩
  have e := show_order_eq h
  have d0 : decide (((0 : Nat) : Int) = 0) = true := by decide
  apply Ret.eq
  apply Ret.run
  cases b <;> (simp -implicitDefEqProofs -dsimp only [runF,endF_nx,endF_rv,endF_rn,endF_err,initS,ioOut,sSeq,sNil,sPass,sBreak,sCont,sBad,sExpr,sRet,sRetN,sIf,sSet,putR,frz,frzs,xVal,xVar,getS_0,getS_s,getR,ownD,getRs,xOp1,xOp2,fin,RD.r,aNil,aCons,xCB,xTup,xLst,truth,tOf,tAnds,tOrs,tNots,xIf,xAnd,xOr,xNot,xIsi,isTy,hAdd,hSub,hNeg,hLt,hLe,hGt,hGe,hIs,hIsNot,hIx,hLen,hInt,hAbs,hMax2,hMin2,h1L,hList,hListS,xMethL,hCountL,lcStep2,lcTurn2,lcAdd2,hTuple,vi,vb,xCall,xCallN,argsD,argD,ioIx,boIx,isOwn,nodupB,disB,xPost_ret,xPost_err,postS,putIo,frzIx,nlR,nlI,nl,nls,Rt.r,permL,tTrue,lcStep,lcTurn,lcAdd,gN,gT,gsNil,gsCons,DL.forget,back,xSeq,seqOf,xEnum,xRng1,xRng2,xRng3,xLstI,xTupI,sPar,noSlot,putRs,sTup,xMut,ownL,mApp,mIns,mPop,mPopAt,mExt,mRev,sSub,sAug,oNone,oSome,xSl,hSl,hStep,xChain,bind_ok',bind_err,bind_bad,List.set_cons_zero,List.set_cons_succ,List.foldl_cons,List.foldl_nil,List.cons_append,List.nil_append,List.replicate_succ,List.replicate_zero,List.append_nil,List.all_cons,List.all_nil,List.map_cons,List.map_nil,List.length_cons,List.length_nil,List.zip_cons_cons,List.filterMap_cons,List.filterMap_nil,List.getElem?_cons_zero,List.getElem?_cons_succ,List.contains_nil,List.contains_cons,Bool.and_true,Bool.true_and,Bool.and_false,Bool.false_and,Bool.not_true,Bool.not_false,Bool.or_true,Bool.true_or,Bool.or_false,Bool.false_or,if_true,if_false,reduceIte,reduceCtorEq,Nat.reduceSub,Nat.reduceAdd,Nat.reduceEqDiff,Option.map_some,Option.map_none,decide_true,decide_false,↓reduceIte,Bool.false_eq_true,Nat.sub_zero,Nat.sub_self,and_self,and_true,true_and,List.length_map,nls_ints,hEq_int,hNe_int,Ok_ok,OkG_some,EndQ_some,EndP_nx',EndP_rv',EndP_rn',LoopP_nx,LoopP_ct,LoopP_bk,LoopP_rt,lc_ite,xMeth,xZip,sAugS,stIx,sSub2,itemsOf,nlI_dk,sMove,ite_self,d0, e])
theorem shown_lst {L : List (List Int)} (h : SmallL L) : Rw.ok ⟨1, rowsD L, listT L⟩ := by
  refine ⟨fun b => ?_, (tx_list h).mono (by omega)⟩
  have e := show_list_eq h
  have d0 : decide (((1 : Nat) : Int) = 0) = false := by decide
  have d1 : decide (((1 : Nat) : Int) = 1) = true := by decide
  apply Ret.eq
  apply Ret.run
  cases b <;> (simp -implicitDefEqProofs -dsimp only [runF,endF_nx,endF_rv,endF_rn,endF_err,initS,ioOut,sSeq,sNil,sPass,sBreak,sCont,sBad,sExpr,sRet,sRetN,sIf,sSet,putR,frz,frzs,xVal,xVar,getS_0,getS_s,getR,ownD,getRs,xOp1,xOp2,fin,RD.r,aNil,aCons,xCB,xTup,xLst,truth,tOf,tAnds,tOrs,tNots,xIf,xAnd,xOr,xNot,xIsi,isTy,hAdd,hSub,hNeg,hLt,hLe,hGt,hGe,hIs,hIsNot,hIx,hLen,hInt,hAbs,hMax2,hMin2,h1L,hList,hListS,xMethL,hCountL,lcStep2,lcTurn2,lcAdd2,hTuple,vi,vb,xCall,xCallN,argsD,argD,ioIx,boIx,isOwn,nodupB,disB,xPost_ret,xPost_err,postS,putIo,frzIx,nlR,nlI,nl,nls,Rt.r,permL,tTrue,lcStep,lcTurn,lcAdd,gN,gT,gsNil,gsCons,DL.forget,back,xSeq,seqOf,xEnum,xRng1,xRng2,xRng3,xLstI,xTupI,sPar,noSlot,putRs,sTup,xMut,ownL,mApp,mIns,mPop,mPopAt,mExt,mRev,sSub,sAug,oNone,oSome,xSl,hSl,hStep,xChain,bind_ok',bind_err,bind_bad,List.set_cons_zero,List.set_cons_succ,List.foldl_cons,List.foldl_nil,List.cons_append,List.nil_append,List.replicate_succ,List.replicate_zero,List.append_nil,List.all_cons,List.all_nil,List.map_cons,List.map_nil,List.length_cons,List.length_nil,List.zip_cons_cons,List.filterMap_cons,List.filterMap_nil,List.getElem?_cons_zero,List.getElem?_cons_succ,List.contains_nil,List.contains_cons,Bool.and_true,Bool.true_and,Bool.and_false,Bool.false_and,Bool.not_true,Bool.not_false,Bool.or_true,Bool.true_or,Bool.or_false,Bool.false_or,if_true,if_false,reduceIte,reduceCtorEq,Nat.reduceSub,Nat.reduceAdd,Nat.reduceEqDiff,Option.map_some,Option.map_none,decide_true,decide_false,↓reduceIte,Bool.false_eq_true,Nat.sub_zero,Nat.sub_self,and_self,and_true,true_and,List.length_map,nls_ints,hEq_int,hNe_int,Ok_ok,OkG_some,EndQ_some,EndP_nx',EndP_rv',EndP_rn',LoopP_nx,LoopP_ct,LoopP_bk,LoopP_rt,lc_ite,xMeth,xZip,sAugS,stIx,sSub2,itemsOf,nlI_dk,sMove,ite_self,d0, d1, e])
theorem shown_wrd {L : List (Nat × Nat)} (h : SmallW L) : Rw.ok ⟨2, wordD L, wordT L⟩ := by
  refine ⟨fun b => ?_, (tx_word h).mono (by omega)⟩
  have e := show_word_eq h
  have d0 : decide (((2 : Nat) : Int) = 0) = false := by decide
  have d1 : decide (((2 : Nat) : Int) = 1) = false := by decide
  have d2 : decide (((2 : Nat) : Int) = 2) = true := by decide
  apply Ret.eq
  apply Ret.run
  cases b <;> (simp -implicitDefEqProofs -dsimp only [runF,endF_nx,endF_rv,endF_rn,endF_err,initS,ioOut,sSeq,sNil,sPass,sBreak,sCont,sBad,sExpr,sRet,sRetN,sIf,sSet,putR,frz,frzs,xVal,xVar,getS_0,getS_s,getR,ownD,getRs,xOp1,xOp2,fin,RD.r,aNil,aCons,xCB,xTup,xLst,truth,tOf,tAnds,tOrs,tNots,xIf,xAnd,xOr,xNot,xIsi,isTy,hAdd,hSub,hNeg,hLt,hLe,hGt,hGe,hIs,hIsNot,hIx,hLen,hInt,hAbs,hMax2,hMin2,h1L,hList,hListS,xMethL,hCountL,lcStep2,lcTurn2,lcAdd2,hTuple,vi,vb,xCall,xCallN,argsD,argD,ioIx,boIx,isOwn,nodupB,disB,xPost_ret,xPost_err,postS,putIo,frzIx,nlR,nlI,nl,nls,Rt.r,permL,tTrue,lcStep,lcTurn,lcAdd,gN,gT,gsNil,gsCons,DL.forget,back,xSeq,seqOf,xEnum,xRng1,xRng2,xRng3,xLstI,xTupI,sPar,noSlot,putRs,sTup,xMut,ownL,mApp,mIns,mPop,mPopAt,mExt,mRev,sSub,sAug,oNone,oSome,xSl,hSl,hStep,xChain,bind_ok',bind_err,bind_bad,List.set_cons_zero,List.set_cons_succ,List.foldl_cons,List.foldl_nil,List.cons_append,List.nil_append,List.replicate_succ,List.replicate_zero,List.append_nil,List.all_cons,List.all_nil,List.map_cons,List.map_nil,List.length_cons,List.length_nil,List.zip_cons_cons,List.filterMap_cons,List.filterMap_nil,List.getElem?_cons_zero,List.getElem?_cons_succ,List.contains_nil,List.contains_cons,Bool.and_true,Bool.true_and,Bool.and_false,Bool.false_and,Bool.not_true,Bool.not_false,Bool.or_true,Bool.true_or,Bool.or_false,Bool.false_or,if_true,if_false,reduceIte,reduceCtorEq,Nat.reduceSub,Nat.reduceAdd,Nat.reduceEqDiff,Option.map_some,Option.map_none,decide_true,decide_false,↓reduceIte,Bool.false_eq_true,Nat.sub_zero,Nat.sub_self,and_self,and_true,true_and,List.length_map,nls_ints,hEq_int,hNe_int,Ok_ok,OkG_some,EndQ_some,EndP_nx',EndP_rv',EndP_rn',LoopP_nx,LoopP_ct,LoopP_bk,LoopP_rt,lc_ite,xMeth,xZip,sAugS,stIx,sSub2,itemsOf,nlI_dk,sMove,ite_self,d0, d1, d2, e])
theorem shown_mch {m : Mach} (h : m.Ok) : Rw.ok ⟨3, m.d, machT m⟩ := by
  refine ⟨fun b => ?_, (tx_mach h).mono (by omega)⟩
  have e := show_machine_eq h
  have d0 : decide (((3 : Nat) : Int) = 0) = false := by decide
  have d1 : decide (((3 : Nat) : Int) = 1) = false := by decide
  have d2 : decide (((3 : Nat) : Int) = 2) = false := by decide
  have d3 : decide (((3 : Nat) : Int) = 3) = true := by decide
  apply Ret.eq
  apply Ret.run
  cases b <;> (simp -implicitDefEqProofs -dsimp only [runF,endF_nx,endF_rv,endF_rn,endF_err,initS,ioOut,sSeq,sNil,sPass,sBreak,sCont,sBad,sExpr,sRet,sRetN,sIf,sSet,putR,frz,frzs,xVal,xVar,getS_0,getS_s,getR,ownD,getRs,xOp1,xOp2,fin,RD.r,aNil,aCons,xCB,xTup,xLst,truth,tOf,tAnds,tOrs,tNots,xIf,xAnd,xOr,xNot,xIsi,isTy,hAdd,hSub,hNeg,hLt,hLe,hGt,hGe,hIs,hIsNot,hIx,hLen,hInt,hAbs,hMax2,hMin2,h1L,hList,hListS,xMethL,hCountL,lcStep2,lcTurn2,lcAdd2,hTuple,vi,vb,xCall,xCallN,argsD,argD,ioIx,boIx,isOwn,nodupB,disB,xPost_ret,xPost_err,postS,putIo,frzIx,nlR,nlI,nl,nls,Rt.r,permL,tTrue,lcStep,lcTurn,lcAdd,gN,gT,gsNil,gsCons,DL.forget,back,xSeq,seqOf,xEnum,xRng1,xRng2,xRng3,xLstI,xTupI,sPar,noSlot,putRs,sTup,xMut,ownL,mApp,mIns,mPop,mPopAt,mExt,mRev,sSub,sAug,oNone,oSome,xSl,hSl,hStep,xChain,bind_ok',bind_err,bind_bad,List.set_cons_zero,List.set_cons_succ,List.foldl_cons,List.foldl_nil,List.cons_append,List.nil_append,List.replicate_succ,List.replicate_zero,List.append_nil,List.all_cons,List.all_nil,List.map_cons,List.map_nil,List.length_cons,List.length_nil,List.zip_cons_cons,List.filterMap_cons,List.filterMap_nil,List.getElem?_cons_zero,List.getElem?_cons_succ,List.contains_nil,List.contains_cons,Bool.and_true,Bool.true_and,Bool.and_false,Bool.false_and,Bool.not_true,Bool.not_false,Bool.or_true,Bool.true_or,Bool.or_false,Bool.false_or,if_true,if_false,reduceIte,reduceCtorEq,Nat.reduceSub,Nat.reduceAdd,Nat.reduceEqDiff,Option.map_some,Option.map_none,decide_true,decide_false,↓reduceIte,Bool.false_eq_true,Nat.sub_zero,Nat.sub_self,and_self,and_true,true_and,List.length_map,nls_ints,hEq_int,hNe_int,Ok_ok,OkG_some,EndQ_some,EndP_nx',EndP_rv',EndP_rn',LoopP_nx,LoopP_ct,LoopP_bk,LoopP_rt,lc_ite,xMeth,xZip,sAugS,stIx,sSub2,itemsOf,nlI_dk,sMove,ite_self,d0, d1, d2, d3, e])
theorem shown_say {s : Say} (h : s.tx) (hd : s.dp ≤ 12) : Rw.ok ⟨4, s.d, sayT s⟩ := by
  refine ⟨fun b => ?_, (tx_say 12 s h hd).mono (by decide +kernel)⟩
  have e := show_saying_eq 12 s (Nat.le_refl _) h hd
  have d0 : decide (((4 : Nat) : Int) = 0) = false := by decide
  have d1 : decide (((4 : Nat) : Int) = 1) = false := by decide
  have d2 : decide (((4 : Nat) : Int) = 2) = false := by decide
  have d3 : decide (((4 : Nat) : Int) = 3) = false := by decide
  have d4 : decide (((4 : Nat) : Int) = 4) = true := by decide
  apply Ret.eq
  apply Ret.run
  cases b <;> (simp -implicitDefEqProofs -dsimp only [runF,endF_nx,endF_rv,endF_rn,endF_err,initS,ioOut,sSeq,sNil,sPass,sBreak,sCont,sBad,sExpr,sRet,sRetN,sIf,sSet,putR,frz,frzs,xVal,xVar,getS_0,getS_s,getR,ownD,getRs,xOp1,xOp2,fin,RD.r,aNil,aCons,xCB,xTup,xLst,truth,tOf,tAnds,tOrs,tNots,xIf,xAnd,xOr,xNot,xIsi,isTy,hAdd,hSub,hNeg,hLt,hLe,hGt,hGe,hIs,hIsNot,hIx,hLen,hInt,hAbs,hMax2,hMin2,h1L,hList,hListS,xMethL,hCountL,lcStep2,lcTurn2,lcAdd2,hTuple,vi,vb,xCall,xCallN,argsD,argD,ioIx,boIx,isOwn,nodupB,disB,xPost_ret,xPost_err,postS,putIo,frzIx,nlR,nlI,nl,nls,Rt.r,permL,tTrue,lcStep,lcTurn,lcAdd,gN,gT,gsNil,gsCons,DL.forget,back,xSeq,seqOf,xEnum,xRng1,xRng2,xRng3,xLstI,xTupI,sPar,noSlot,putRs,sTup,xMut,ownL,mApp,mIns,mPop,mPopAt,mExt,mRev,sSub,sAug,oNone,oSome,xSl,hSl,hStep,xChain,bind_ok',bind_err,bind_bad,List.set_cons_zero,List.set_cons_succ,List.foldl_cons,List.foldl_nil,List.cons_append,List.nil_append,List.replicate_succ,List.replicate_zero,List.append_nil,List.all_cons,List.all_nil,List.map_cons,List.map_nil,List.length_cons,List.length_nil,List.zip_cons_cons,List.filterMap_cons,List.filterMap_nil,List.getElem?_cons_zero,List.getElem?_cons_succ,List.contains_nil,List.contains_cons,Bool.and_true,Bool.true_and,Bool.and_false,Bool.false_and,Bool.not_true,Bool.not_false,Bool.or_true,Bool.true_or,Bool.or_false,Bool.false_or,if_true,if_false,reduceIte,reduceCtorEq,Nat.reduceSub,Nat.reduceAdd,Nat.reduceEqDiff,Option.map_some,Option.map_none,decide_true,decide_false,↓reduceIte,Bool.false_eq_true,Nat.sub_zero,Nat.sub_self,and_self,and_true,true_and,List.length_map,nls_ints,hEq_int,hNe_int,Ok_ok,OkG_some,EndQ_some,EndP_nx',EndP_rv',EndP_rn',LoopP_nx,LoopP_ct,LoopP_bk,LoopP_rt,lc_ite,xMeth,xZip,sAugS,stIx,sSub2,itemsOf,nlI_dk,sMove,ite_self,d0, d1, d2, d3, d4, e])
theorem shown_num (a : Num) : Rw.ok ⟨5, a.d, numberT a⟩ := by
  refine ⟨fun b => ?_, (tx_number a).mono (by omega)⟩
  have e := show_number_eq a
  have d0 : decide (((5 : Nat) : Int) = 0) = false := by decide
  have d1 : decide (((5 : Nat) : Int) = 1) = false := by decide
  have d2 : decide (((5 : Nat) : Int) = 2) = false := by decide
  have d3 : decide (((5 : Nat) : Int) = 3) = false := by decide
  have d4 : decide (((5 : Nat) : Int) = 4) = false := by decide
  apply Ret.eq
  apply Ret.run
  cases b <;> (simp -implicitDefEqProofs -dsimp only [runF,endF_nx,endF_rv,endF_rn,endF_err,initS,ioOut,sSeq,sNil,sPass,sBreak,sCont,sBad,sExpr,sRet,sRetN,sIf,sSet,putR,frz,frzs,xVal,xVar,getS_0,getS_s,getR,ownD,getRs,xOp1,xOp2,fin,RD.r,aNil,aCons,xCB,xTup,xLst,truth,tOf,tAnds,tOrs,tNots,xIf,xAnd,xOr,xNot,xIsi,isTy,hAdd,hSub,hNeg,hLt,hLe,hGt,hGe,hIs,hIsNot,hIx,hLen,hInt,hAbs,hMax2,hMin2,h1L,hList,hListS,xMethL,hCountL,lcStep2,lcTurn2,lcAdd2,hTuple,vi,vb,xCall,xCallN,argsD,argD,ioIx,boIx,isOwn,nodupB,disB,xPost_ret,xPost_err,postS,putIo,frzIx,nlR,nlI,nl,nls,Rt.r,permL,tTrue,lcStep,lcTurn,lcAdd,gN,gT,gsNil,gsCons,DL.forget,back,xSeq,seqOf,xEnum,xRng1,xRng2,xRng3,xLstI,xTupI,sPar,noSlot,putRs,sTup,xMut,ownL,mApp,mIns,mPop,mPopAt,mExt,mRev,sSub,sAug,oNone,oSome,xSl,hSl,hStep,xChain,bind_ok',bind_err,bind_bad,List.set_cons_zero,List.set_cons_succ,List.foldl_cons,List.foldl_nil,List.cons_append,List.nil_append,List.replicate_succ,List.replicate_zero,List.append_nil,List.all_cons,List.all_nil,List.map_cons,List.map_nil,List.length_cons,List.length_nil,List.zip_cons_cons,List.filterMap_cons,List.filterMap_nil,List.getElem?_cons_zero,List.getElem?_cons_succ,List.contains_nil,List.contains_cons,Bool.and_true,Bool.true_and,Bool.and_false,Bool.false_and,Bool.not_true,Bool.not_false,Bool.or_true,Bool.true_or,Bool.or_false,Bool.false_or,if_true,if_false,reduceIte,reduceCtorEq,Nat.reduceSub,Nat.reduceAdd,Nat.reduceEqDiff,Option.map_some,Option.map_none,decide_true,decide_false,↓reduceIte,Bool.false_eq_true,Nat.sub_zero,Nat.sub_self,and_self,and_true,true_and,List.length_map,nls_ints,hEq_int,hNe_int,Ok_ok,OkG_some,EndQ_some,EndP_nx',EndP_rv',EndP_rn',LoopP_nx,LoopP_ct,LoopP_bk,LoopP_rt,lc_ite,xMeth,xZip,sAugS,stIx,sSub2,itemsOf,nlI_dk,sMove,ite_self,d0, d1, d2, d3, d4, e])
theorem thing_eq (x : Wl) (k : Nat) (hk : k < 5) (hc : x.c + 5000000 < capC) : ∃ (r : Rw) (y : Wl), (r.k = k ∧ r.ok ∧ y.c ≤ x.c + 4200000) ∧ den_law_thing [x.d, .int (k : Int)] = .ret (.val (.tuple [r.d, .str r.t])) [y.d] := by
  have key : Ret (den_law_thing [x.d, .int (k : Int)]) fun r' ios => ∃ (r : Rw) (y : Wl), (r.k = k ∧ r.ok ∧ y.c ≤ x.c + 4200000) ∧ r' = .val (.tuple [r.d, .str r.t]) ∧ ios = [y.d] := by
    apply Ret.run
    have hh : k = 0 ∨ k = 1 ∨ k = 2 ∨ k = 3 ∨ k = 4 := by omega
    rcases hh with rfl | rfl | rfl | rfl | rfl
    · obtain ⟨w, y1, hw, g1, e1⟩ := drawV x 41 (by omega) (by omega)
      have e1 : den_law_draw [x.d, .int 41] = .ret (.val (.int (w : Int))) [y1.d] := e1
      obtain ⟨u, y2, hu, g2, e2⟩ := drawV y1 6 (by omega) (by omega)
      have e2 : den_law_draw [y1.d, .int 6] = .ret (.val (.int (u : Int))) [y2.d] := e2
      obtain ⟨m, hm, a1⟩ := atN (L := [0, 1, 5, 12, 40, w]) (u := u) (B := 40) hu (by
        intro z hz
        simp only [List.mem_cons, List.not_mem_nil, or_false] at hz
        omega)
      have a1 : atI [PyData.int 0, .int 1, .int 5, .int 12, .int 40, .int (w : Int)] (u : Int) = some (.int (m : Int)) := a1
      obtain ⟨ns, y3, ⟨o1, o2, o3⟩, e3⟩ := order3_eq y2 m (by omega) (by omega)
      have hs : SmallO ns := smallO o1 (by omega)
      have d0 : decide (((0 : Nat) : Int) = 0) = true := by decide
      (simp -implicitDefEqProofs -dsimp only [runF,endF_nx,endF_rv,endF_rn,endF_err,initS,ioOut,sSeq,sNil,sPass,sBreak,sCont,sBad,sExpr,sRet,sRetN,sIf,sSet,putR,frz,frzs,xVal,xVar,getS_0,getS_s,getR,ownD,getRs,xOp1,xOp2,fin,RD.r,aNil,aCons,xCB,xTup,xLst,truth,tOf,tAnds,tOrs,tNots,xIf,xAnd,xOr,xNot,xIsi,isTy,hAdd,hSub,hNeg,hLt,hLe,hGt,hGe,hIs,hIsNot,hIx,hLen,hInt,hAbs,hMax2,hMin2,h1L,hList,hListS,xMethL,hCountL,lcStep2,lcTurn2,lcAdd2,hTuple,vi,vb,xCall,xCallN,argsD,argD,ioIx,boIx,isOwn,nodupB,disB,xPost_ret,xPost_err,postS,putIo,frzIx,nlR,nlI,nl,nls,Rt.r,permL,tTrue,lcStep,lcTurn,lcAdd,gN,gT,gsNil,gsCons,DL.forget,back,xSeq,seqOf,xEnum,xRng1,xRng2,xRng3,xLstI,xTupI,sPar,noSlot,putRs,sTup,xMut,ownL,mApp,mIns,mPop,mPopAt,mExt,mRev,sSub,sAug,oNone,oSome,xSl,hSl,hStep,xChain,bind_ok',bind_err,bind_bad,List.set_cons_zero,List.set_cons_succ,List.foldl_cons,List.foldl_nil,List.cons_append,List.nil_append,List.replicate_succ,List.replicate_zero,List.append_nil,List.all_cons,List.all_nil,List.map_cons,List.map_nil,List.length_cons,List.length_nil,List.zip_cons_cons,List.filterMap_cons,List.filterMap_nil,List.getElem?_cons_zero,List.getElem?_cons_succ,List.contains_nil,List.contains_cons,Bool.and_true,Bool.true_and,Bool.and_false,Bool.false_and,Bool.not_true,Bool.not_false,Bool.or_true,Bool.true_or,Bool.or_false,Bool.false_or,if_true,if_false,reduceIte,reduceCtorEq,Nat.reduceSub,Nat.reduceAdd,Nat.reduceEqDiff,Option.map_some,Option.map_none,decide_true,decide_false,↓reduceIte,Bool.false_eq_true,Nat.sub_zero,Nat.sub_self,and_self,and_true,true_and,List.length_map,nls_ints,hEq_int,hNe_int,Ok_ok,OkG_some,EndQ_some,EndP_nx',EndP_rv',EndP_rn',LoopP_nx,LoopP_ct,LoopP_bk,LoopP_rt,lc_ite,xMeth,xZip,sAugS,stIx,sSub2,itemsOf,nlI_dk,sMove,ite_self,d0, e1, e2, a1, e3, said_order_eq hs])
      exact ⟨⟨0, tI ns, orderT ns⟩, y3, ⟨rfl, shown_ord hs, by omega⟩, rfl, rfl⟩
    · obtain ⟨u, y1, hu, g1, e1⟩ := drawV x 4 (by omega) (by omega)
      have e1 : den_law_draw [x.d, .int 4] = .ret (.val (.int (u : Int))) [y1.d] := e1
      obtain ⟨v, y2, hv, g2, e2⟩ := drawV y1 3 (by omega) (by omega)
      have e2 : den_law_draw [y1.d, .int 3] = .ret (.val (.int (v : Int))) [y2.d] := e2
      obtain ⟨M, hM, a1⟩ := atN (L := [0, 1, 4, 20]) (u := u) (B := 20) hu (by decide)
      have a1 : atI [PyData.int 0, .int 1, .int 4, .int 20] (u : Int) = some (.int (M : Int)) := a1
      obtain ⟨T, hT, a2⟩ := atN (L := [5, 5, 40]) (u := v) (B := 40) hv (by decide)
      have a2 : atI [PyData.int 5, .int 5, .int 40] (v : Int) = some (.int (T : Int)) := a2
      have hT1 : 1 ≤ T := by
        have := hT.1
        simp only [List.mem_cons, List.not_mem_nil, or_false] at this
        omega
      obtain ⟨L, y3, ⟨l1, l2, l3⟩, e3⟩ := list2_eq y2 M T hM.2 ⟨hT1, hT.2⟩ (by omega)
      have hs : SmallL L := smallL hT.2 l1 (by omega)
      have d0 : decide (((1 : Nat) : Int) = 0) = false := by decide
      have d1 : decide (((1 : Nat) : Int) = 1) = true := by decide
      (simp -implicitDefEqProofs -dsimp only [runF,endF_nx,endF_rv,endF_rn,endF_err,initS,ioOut,sSeq,sNil,sPass,sBreak,sCont,sBad,sExpr,sRet,sRetN,sIf,sSet,putR,frz,frzs,xVal,xVar,getS_0,getS_s,getR,ownD,getRs,xOp1,xOp2,fin,RD.r,aNil,aCons,xCB,xTup,xLst,truth,tOf,tAnds,tOrs,tNots,xIf,xAnd,xOr,xNot,xIsi,isTy,hAdd,hSub,hNeg,hLt,hLe,hGt,hGe,hIs,hIsNot,hIx,hLen,hInt,hAbs,hMax2,hMin2,h1L,hList,hListS,xMethL,hCountL,lcStep2,lcTurn2,lcAdd2,hTuple,vi,vb,xCall,xCallN,argsD,argD,ioIx,boIx,isOwn,nodupB,disB,xPost_ret,xPost_err,postS,putIo,frzIx,nlR,nlI,nl,nls,Rt.r,permL,tTrue,lcStep,lcTurn,lcAdd,gN,gT,gsNil,gsCons,DL.forget,back,xSeq,seqOf,xEnum,xRng1,xRng2,xRng3,xLstI,xTupI,sPar,noSlot,putRs,sTup,xMut,ownL,mApp,mIns,mPop,mPopAt,mExt,mRev,sSub,sAug,oNone,oSome,xSl,hSl,hStep,xChain,bind_ok',bind_err,bind_bad,List.set_cons_zero,List.set_cons_succ,List.foldl_cons,List.foldl_nil,List.cons_append,List.nil_append,List.replicate_succ,List.replicate_zero,List.append_nil,List.all_cons,List.all_nil,List.map_cons,List.map_nil,List.length_cons,List.length_nil,List.zip_cons_cons,List.filterMap_cons,List.filterMap_nil,List.getElem?_cons_zero,List.getElem?_cons_succ,List.contains_nil,List.contains_cons,Bool.and_true,Bool.true_and,Bool.and_false,Bool.false_and,Bool.not_true,Bool.not_false,Bool.or_true,Bool.true_or,Bool.or_false,Bool.false_or,if_true,if_false,reduceIte,reduceCtorEq,Nat.reduceSub,Nat.reduceAdd,Nat.reduceEqDiff,Option.map_some,Option.map_none,decide_true,decide_false,↓reduceIte,Bool.false_eq_true,Nat.sub_zero,Nat.sub_self,and_self,and_true,true_and,List.length_map,nls_ints,hEq_int,hNe_int,Ok_ok,OkG_some,EndQ_some,EndP_nx',EndP_rv',EndP_rn',LoopP_nx,LoopP_ct,LoopP_bk,LoopP_rt,lc_ite,xMeth,xZip,sAugS,stIx,sSub2,itemsOf,nlI_dk,sMove,ite_self,d0, d1, e1, e2, a1, a2, e3, said_list_eq hs])
      exact ⟨⟨1, rowsD L, listT L⟩, y3, ⟨rfl, shown_lst hs, by omega⟩, rfl, rfl⟩
    · obtain ⟨w, y1, hw, g1, e1⟩ := drawV x 61 (by omega) (by omega)
      have e1 : den_law_draw [x.d, .int 61] = .ret (.val (.int (w : Int))) [y1.d] := e1
      obtain ⟨u, y2, hu, g2, e2⟩ := drawV y1 5 (by omega) (by omega)
      have e2 : den_law_draw [y1.d, .int 5] = .ret (.val (.int (u : Int))) [y2.d] := e2
      obtain ⟨m, hm, a1⟩ := atN (L := [0, 1, 5, 60, w]) (u := u) (B := 60) hu (by
        intro z hz
        simp only [List.mem_cons, List.not_mem_nil, or_false] at hz
        omega)
      have a1 : atI [PyData.int 0, .int 1, .int 5, .int 60, .int (w : Int)] (u : Int) = some (.int (m : Int)) := a1
      obtain ⟨L, y3, ⟨o1, o2, o3⟩, e3⟩ := letters2_eq y2 m (by omega) (by omega)
      have hs : SmallW L := ⟨by omega, o1⟩
      have z : L.length ≤ line := by unfold line; omega
      have d0 : decide (((2 : Nat) : Int) = 0) = false := by decide
      have d1 : decide (((2 : Nat) : Int) = 1) = false := by decide
      have d2 : decide (((2 : Nat) : Int) = 2) = true := by decide
      (simp -implicitDefEqProofs -dsimp only [runF,endF_nx,endF_rv,endF_rn,endF_err,initS,ioOut,sSeq,sNil,sPass,sBreak,sCont,sBad,sExpr,sRet,sRetN,sIf,sSet,putR,frz,frzs,xVal,xVar,getS_0,getS_s,getR,ownD,getRs,xOp1,xOp2,fin,RD.r,aNil,aCons,xCB,xTup,xLst,truth,tOf,tAnds,tOrs,tNots,xIf,xAnd,xOr,xNot,xIsi,isTy,hAdd,hSub,hNeg,hLt,hLe,hGt,hGe,hIs,hIsNot,hIx,hLen,hInt,hAbs,hMax2,hMin2,h1L,hList,hListS,xMethL,hCountL,lcStep2,lcTurn2,lcAdd2,hTuple,vi,vb,xCall,xCallN,argsD,argD,ioIx,boIx,isOwn,nodupB,disB,xPost_ret,xPost_err,postS,putIo,frzIx,nlR,nlI,nl,nls,Rt.r,permL,tTrue,lcStep,lcTurn,lcAdd,gN,gT,gsNil,gsCons,DL.forget,back,xSeq,seqOf,xEnum,xRng1,xRng2,xRng3,xLstI,xTupI,sPar,noSlot,putRs,sTup,xMut,ownL,mApp,mIns,mPop,mPopAt,mExt,mRev,sSub,sAug,oNone,oSome,xSl,hSl,hStep,xChain,bind_ok',bind_err,bind_bad,List.set_cons_zero,List.set_cons_succ,List.foldl_cons,List.foldl_nil,List.cons_append,List.nil_append,List.replicate_succ,List.replicate_zero,List.append_nil,List.all_cons,List.all_nil,List.map_cons,List.map_nil,List.length_cons,List.length_nil,List.zip_cons_cons,List.filterMap_cons,List.filterMap_nil,List.getElem?_cons_zero,List.getElem?_cons_succ,List.contains_nil,List.contains_cons,Bool.and_true,Bool.true_and,Bool.and_false,Bool.false_and,Bool.not_true,Bool.not_false,Bool.or_true,Bool.true_or,Bool.or_false,Bool.false_or,if_true,if_false,reduceIte,reduceCtorEq,Nat.reduceSub,Nat.reduceAdd,Nat.reduceEqDiff,Option.map_some,Option.map_none,decide_true,decide_false,↓reduceIte,Bool.false_eq_true,Nat.sub_zero,Nat.sub_self,and_self,and_true,true_and,List.length_map,nls_ints,hEq_int,hNe_int,Ok_ok,OkG_some,EndQ_some,EndP_nx',EndP_rv',EndP_rn',LoopP_nx,LoopP_ct,LoopP_bk,LoopP_rt,lc_ite,xMeth,xZip,sAugS,stIx,sSub2,itemsOf,nlI_dk,sMove,ite_self,d0, d1, d2, e1, e2, a1, e3, z, said_word_eq hs])
      exact ⟨⟨2, wordD L, wordT L⟩, y3, ⟨rfl, shown_wrd hs, by omega⟩, rfl, rfl⟩
    · obtain ⟨u, y1, hu, g1, e1⟩ := drawV x 4 (by omega) (by omega)
      have e1 : den_law_draw [x.d, .int 4] = .ret (.val (.int (u : Int))) [y1.d] := e1
      obtain ⟨M, hM, a1⟩ := atN (L := [1, 3, 12, 200]) (u := u) (B := 200) hu (by decide)
      have a1 : atI [PyData.int 1, .int 3, .int 12, .int 200] (u : Int) = some (.int (M : Int)) := a1
      have hM1 : 1 ≤ M := by
        have := hM.1
        simp only [List.mem_cons, List.not_mem_nil, or_false] at this
        omega
      obtain ⟨m, y3, ⟨m1, m2⟩, e3⟩ := machine_eq y1 M ⟨hM1, hM.2⟩ (by omega)
      have d0 : decide (((3 : Nat) : Int) = 0) = false := by decide
      have d1 : decide (((3 : Nat) : Int) = 1) = false := by decide
      have d2 : decide (((3 : Nat) : Int) = 2) = false := by decide
      have d3 : decide (((3 : Nat) : Int) = 3) = true := by decide
      (simp -implicitDefEqProofs -dsimp only [runF,endF_nx,endF_rv,endF_rn,endF_err,initS,ioOut,sSeq,sNil,sPass,sBreak,sCont,sBad,sExpr,sRet,sRetN,sIf,sSet,putR,frz,frzs,xVal,xVar,getS_0,getS_s,getR,ownD,getRs,xOp1,xOp2,fin,RD.r,aNil,aCons,xCB,xTup,xLst,truth,tOf,tAnds,tOrs,tNots,xIf,xAnd,xOr,xNot,xIsi,isTy,hAdd,hSub,hNeg,hLt,hLe,hGt,hGe,hIs,hIsNot,hIx,hLen,hInt,hAbs,hMax2,hMin2,h1L,hList,hListS,xMethL,hCountL,lcStep2,lcTurn2,lcAdd2,hTuple,vi,vb,xCall,xCallN,argsD,argD,ioIx,boIx,isOwn,nodupB,disB,xPost_ret,xPost_err,postS,putIo,frzIx,nlR,nlI,nl,nls,Rt.r,permL,tTrue,lcStep,lcTurn,lcAdd,gN,gT,gsNil,gsCons,DL.forget,back,xSeq,seqOf,xEnum,xRng1,xRng2,xRng3,xLstI,xTupI,sPar,noSlot,putRs,sTup,xMut,ownL,mApp,mIns,mPop,mPopAt,mExt,mRev,sSub,sAug,oNone,oSome,xSl,hSl,hStep,xChain,bind_ok',bind_err,bind_bad,List.set_cons_zero,List.set_cons_succ,List.foldl_cons,List.foldl_nil,List.cons_append,List.nil_append,List.replicate_succ,List.replicate_zero,List.append_nil,List.all_cons,List.all_nil,List.map_cons,List.map_nil,List.length_cons,List.length_nil,List.zip_cons_cons,List.filterMap_cons,List.filterMap_nil,List.getElem?_cons_zero,List.getElem?_cons_succ,List.contains_nil,List.contains_cons,Bool.and_true,Bool.true_and,Bool.and_false,Bool.false_and,Bool.not_true,Bool.not_false,Bool.or_true,Bool.true_or,Bool.or_false,Bool.false_or,if_true,if_false,reduceIte,reduceCtorEq,Nat.reduceSub,Nat.reduceAdd,Nat.reduceEqDiff,Option.map_some,Option.map_none,decide_true,decide_false,↓reduceIte,Bool.false_eq_true,Nat.sub_zero,Nat.sub_self,and_self,and_true,true_and,List.length_map,nls_ints,hEq_int,hNe_int,Ok_ok,OkG_some,EndQ_some,EndP_nx',EndP_rv',EndP_rn',LoopP_nx,LoopP_ct,LoopP_bk,LoopP_rt,lc_ite,xMeth,xZip,sAugS,stIx,sSub2,itemsOf,nlI_dk,sMove,ite_self,d0, d1, d2, d3, e1, a1, e3, said_machine_eq m1])
      exact ⟨⟨3, m.d, machT m⟩, y3, ⟨rfl, shown_mch m1, by omega⟩, rfl, rfl⟩
    · obtain ⟨u, y1, hu, g1, e1⟩ := drawV x 4 (by omega) (by omega)
      have e1 : den_law_draw [x.d, .int 4] = .ret (.val (.int (u : Int))) [y1.d] := e1
      obtain ⟨M, hM, a1⟩ := atN (L := [1, 3, 4, 12]) (u := u) (B := 12) hu (by decide)
      have a1 : atI [PyData.int 1, .int 3, .int 4, .int 12] (u : Int) = some (.int (M : Int)) := a1
      have hM1 : 1 ≤ M := by
        have := hM.1
        simp only [List.mem_cons, List.not_mem_nil, or_false] at this
        omega
      have hb : bud 12 = 4095000 := by decide +kernel
      obtain ⟨s, y3, ⟨s1, s2, s3⟩, e3⟩ := saying2_eq 12 y1 M hM1 hM.2 (by omega)
      have e4 := said_saying_eq 12 s (Nat.le_refl _) s1 (by omega)
      have d0 : decide (((4 : Nat) : Int) = 0) = false := by decide
      have d1 : decide (((4 : Nat) : Int) = 1) = false := by decide
      have d2 : decide (((4 : Nat) : Int) = 2) = false := by decide
      have d3 : decide (((4 : Nat) : Int) = 3) = false := by decide
      (simp -implicitDefEqProofs -dsimp only [runF,endF_nx,endF_rv,endF_rn,endF_err,initS,ioOut,sSeq,sNil,sPass,sBreak,sCont,sBad,sExpr,sRet,sRetN,sIf,sSet,putR,frz,frzs,xVal,xVar,getS_0,getS_s,getR,ownD,getRs,xOp1,xOp2,fin,RD.r,aNil,aCons,xCB,xTup,xLst,truth,tOf,tAnds,tOrs,tNots,xIf,xAnd,xOr,xNot,xIsi,isTy,hAdd,hSub,hNeg,hLt,hLe,hGt,hGe,hIs,hIsNot,hIx,hLen,hInt,hAbs,hMax2,hMin2,h1L,hList,hListS,xMethL,hCountL,lcStep2,lcTurn2,lcAdd2,hTuple,vi,vb,xCall,xCallN,argsD,argD,ioIx,boIx,isOwn,nodupB,disB,xPost_ret,xPost_err,postS,putIo,frzIx,nlR,nlI,nl,nls,Rt.r,permL,tTrue,lcStep,lcTurn,lcAdd,gN,gT,gsNil,gsCons,DL.forget,back,xSeq,seqOf,xEnum,xRng1,xRng2,xRng3,xLstI,xTupI,sPar,noSlot,putRs,sTup,xMut,ownL,mApp,mIns,mPop,mPopAt,mExt,mRev,sSub,sAug,oNone,oSome,xSl,hSl,hStep,xChain,bind_ok',bind_err,bind_bad,List.set_cons_zero,List.set_cons_succ,List.foldl_cons,List.foldl_nil,List.cons_append,List.nil_append,List.replicate_succ,List.replicate_zero,List.append_nil,List.all_cons,List.all_nil,List.map_cons,List.map_nil,List.length_cons,List.length_nil,List.zip_cons_cons,List.filterMap_cons,List.filterMap_nil,List.getElem?_cons_zero,List.getElem?_cons_succ,List.contains_nil,List.contains_cons,Bool.and_true,Bool.true_and,Bool.and_false,Bool.false_and,Bool.not_true,Bool.not_false,Bool.or_true,Bool.true_or,Bool.or_false,Bool.false_or,if_true,if_false,reduceIte,reduceCtorEq,Nat.reduceSub,Nat.reduceAdd,Nat.reduceEqDiff,Option.map_some,Option.map_none,decide_true,decide_false,↓reduceIte,Bool.false_eq_true,Nat.sub_zero,Nat.sub_self,and_self,and_true,true_and,List.length_map,nls_ints,hEq_int,hNe_int,Ok_ok,OkG_some,EndQ_some,EndP_nx',EndP_rv',EndP_rn',LoopP_nx,LoopP_ct,LoopP_bk,LoopP_rt,lc_ite,xMeth,xZip,sAugS,stIx,sSub2,itemsOf,nlI_dk,sMove,ite_self,d0, d1, d2, d3, e1, a1, e3, e4])
      exact ⟨⟨4, s.d, sayT s⟩, y3, ⟨rfl, shown_say s1 (by omega), by omega⟩, rfl, rfl⟩
  obtain ⟨_, _, e, r, y, h1, rfl, rfl⟩ := key
  exact ⟨r, y, h1, e⟩
theorem same4_str {k : Nat} {t : PySem.Str} (h : Tx k t) : den_law_same_4 [.str t, .str t] = .ret (.val (.bool true)) [] := by
  have e : den_law_same_4 = runF [false, false] 3 (fb_law_same_4 (denN_law_same_4 11)) := rfl
  have q := hEq_str h.strOk h.strOk (show (t == t) = true by simp)
  rw [e]
  apply Ret.eq
  apply Ret.run
  (simp -implicitDefEqProofs -dsimp only [runF,endF_nx,endF_rv,endF_rn,endF_err,initS,ioOut,sSeq,sNil,sPass,sBreak,sCont,sBad,sExpr,sRet,sRetN,sIf,sSet,putR,frz,frzs,xVal,xVar,getS_0,getS_s,getR,ownD,getRs,xOp1,xOp2,fin,RD.r,aNil,aCons,xCB,xTup,xLst,truth,tOf,tAnds,tOrs,tNots,xIf,xAnd,xOr,xNot,xIsi,isTy,hAdd,hSub,hNeg,hLt,hLe,hGt,hGe,hIs,hIsNot,hIx,hLen,hInt,hAbs,hMax2,hMin2,h1L,hList,hListS,xMethL,hCountL,lcStep2,lcTurn2,lcAdd2,hTuple,vi,vb,xCall,xCallN,argsD,argD,ioIx,boIx,isOwn,nodupB,disB,xPost_ret,xPost_err,postS,putIo,frzIx,nlR,nlI,nl,nls,Rt.r,permL,tTrue,lcStep,lcTurn,lcAdd,gN,gT,gsNil,gsCons,DL.forget,back,xSeq,seqOf,xEnum,xRng1,xRng2,xRng3,xLstI,xTupI,sPar,noSlot,putRs,sTup,xMut,ownL,mApp,mIns,mPop,mPopAt,mExt,mRev,sSub,sAug,oNone,oSome,xSl,hSl,hStep,xChain,bind_ok',bind_err,bind_bad,List.set_cons_zero,List.set_cons_succ,List.foldl_cons,List.foldl_nil,List.cons_append,List.nil_append,List.replicate_succ,List.replicate_zero,List.append_nil,List.all_cons,List.all_nil,List.map_cons,List.map_nil,List.length_cons,List.length_nil,List.zip_cons_cons,List.filterMap_cons,List.filterMap_nil,List.getElem?_cons_zero,List.getElem?_cons_succ,List.contains_nil,List.contains_cons,Bool.and_true,Bool.true_and,Bool.and_false,Bool.false_and,Bool.not_true,Bool.not_false,Bool.or_true,Bool.true_or,Bool.or_false,Bool.false_or,if_true,if_false,reduceIte,reduceCtorEq,Nat.reduceSub,Nat.reduceAdd,Nat.reduceEqDiff,Option.map_some,Option.map_none,decide_true,decide_false,↓reduceIte,Bool.false_eq_true,Nat.sub_zero,Nat.sub_self,and_self,and_true,true_and,List.length_map,nls_ints,hEq_int,hNe_int,Ok_ok,OkG_some,EndQ_some,EndP_nx',EndP_rv',EndP_rn',LoopP_nx,LoopP_ct,LoopP_bk,LoopP_rt,lc_ite,xMeth,xZip,sAugS,stIx,sSub2,itemsOf,nlI_dk,sMove,ite_self,q])
end DLS

namespace DLS
open Evl (Ex)
open PySem PySem.Spec PyProof.Rows L2 DL TL
theorem law_true_k45 (ns : List Int) (hl : ns.length ≤ 63) : den_law_k45 [scrD ns] = .ret (.val (.bool true)) [] := by
  apply Ret.eq
  apply Ret.run
  obtain ⟨m, hm, hmr⟩ : ∃ m : Nat, m ≤ 6 ∧ (if (if (ns.length : Int) < 6 then (ns.length : Int) else 6) > 1 then (if (ns.length : Int) < 6 then (ns.length : Int) else 6) else 1) = (m : Int) := by
    by_cases h : (ns.length : Int) < 6
    · rw [if_pos h]
      by_cases h2 : (ns.length : Int) > 1
      · exact ⟨ns.length, by omega, by rw [if_pos h2]⟩
      · exact ⟨1, by omega, by rw [if_neg h2]; rfl⟩
    · exact ⟨6, by omega, by rw [if_neg h]; rfl⟩
  have hr : rg1Ok (m : Int) = true := rg1Ok_of (by omega)
  have hm' : (m : Int).toNat = m := Int.toNat_natCast m
  have hr5 : rg1Ok 5 = true := by decide
  have h5 : (5 : Int).toNat = 5 := rfl
  (simp -implicitDefEqProofs -dsimp only [runF,endF_nx,endF_rv,endF_rn,endF_err,initS,ioOut,sSeq,sNil,sPass,sBreak,sCont,sBad,sExpr,sRet,sRetN,sIf,sSet,putR,frz,frzs,xVal,xVar,getS_0,getS_s,getR,ownD,getRs,xOp1,xOp2,fin,RD.r,aNil,aCons,xCB,xTup,xLst,truth,tOf,tAnds,tOrs,tNots,xIf,xAnd,xOr,xNot,xIsi,isTy,hAdd,hSub,hNeg,hLt,hLe,hGt,hGe,hIs,hIsNot,hIx,hLen,hInt,hAbs,hMax2,hMin2,h1L,hList,hListS,xMethL,hCountL,lcStep2,lcTurn2,lcAdd2,hTuple,vi,vb,xCall,xCallN,argsD,argD,ioIx,boIx,isOwn,nodupB,disB,xPost_ret,xPost_err,postS,putIo,frzIx,nlR,nlI,nl,nls,Rt.r,permL,tTrue,lcStep,lcTurn,lcAdd,gN,gT,gsNil,gsCons,DL.forget,back,xSeq,seqOf,xEnum,xRng1,xRng2,xRng3,xLstI,xTupI,sPar,noSlot,putRs,sTup,xMut,ownL,mApp,mIns,mPop,mPopAt,mExt,mRev,sSub,sAug,oNone,oSome,xSl,hSl,hStep,xChain,bind_ok',bind_err,bind_bad,List.set_cons_zero,List.set_cons_succ,List.foldl_cons,List.foldl_nil,List.cons_append,List.nil_append,List.replicate_succ,List.replicate_zero,List.append_nil,List.all_cons,List.all_nil,List.map_cons,List.map_nil,List.length_cons,List.length_nil,List.zip_cons_cons,List.filterMap_cons,List.filterMap_nil,List.getElem?_cons_zero,List.getElem?_cons_succ,List.contains_nil,List.contains_cons,Bool.and_true,Bool.true_and,Bool.and_false,Bool.false_and,Bool.not_true,Bool.not_false,Bool.or_true,Bool.true_or,Bool.or_false,Bool.false_or,if_true,if_false,reduceIte,reduceCtorEq,Nat.reduceSub,Nat.reduceAdd,Nat.reduceEqDiff,Option.map_some,Option.map_none,decide_true,decide_false,↓reduceIte,Bool.false_eq_true,Nat.sub_zero,Nat.sub_self,and_self,and_true,true_and,List.length_map,nls_ints,hEq_int,hNe_int,Ok_ok,OkG_some,EndQ_some,EndP_nx',EndP_rv',EndP_rn',LoopP_nx,LoopP_ct,LoopP_bk,LoopP_rt,lc_ite,xMeth,xZip,sAugS,stIx,sSub2,itemsOf,nlI_dk,sMove,ite_self])
  refine Ok.bind (Ok.forR 0 m (fun i s => ∃ (R : List Rw) (o2 o3 o4 o5 o6 o7 : Option Sl), R.length = 6 * i ∧ (∀ r ∈ R, r.ok) ∧ s = [some (.val (scrD ns)), some (.own none (.list (R.map Rw.e))), o2, o3, o4, o5, o6, o7]) (by ((simp -implicitDefEqProofs -dsimp only [runF,endF_nx,endF_rv,endF_rn,endF_err,initS,ioOut,sSeq,sNil,sPass,sBreak,sCont,sBad,sExpr,sRet,sRetN,sIf,sSet,putR,frz,frzs,xVal,xVar,getS_0,getS_s,getR,ownD,getRs,xOp1,xOp2,fin,RD.r,aNil,aCons,xCB,xTup,xLst,truth,tOf,tAnds,tOrs,tNots,xIf,xAnd,xOr,xNot,xIsi,isTy,hAdd,hSub,hNeg,hLt,hLe,hGt,hGe,hIs,hIsNot,hIx,hLen,hInt,hAbs,hMax2,hMin2,h1L,hList,hListS,xMethL,hCountL,lcStep2,lcTurn2,lcAdd2,hTuple,vi,vb,xCall,xCallN,argsD,argD,ioIx,boIx,isOwn,nodupB,disB,xPost_ret,xPost_err,postS,putIo,frzIx,nlR,nlI,nl,nls,Rt.r,permL,tTrue,lcStep,lcTurn,lcAdd,gN,gT,gsNil,gsCons,DL.forget,back,xSeq,seqOf,xEnum,xRng1,xRng2,xRng3,xLstI,xTupI,sPar,noSlot,putRs,sTup,xMut,ownL,mApp,mIns,mPop,mPopAt,mExt,mRev,sSub,sAug,oNone,oSome,xSl,hSl,hStep,xChain,bind_ok',bind_err,bind_bad,List.set_cons_zero,List.set_cons_succ,List.foldl_cons,List.foldl_nil,List.cons_append,List.nil_append,List.replicate_succ,List.replicate_zero,List.append_nil,List.all_cons,List.all_nil,List.map_cons,List.map_nil,List.length_cons,List.length_nil,List.zip_cons_cons,List.filterMap_cons,List.filterMap_nil,List.getElem?_cons_zero,List.getElem?_cons_succ,List.contains_nil,List.contains_cons,Bool.and_true,Bool.true_and,Bool.and_false,Bool.false_and,Bool.not_true,Bool.not_false,Bool.or_true,Bool.true_or,Bool.or_false,Bool.false_or,if_true,if_false,reduceIte,reduceCtorEq,Nat.reduceSub,Nat.reduceAdd,Nat.reduceEqDiff,Option.map_some,Option.map_none,decide_true,decide_false,↓reduceIte,Bool.false_eq_true,Nat.sub_zero,Nat.sub_self,and_self,and_true,true_and,List.length_map,nls_ints,hEq_int,hNe_int,Ok_ok,OkG_some,EndQ_some,EndP_nx',EndP_rv',EndP_rn',LoopP_nx,LoopP_ct,LoopP_bk,LoopP_rt,lc_ite,xMeth,xZip,sAugS,stIx,sSub2,itemsOf,nlI_dk,sMove,ite_self,scrD, hmr, hr, hm']) <;> rfl)) ⟨[], none, none, none, none, none, none, rfl, (fun r h => nomatch h), rfl⟩ ?_ ?_)
  · rintro i hi _ ⟨R, o2, o3, o4, o5, o6, o7, hR, hok, rfl⟩
    have e0 : (0 : Int) + (i : Int) = (i : Int) := by omega
    obtain ⟨x, hx0, ew⟩ := well2_eq ns i
    have hcap : capC = 1000000000 := rfl
    obtain ⟨a, y, hy, ea⟩ := number_eq x (by omega)
    obtain ⟨z1, z2⟩ := num_len a
    have e1 := hStr_int a.h1
    have e2 := hStr_num (n := a.bot) (by have := a.h2; omega)
    have z3 : R.length < line := by unfold line; omega
    have z4 : R.length + 1 ≤ line := by unfold line; omega
    rw [e0]
    refine ⟨_, rfl, ?_⟩
    refine Ok.bind (Ok.of (a := Fl.nx [some (.val (scrD ns)), some (.own none (.list (R.map Rw.e))), some (.val (.int (i : Int))), some (.own none x.d), o4, o5, o6, o7]) (by ((simp -implicitDefEqProofs -dsimp only [runF,endF_nx,endF_rv,endF_rn,endF_err,initS,ioOut,sSeq,sNil,sPass,sBreak,sCont,sBad,sExpr,sRet,sRetN,sIf,sSet,putR,frz,frzs,xVal,xVar,getS_0,getS_s,getR,ownD,getRs,xOp1,xOp2,fin,RD.r,aNil,aCons,xCB,xTup,xLst,truth,tOf,tAnds,tOrs,tNots,xIf,xAnd,xOr,xNot,xIsi,isTy,hAdd,hSub,hNeg,hLt,hLe,hGt,hGe,hIs,hIsNot,hIx,hLen,hInt,hAbs,hMax2,hMin2,h1L,hList,hListS,xMethL,hCountL,lcStep2,lcTurn2,lcAdd2,hTuple,vi,vb,xCall,xCallN,argsD,argD,ioIx,boIx,isOwn,nodupB,disB,xPost_ret,xPost_err,postS,putIo,frzIx,nlR,nlI,nl,nls,Rt.r,permL,tTrue,lcStep,lcTurn,lcAdd,gN,gT,gsNil,gsCons,DL.forget,back,xSeq,seqOf,xEnum,xRng1,xRng2,xRng3,xLstI,xTupI,sPar,noSlot,putRs,sTup,xMut,ownL,mApp,mIns,mPop,mPopAt,mExt,mRev,sSub,sAug,oNone,oSome,xSl,hSl,hStep,xChain,bind_ok',bind_err,bind_bad,List.set_cons_zero,List.set_cons_succ,List.foldl_cons,List.foldl_nil,List.cons_append,List.nil_append,List.replicate_succ,List.replicate_zero,List.append_nil,List.all_cons,List.all_nil,List.map_cons,List.map_nil,List.length_cons,List.length_nil,List.zip_cons_cons,List.filterMap_cons,List.filterMap_nil,List.getElem?_cons_zero,List.getElem?_cons_succ,List.contains_nil,List.contains_cons,Bool.and_true,Bool.true_and,Bool.and_false,Bool.false_and,Bool.not_true,Bool.not_false,Bool.or_true,Bool.true_or,Bool.or_false,Bool.false_or,if_true,if_false,reduceIte,reduceCtorEq,Nat.reduceSub,Nat.reduceAdd,Nat.reduceEqDiff,Option.map_some,Option.map_none,decide_true,decide_false,↓reduceIte,Bool.false_eq_true,Nat.sub_zero,Nat.sub_self,and_self,and_true,true_and,List.length_map,nls_ints,hEq_int,hNe_int,Ok_ok,OkG_some,EndQ_some,EndP_nx',EndP_rv',EndP_rn',LoopP_nx,LoopP_ct,LoopP_bk,LoopP_rt,lc_ite,xMeth,xZip,sAugS,stIx,sSub2,itemsOf,nlI_dk,sMove,ite_self,ew]) <;> rfl)) ?_)
    refine Ok.bind (Ok.of (a := Fl.nx [some (.val (scrD ns)), some (.own none (.list (R.map Rw.e))), some (.val (.int (i : Int))), some (.own none y.d), some (.val a.d), o5, o6, o7]) (by ((simp -implicitDefEqProofs -dsimp only [runF,endF_nx,endF_rv,endF_rn,endF_err,initS,ioOut,sSeq,sNil,sPass,sBreak,sCont,sBad,sExpr,sRet,sRetN,sIf,sSet,putR,frz,frzs,xVal,xVar,getS_0,getS_s,getR,ownD,getRs,xOp1,xOp2,fin,RD.r,aNil,aCons,xCB,xTup,xLst,truth,tOf,tAnds,tOrs,tNots,xIf,xAnd,xOr,xNot,xIsi,isTy,hAdd,hSub,hNeg,hLt,hLe,hGt,hGe,hIs,hIsNot,hIx,hLen,hInt,hAbs,hMax2,hMin2,h1L,hList,hListS,xMethL,hCountL,lcStep2,lcTurn2,lcAdd2,hTuple,vi,vb,xCall,xCallN,argsD,argD,ioIx,boIx,isOwn,nodupB,disB,xPost_ret,xPost_err,postS,putIo,frzIx,nlR,nlI,nl,nls,Rt.r,permL,tTrue,lcStep,lcTurn,lcAdd,gN,gT,gsNil,gsCons,DL.forget,back,xSeq,seqOf,xEnum,xRng1,xRng2,xRng3,xLstI,xTupI,sPar,noSlot,putRs,sTup,xMut,ownL,mApp,mIns,mPop,mPopAt,mExt,mRev,sSub,sAug,oNone,oSome,xSl,hSl,hStep,xChain,bind_ok',bind_err,bind_bad,List.set_cons_zero,List.set_cons_succ,List.foldl_cons,List.foldl_nil,List.cons_append,List.nil_append,List.replicate_succ,List.replicate_zero,List.append_nil,List.all_cons,List.all_nil,List.map_cons,List.map_nil,List.length_cons,List.length_nil,List.zip_cons_cons,List.filterMap_cons,List.filterMap_nil,List.getElem?_cons_zero,List.getElem?_cons_succ,List.contains_nil,List.contains_cons,Bool.and_true,Bool.true_and,Bool.and_false,Bool.false_and,Bool.not_true,Bool.not_false,Bool.or_true,Bool.true_or,Bool.or_false,Bool.false_or,if_true,if_false,reduceIte,reduceCtorEq,Nat.reduceSub,Nat.reduceAdd,Nat.reduceEqDiff,Option.map_some,Option.map_none,decide_true,decide_false,↓reduceIte,Bool.false_eq_true,Nat.sub_zero,Nat.sub_self,and_self,and_true,true_and,List.length_map,nls_ints,hEq_int,hNe_int,Ok_ok,OkG_some,EndQ_some,EndP_nx',EndP_rv',EndP_rn',LoopP_nx,LoopP_ct,LoopP_bk,LoopP_rt,lc_ite,xMeth,xZip,sAugS,stIx,sSub2,itemsOf,nlI_dk,sMove,ite_self,ea]) <;> rfl)) ?_)
    refine Ok.bind (Ok.of (a := Fl.nx [some (.val (scrD ns)), some (.own none (.list ((R ++ [Rw.mk 5 a.d (numberT a)]).map Rw.e))), some (.val (.int (i : Int))), some (.own none y.d), some (.val a.d), o5, o6, o7]) (by
      by_cases hb : a.bot = 1
      · have d : decide ((a.bot : Int) = 1) = true := decide_eq_true (by omega)
        have en : numberT a = intT a.top := by unfold numberT; rw [if_pos hb]
        rw [en]
        (simp -implicitDefEqProofs -dsimp only [runF,endF_nx,endF_rv,endF_rn,endF_err,initS,ioOut,sSeq,sNil,sPass,sBreak,sCont,sBad,sExpr,sRet,sRetN,sIf,sSet,putR,frz,frzs,xVal,xVar,getS_0,getS_s,getR,ownD,getRs,xOp1,xOp2,fin,RD.r,aNil,aCons,xCB,xTup,xLst,truth,tOf,tAnds,tOrs,tNots,xIf,xAnd,xOr,xNot,xIsi,isTy,hAdd,hSub,hNeg,hLt,hLe,hGt,hGe,hIs,hIsNot,hIx,hLen,hInt,hAbs,hMax2,hMin2,h1L,hList,hListS,xMethL,hCountL,lcStep2,lcTurn2,lcAdd2,hTuple,vi,vb,xCall,xCallN,argsD,argD,ioIx,boIx,isOwn,nodupB,disB,xPost_ret,xPost_err,postS,putIo,frzIx,nlR,nlI,nl,nls,Rt.r,permL,tTrue,lcStep,lcTurn,lcAdd,gN,gT,gsNil,gsCons,DL.forget,back,xSeq,seqOf,xEnum,xRng1,xRng2,xRng3,xLstI,xTupI,sPar,noSlot,putRs,sTup,xMut,ownL,mApp,mIns,mPop,mPopAt,mExt,mRev,sSub,sAug,oNone,oSome,xSl,hSl,hStep,xChain,bind_ok',bind_err,bind_bad,List.set_cons_zero,List.set_cons_succ,List.foldl_cons,List.foldl_nil,List.cons_append,List.nil_append,List.replicate_succ,List.replicate_zero,List.append_nil,List.all_cons,List.all_nil,List.map_cons,List.map_nil,List.length_cons,List.length_nil,List.zip_cons_cons,List.filterMap_cons,List.filterMap_nil,List.getElem?_cons_zero,List.getElem?_cons_succ,List.contains_nil,List.contains_cons,Bool.and_true,Bool.true_and,Bool.and_false,Bool.false_and,Bool.not_true,Bool.not_false,Bool.or_true,Bool.true_or,Bool.or_false,Bool.false_or,if_true,if_false,reduceIte,reduceCtorEq,Nat.reduceSub,Nat.reduceAdd,Nat.reduceEqDiff,Option.map_some,Option.map_none,decide_true,decide_false,↓reduceIte,Bool.false_eq_true,Nat.sub_zero,Nat.sub_self,and_self,and_true,true_and,List.length_map,nls_ints,hEq_int,hNe_int,Ok_ok,OkG_some,EndQ_some,EndP_nx',EndP_rv',EndP_rn',LoopP_nx,LoopP_ct,LoopP_bk,LoopP_rt,lc_ite,xMeth,xZip,sAugS,stIx,sSub2,itemsOf,nlI_dk,sMove,ite_self,atI_0, atI_1, d, e1, z3, z4, List.length_append])
        rw [List.map_append]
        rfl
      · have d : decide ((a.bot : Int) = 1) = false := decide_eq_false (by omega)
        have en : numberT a = intT a.top ++ slT ++ numT a.bot := by unfold numberT; rw [if_neg hb]
        rw [en]
        (simp -implicitDefEqProofs -dsimp only [runF,endF_nx,endF_rv,endF_rn,endF_err,initS,ioOut,sSeq,sNil,sPass,sBreak,sCont,sBad,sExpr,sRet,sRetN,sIf,sSet,putR,frz,frzs,xVal,xVar,getS_0,getS_s,getR,ownD,getRs,xOp1,xOp2,fin,RD.r,aNil,aCons,xCB,xTup,xLst,truth,tOf,tAnds,tOrs,tNots,xIf,xAnd,xOr,xNot,xIsi,isTy,hAdd,hSub,hNeg,hLt,hLe,hGt,hGe,hIs,hIsNot,hIx,hLen,hInt,hAbs,hMax2,hMin2,h1L,hList,hListS,xMethL,hCountL,lcStep2,lcTurn2,lcAdd2,hTuple,vi,vb,xCall,xCallN,argsD,argD,ioIx,boIx,isOwn,nodupB,disB,xPost_ret,xPost_err,postS,putIo,frzIx,nlR,nlI,nl,nls,Rt.r,permL,tTrue,lcStep,lcTurn,lcAdd,gN,gT,gsNil,gsCons,DL.forget,back,xSeq,seqOf,xEnum,xRng1,xRng2,xRng3,xLstI,xTupI,sPar,noSlot,putRs,sTup,xMut,ownL,mApp,mIns,mPop,mPopAt,mExt,mRev,sSub,sAug,oNone,oSome,xSl,hSl,hStep,xChain,bind_ok',bind_err,bind_bad,List.set_cons_zero,List.set_cons_succ,List.foldl_cons,List.foldl_nil,List.cons_append,List.nil_append,List.replicate_succ,List.replicate_zero,List.append_nil,List.all_cons,List.all_nil,List.map_cons,List.map_nil,List.length_cons,List.length_nil,List.zip_cons_cons,List.filterMap_cons,List.filterMap_nil,List.getElem?_cons_zero,List.getElem?_cons_succ,List.contains_nil,List.contains_cons,Bool.and_true,Bool.true_and,Bool.and_false,Bool.false_and,Bool.not_true,Bool.not_false,Bool.or_true,Bool.true_or,Bool.or_false,Bool.false_or,if_true,if_false,reduceIte,reduceCtorEq,Nat.reduceSub,Nat.reduceAdd,Nat.reduceEqDiff,Option.map_some,Option.map_none,decide_true,decide_false,↓reduceIte,Bool.false_eq_true,Nat.sub_zero,Nat.sub_self,and_self,and_true,true_and,List.length_map,nls_ints,hEq_int,hNe_int,Ok_ok,OkG_some,EndQ_some,EndP_nx',EndP_rv',EndP_rn',LoopP_nx,LoopP_ct,LoopP_bk,LoopP_rt,lc_ite,xMeth,xZip,sAugS,stIx,sSub2,itemsOf,nlI_dk,sMove,ite_self,atI_0, atI_1, d, e1, e2, z1, z2, z3, z4, List.length_append])
        rw [List.map_append]
        rfl) ?_)
    have hok2 : ∀ r ∈ R ++ [Rw.mk 5 a.d (numberT a)], r.ok := fun r hr => by
      rcases List.mem_append.mp hr with hr | hr
      · exact hok r hr
      · rw [List.mem_singleton.mp hr]; exact shown_num a
    have hl2 : (R ++ [Rw.mk 5 a.d (numberT a)]).length = 6 * i + 1 := by simp [hR]
    generalize R ++ [Rw.mk 5 a.d (numberT a)] = R2 at hok2 hl2
    dsimp only
    refine Ok.forR (s1 := [some (.val (scrD ns)), some (.own none (.list (R2.map Rw.e))), some (.val (.int (i : Int))), some (.own none y.d), some (.val a.d), o5, o6, o7]) 0 5 (fun j s => ∃ (R : List Rw) (y : Wl) (o5 o6 o7 : Option Sl), R.length = 6 * i + 1 + j ∧ (∀ r ∈ R, r.ok) ∧ y.c ≤ 10 + 4200001 * j ∧ s = [some (.val (scrD ns)), some (.own none (.list (R.map Rw.e))), some (.val (.int (i : Int))), some (.own none y.d), some (.val a.d), o5, o6, o7]) (by ((simp -implicitDefEqProofs -dsimp only [runF,endF_nx,endF_rv,endF_rn,endF_err,initS,ioOut,sSeq,sNil,sPass,sBreak,sCont,sBad,sExpr,sRet,sRetN,sIf,sSet,putR,frz,frzs,xVal,xVar,getS_0,getS_s,getR,ownD,getRs,xOp1,xOp2,fin,RD.r,aNil,aCons,xCB,xTup,xLst,truth,tOf,tAnds,tOrs,tNots,xIf,xAnd,xOr,xNot,xIsi,isTy,hAdd,hSub,hNeg,hLt,hLe,hGt,hGe,hIs,hIsNot,hIx,hLen,hInt,hAbs,hMax2,hMin2,h1L,hList,hListS,xMethL,hCountL,lcStep2,lcTurn2,lcAdd2,hTuple,vi,vb,xCall,xCallN,argsD,argD,ioIx,boIx,isOwn,nodupB,disB,xPost_ret,xPost_err,postS,putIo,frzIx,nlR,nlI,nl,nls,Rt.r,permL,tTrue,lcStep,lcTurn,lcAdd,gN,gT,gsNil,gsCons,DL.forget,back,xSeq,seqOf,xEnum,xRng1,xRng2,xRng3,xLstI,xTupI,sPar,noSlot,putRs,sTup,xMut,ownL,mApp,mIns,mPop,mPopAt,mExt,mRev,sSub,sAug,oNone,oSome,xSl,hSl,hStep,xChain,bind_ok',bind_err,bind_bad,List.set_cons_zero,List.set_cons_succ,List.foldl_cons,List.foldl_nil,List.cons_append,List.nil_append,List.replicate_succ,List.replicate_zero,List.append_nil,List.all_cons,List.all_nil,List.map_cons,List.map_nil,List.length_cons,List.length_nil,List.zip_cons_cons,List.filterMap_cons,List.filterMap_nil,List.getElem?_cons_zero,List.getElem?_cons_succ,List.contains_nil,List.contains_cons,Bool.and_true,Bool.true_and,Bool.and_false,Bool.false_and,Bool.not_true,Bool.not_false,Bool.or_true,Bool.true_or,Bool.or_false,Bool.false_or,if_true,if_false,reduceIte,reduceCtorEq,Nat.reduceSub,Nat.reduceAdd,Nat.reduceEqDiff,Option.map_some,Option.map_none,decide_true,decide_false,↓reduceIte,Bool.false_eq_true,Nat.sub_zero,Nat.sub_self,and_self,and_true,true_and,List.length_map,nls_ints,hEq_int,hNe_int,Ok_ok,OkG_some,EndQ_some,EndP_nx',EndP_rv',EndP_rn',LoopP_nx,LoopP_ct,LoopP_bk,LoopP_rt,lc_ite,xMeth,xZip,sAugS,stIx,sSub2,itemsOf,nlI_dk,sMove,ite_self,hr5, h5]) <;> rfl)) ⟨R2, y, o5, o6, o7, hl2, hok2, by omega, rfl⟩ ?_ ?_
    · rintro j hj _ ⟨R3, y3, p5, p6, p7, hl3, hok3, hy3, rfl⟩
      have e0 : (0 : Int) + (j : Int) = (j : Int) := by omega
      obtain ⟨r, y4, ⟨r1, r2, r3⟩, er⟩ := thing_eq y3 j hj (by omega)
      obtain ⟨t, y5, ht, g5, et⟩ := drawV y4 2 (by omega) (by omega)
      have et : den_law_draw [y4.d, .int 2] = .ret (.val (.int (t : Int))) [y5.d] := et
      have es := r2.sh (decide ((t : Int) = 0))
      have eq := same4_str r2.tx
      have z3 : R3.length < line := by unfold line; omega
      have z4 : R3.length + 1 ≤ line := by unfold line; omega
      rw [r1] at es
      (simp -implicitDefEqProofs -dsimp only [runF,endF_nx,endF_rv,endF_rn,endF_err,initS,ioOut,sSeq,sNil,sPass,sBreak,sCont,sBad,sExpr,sRet,sRetN,sIf,sSet,putR,frz,frzs,xVal,xVar,getS_0,getS_s,getR,ownD,getRs,xOp1,xOp2,fin,RD.r,aNil,aCons,xCB,xTup,xLst,truth,tOf,tAnds,tOrs,tNots,xIf,xAnd,xOr,xNot,xIsi,isTy,hAdd,hSub,hNeg,hLt,hLe,hGt,hGe,hIs,hIsNot,hIx,hLen,hInt,hAbs,hMax2,hMin2,h1L,hList,hListS,xMethL,hCountL,lcStep2,lcTurn2,lcAdd2,hTuple,vi,vb,xCall,xCallN,argsD,argD,ioIx,boIx,isOwn,nodupB,disB,xPost_ret,xPost_err,postS,putIo,frzIx,nlR,nlI,nl,nls,Rt.r,permL,tTrue,lcStep,lcTurn,lcAdd,gN,gT,gsNil,gsCons,DL.forget,back,xSeq,seqOf,xEnum,xRng1,xRng2,xRng3,xLstI,xTupI,sPar,noSlot,putRs,sTup,xMut,ownL,mApp,mIns,mPop,mPopAt,mExt,mRev,sSub,sAug,oNone,oSome,xSl,hSl,hStep,xChain,bind_ok',bind_err,bind_bad,List.set_cons_zero,List.set_cons_succ,List.foldl_cons,List.foldl_nil,List.cons_append,List.nil_append,List.replicate_succ,List.replicate_zero,List.append_nil,List.all_cons,List.all_nil,List.map_cons,List.map_nil,List.length_cons,List.length_nil,List.zip_cons_cons,List.filterMap_cons,List.filterMap_nil,List.getElem?_cons_zero,List.getElem?_cons_succ,List.contains_nil,List.contains_cons,Bool.and_true,Bool.true_and,Bool.and_false,Bool.false_and,Bool.not_true,Bool.not_false,Bool.or_true,Bool.true_or,Bool.or_false,Bool.false_or,if_true,if_false,reduceIte,reduceCtorEq,Nat.reduceSub,Nat.reduceAdd,Nat.reduceEqDiff,Option.map_some,Option.map_none,decide_true,decide_false,↓reduceIte,Bool.false_eq_true,Nat.sub_zero,Nat.sub_self,and_self,and_true,true_and,List.length_map,nls_ints,hEq_int,hNe_int,Ok_ok,OkG_some,EndQ_some,EndP_nx',EndP_rv',EndP_rn',LoopP_nx,LoopP_ct,LoopP_bk,LoopP_rt,lc_ite,xMeth,xZip,sAugS,stIx,sSub2,itemsOf,nlI_dk,sMove,ite_self,e0, er, et, es, eq, z3, z4, List.length_append])
      refine ⟨R3 ++ [r], y5, some (.val (.int (j : Int))), some (.val r.d), some (.val (.str r.t)), by simp [hl3]; omega, fun q hq => ?_, by omega, ?_⟩
      · rcases List.mem_append.mp hq with hq | hq
        · exact hok3 q hq
        · rw [List.mem_singleton.mp hq]; exact r2
      · rw [List.map_append, ← r1]
        rfl
    · rintro _ ⟨R3, y3, p5, p6, p7, hl3, hok3, hy3, rfl⟩
      exact ⟨R3, _, _, _, _, _, _, by omega, hok3, rfl⟩
  · rintro _ ⟨R, o2, o3, o4, o5, o6, o7, hR, hok, rfl⟩
    have zl : R.length ≤ line := by unfold line; omega
    (simp -implicitDefEqProofs -dsimp only [runF,endF_nx,endF_rv,endF_rn,endF_err,initS,ioOut,sSeq,sNil,sPass,sBreak,sCont,sBad,sExpr,sRet,sRetN,sIf,sSet,putR,frz,frzs,xVal,xVar,getS_0,getS_s,getR,ownD,getRs,xOp1,xOp2,fin,RD.r,aNil,aCons,xCB,xTup,xLst,truth,tOf,tAnds,tOrs,tNots,xIf,xAnd,xOr,xNot,xIsi,isTy,hAdd,hSub,hNeg,hLt,hLe,hGt,hGe,hIs,hIsNot,hIx,hLen,hInt,hAbs,hMax2,hMin2,h1L,hList,hListS,xMethL,hCountL,lcStep2,lcTurn2,lcAdd2,hTuple,vi,vb,xCall,xCallN,argsD,argD,ioIx,boIx,isOwn,nodupB,disB,xPost_ret,xPost_err,postS,putIo,frzIx,nlR,nlI,nl,nls,Rt.r,permL,tTrue,lcStep,lcTurn,lcAdd,gN,gT,gsNil,gsCons,DL.forget,back,xSeq,seqOf,xEnum,xRng1,xRng2,xRng3,xLstI,xTupI,sPar,noSlot,putRs,sTup,xMut,ownL,mApp,mIns,mPop,mPopAt,mExt,mRev,sSub,sAug,oNone,oSome,xSl,hSl,hStep,xChain,bind_ok',bind_err,bind_bad,List.set_cons_zero,List.set_cons_succ,List.foldl_cons,List.foldl_nil,List.cons_append,List.nil_append,List.replicate_succ,List.replicate_zero,List.append_nil,List.all_cons,List.all_nil,List.map_cons,List.map_nil,List.length_cons,List.length_nil,List.zip_cons_cons,List.filterMap_cons,List.filterMap_nil,List.getElem?_cons_zero,List.getElem?_cons_succ,List.contains_nil,List.contains_cons,Bool.and_true,Bool.true_and,Bool.and_false,Bool.false_and,Bool.not_true,Bool.not_false,Bool.or_true,Bool.true_or,Bool.or_false,Bool.false_or,if_true,if_false,reduceIte,reduceCtorEq,Nat.reduceSub,Nat.reduceAdd,Nat.reduceEqDiff,Option.map_some,Option.map_none,decide_true,decide_false,↓reduceIte,Bool.false_eq_true,Nat.sub_zero,Nat.sub_self,and_self,and_true,true_and,List.length_map,nls_ints,hEq_int,hNe_int,Ok_ok,OkG_some,EndQ_some,EndP_nx',EndP_rv',EndP_rn',LoopP_nx,LoopP_ct,LoopP_bk,LoopP_rt,lc_ite,xMeth,xZip,sAugS,stIx,sSub2,itemsOf,nlI_dk,sMove,ite_self])
    refine Ok.bind (Ok.forL (s1 := [some (.val (scrD ns)), some (.own none (.list (R.map Rw.e))), o2, o3, o4, o5, o6, o7]) R.reverse Rw.e (fun i s => ∃ (o5 o6 o7 : Option Sl), s = [some (.val (scrD ns)), some (.own none (.list (R.map Rw.e))), o2, o3, o4, o5, o6, o7]) (by ((simp -implicitDefEqProofs -dsimp only [runF,endF_nx,endF_rv,endF_rn,endF_err,initS,ioOut,sSeq,sNil,sPass,sBreak,sCont,sBad,sExpr,sRet,sRetN,sIf,sSet,putR,frz,frzs,xVal,xVar,getS_0,getS_s,getR,ownD,getRs,xOp1,xOp2,fin,RD.r,aNil,aCons,xCB,xTup,xLst,truth,tOf,tAnds,tOrs,tNots,xIf,xAnd,xOr,xNot,xIsi,isTy,hAdd,hSub,hNeg,hLt,hLe,hGt,hGe,hIs,hIsNot,hIx,hLen,hInt,hAbs,hMax2,hMin2,h1L,hList,hListS,xMethL,hCountL,lcStep2,lcTurn2,lcAdd2,hTuple,vi,vb,xCall,xCallN,argsD,argD,ioIx,boIx,isOwn,nodupB,disB,xPost_ret,xPost_err,postS,putIo,frzIx,nlR,nlI,nl,nls,Rt.r,permL,tTrue,lcStep,lcTurn,lcAdd,gN,gT,gsNil,gsCons,DL.forget,back,xSeq,seqOf,xEnum,xRng1,xRng2,xRng3,xLstI,xTupI,sPar,noSlot,putRs,sTup,xMut,ownL,mApp,mIns,mPop,mPopAt,mExt,mRev,sSub,sAug,oNone,oSome,xSl,hSl,hStep,xChain,bind_ok',bind_err,bind_bad,List.set_cons_zero,List.set_cons_succ,List.foldl_cons,List.foldl_nil,List.cons_append,List.nil_append,List.replicate_succ,List.replicate_zero,List.append_nil,List.all_cons,List.all_nil,List.map_cons,List.map_nil,List.length_cons,List.length_nil,List.zip_cons_cons,List.filterMap_cons,List.filterMap_nil,List.getElem?_cons_zero,List.getElem?_cons_succ,List.contains_nil,List.contains_cons,Bool.and_true,Bool.true_and,Bool.and_false,Bool.false_and,Bool.not_true,Bool.not_false,Bool.or_true,Bool.true_or,Bool.or_false,Bool.false_or,if_true,if_false,reduceIte,reduceCtorEq,Nat.reduceSub,Nat.reduceAdd,Nat.reduceEqDiff,Option.map_some,Option.map_none,decide_true,decide_false,↓reduceIte,Bool.false_eq_true,Nat.sub_zero,Nat.sub_self,and_self,and_true,true_and,List.length_map,nls_ints,hEq_int,hNe_int,Ok_ok,OkG_some,EndQ_some,EndP_nx',EndP_rv',EndP_rn',LoopP_nx,LoopP_ct,LoopP_bk,LoopP_rt,lc_ite,xMeth,xZip,sAugS,stIx,sSub2,itemsOf,nlI_dk,sMove,ite_self,List.map_reverse]) <;> rfl)) ⟨o5, o6, o7, rfl⟩ ?_ ?_)
    · rintro i hi _ ⟨p5, p6, p7, rfl⟩
      have hr := hok _ (List.mem_reverse.mp (List.getElem_mem hi))
      generalize R.reverse[i] = r at hr
      have es := hr.sh (decide ((r.t.length : Int) < 9))
      have eq := same4_str hr.tx
      have z : r.t.length ≤ line := by have := hr.tx.len; unfold line; omega
      (simp -implicitDefEqProofs -dsimp only [runF,endF_nx,endF_rv,endF_rn,endF_err,initS,ioOut,sSeq,sNil,sPass,sBreak,sCont,sBad,sExpr,sRet,sRetN,sIf,sSet,putR,frz,frzs,xVal,xVar,getS_0,getS_s,getR,ownD,getRs,xOp1,xOp2,fin,RD.r,aNil,aCons,xCB,xTup,xLst,truth,tOf,tAnds,tOrs,tNots,xIf,xAnd,xOr,xNot,xIsi,isTy,hAdd,hSub,hNeg,hLt,hLe,hGt,hGe,hIs,hIsNot,hIx,hLen,hInt,hAbs,hMax2,hMin2,h1L,hList,hListS,xMethL,hCountL,lcStep2,lcTurn2,lcAdd2,hTuple,vi,vb,xCall,xCallN,argsD,argD,ioIx,boIx,isOwn,nodupB,disB,xPost_ret,xPost_err,postS,putIo,frzIx,nlR,nlI,nl,nls,Rt.r,permL,tTrue,lcStep,lcTurn,lcAdd,gN,gT,gsNil,gsCons,DL.forget,back,xSeq,seqOf,xEnum,xRng1,xRng2,xRng3,xLstI,xTupI,sPar,noSlot,putRs,sTup,xMut,ownL,mApp,mIns,mPop,mPopAt,mExt,mRev,sSub,sAug,oNone,oSome,xSl,hSl,hStep,xChain,bind_ok',bind_err,bind_bad,List.set_cons_zero,List.set_cons_succ,List.foldl_cons,List.foldl_nil,List.cons_append,List.nil_append,List.replicate_succ,List.replicate_zero,List.append_nil,List.all_cons,List.all_nil,List.map_cons,List.map_nil,List.length_cons,List.length_nil,List.zip_cons_cons,List.filterMap_cons,List.filterMap_nil,List.getElem?_cons_zero,List.getElem?_cons_succ,List.contains_nil,List.contains_cons,Bool.and_true,Bool.true_and,Bool.and_false,Bool.false_and,Bool.not_true,Bool.not_false,Bool.or_true,Bool.true_or,Bool.or_false,Bool.false_or,if_true,if_false,reduceIte,reduceCtorEq,Nat.reduceSub,Nat.reduceAdd,Nat.reduceEqDiff,Option.map_some,Option.map_none,decide_true,decide_false,↓reduceIte,Bool.false_eq_true,Nat.sub_zero,Nat.sub_self,and_self,and_true,true_and,List.length_map,nls_ints,hEq_int,hNe_int,Ok_ok,OkG_some,EndQ_some,EndP_nx',EndP_rv',EndP_rn',LoopP_nx,LoopP_ct,LoopP_bk,LoopP_rt,lc_ite,xMeth,xZip,sAugS,stIx,sSub2,itemsOf,nlI_dk,sMove,ite_self,z, es, eq])
      exact ⟨_, _, _, rfl⟩
    · rintro _ ⟨p5, p6, p7, rfl⟩
      (simp -implicitDefEqProofs -dsimp only [runF,endF_nx,endF_rv,endF_rn,endF_err,initS,ioOut,sSeq,sNil,sPass,sBreak,sCont,sBad,sExpr,sRet,sRetN,sIf,sSet,putR,frz,frzs,xVal,xVar,getS_0,getS_s,getR,ownD,getRs,xOp1,xOp2,fin,RD.r,aNil,aCons,xCB,xTup,xLst,truth,tOf,tAnds,tOrs,tNots,xIf,xAnd,xOr,xNot,xIsi,isTy,hAdd,hSub,hNeg,hLt,hLe,hGt,hGe,hIs,hIsNot,hIx,hLen,hInt,hAbs,hMax2,hMin2,h1L,hList,hListS,xMethL,hCountL,lcStep2,lcTurn2,lcAdd2,hTuple,vi,vb,xCall,xCallN,argsD,argD,ioIx,boIx,isOwn,nodupB,disB,xPost_ret,xPost_err,postS,putIo,frzIx,nlR,nlI,nl,nls,Rt.r,permL,tTrue,lcStep,lcTurn,lcAdd,gN,gT,gsNil,gsCons,DL.forget,back,xSeq,seqOf,xEnum,xRng1,xRng2,xRng3,xLstI,xTupI,sPar,noSlot,putRs,sTup,xMut,ownL,mApp,mIns,mPop,mPopAt,mExt,mRev,sSub,sAug,oNone,oSome,xSl,hSl,hStep,xChain,bind_ok',bind_err,bind_bad,List.set_cons_zero,List.set_cons_succ,List.foldl_cons,List.foldl_nil,List.cons_append,List.nil_append,List.replicate_succ,List.replicate_zero,List.append_nil,List.all_cons,List.all_nil,List.map_cons,List.map_nil,List.length_cons,List.length_nil,List.zip_cons_cons,List.filterMap_cons,List.filterMap_nil,List.getElem?_cons_zero,List.getElem?_cons_succ,List.contains_nil,List.contains_cons,Bool.and_true,Bool.true_and,Bool.and_false,Bool.false_and,Bool.not_true,Bool.not_false,Bool.or_true,Bool.true_or,Bool.or_false,Bool.false_or,if_true,if_false,reduceIte,reduceCtorEq,Nat.reduceSub,Nat.reduceAdd,Nat.reduceEqDiff,Option.map_some,Option.map_none,decide_true,decide_false,↓reduceIte,Bool.false_eq_true,Nat.sub_zero,Nat.sub_self,and_self,and_true,true_and,List.length_map,nls_ints,hEq_int,hNe_int,Ok_ok,OkG_some,EndQ_some,EndP_nx',EndP_rv',EndP_rn',LoopP_nx,LoopP_ct,LoopP_bk,LoopP_rt,lc_ite,xMeth,xZip,sAugS,stIx,sSub2,itemsOf,nlI_dk,sMove,ite_self])
end DLS

namespace DLL
open Evl (Ex)
open PySem PySem.Spec PyProof.Rows L2 DL DLS
structure W (K : PySem.W.Frag) (mg : Str → Option Value) where
  fd__law_well : FuncData
  F__law_well : FnP K "_law_well" st__law_well (He.ga K "_law_well") fd__law_well
  g__law_well : mg "_law_well" = some (.ref (He.ga K "_law_well"))
  fd__law_draw : FuncData
  F__law_draw : FnP K "_law_draw" st__law_draw (He.ga K "_law_draw") fd__law_draw
  g__law_draw : mg "_law_draw" = some (.ref (He.ga K "_law_draw"))
  fd__law_same : FuncData
  F__law_same : FnP K "_law_same" st__law_same (He.ga K "_law_same") fd__law_same
  g__law_same : mg "_law_same" = some (.ref (He.ga K "_law_same"))
  fd__law_order : FuncData
  F__law_order : FnP K "_law_order" st__law_order (He.ga K "_law_order") fd__law_order
  g__law_order : mg "_law_order" = some (.ref (He.ga K "_law_order"))
  fd__law_list : FuncData
  F__law_list : FnP K "_law_list" st__law_list (He.ga K "_law_list") fd__law_list
  g__law_list : mg "_law_list" = some (.ref (He.ga K "_law_list"))
  fd__law_letters : FuncData
  F__law_letters : FnP K "_law_letters" st__law_letters (He.ga K "_law_letters") fd__law_letters
  g__law_letters : mg "_law_letters" = some (.ref (He.ga K "_law_letters"))
  fd__law_machine : FuncData
  F__law_machine : FnP K "_law_machine" st__law_machine (He.ga K "_law_machine") fd__law_machine
  g__law_machine : mg "_law_machine" = some (.ref (He.ga K "_law_machine"))
  fd__law_saying : FuncData
  F__law_saying : FnP K "_law_saying" st__law_saying (He.ga K "_law_saying") fd__law_saying
  g__law_saying : mg "_law_saying" = some (.ref (He.ga K "_law_saying"))
  fd__law_listed : FuncData
  F__law_listed : FnP K "_law_listed" st__law_listed (He.ga K "_law_listed") fd__law_listed
  g__law_listed : mg "_law_listed" = some (.ref (He.ga K "_law_listed"))
  fd__law_said_order : FuncData
  F__law_said_order : FnP K "_law_said_order" st__law_said_order (He.ga K "_law_said_order") fd__law_said_order
  g__law_said_order : mg "_law_said_order" = some (.ref (He.ga K "_law_said_order"))
  fd__law_said_list : FuncData
  F__law_said_list : FnP K "_law_said_list" st__law_said_list (He.ga K "_law_said_list") fd__law_said_list
  g__law_said_list : mg "_law_said_list" = some (.ref (He.ga K "_law_said_list"))
  fd__law_said_letter : FuncData
  F__law_said_letter : FnP K "_law_said_letter" st__law_said_letter (He.ga K "_law_said_letter") fd__law_said_letter
  g__law_said_letter : mg "_law_said_letter" = some (.ref (He.ga K "_law_said_letter"))
  fd__law_said_word : FuncData
  F__law_said_word : FnP K "_law_said_word" st__law_said_word (He.ga K "_law_said_word") fd__law_said_word
  g__law_said_word : mg "_law_said_word" = some (.ref (He.ga K "_law_said_word"))
  fd__law_said_machine : FuncData
  F__law_said_machine : FnP K "_law_said_machine" st__law_said_machine (He.ga K "_law_said_machine") fd__law_said_machine
  g__law_said_machine : mg "_law_said_machine" = some (.ref (He.ga K "_law_said_machine"))
  fd__law_said_saying : FuncData
  F__law_said_saying : FnP K "_law_said_saying" st__law_said_saying (He.ga K "_law_said_saying") fd__law_said_saying
  g__law_said_saying : mg "_law_said_saying" = some (.ref (He.ga K "_law_said_saying"))
  fd__law_thing : FuncData
  F__law_thing : FnP K "_law_thing" st__law_thing (He.ga K "_law_thing") fd__law_thing
  g__law_thing : mg "_law_thing" = some (.ref (He.ga K "_law_thing"))
  fd__law_lowest : FuncData
  F__law_lowest : FnP K "_law_lowest" st__law_lowest (He.ga K "_law_lowest") fd__law_lowest
  g__law_lowest : mg "_law_lowest" = some (.ref (He.ga K "_law_lowest"))
  fd__law_power : FuncData
  F__law_power : FnP K "_law_power" st__law_power (He.ga K "_law_power") fd__law_power
  g__law_power : mg "_law_power" = some (.ref (He.ga K "_law_power"))
  fd__law_number : FuncData
  F__law_number : FnP K "_law_number" st__law_number (He.ga K "_law_number") fd__law_number
  g__law_number : mg "_law_number" = some (.ref (He.ga K "_law_number"))
  fd_show_number : FuncData
  F_show_number : FnP K "show_number" st_show_number (He.ga K "show_number") fd_show_number
  g_show_number : mg "show_number" = some (.ref (He.ga K "show_number"))
  fd_listed : FuncData
  F_listed : FnP K "listed" st_listed (He.ga K "listed") fd_listed
  g_listed : mg "listed" = some (.ref (He.ga K "listed"))
  fd_show_order : FuncData
  F_show_order : FnP K "show_order" st_show_order (He.ga K "show_order") fd_show_order
  g_show_order : mg "show_order" = some (.ref (He.ga K "show_order"))
  fd_show_list : FuncData
  F_show_list : FnP K "show_list" st_show_list (He.ga K "show_list") fd_show_list
  g_show_list : mg "show_list" = some (.ref (He.ga K "show_list"))
  fd_show_letter : FuncData
  F_show_letter : FnP K "show_letter" st_show_letter (He.ga K "show_letter") fd_show_letter
  g_show_letter : mg "show_letter" = some (.ref (He.ga K "show_letter"))
  fd_show_word : FuncData
  F_show_word : FnP K "show_word" st_show_word (He.ga K "show_word") fd_show_word
  g_show_word : mg "show_word" = some (.ref (He.ga K "show_word"))
  fd_show_machine : FuncData
  F_show_machine : FnP K "show_machine" st_show_machine (He.ga K "show_machine") fd_show_machine
  g_show_machine : mg "show_machine" = some (.ref (He.ga K "show_machine"))
  fd_show_saying : FuncData
  F_show_saying : FnP K "show_saying" st_show_saying (He.ga K "show_saying") fd_show_saying
  g_show_saying : mg "show_saying" = some (.ref (He.ga K "show_saying"))
  fd__law_shown : FuncData
  F__law_shown : FnP K "_law_shown" st__law_shown (He.ga K "_law_shown") fd__law_shown
  g__law_shown : mg "_law_shown" = some (.ref (He.ga K "_law_shown"))
  fd_law : FuncData
  F_law : FnP K "law" st_law (He.ga K "law") fd_law
  g_law : mg "law" = some (.ref (He.ga K "law"))
  c_NONE : Con K mg "NONE" (.str "-")
  c_WAYS : Con K mg "WAYS" (.str "mlrf")
  n_abs : mg "abs" = none
  n_all : mg "all" = none
  n_bool : mg "bool" = none
  n_enumerate : mg "enumerate" = none
  n_int : mg "int" = none
  n_isinstance : mg "isinstance" = none
  n_len : mg "len" = none
  n_list : mg "list" = none
  n_max : mg "max" = none
  n_min : mg "min" = none
  n_range : mg "range" = none
  n_set : mg "set" = none
  n_sorted : mg "sorted" = none
  n_str : mg "str" = none
  n_tuple : mg "tuple" = none
theorem sc__law_well : FnScope ["_law_script", "_law_place", "_law_cell"] ["_law_script", "_law_place"] (defScope st__law_well) := ⟨rfl, rfl, rfl, by decide +kernel, rfl, by decide +kernel, by decide +kernel⟩
theorem b__law_well {K : PySem.W.Frag} {mg : Str → Option Value} (w : W K mg) : Binds K w.fd__law_well ["_law_script", "_law_place"] [] := w.F__law_well.bindsN fun _ _ _ _ _ _ us hl => match us, hl with | [_, _], _ => rfl
theorem ok__law_well {P : Program} {wd : World} {K : PySem.W.Frag} {mg : Str → Option Value} {base : Heap} (w : W K mg) : FnOk P wd K mg base L2.CX0 1 (He.ga K "_law_well") w.fd__law_well ["_law_script", "_law_place"] (spD K [false, false] den_law_well_2) :=
  fn_ok0 (k := 0) w.F__law_well sc__law_well rfl (by decide) fun cdv A outer s H E hr => ⟨_, dss_cons (ds_set (i := 2) sc__law_well.nd rfl (by first | exact Or.inl rfl | exact Or.inr rfl) (de_if (dt_cmp op_lt o_lt (dv 1) (de_callB call_len opc_len rfl w.n_len (by decide +kernel) (da_cons (dv 0) (da_nil)))) (de_callTy call_int1 opc_int rfl w.n_int (by decide +kernel) (da_cons (de_ix (dv 0) (dv 1)) (da_nil))) (de_add (de_mul (dv 1) (de_int)) (de_mul (de_callB call_len opc_len rfl w.n_len (by decide +kernel) (da_cons (dv 0) (da_nil))) (de_int))))) (dss_one (ds_ret (de_lst (n := 3) (da_cons (de_callB (call_max2 rfl) opc_max2 rfl w.n_max (by decide +kernel) (da_cons (de_int) (da_cons (de_sub (de_callB call_abs opc_abs rfl w.n_abs (by decide +kernel) (da_cons (dv 2) (da_nil))) (de_pow (de_int) (de_int))) (da_nil)))) (da_cons (de_mod (de_callTy call_int1 opc_int rfl w.n_int (by decide +kernel) (da_cons (de_add (de_add (de_mul (dv 2) (de_int)) (de_mul (dv 1) (de_int))) (de_int)) (da_nil))) (de_add (de_pow (de_int) (de_int)) (de_int))) (da_cons (de_int) (da_nil)))))))⟩
theorem sc__law_draw : FnScope ["_law_well_here", "_law_many", "_law_mixed", "_law_found"] ["_law_well_here", "_law_many"] (defScope st__law_draw) := ⟨rfl, rfl, rfl, by decide +kernel, rfl, by decide +kernel, by decide +kernel⟩
theorem b__law_draw {K : PySem.W.Frag} {mg : Str → Option Value} (w : W K mg) : Binds K w.fd__law_draw ["_law_well_here", "_law_many"] [] := w.F__law_draw.bindsN fun _ _ _ _ _ _ us hl => match us, hl with | [_, _], _ => rfl
theorem ok__law_draw {P : Program} {wd : World} {K : PySem.W.Frag} {mg : Str → Option Value} {base : Heap} (w : W K mg) : FnOk P wd K mg base L2.CX0 1 (He.ga K "_law_draw") w.fd__law_draw ["_law_well_here", "_law_many"] (spD K [true, false] den_law_draw) :=
  fn_ok0 (k := 0) w.F__law_draw sc__law_draw rfl (by decide) fun cdv A outer s H E hr => ⟨_, dss_cons (ds_if (dt_cmp op_gt o_gt (de_ix (dv 0) (de_int)) (de_int)) (dss_cons (ds_set (i := 3) sc__law_draw.nd rfl (by first | exact Or.inl rfl | exact Or.inr rfl) (de_mod (de_callTy call_int1 opc_int rfl w.n_int (by decide +kernel) (da_cons (de_ix (dv 0) (de_int)) (da_nil))) (dv 1))) (dss_cons (ds_sub (i := 0) (de_div (de_ix (dv 0) (de_int)) (dv 1)) (pv 0) (de_int)) (dss_one (ds_ret (dv 3))))) (dss_nil)) (dss_cons (ds_sub (i := 0) (de_add (de_ix (dv 0) (de_int)) (de_int)) (pv 0) (de_int)) (dss_cons (ds_set (i := 2) sc__law_draw.nd rfl (by first | exact Or.inl rfl | exact Or.inr rfl) (de_mod (de_callTy call_int1 opc_int rfl w.n_int (by decide +kernel) (da_cons (de_powW (de_add (de_ix (dv 0) (de_int)) (de_mul (de_int) (de_ix (dv 0) (de_int)))) (de_int)) (da_nil))) (de_add (de_pow (de_int) (de_int)) (de_int)))) (dss_cons (ds_set (i := 2) sc__law_draw.nd rfl (by first | exact Or.inl rfl | exact Or.inr rfl) (de_mod (de_callTy call_int1 opc_int rfl w.n_int (by decide +kernel) (da_cons (de_powW (de_add (dv 2) (de_int)) (de_int)) (da_nil))) (de_add (de_pow (de_int) (de_int)) (de_int)))) (dss_one (ds_ret (de_mod (de_callTy call_int1 opc_int rfl w.n_int (by decide +kernel) (da_cons (de_div (dv 2) (de_pow (de_int) (de_int))) (da_nil))) (dv 1)))))))⟩
theorem sc__law_same : FnScope ["_law_told", "_law_due", "_law_k"] ["_law_told", "_law_due"] (defScope st__law_same) := ⟨rfl, rfl, rfl, by decide +kernel, rfl, by decide +kernel, by decide +kernel⟩
theorem b__law_same {K : PySem.W.Frag} {mg : Str → Option Value} (w : W K mg) : Binds K w.fd__law_same ["_law_told", "_law_due"] [] := w.F__law_same.bindsN fun _ _ _ _ _ _ us hl => match us, hl with | [_, _], _ => rfl
theorem okN__law_same {P : Program} {wd : World} {K : PySem.W.Frag} {mg : Str → Option Value} {base : Heap} (w : W K mg) : ∀ n : Nat, FnOk P wd K mg base L2.CX0 (0 + n) (He.ga K "_law_same") w.fd__law_same ["_law_told", "_law_due"] (spD K [false, false] (denN_law_same_4 n))
  | 0 => fn_bad
  | n + 1 => by
    have ih := okN__law_same (P := P) (wd := wd) (base := base) w n
    exact fn_ok0 (k := 0 + n) w.F__law_same sc__law_same rfl (by decide) fun cdv A outer s H E hr => ⟨_, dss_cons (ds_if (dt_cmp op_isN o_is (dv 1) (de_non)) (dss_one (ds_ret (de_cmp op_isN o_is (dv 0) (de_non)))) (dss_nil)) (dss_cons (ds_if (dt_val (de_isi .bool rfl w.n_isinstance (dv 1) rfl w.n_bool (by decide +kernel))) (dss_one (ds_ret (de_if (dt_val (dv 1)) (de_cmp op_is_bl o_isB (dv 0) (de_bl)) (de_cmp op_is_bl o_isB (dv 0) (de_bl))))) (dss_nil)) (dss_cons (ds_if (dt_val (de_isi .int rfl w.n_isinstance (dv 1) rfl w.n_int (by decide +kernel))) (dss_one (ds_ret (de_and (de_isi .int rfl w.n_isinstance (dv 0) rfl w.n_int (by decide +kernel)) (de_and (de_not (de_isi .bool rfl w.n_isinstance (dv 0) rfl w.n_bool (by decide +kernel))) (de_one (de_cmp (op_eqA hr) o_eq (dv 0) (dv 1))))))) (dss_nil)) (dss_cons (ds_if (dt_val (de_isi .str rfl w.n_isinstance (dv 1) rfl w.n_str (by decide +kernel))) (dss_one (ds_ret (de_and (de_isi .str rfl w.n_isinstance (dv 0) rfl w.n_str (by decide +kernel)) (de_one (de_cmp (op_eqA hr) o_eq (dv 0) (dv 1)))))) (dss_nil)) (dss_cons (ds_if (DW.dt (dw_or (dt_cmp (op_neA hr) o_ne (de_isi .tup rfl w.n_isinstance (dv 1) rfl w.n_tuple (by decide +kernel)) (de_isi .tup rfl w.n_isinstance (dv 0) rfl w.n_tuple (by decide +kernel))) (dw_or1 (dt_cmp (op_neA hr) o_ne (de_isi .lst rfl w.n_isinstance (dv 1) rfl w.n_list (by decide +kernel)) (de_isi .lst rfl w.n_isinstance (dv 0) rfl w.n_list (by decide +kernel)))))) (dss_one (ds_ret (de_bl))) (dss_nil)) (dss_one (ds_ret (de_and (de_cmp (op_eqA hr) o_eq (de_callB call_len opc_len rfl w.n_len (by decide +kernel) (da_cons (dv 0) (da_nil))) (de_callB call_len opc_len rfl w.n_len (by decide +kernel) (da_cons (dv 1) (da_nil)))) (de_one (de_callB (cr_all rfl) opc_all rfl w.n_all (by decide +kernel) (da_cons (de_lc (own := [("_law_k", 2)]) rfl sc__law_same.nd (di_rng1 rfl w.n_range (de_callB call_len opc_len rfl w.n_len (by decide +kernel) (da_cons (dv 1) (da_nil)))) (blkOk_by (by kernel_rfl)) (fun _ _ _ _ _ => ⟨_, dg_name sc__law_same.nd (i := 2) rfl (by first | exact Or.inl rfl | exact Or.inr rfl)⟩) (fun _ _ _ _ _ => ⟨_, dts_nil⟩) (fun _ _ _ _ _ => ⟨_, de_call ih hr rfl w.g__law_same w.F__law_same.kp (b__law_same w) pass00 (da_cons (de_ix (dv 0) (dv 2)) (da_cons (de_ix (dv 1) (dv 2)) (da_nil)))⟩)) (da_nil)))))))))))⟩
theorem ok__law_same {P : Program} {wd : World} {K : PySem.W.Frag} {mg : Str → Option Value} {base : Heap} (w : W K mg) : FnOk P wd K mg base L2.CX0 12 (He.ga K "_law_same") w.fd__law_same ["_law_told", "_law_due"] (spD K [false, false] den_law_same_4) := okN__law_same w 12
theorem sc__law_order : FnScope ["_law_well_here", "_law_many", "_law_turn", "_law_left", "_law_found"] ["_law_well_here", "_law_many"] (defScope st__law_order) := ⟨rfl, rfl, rfl, by decide +kernel, rfl, by decide +kernel, by decide +kernel⟩
theorem b__law_order {K : PySem.W.Frag} {mg : Str → Option Value} (w : W K mg) : Binds K w.fd__law_order ["_law_well_here", "_law_many"] [] := w.F__law_order.bindsN fun _ _ _ _ _ _ us hl => match us, hl with | [_, _], _ => rfl
theorem ok__law_order {P : Program} {wd : World} {K : PySem.W.Frag} {mg : Str → Option Value} {base : Heap} (w : W K mg) : FnOk P wd K mg base L2.CX0 2 (He.ga K "_law_order") w.fd__law_order ["_law_well_here", "_law_many"] (spD K [true, false] den_law_order_3) :=
  fn_ok0 (k := 1) w.F__law_order sc__law_order rfl (by decide) fun cdv A outer s H E hr => ⟨_, dss_cons (ds_par2 (i := 3) (j := 4) rfl sc__law_order.nd rfl rfl (by decide) rfl rfl (da_cons (de_listR rfl rfl w.n_list (drg_2 rfl w.n_range (de_int) (de_add (dv 1) (de_int)))) (da_cons (de_lst (n := 0) (da_nil)) (da_nil))) (by rfl)) (dss_cons (ds_for PassesOwn.never rfl (di_rng1 rfl w.n_range (dv 1)) (dg_name sc__law_order.nd (i := 2) rfl (by first | exact Or.inl rfl | exact Or.inr rfl)) (dss_one (ds_expr (de_mut PySem.F.plainAttrs_list PySem.F.slot_list_append PySem.F.type_list_append mt_append opm_app (pv 4) (da_cons (de_mut PySem.F.plainAttrs_list PySem.F.slot_list_pop PySem.F.type_list_pop mt_popAt opm_popAt (pv 3) (da_cons (de_call (ok__law_draw w) (hr.mono (by decide)) rfl w.g__law_draw w.F__law_draw.kp (b__law_draw w) pass00 (da_cons (dv 0) (da_cons (de_callB call_len opc_len rfl w.n_len (by decide +kernel) (da_cons (dv 3) (da_nil))) (da_nil)))) (da_nil))) (da_nil)))))) (dss_one (ds_ret (de_callTy call_tuple_F opc_tuple rfl w.n_tuple (by decide +kernel) (da_cons (dv 4) (da_nil))))))⟩
theorem sc__law_list : FnScope ["_law_well_here", "_law_most", "_law_things", "_law_found", "_law_turn"] ["_law_well_here", "_law_most", "_law_things"] (defScope st__law_list) := ⟨rfl, rfl, rfl, by decide +kernel, rfl, by decide +kernel, by decide +kernel⟩
theorem b__law_list {K : PySem.W.Frag} {mg : Str → Option Value} (w : W K mg) : Binds K w.fd__law_list ["_law_well_here", "_law_most", "_law_things"] [] := w.F__law_list.bindsN fun _ _ _ _ _ _ us hl => match us, hl with | [_, _, _], _ => rfl
theorem ok__law_list {P : Program} {wd : World} {K : PySem.W.Frag} {mg : Str → Option Value} {base : Heap} (w : W K mg) : FnOk P wd K mg base L2.CX0 3 (He.ga K "_law_list") w.fd__law_list ["_law_well_here", "_law_most", "_law_things"] (spD K [true, false, false] den_law_list_2) :=
  fn_ok0 (k := 2) w.F__law_list sc__law_list rfl (by decide) fun cdv A outer s H E hr => ⟨_, dss_cons (ds_set (i := 3) sc__law_list.nd rfl (by first | exact Or.inl rfl | exact Or.inr rfl) (de_lst (n := 0) (da_nil))) (dss_cons (ds_for PassesOwn.never rfl (di_rng1 rfl w.n_range (de_call (ok__law_draw w) (hr.mono (by decide)) rfl w.g__law_draw w.F__law_draw.kp (b__law_draw w) pass00 (da_cons (dv 0) (da_cons (de_add (dv 1) (de_int)) (da_nil))))) (dg_name sc__law_list.nd (i := 4) rfl (by first | exact Or.inl rfl | exact Or.inr rfl)) (dss_one (ds_expr (de_mut PySem.F.plainAttrs_list PySem.F.slot_list_append PySem.F.type_list_append mt_append opm_app (pv 3) (da_cons (de_call (ok__law_order w) (hr.mono (by decide)) rfl w.g__law_order w.F__law_order.kp (b__law_order w) pass00 (da_cons (dv 0) (da_cons (de_add (de_int) (de_call (ok__law_draw w) (hr.mono (by decide)) rfl w.g__law_draw w.F__law_draw.kp (b__law_draw w) pass00 (da_cons (dv 0) (da_cons (dv 2) (da_nil))))) (da_nil)))) (da_nil)))))) (dss_one (ds_ret (de_callTy call_tuple_F opc_tuple rfl w.n_tuple (by decide +kernel) (da_cons (dv 3) (da_nil))))))⟩
theorem sc__law_letters : FnScope ["_law_well_here", "_law_many", "_law_found", "_law_turn", "_law_slot"] ["_law_well_here", "_law_many"] (defScope st__law_letters) := ⟨rfl, rfl, rfl, by decide +kernel, rfl, by decide +kernel, by decide +kernel⟩
theorem b__law_letters {K : PySem.W.Frag} {mg : Str → Option Value} (w : W K mg) : Binds K w.fd__law_letters ["_law_well_here", "_law_many"] [] := w.F__law_letters.bindsN fun _ _ _ _ _ _ us hl => match us, hl with | [_, _], _ => rfl
theorem ok__law_letters {P : Program} {wd : World} {K : PySem.W.Frag} {mg : Str → Option Value} {base : Heap} (w : W K mg) : FnOk P wd K mg base L2.CX0 2 (He.ga K "_law_letters") w.fd__law_letters ["_law_well_here", "_law_many"] (spD K [true, false] den_law_letters_2) :=
  fn_ok0 (k := 1) w.F__law_letters sc__law_letters rfl (by decide) fun cdv A outer s H E hr => ⟨_, dss_cons (ds_set (i := 2) sc__law_letters.nd rfl (by first | exact Or.inl rfl | exact Or.inr rfl) (de_lst (n := 0) (da_nil))) (dss_cons (ds_for PassesOwn.never rfl (di_rng1 rfl w.n_range (dv 1)) (dg_name sc__law_letters.nd (i := 3) rfl (by first | exact Or.inl rfl | exact Or.inr rfl)) (dss_cons (ds_set (i := 4) sc__law_letters.nd rfl (by first | exact Or.inl rfl | exact Or.inr rfl) (de_add (de_int) (de_call (ok__law_draw w) (hr.mono (by decide)) rfl w.g__law_draw w.F__law_draw.kp (b__law_draw w) pass00 (da_cons (dv 0) (da_cons (de_ix (de_lst (n := 5) (da_cons (de_int) (da_cons (de_int) (da_cons (de_int) (da_cons (de_int) (da_cons (de_pow (de_int) (de_int)) (da_nil))))))) (de_call (ok__law_draw w) (hr.mono (by decide)) rfl w.g__law_draw w.F__law_draw.kp (b__law_draw w) pass00 (da_cons (dv 0) (da_cons (de_int) (da_nil))))) (da_nil)))))) (dss_one (ds_expr (de_mut PySem.F.plainAttrs_list PySem.F.slot_list_append PySem.F.type_list_append mt_append opm_app (pv 2) (da_cons (de_tup (n := 2) (da_cons (dv 4) (da_cons (de_call (ok__law_draw w) (hr.mono (by decide)) rfl w.g__law_draw w.F__law_draw.kp (b__law_draw w) pass00 (da_cons (dv 0) (da_cons (de_int) (da_nil)))) (da_nil)))) (da_nil))))))) (dss_one (ds_ret (dv 2))))⟩
theorem sc__law_machine : FnScope ["_law_well_here", "_law_most", "_law_state", "_law_ends", "_law_many", "_law_rows", "_law_letters_here", "_law_letter"] ["_law_well_here", "_law_most"] (defScope st__law_machine) := ⟨rfl, rfl, rfl, by decide +kernel, rfl, by decide +kernel, by decide +kernel⟩
theorem b__law_machine {K : PySem.W.Frag} {mg : Str → Option Value} (w : W K mg) : Binds K w.fd__law_machine ["_law_well_here", "_law_most"] [] := w.F__law_machine.bindsN fun _ _ _ _ _ _ us hl => match us, hl with | [_, _], _ => rfl
theorem ok__law_machine {P : Program} {wd : World} {K : PySem.W.Frag} {mg : Str → Option Value} {base : Heap} (w : W K mg) : FnOk P wd K mg base L2.CX0 3 (He.ga K "_law_machine") w.fd__law_machine ["_law_well_here", "_law_most"] (spD K [true, false] den_law_machine) :=
  fn_ok0 (k := 2) w.F__law_machine sc__law_machine rfl (by decide) fun cdv A outer s H E hr => ⟨_, dss_cons (ds_parT rfl (by decide) (gns_cons (i := 4) sc__law_machine.nd rfl (by first | exact Or.inl rfl | exact Or.inr rfl) (gns_cons (i := 5) sc__law_machine.nd rfl (by first | exact Or.inl rfl | exact Or.inr rfl) (gns_nil))) (da_cons (de_add (de_int) (de_call (ok__law_draw w) (hr.mono (by decide)) rfl w.g__law_draw w.F__law_draw.kp (b__law_draw w) pass00 (da_cons (dv 0) (da_cons (dv 1) (da_nil))))) (da_cons (de_lst (n := 0) (da_nil)) (da_nil))) (by repeat (first | exact alen_nil | refine alen_cons ?_)) (by decide) rfl) (dss_cons (ds_for PassesOwn.never rfl (di_rng1 rfl w.n_range (dv 4)) (dg_name sc__law_machine.nd (i := 2) rfl (by first | exact Or.inl rfl | exact Or.inr rfl)) (dss_cons (ds_set (i := 6) sc__law_machine.nd rfl (by first | exact Or.inl rfl | exact Or.inr rfl) (de_sortedSet rfl hr rfl w.n_sorted rfl w.n_set (de_call (ok__law_letters w) (hr.mono (by decide)) rfl w.g__law_letters w.F__law_letters.kp (b__law_letters w) pass00 (da_cons (dv 0) (da_cons (de_ix (de_lst (n := 5) (da_cons (de_int) (da_cons (de_int) (da_cons (de_int) (da_cons (de_int) (da_cons (de_int) (da_nil))))))) (de_call (ok__law_draw w) (hr.mono (by decide)) rfl w.g__law_draw w.F__law_draw.kp (b__law_draw w) pass00 (da_cons (dv 0) (da_cons (de_int) (da_nil))))) (da_nil)))))) (dss_one (ds_expr (de_mut PySem.F.plainAttrs_list PySem.F.slot_list_append PySem.F.type_list_append mt_append opm_app (pv 5) (da_cons (de_callTy call_tuple_F opc_tuple rfl w.n_tuple (by decide +kernel) (da_cons (de_lc (own := [("_law_letter", 7)]) rfl sc__law_machine.nd (di_seq (dv 6)) (blkOk_by (by kernel_rfl)) (fun _ _ _ _ _ => ⟨_, dg_name sc__law_machine.nd (i := 7) rfl (by first | exact Or.inl rfl | exact Or.inr rfl)⟩) (fun _ _ _ _ _ => ⟨_, dts_nil⟩) (fun _ _ _ _ _ => ⟨_, de_tup (n := 2) (da_cons (dv 7) (da_cons (de_call (ok__law_draw w) (hr.mono (by decide)) rfl w.g__law_draw w.F__law_draw.kp (b__law_draw w) pass00 (da_cons (dv 0) (da_cons (dv 4) (da_nil)))) (da_nil)))⟩)) (da_nil))) (da_nil))))))) (dss_cons (ds_setLc (i := 3) (own := [("_law_state", 2)]) rfl sc__law_machine.nd rfl rfl (sw_true rfl rfl rfl (by decide +kernel)) (di_rng1 rfl w.n_range (dv 4)) (blkOk_by (by kernel_rfl)) (fun _ _ _ _ _ => ⟨_, dg_name sc__law_machine.nd (i := 2) rfl (by first | exact Or.inl rfl | exact Or.inr rfl)⟩) (fun _ _ _ _ _ => ⟨_, dts_one (dt_cmp (op_eqA hr) o_eq (de_call (ok__law_draw w) (hr.mono (by decide)) rfl w.g__law_draw w.F__law_draw.kp (b__law_draw w) pass00 (da_cons (dv 0) (da_cons (de_int) (da_nil)))) (de_int))⟩) (fun _ _ _ _ _ => ⟨_, dv 2⟩)) (dss_one (ds_ret (de_tup (n := 2) (da_cons (de_callTy call_tuple_F opc_tuple rfl w.n_tuple (by decide +kernel) (da_cons (dv 5) (da_nil))) (da_cons (de_callTy call_tuple_F opc_tuple rfl w.n_tuple (by decide +kernel) (da_cons (dv 3) (da_nil))) (da_nil))))))))⟩
theorem sc__law_saying : FnScope ["_law_well_here", "_law_deep", "_law_way", "_law_parts", "_law_turned"] ["_law_well_here", "_law_deep"] (defScope st__law_saying) := ⟨rfl, rfl, rfl, by decide +kernel, rfl, by decide +kernel, by decide +kernel⟩
theorem b__law_saying {K : PySem.W.Frag} {mg : Str → Option Value} (w : W K mg) : Binds K w.fd__law_saying ["_law_well_here", "_law_deep"] [] := w.F__law_saying.bindsN fun _ _ _ _ _ _ us hl => match us, hl with | [_, _], _ => rfl
theorem okN__law_saying {P : Program} {wd : World} {K : PySem.W.Frag} {mg : Str → Option Value} {base : Heap} (w : W K mg) : ∀ n : Nat, FnOk P wd K mg base L2.CX0 (3 + n) (He.ga K "_law_saying") w.fd__law_saying ["_law_well_here", "_law_deep"] (spD K [true, false] (denN_law_saying_2 n))
  | 0 => fn_bad
  | n + 1 => by
    have ih := okN__law_saying (P := P) (wd := wd) (base := base) w n
    exact fn_ok0 (k := 3 + n) w.F__law_saying sc__law_saying rfl (by decide) fun cdv A outer s H E hr => ⟨_, dss_cons (ds_set (i := 2) sc__law_saying.nd rfl (by first | exact Or.inl rfl | exact Or.inr rfl) (de_if (dt_cmp op_gt o_gt (dv 1) (de_int)) (de_call (ok__law_draw w) (hr.mono (by omega)) rfl w.g__law_draw w.F__law_draw.kp (b__law_draw w) pass00 (da_cons (dv 0) (da_cons (de_int) (da_nil)))) (de_call (ok__law_draw w) (hr.mono (by omega)) rfl w.g__law_draw w.F__law_draw.kp (b__law_draw w) pass00 (da_cons (dv 0) (da_cons (de_int) (da_nil)))))) (dss_cons (ds_if (dt_cmp (op_eqA hr) o_eq (dv 2) (de_int)) (dss_one (ds_ret (de_tup (n := 2) (da_cons (de_str) (da_cons (de_call (ok__law_list w) (hr.mono (by omega)) rfl w.g__law_list w.F__law_list.kp (b__law_list w) pass00 (da_cons (dv 0) (da_cons (de_ix (de_lst (n := 4) (da_cons (de_int) (da_cons (de_int) (da_cons (de_int) (da_cons (de_int) (da_nil)))))) (de_call (ok__law_draw w) (hr.mono (by omega)) rfl w.g__law_draw w.F__law_draw.kp (b__law_draw w) pass00 (da_cons (dv 0) (da_cons (de_int) (da_nil))))) (da_cons (de_ix (de_lst (n := 3) (da_cons (de_int) (da_cons (de_int) (da_cons (de_int) (da_nil))))) (de_call (ok__law_draw w) (hr.mono (by omega)) rfl w.g__law_draw w.F__law_draw.kp (b__law_draw w) pass00 (da_cons (dv 0) (da_cons (de_int) (da_nil))))) (da_nil))))) (da_nil)))))) (dss_nil)) (dss_cons (ds_if (dt_cmp (op_eqA hr) o_eq (dv 2) (de_int)) (dss_one (ds_ret (de_tup (n := 2) (da_cons (de_str) (da_cons (de_ix (de_lst (n := 4) (da_cons (de_str) (da_cons (de_str) (da_cons (de_str) (da_cons (de_str) (da_nil)))))) (de_call (ok__law_draw w) (hr.mono (by omega)) rfl w.g__law_draw w.F__law_draw.kp (b__law_draw w) pass00 (da_cons (dv 0) (da_cons (de_int) (da_nil))))) (da_nil)))))) (dss_nil)) (dss_cons (ds_if (dt_cmp op_lt o_lt (dv 2) (de_int)) (dss_one (ds_ret (de_tup (n := 2) (da_cons (de_ix (de_lst (n := 3) (da_cons (de_str) (da_cons (de_str) (da_cons (de_str) (da_nil))))) (de_sub (dv 2) (de_int))) (da_cons (de_call ih hr rfl w.g__law_saying w.F__law_saying.kp (b__law_saying w) pass00 (da_cons (dv 0) (da_cons (de_sub (dv 1) (de_int)) (da_nil)))) (da_nil)))))) (dss_nil)) (dss_cons (ds_set (i := 3) sc__law_saying.nd rfl (by first | exact Or.inl rfl | exact Or.inr rfl) (de_lst (n := 2) (da_cons (de_call ih hr rfl w.g__law_saying w.F__law_saying.kp (b__law_saying w) pass00 (da_cons (dv 0) (da_cons (de_sub (dv 1) (de_int)) (da_nil)))) (da_cons (de_call ih hr rfl w.g__law_saying w.F__law_saying.kp (b__law_saying w) pass00 (da_cons (dv 0) (da_cons (de_callB (call_min2 rfl) opc_min2 rfl w.n_min (by decide +kernel) (da_cons (de_sub (dv 1) (de_int)) (da_cons (de_int) (da_nil)))) (da_nil)))) (da_nil))))) (dss_cons (ds_set (i := 4) sc__law_saying.nd rfl (by first | exact Or.inl rfl | exact Or.inr rfl) (de_call (ok__law_draw w) (hr.mono (by omega)) rfl w.g__law_draw w.F__law_draw.kp (b__law_draw w) pass00 (da_cons (dv 0) (da_cons (de_int) (da_nil))))) (dss_one (ds_ret (de_tup (n := 3) (da_cons (de_ix (de_lst (n := 2) (da_cons (de_str) (da_cons (de_str) (da_nil)))) (de_sub (dv 2) (de_int))) (da_cons (de_ix (dv 3) (dv 4)) (da_cons (de_ix (dv 3) (de_sub (de_int) (dv 4))) (da_nil))))))))))))⟩
theorem ok__law_saying {P : Program} {wd : World} {K : PySem.W.Frag} {mg : Str → Option Value} {base : Heap} (w : W K mg) : FnOk P wd K mg base L2.CX0 15 (He.ga K "_law_saying") w.fd__law_saying ["_law_well_here", "_law_deep"] (spD K [true, false] den_law_saying_2) := okN__law_saying w 12
theorem sc__law_listed : FnScope ["_law_words", "_law_between"] ["_law_words", "_law_between"] (defScope st__law_listed) := ⟨rfl, rfl, rfl, by decide +kernel, rfl, by decide +kernel, by decide +kernel⟩
theorem b__law_listed {K : PySem.W.Frag} {mg : Str → Option Value} (w : W K mg) : Binds K w.fd__law_listed ["_law_words", "_law_between"] [] := w.F__law_listed.bindsN fun _ _ _ _ _ _ us hl => match us, hl with | [_, _], _ => rfl
theorem ok__law_listed {P : Program} {wd : World} {K : PySem.W.Frag} {mg : Str → Option Value} {base : Heap} (w : W K mg) : FnOk P wd K mg base L2.CX0 1 (He.ga K "_law_listed") w.fd__law_listed ["_law_words", "_law_between"] (spD K [false, false] den_law_listed) :=
  fn_ok0 (k := 0) w.F__law_listed sc__law_listed rfl (by decide) fun cdv A outer s H E hr => ⟨_, dss_one (ds_ret (de_if (dt_cmp (op_neA hr) o_ne (dv 0) (de_lst (n := 0) (da_nil))) (de_join (dv 1) (dv 0)) (de_str)))⟩
theorem sc__law_said_order : FnScope ["_law_order_here", "_law_number_here"] ["_law_order_here"] (defScope st__law_said_order) := ⟨rfl, rfl, rfl, by decide +kernel, rfl, by decide +kernel, by decide +kernel⟩
theorem b__law_said_order {K : PySem.W.Frag} {mg : Str → Option Value} (w : W K mg) : Binds K w.fd__law_said_order ["_law_order_here"] [] := w.F__law_said_order.bindsN fun _ _ _ _ _ _ us hl => match us, hl with | [_], _ => rfl
theorem ok__law_said_order {P : Program} {wd : World} {K : PySem.W.Frag} {mg : Str → Option Value} {base : Heap} (w : W K mg) : FnOk P wd K mg base L2.CX0 2 (He.ga K "_law_said_order") w.fd__law_said_order ["_law_order_here"] (spD K [false] den_law_said_order) :=
  fn_ok0 (k := 1) w.F__law_said_order sc__law_said_order rfl (by decide) fun cdv A outer s H E hr => ⟨_, dss_one (ds_ret (de_call (ok__law_listed w) (hr.mono (by decide)) rfl w.g__law_listed w.F__law_listed.kp (b__law_listed w) pass00 (da_cons (de_lc (own := [("_law_number_here", 1)]) rfl sc__law_said_order.nd (di_seq (dv 0)) (blkOk_by (by kernel_rfl)) (fun _ _ _ _ _ => ⟨_, dg_name sc__law_said_order.nd (i := 1) rfl (by first | exact Or.inl rfl | exact Or.inr rfl)⟩) (fun _ _ _ _ _ => ⟨_, dts_nil⟩) (fun _ _ _ _ _ => ⟨_, de_callTy call_str_int opc_str rfl w.n_str (by decide +kernel) (da_cons (dv 1) (da_nil))⟩)) (da_cons (de_str) (da_nil)))))⟩
theorem sc__law_said_list : FnScope ["_law_patterns", "_law_pattern"] ["_law_patterns"] (defScope st__law_said_list) := ⟨rfl, rfl, rfl, by decide +kernel, rfl, by decide +kernel, by decide +kernel⟩
theorem b__law_said_list {K : PySem.W.Frag} {mg : Str → Option Value} (w : W K mg) : Binds K w.fd__law_said_list ["_law_patterns"] [] := w.F__law_said_list.bindsN fun _ _ _ _ _ _ us hl => match us, hl with | [_], _ => rfl
theorem ok__law_said_list {P : Program} {wd : World} {K : PySem.W.Frag} {mg : Str → Option Value} {base : Heap} (w : W K mg) : FnOk P wd K mg base L2.CX0 3 (He.ga K "_law_said_list") w.fd__law_said_list ["_law_patterns"] (spD K [false] den_law_said_list) :=
  fn_ok0 (k := 2) w.F__law_said_list sc__law_said_list rfl (by decide) fun cdv A outer s H E hr => ⟨_, dss_one (ds_ret (de_call (ok__law_listed w) (hr.mono (by decide)) rfl w.g__law_listed w.F__law_listed.kp (b__law_listed w) pass00 (da_cons (de_lc (own := [("_law_pattern", 1)]) rfl sc__law_said_list.nd (di_seq (dv 0)) (blkOk_by (by kernel_rfl)) (fun _ _ _ _ _ => ⟨_, dg_name sc__law_said_list.nd (i := 1) rfl (by first | exact Or.inl rfl | exact Or.inr rfl)⟩) (fun _ _ _ _ _ => ⟨_, dts_nil⟩) (fun _ _ _ _ _ => ⟨_, de_call (ok__law_said_order w) (hr.mono (by decide)) rfl w.g__law_said_order w.F__law_said_order.kp (b__law_said_order w) pass00 (da_cons (dv 1) (da_nil))⟩)) (da_cons (de_str) (da_nil)))))⟩
theorem sc__law_said_letter : FnScope ["_law_letter"] ["_law_letter"] (defScope st__law_said_letter) := ⟨rfl, rfl, rfl, by decide +kernel, rfl, by decide +kernel, by decide +kernel⟩
theorem b__law_said_letter {K : PySem.W.Frag} {mg : Str → Option Value} (w : W K mg) : Binds K w.fd__law_said_letter ["_law_letter"] [] := w.F__law_said_letter.bindsN fun _ _ _ _ _ _ us hl => match us, hl with | [_], _ => rfl
theorem ok__law_said_letter {P : Program} {wd : World} {K : PySem.W.Frag} {mg : Str → Option Value} {base : Heap} (w : W K mg) : FnOk P wd K mg base L2.CX0 1 (He.ga K "_law_said_letter") w.fd__law_said_letter ["_law_letter"] (spD K [false] den_law_said_letter) :=
  fn_ok0 (k := 0) w.F__law_said_letter sc__law_said_letter rfl (by decide) fun cdv A outer s H E hr => ⟨_, dss_one (ds_ret (de_add (de_callTy call_str_int opc_str rfl w.n_str (by decide +kernel) (da_cons (de_ix (dv 0) (de_int)) (da_nil))) (de_ix (de_str) (de_ix (dv 0) (de_int)))))⟩
theorem sc__law_said_word : FnScope ["_law_word", "_law_letter"] ["_law_word"] (defScope st__law_said_word) := ⟨rfl, rfl, rfl, by decide +kernel, rfl, by decide +kernel, by decide +kernel⟩
theorem b__law_said_word {K : PySem.W.Frag} {mg : Str → Option Value} (w : W K mg) : Binds K w.fd__law_said_word ["_law_word"] [] := w.F__law_said_word.bindsN fun _ _ _ _ _ _ us hl => match us, hl with | [_], _ => rfl
theorem ok__law_said_word {P : Program} {wd : World} {K : PySem.W.Frag} {mg : Str → Option Value} {base : Heap} (w : W K mg) : FnOk P wd K mg base L2.CX0 2 (He.ga K "_law_said_word") w.fd__law_said_word ["_law_word"] (spD K [false] den_law_said_word) :=
  fn_ok0 (k := 1) w.F__law_said_word sc__law_said_word rfl (by decide) fun cdv A outer s H E hr => ⟨_, dss_one (ds_ret (de_call (ok__law_listed w) (hr.mono (by decide)) rfl w.g__law_listed w.F__law_listed.kp (b__law_listed w) pass00 (da_cons (de_lc (own := [("_law_letter", 1)]) rfl sc__law_said_word.nd (di_seq (dv 0)) (blkOk_by (by kernel_rfl)) (fun _ _ _ _ _ => ⟨_, dg_name sc__law_said_word.nd (i := 1) rfl (by first | exact Or.inl rfl | exact Or.inr rfl)⟩) (fun _ _ _ _ _ => ⟨_, dts_nil⟩) (fun _ _ _ _ _ => ⟨_, de_call (ok__law_said_letter w) (hr.mono (by decide)) rfl w.g__law_said_letter w.F__law_said_letter.kp (b__law_said_letter w) pass00 (da_cons (dv 1) (da_nil))⟩)) (da_cons (de_str) (da_nil)))))⟩
theorem sc__law_said_machine : FnScope ["_law_machine_here", "_law_lines", "_law_state", "_law_steps", "_law_name", "_law_letter", "_law_goal"] ["_law_machine_here"] (defScope st__law_said_machine) := ⟨rfl, rfl, rfl, by decide +kernel, rfl, by decide +kernel, by decide +kernel⟩
theorem b__law_said_machine {K : PySem.W.Frag} {mg : Str → Option Value} (w : W K mg) : Binds K w.fd__law_said_machine ["_law_machine_here"] [] := w.F__law_said_machine.bindsN fun _ _ _ _ _ _ us hl => match us, hl with | [_], _ => rfl
theorem ok__law_said_machine {P : Program} {wd : World} {K : PySem.W.Frag} {mg : Str → Option Value} {base : Heap} (w : W K mg) : FnOk P wd K mg base L2.CX0 2 (He.ga K "_law_said_machine") w.fd__law_said_machine ["_law_machine_here"] (spD K [false] den_law_said_machine) :=
  fn_ok0 (k := 1) w.F__law_said_machine sc__law_said_machine rfl (by decide) fun cdv A outer s H E hr => ⟨_, dss_cons (ds_set (i := 1) sc__law_said_machine.nd rfl (by first | exact Or.inl rfl | exact Or.inr rfl) (de_lst (n := 0) (da_nil))) (dss_cons (ds_for PassesOwn.never rfl (di_rng1 rfl w.n_range (de_callB call_len opc_len rfl w.n_len (by decide +kernel) (da_cons (de_ix (dv 0) (de_int)) (da_nil)))) (dg_name sc__law_said_machine.nd (i := 2) rfl (by first | exact Or.inl rfl | exact Or.inr rfl)) (dss_cons (ds_setLc (i := 3) (own := [("_law_letter", 5), ("_law_goal", 6)]) rfl sc__law_said_machine.nd rfl rfl (sw_true rfl rfl rfl (by decide +kernel)) (di_seq (de_ix (de_ix (dv 0) (de_int)) (dv 2))) (blkOk_by (by kernel_rfl)) (fun _ _ _ _ _ => ⟨_, dg_tup rfl (dgs_cons (dg_name sc__law_said_machine.nd (i := 5) rfl (by first | exact Or.inl rfl | exact Or.inr rfl)) (dgs_cons (dg_name sc__law_said_machine.nd (i := 6) rfl (by first | exact Or.inl rfl | exact Or.inr rfl)) (dgs_nil))) (gs_len_cons (gs_len_cons gs_len_nil))⟩) (fun _ _ _ _ _ => ⟨_, dts_nil⟩) (fun _ _ _ _ _ => ⟨_, de_add (de_add (de_call (ok__law_said_letter w) (hr.mono (by decide)) rfl w.g__law_said_letter w.F__law_said_letter.kp (b__law_said_letter w) pass00 (da_cons (dv 5) (da_nil))) (de_str)) (de_callTy call_str_int opc_str rfl w.n_str (by decide +kernel) (da_cons (dv 6) (da_nil)))⟩)) (dss_cons (ds_set (i := 4) sc__law_said_machine.nd rfl (by first | exact Or.inl rfl | exact Or.inr rfl) (de_add (de_callTy call_str_int opc_str rfl w.n_str (by decide +kernel) (da_cons (dv 2) (da_nil))) (de_mulS (de_str) (de_callTy call_int1 opc_int rfl w.n_int (by decide +kernel) (da_cons (de_cmp (op_inA hr) o_in (dv 2) (de_ix (dv 0) (de_int))) (da_nil)))))) (dss_one (ds_expr (de_mut PySem.F.plainAttrs_list PySem.F.slot_list_append PySem.F.type_list_append mt_append opm_app (pv 1) (da_cons (de_add (de_add (dv 4) (de_str)) (de_call (ok__law_listed w) (hr.mono (by decide)) rfl w.g__law_listed w.F__law_listed.kp (b__law_listed w) pass00 (da_cons (dv 3) (da_cons (de_str) (da_nil))))) (da_nil)))))))) (dss_one (ds_ret (de_join (de_str) (dv 1)))))⟩
theorem sc__law_said_saying : FnScope ["_law_saying_here", "_law_part"] ["_law_saying_here"] (defScope st__law_said_saying) := ⟨rfl, rfl, rfl, by decide +kernel, rfl, by decide +kernel, by decide +kernel⟩
theorem b__law_said_saying {K : PySem.W.Frag} {mg : Str → Option Value} (w : W K mg) : Binds K w.fd__law_said_saying ["_law_saying_here"] [] := w.F__law_said_saying.bindsN fun _ _ _ _ _ _ us hl => match us, hl with | [_], _ => rfl
theorem okN__law_said_saying {P : Program} {wd : World} {K : PySem.W.Frag} {mg : Str → Option Value} {base : Heap} (w : W K mg) : ∀ n : Nat, FnOk P wd K mg base L2.CX0 (3 + n) (He.ga K "_law_said_saying") w.fd__law_said_saying ["_law_saying_here"] (spD K [false] (denN_law_said_saying n))
  | 0 => fn_bad
  | n + 1 => by
    have ih := okN__law_said_saying (P := P) (wd := wd) (base := base) w n
    exact fn_ok0 (k := 3 + n) w.F__law_said_saying sc__law_said_saying rfl (by decide) fun cdv A outer s H E hr => ⟨_, dss_cons (ds_if (dt_cmp (op_eqA hr) o_eq (de_ix (dv 0) (de_int)) (de_str)) (dss_one (ds_ret (de_add (de_add (de_str) (de_call (ok__law_said_list w) (hr.mono (by omega)) rfl w.g__law_said_list w.F__law_said_list.kp (b__law_said_list w) pass00 (da_cons (de_ix (dv 0) (de_int)) (da_nil)))) (de_str)))) (dss_nil)) (dss_cons (ds_if (dt_cmp (op_eqA hr) o_eq (de_ix (dv 0) (de_int)) (de_str)) (dss_one (ds_ret (de_add (de_add (de_str) (de_ix (dv 0) (de_int))) (de_str)))) (dss_nil)) (dss_one (ds_ret (de_add (de_add (de_str) (de_join (de_str) (de_add (de_lst (n := 1) (da_cons (de_ix (dv 0) (de_int)) (da_nil))) (de_lc (own := [("_law_part", 1)]) rfl sc__law_said_saying.nd (di_seq (de_sl (dv 0) (do_some (de_int)) (do_none))) (blkOk_by (by kernel_rfl)) (fun _ _ _ _ _ => ⟨_, dg_name sc__law_said_saying.nd (i := 1) rfl (by first | exact Or.inl rfl | exact Or.inr rfl)⟩) (fun _ _ _ _ _ => ⟨_, dts_nil⟩) (fun _ _ _ _ _ => ⟨_, de_call ih hr rfl w.g__law_said_saying w.F__law_said_saying.kp (b__law_said_saying w) pass00 (da_cons (dv 1) (da_nil))⟩))))) (de_str)))))⟩
theorem ok__law_said_saying {P : Program} {wd : World} {K : PySem.W.Frag} {mg : Str → Option Value} {base : Heap} (w : W K mg) : FnOk P wd K mg base L2.CX0 15 (He.ga K "_law_said_saying") w.fd__law_said_saying ["_law_saying_here"] (spD K [false] den_law_said_saying) := okN__law_said_saying w 12
theorem sc__law_thing : FnScope ["_law_well_here", "_law_door", "_law_thing_here"] ["_law_well_here", "_law_door"] (defScope st__law_thing) := ⟨rfl, rfl, rfl, by decide +kernel, rfl, by decide +kernel, by decide +kernel⟩
theorem b__law_thing {K : PySem.W.Frag} {mg : Str → Option Value} (w : W K mg) : Binds K w.fd__law_thing ["_law_well_here", "_law_door"] [] := w.F__law_thing.bindsN fun _ _ _ _ _ _ us hl => match us, hl with | [_, _], _ => rfl
theorem ok__law_thing {P : Program} {wd : World} {K : PySem.W.Frag} {mg : Str → Option Value} {base : Heap} (w : W K mg) : FnOk P wd K mg base L2.CX0 16 (He.ga K "_law_thing") w.fd__law_thing ["_law_well_here", "_law_door"] (spD K [true, false] den_law_thing) :=
  fn_ok0 (k := 15) w.F__law_thing sc__law_thing rfl (by decide) fun cdv A outer s H E hr => ⟨_, dss_cons (ds_if (dt_cmp (op_eqA hr) o_eq (dv 1) (de_int)) (dss_cons (ds_set (i := 2) sc__law_thing.nd rfl (by first | exact Or.inl rfl | exact Or.inr rfl) (de_call (ok__law_order w) (hr.mono (by decide)) rfl w.g__law_order w.F__law_order.kp (b__law_order w) pass00 (da_cons (dv 0) (da_cons (de_ix (de_lst (n := 6) (da_cons (de_int) (da_cons (de_int) (da_cons (de_int) (da_cons (de_int) (da_cons (de_int) (da_cons (de_call (ok__law_draw w) (hr.mono (by decide)) rfl w.g__law_draw w.F__law_draw.kp (b__law_draw w) pass00 (da_cons (dv 0) (da_cons (de_int) (da_nil)))) (da_nil)))))))) (de_call (ok__law_draw w) (hr.mono (by decide)) rfl w.g__law_draw w.F__law_draw.kp (b__law_draw w) pass00 (da_cons (dv 0) (da_cons (de_int) (da_nil))))) (da_nil))))) (dss_one (ds_ret (de_tup (n := 2) (da_cons (dv 2) (da_cons (de_call (ok__law_said_order w) (hr.mono (by decide)) rfl w.g__law_said_order w.F__law_said_order.kp (b__law_said_order w) pass00 (da_cons (dv 2) (da_nil))) (da_nil))))))) (dss_nil)) (dss_cons (ds_if (dt_cmp (op_eqA hr) o_eq (dv 1) (de_int)) (dss_cons (ds_set (i := 2) sc__law_thing.nd rfl (by first | exact Or.inl rfl | exact Or.inr rfl) (de_call (ok__law_list w) (hr.mono (by decide)) rfl w.g__law_list w.F__law_list.kp (b__law_list w) pass00 (da_cons (dv 0) (da_cons (de_ix (de_lst (n := 4) (da_cons (de_int) (da_cons (de_int) (da_cons (de_int) (da_cons (de_int) (da_nil)))))) (de_call (ok__law_draw w) (hr.mono (by decide)) rfl w.g__law_draw w.F__law_draw.kp (b__law_draw w) pass00 (da_cons (dv 0) (da_cons (de_int) (da_nil))))) (da_cons (de_ix (de_lst (n := 3) (da_cons (de_int) (da_cons (de_int) (da_cons (de_int) (da_nil))))) (de_call (ok__law_draw w) (hr.mono (by decide)) rfl w.g__law_draw w.F__law_draw.kp (b__law_draw w) pass00 (da_cons (dv 0) (da_cons (de_int) (da_nil))))) (da_nil)))))) (dss_one (ds_ret (de_tup (n := 2) (da_cons (dv 2) (da_cons (de_call (ok__law_said_list w) (hr.mono (by decide)) rfl w.g__law_said_list w.F__law_said_list.kp (b__law_said_list w) pass00 (da_cons (dv 2) (da_nil))) (da_nil))))))) (dss_nil)) (dss_cons (ds_if (dt_cmp (op_eqA hr) o_eq (dv 1) (de_int)) (dss_cons (ds_set (i := 2) sc__law_thing.nd rfl (by first | exact Or.inl rfl | exact Or.inr rfl) (de_callTy call_tuple_F opc_tuple rfl w.n_tuple (by decide +kernel) (da_cons (de_call (ok__law_letters w) (hr.mono (by decide)) rfl w.g__law_letters w.F__law_letters.kp (b__law_letters w) pass00 (da_cons (dv 0) (da_cons (de_ix (de_lst (n := 5) (da_cons (de_int) (da_cons (de_int) (da_cons (de_int) (da_cons (de_int) (da_cons (de_call (ok__law_draw w) (hr.mono (by decide)) rfl w.g__law_draw w.F__law_draw.kp (b__law_draw w) pass00 (da_cons (dv 0) (da_cons (de_int) (da_nil)))) (da_nil))))))) (de_call (ok__law_draw w) (hr.mono (by decide)) rfl w.g__law_draw w.F__law_draw.kp (b__law_draw w) pass00 (da_cons (dv 0) (da_cons (de_int) (da_nil))))) (da_nil)))) (da_nil)))) (dss_one (ds_ret (de_tup (n := 2) (da_cons (dv 2) (da_cons (de_call (ok__law_said_word w) (hr.mono (by decide)) rfl w.g__law_said_word w.F__law_said_word.kp (b__law_said_word w) pass00 (da_cons (dv 2) (da_nil))) (da_nil))))))) (dss_nil)) (dss_cons (ds_if (dt_cmp (op_eqA hr) o_eq (dv 1) (de_int)) (dss_cons (ds_set (i := 2) sc__law_thing.nd rfl (by first | exact Or.inl rfl | exact Or.inr rfl) (de_call (ok__law_machine w) (hr.mono (by decide)) rfl w.g__law_machine w.F__law_machine.kp (b__law_machine w) pass00 (da_cons (dv 0) (da_cons (de_ix (de_lst (n := 4) (da_cons (de_int) (da_cons (de_int) (da_cons (de_int) (da_cons (de_int) (da_nil)))))) (de_call (ok__law_draw w) (hr.mono (by decide)) rfl w.g__law_draw w.F__law_draw.kp (b__law_draw w) pass00 (da_cons (dv 0) (da_cons (de_int) (da_nil))))) (da_nil))))) (dss_one (ds_ret (de_tup (n := 2) (da_cons (dv 2) (da_cons (de_call (ok__law_said_machine w) (hr.mono (by decide)) rfl w.g__law_said_machine w.F__law_said_machine.kp (b__law_said_machine w) pass00 (da_cons (dv 2) (da_nil))) (da_nil))))))) (dss_nil)) (dss_cons (ds_set (i := 2) sc__law_thing.nd rfl (by first | exact Or.inl rfl | exact Or.inr rfl) (de_call (ok__law_saying w) (hr.mono (by decide)) rfl w.g__law_saying w.F__law_saying.kp (b__law_saying w) pass00 (da_cons (dv 0) (da_cons (de_ix (de_lst (n := 4) (da_cons (de_int) (da_cons (de_int) (da_cons (de_int) (da_cons (de_int) (da_nil)))))) (de_call (ok__law_draw w) (hr.mono (by decide)) rfl w.g__law_draw w.F__law_draw.kp (b__law_draw w) pass00 (da_cons (dv 0) (da_cons (de_int) (da_nil))))) (da_nil))))) (dss_one (ds_ret (de_tup (n := 2) (da_cons (dv 2) (da_cons (de_call (ok__law_said_saying w) (hr.mono (by decide)) rfl w.g__law_said_saying w.F__law_said_saying.kp (b__law_said_saying w) pass00 (da_cons (dv 2) (da_nil))) (da_nil))))))))))⟩
theorem sc__law_lowest : FnScope ["_law_top", "_law_bottom", "_law_one", "_law_two"] ["_law_top", "_law_bottom"] (defScope st__law_lowest) := ⟨rfl, rfl, rfl, by decide +kernel, rfl, by decide +kernel, by decide +kernel⟩
theorem b__law_lowest {K : PySem.W.Frag} {mg : Str → Option Value} (w : W K mg) : Binds K w.fd__law_lowest ["_law_top", "_law_bottom"] [] := w.F__law_lowest.bindsN fun _ _ _ _ _ _ us hl => match us, hl with | [_, _], _ => rfl
theorem ok__law_lowest {P : Program} {wd : World} {K : PySem.W.Frag} {mg : Str → Option Value} {base : Heap} (w : W K mg) : FnOk P wd K mg base L2.CX0 1 (He.ga K "_law_lowest") w.fd__law_lowest ["_law_top", "_law_bottom"] (spD K [false, false] den_law_lowest) :=
  fn_ok0 (k := 0) w.F__law_lowest sc__law_lowest rfl (by decide) fun cdv A outer s H E hr => ⟨_, dss_cons (ds_par2 (i := 2) (j := 3) rfl sc__law_lowest.nd rfl rfl (by decide) rfl rfl (da_cons (de_callB call_abs opc_abs rfl w.n_abs (by decide +kernel) (da_cons (dv 0) (da_nil))) (da_cons (dv 1) (da_nil))) (by rfl)) (dss_cons (ds_while PassesOwn.never (dt_cmp (op_neA hr) o_ne (dv 3) (de_int)) (dss_one (ds_par2 (i := 2) (j := 3) rfl sc__law_lowest.nd rfl rfl (by decide) rfl rfl (da_cons (dv 3) (da_cons (de_mod (de_callTy call_int1 opc_int rfl w.n_int (by decide +kernel) (da_cons (dv 2) (da_nil))) (dv 3)) (da_nil))) (by rfl)))) (dss_one (ds_ret (de_tup (n := 2) (da_cons (de_div (dv 0) (dv 2)) (da_cons (de_div (dv 1) (dv 2)) (da_nil)))))))⟩
theorem sc__law_power : FnScope ["_law_many", "_law_found", "_law_turn"] ["_law_many"] (defScope st__law_power) := ⟨rfl, rfl, rfl, by decide +kernel, rfl, by decide +kernel, by decide +kernel⟩
theorem b__law_power {K : PySem.W.Frag} {mg : Str → Option Value} (w : W K mg) : Binds K w.fd__law_power ["_law_many"] [] := w.F__law_power.bindsN fun _ _ _ _ _ _ us hl => match us, hl with | [_], _ => rfl
theorem ok__law_power {P : Program} {wd : World} {K : PySem.W.Frag} {mg : Str → Option Value} {base : Heap} (w : W K mg) : FnOk P wd K mg base L2.CX0 1 (He.ga K "_law_power") w.fd__law_power ["_law_many"] (spD K [false] den_law_power) :=
  fn_ok0 (k := 0) w.F__law_power sc__law_power rfl (by decide) fun cdv A outer s H E hr => ⟨_, dss_cons (ds_set (i := 1) sc__law_power.nd rfl (by first | exact Or.inl rfl | exact Or.inr rfl) (de_int)) (dss_cons (ds_for PassesOwn.never rfl (di_rng1 rfl w.n_range (dv 0)) (dg_name sc__law_power.nd (i := 2) rfl (by first | exact Or.inl rfl | exact Or.inr rfl)) (dss_one (ds_set (i := 1) sc__law_power.nd rfl (by first | exact Or.inl rfl | exact Or.inr rfl) (de_mul (dv 1) (de_int))))) (dss_one (ds_ret (dv 1))))⟩
theorem sc__law_number : FnScope ["_law_well_here", "_law_great", "_law_top", "_law_bottom"] ["_law_well_here"] (defScope st__law_number) := ⟨rfl, rfl, rfl, by decide +kernel, rfl, by decide +kernel, by decide +kernel⟩
theorem b__law_number {K : PySem.W.Frag} {mg : Str → Option Value} (w : W K mg) : Binds K w.fd__law_number ["_law_well_here"] [] := w.F__law_number.bindsN fun _ _ _ _ _ _ us hl => match us, hl with | [_], _ => rfl
theorem ok__law_number {P : Program} {wd : World} {K : PySem.W.Frag} {mg : Str → Option Value} {base : Heap} (w : W K mg) : FnOk P wd K mg base L2.CX0 2 (He.ga K "_law_number") w.fd__law_number ["_law_well_here"] (spD K [true] den_law_number) :=
  fn_ok0 (k := 1) w.F__law_number sc__law_number rfl (by decide) fun cdv A outer s H E hr => ⟨_, dss_cons (ds_set (i := 1) sc__law_number.nd rfl (by first | exact Or.inl rfl | exact Or.inr rfl) (de_call (ok__law_power w) (hr.mono (by decide)) rfl w.g__law_power w.F__law_power.kp (b__law_power w) pass00 (da_cons (de_add (de_int) (de_call (ok__law_draw w) (hr.mono (by decide)) rfl w.g__law_draw w.F__law_draw.kp (b__law_draw w) pass00 (da_cons (dv 0) (da_cons (de_ix (de_lst (n := 3) (da_cons (de_int) (da_cons (de_int) (da_cons (de_int) (da_nil))))) (de_call (ok__law_draw w) (hr.mono (by decide)) rfl w.g__law_draw w.F__law_draw.kp (b__law_draw w) pass00 (da_cons (dv 0) (da_cons (de_int) (da_nil))))) (da_nil))))) (da_nil)))) (dss_cons (ds_par2 (i := 2) (j := 3) rfl sc__law_number.nd rfl rfl (by decide) rfl rfl (da_cons (de_sub (de_call (ok__law_draw w) (hr.mono (by decide)) rfl w.g__law_draw w.F__law_draw.kp (b__law_draw w) pass00 (da_cons (dv 0) (da_cons (de_mul (de_int) (dv 1)) (da_nil)))) (dv 1)) (da_cons (de_add (de_int) (de_ix (de_lst (n := 2) (da_cons (de_int) (da_cons (de_call (ok__law_draw w) (hr.mono (by decide)) rfl w.g__law_draw w.F__law_draw.kp (b__law_draw w) pass00 (da_cons (dv 0) (da_cons (dv 1) (da_nil)))) (da_nil)))) (de_call (ok__law_draw w) (hr.mono (by decide)) rfl w.g__law_draw w.F__law_draw.kp (b__law_draw w) pass00 (da_cons (dv 0) (da_cons (de_int) (da_nil)))))) (da_nil))) (by rfl)) (dss_one (ds_ret (de_call (ok__law_lowest w) (hr.mono (by decide)) rfl w.g__law_lowest w.F__law_lowest.kp (b__law_lowest w) pass00 (da_cons (dv 2) (da_cons (dv 3) (da_nil)))))))⟩
theorem sc_show_number : FnScope ["a", "top", "bottom"] ["a"] (defScope st_show_number) := ⟨rfl, rfl, rfl, by decide +kernel, rfl, by decide +kernel, by decide +kernel⟩
theorem b_show_number {K : PySem.W.Frag} {mg : Str → Option Value} (w : W K mg) : Binds K w.fd_show_number ["a"] [] := w.F_show_number.bindsN fun _ _ _ _ _ _ us hl => match us, hl with | [_], _ => rfl
theorem kb_show_number_a {K : PySem.W.Frag} {mg : Str → Option Value} (w : W K mg) : KB K w.fd_show_number ["a"] ["a"] [0] := kb_of w.F_show_number fun _ _ _ _ _ _ ws hl => match ws, hl with | [_], _ => rfl
theorem ok_show_number {P : Program} {wd : World} {K : PySem.W.Frag} {mg : Str → Option Value} {base : Heap} (w : W K mg) : FnOk P wd K mg base L2.CX0 1 (He.ga K "show_number") w.fd_show_number ["a"] (spD K [false] den_show_number) :=
  fn_ok0 (k := 0) w.F_show_number sc_show_number rfl (by decide) fun cdv A outer s H E hr => ⟨_, dss_cons (ds_asg (dv 0) (dg_tup rfl (dgs_cons (dg_name sc_show_number.nd (i := 1) rfl (by first | exact Or.inl rfl | exact Or.inr rfl)) (dgs_cons (dg_name sc_show_number.nd (i := 2) rfl (by first | exact Or.inl rfl | exact Or.inr rfl)) (dgs_nil))) (gs_len_cons (gs_len_cons gs_len_nil)))) (dss_one (ds_ret (de_if (dt_cmp (op_eqA hr) o_eq (dv 2) (de_int)) (de_callTy call_str_int opc_str rfl w.n_str (by decide +kernel) (da_cons (dv 1) (da_nil))) (de_add (de_add (de_callTy call_str_int opc_str rfl w.n_str (by decide +kernel) (da_cons (dv 1) (da_nil))) (de_str)) (de_callTy call_str_int opc_str rfl w.n_str (by decide +kernel) (da_cons (dv 2) (da_nil)))))))⟩
theorem sc_listed : FnScope ["words", "between"] ["words", "between"] (defScope st_listed) := ⟨rfl, rfl, rfl, by decide +kernel, rfl, by decide +kernel, by decide +kernel⟩
theorem b_listed {K : PySem.W.Frag} {mg : Str → Option Value} (w : W K mg) : Binds K w.fd_listed ["words", "between"] [] := w.F_listed.bindsN fun _ _ _ _ _ _ us hl => match us, hl with | [_, _], _ => rfl
theorem ok_listed {P : Program} {wd : World} {K : PySem.W.Frag} {mg : Str → Option Value} {base : Heap} (w : W K mg) : FnOk P wd K mg base L2.CX0 1 (He.ga K "listed") w.fd_listed ["words", "between"] (spD K [false, false] den_listed) :=
  fn_ok0 (k := 0) w.F_listed sc_listed rfl (by decide) fun cdv A outer s H E hr => ⟨_, dss_one (ds_ret (de_if (dt_cmp op_gt o_gt (de_callB call_len opc_len rfl w.n_len (by decide +kernel) (da_cons (dv 0) (da_nil))) (de_int)) (de_join (dv 1) (dv 0)) (de_glob rfl w.c_NONE.m w.c_NONE.r w.c_NONE.p)))⟩
theorem sc_show_order : FnScope ["order", "number"] ["order"] (defScope st_show_order) := ⟨rfl, rfl, rfl, by decide +kernel, rfl, by decide +kernel, by decide +kernel⟩
theorem b_show_order {K : PySem.W.Frag} {mg : Str → Option Value} (w : W K mg) : Binds K w.fd_show_order ["order"] [] := w.F_show_order.bindsN fun _ _ _ _ _ _ us hl => match us, hl with | [_], _ => rfl
theorem kb_show_order_order {K : PySem.W.Frag} {mg : Str → Option Value} (w : W K mg) : KB K w.fd_show_order ["order"] ["order"] [0] := kb_of w.F_show_order fun _ _ _ _ _ _ ws hl => match ws, hl with | [_], _ => rfl
theorem ok_show_order {P : Program} {wd : World} {K : PySem.W.Frag} {mg : Str → Option Value} {base : Heap} (w : W K mg) : FnOk P wd K mg base L2.CX0 2 (He.ga K "show_order") w.fd_show_order ["order"] (spD K [false] den_show_order) :=
  fn_ok0 (k := 1) w.F_show_order sc_show_order rfl (by decide) fun cdv A outer s H E hr => ⟨_, dss_one (ds_ret (de_call (ok_listed w) (hr.mono (by decide)) rfl w.g_listed w.F_listed.kp (b_listed w) pass00 (da_cons (de_lc (own := [("number", 1)]) rfl sc_show_order.nd (di_seq (dv 0)) (blkOk_by (by kernel_rfl)) (fun _ _ _ _ _ => ⟨_, dg_name sc_show_order.nd (i := 1) rfl (by first | exact Or.inl rfl | exact Or.inr rfl)⟩) (fun _ _ _ _ _ => ⟨_, dts_nil⟩) (fun _ _ _ _ _ => ⟨_, de_callTy call_str_int opc_str rfl w.n_str (by decide +kernel) (da_cons (dv 1) (da_nil))⟩)) (da_cons (de_str) (da_nil)))))⟩
theorem sc_show_list : FnScope ["forbidden", "pattern"] ["forbidden"] (defScope st_show_list) := ⟨rfl, rfl, rfl, by decide +kernel, rfl, by decide +kernel, by decide +kernel⟩
theorem b_show_list {K : PySem.W.Frag} {mg : Str → Option Value} (w : W K mg) : Binds K w.fd_show_list ["forbidden"] [] := w.F_show_list.bindsN fun _ _ _ _ _ _ us hl => match us, hl with | [_], _ => rfl
theorem kb_show_list_forbidden {K : PySem.W.Frag} {mg : Str → Option Value} (w : W K mg) : KB K w.fd_show_list ["forbidden"] ["forbidden"] [0] := kb_of w.F_show_list fun _ _ _ _ _ _ ws hl => match ws, hl with | [_], _ => rfl
theorem ok_show_list {P : Program} {wd : World} {K : PySem.W.Frag} {mg : Str → Option Value} {base : Heap} (w : W K mg) : FnOk P wd K mg base L2.CX0 3 (He.ga K "show_list") w.fd_show_list ["forbidden"] (spD K [false] den_show_list) :=
  fn_ok0 (k := 2) w.F_show_list sc_show_list rfl (by decide) fun cdv A outer s H E hr => ⟨_, dss_one (ds_ret (de_call (ok_listed w) (hr.mono (by decide)) rfl w.g_listed w.F_listed.kp (b_listed w) pass00 (da_cons (de_lc (own := [("pattern", 1)]) rfl sc_show_list.nd (di_seq (dv 0)) (blkOk_by (by kernel_rfl)) (fun _ _ _ _ _ => ⟨_, dg_name sc_show_list.nd (i := 1) rfl (by first | exact Or.inl rfl | exact Or.inr rfl)⟩) (fun _ _ _ _ _ => ⟨_, dts_nil⟩) (fun _ _ _ _ _ => ⟨_, de_call (ok_show_order w) (hr.mono (by decide)) rfl w.g_show_order w.F_show_order.kp (b_show_order w) pass00 (da_cons (dv 1) (da_nil))⟩)) (da_cons (de_str) (da_nil)))))⟩
theorem sc_show_letter : FnScope ["letter", "slot", "way"] ["letter"] (defScope st_show_letter) := ⟨rfl, rfl, rfl, by decide +kernel, rfl, by decide +kernel, by decide +kernel⟩
theorem b_show_letter {K : PySem.W.Frag} {mg : Str → Option Value} (w : W K mg) : Binds K w.fd_show_letter ["letter"] [] := w.F_show_letter.bindsN fun _ _ _ _ _ _ us hl => match us, hl with | [_], _ => rfl
theorem ok_show_letter {P : Program} {wd : World} {K : PySem.W.Frag} {mg : Str → Option Value} {base : Heap} (w : W K mg) : FnOk P wd K mg base L2.CX0 1 (He.ga K "show_letter") w.fd_show_letter ["letter"] (spD K [false] den_show_letter) :=
  fn_ok0 (k := 0) w.F_show_letter sc_show_letter rfl (by decide) fun cdv A outer s H E hr => ⟨_, dss_cons (ds_asg (dv 0) (dg_tup rfl (dgs_cons (dg_name sc_show_letter.nd (i := 1) rfl (by first | exact Or.inl rfl | exact Or.inr rfl)) (dgs_cons (dg_name sc_show_letter.nd (i := 2) rfl (by first | exact Or.inl rfl | exact Or.inr rfl)) (dgs_nil))) (gs_len_cons (gs_len_cons gs_len_nil)))) (dss_one (ds_ret (de_add (de_callTy call_str_int opc_str rfl w.n_str (by decide +kernel) (da_cons (dv 1) (da_nil))) (de_ix (de_glob rfl w.c_WAYS.m w.c_WAYS.r w.c_WAYS.p) (dv 2)))))⟩
theorem sc_show_word : FnScope ["word", "letter"] ["word"] (defScope st_show_word) := ⟨rfl, rfl, rfl, by decide +kernel, rfl, by decide +kernel, by decide +kernel⟩
theorem b_show_word {K : PySem.W.Frag} {mg : Str → Option Value} (w : W K mg) : Binds K w.fd_show_word ["word"] [] := w.F_show_word.bindsN fun _ _ _ _ _ _ us hl => match us, hl with | [_], _ => rfl
theorem kb_show_word_word {K : PySem.W.Frag} {mg : Str → Option Value} (w : W K mg) : KB K w.fd_show_word ["word"] ["word"] [0] := kb_of w.F_show_word fun _ _ _ _ _ _ ws hl => match ws, hl with | [_], _ => rfl
theorem ok_show_word {P : Program} {wd : World} {K : PySem.W.Frag} {mg : Str → Option Value} {base : Heap} (w : W K mg) : FnOk P wd K mg base L2.CX0 2 (He.ga K "show_word") w.fd_show_word ["word"] (spD K [false] den_show_word) :=
  fn_ok0 (k := 1) w.F_show_word sc_show_word rfl (by decide) fun cdv A outer s H E hr => ⟨_, dss_one (ds_ret (de_call (ok_listed w) (hr.mono (by decide)) rfl w.g_listed w.F_listed.kp (b_listed w) pass00 (da_cons (de_lc (own := [("letter", 1)]) rfl sc_show_word.nd (di_seq (dv 0)) (blkOk_by (by kernel_rfl)) (fun _ _ _ _ _ => ⟨_, dg_name sc_show_word.nd (i := 1) rfl (by first | exact Or.inl rfl | exact Or.inr rfl)⟩) (fun _ _ _ _ _ => ⟨_, dts_nil⟩) (fun _ _ _ _ _ => ⟨_, de_call (ok_show_letter w) (hr.mono (by decide)) rfl w.g_show_letter w.F_show_letter.kp (b_show_letter w) pass00 (da_cons (dv 1) (da_nil))⟩)) (da_cons (de_str) (da_nil)))))⟩
theorem sc_show_machine : FnScope ["machine", "lines", "rows", "ends", "index", "row", "name", "letter", "state"] ["machine"] (defScope st_show_machine) := ⟨rfl, rfl, rfl, by decide +kernel, rfl, by decide +kernel, by decide +kernel⟩
theorem b_show_machine {K : PySem.W.Frag} {mg : Str → Option Value} (w : W K mg) : Binds K w.fd_show_machine ["machine"] [] := w.F_show_machine.bindsN fun _ _ _ _ _ _ us hl => match us, hl with | [_], _ => rfl
theorem kb_show_machine_machine {K : PySem.W.Frag} {mg : Str → Option Value} (w : W K mg) : KB K w.fd_show_machine ["machine"] ["machine"] [0] := kb_of w.F_show_machine fun _ _ _ _ _ _ ws hl => match ws, hl with | [_], _ => rfl
theorem ok_show_machine {P : Program} {wd : World} {K : PySem.W.Frag} {mg : Str → Option Value} {base : Heap} (w : W K mg) : FnOk P wd K mg base L2.CX0 2 (He.ga K "show_machine") w.fd_show_machine ["machine"] (spD K [false] den_show_machine) :=
  fn_ok0 (k := 1) w.F_show_machine sc_show_machine rfl (by decide) fun cdv A outer s H E hr => ⟨_, dss_cons (ds_asg (dv 0) (dg_tup rfl (dgs_cons (dg_name sc_show_machine.nd (i := 2) rfl (by first | exact Or.inl rfl | exact Or.inr rfl)) (dgs_cons (dg_name sc_show_machine.nd (i := 3) rfl (by first | exact Or.inl rfl | exact Or.inr rfl)) (dgs_nil))) (gs_len_cons (gs_len_cons gs_len_nil)))) (dss_cons (ds_set (i := 1) sc_show_machine.nd rfl (by first | exact Or.inl rfl | exact Or.inr rfl) (de_lst (n := 0) (da_nil))) (dss_cons (ds_for PassesOwn.never rfl (di_enum rfl w.n_enumerate (dv 2)) (dg_tup rfl (dgs_cons (dg_name sc_show_machine.nd (i := 4) rfl (by first | exact Or.inl rfl | exact Or.inr rfl)) (dgs_cons (dg_name sc_show_machine.nd (i := 5) rfl (by first | exact Or.inl rfl | exact Or.inr rfl)) (dgs_nil))) (gs_len_cons (gs_len_cons gs_len_nil))) (dss_cons (ds_set (i := 6) sc_show_machine.nd rfl (by first | exact Or.inl rfl | exact Or.inr rfl) (de_add (de_callTy call_str_int opc_str rfl w.n_str (by decide +kernel) (da_cons (dv 4) (da_nil))) (de_if (dt_cmp (op_inA hr) o_in (dv 4) (dv 3)) (de_str) (de_str)))) (dss_one (ds_expr (de_mut PySem.F.plainAttrs_list PySem.F.slot_list_append PySem.F.type_list_append mt_append opm_app (pv 1) (da_cons (de_add (de_add (dv 6) (de_str)) (de_call (ok_listed w) (hr.mono (by decide)) rfl w.g_listed w.F_listed.kp (b_listed w) pass00 (da_cons (de_lc (own := [("letter", 7), ("state", 8)]) rfl sc_show_machine.nd (di_seq (dv 5)) (blkOk_by (by kernel_rfl)) (fun _ _ _ _ _ => ⟨_, dg_tup rfl (dgs_cons (dg_name sc_show_machine.nd (i := 7) rfl (by first | exact Or.inl rfl | exact Or.inr rfl)) (dgs_cons (dg_name sc_show_machine.nd (i := 8) rfl (by first | exact Or.inl rfl | exact Or.inr rfl)) (dgs_nil))) (gs_len_cons (gs_len_cons gs_len_nil))⟩) (fun _ _ _ _ _ => ⟨_, dts_nil⟩) (fun _ _ _ _ _ => ⟨_, de_add (de_add (de_call (ok_show_letter w) (hr.mono (by decide)) rfl w.g_show_letter w.F_show_letter.kp (b_show_letter w) pass00 (da_cons (dv 7) (da_nil))) (de_str)) (de_callTy call_str_int opc_str rfl w.n_str (by decide +kernel) (da_cons (dv 8) (da_nil)))⟩)) (da_cons (de_str) (da_nil))))) (da_nil))))))) (dss_one (ds_ret (de_join (de_str) (dv 1))))))⟩
theorem sc_show_saying : FnScope ["saying", "part"] ["saying"] (defScope st_show_saying) := ⟨rfl, rfl, rfl, by decide +kernel, rfl, by decide +kernel, by decide +kernel⟩
theorem b_show_saying {K : PySem.W.Frag} {mg : Str → Option Value} (w : W K mg) : Binds K w.fd_show_saying ["saying"] [] := w.F_show_saying.bindsN fun _ _ _ _ _ _ us hl => match us, hl with | [_], _ => rfl
theorem kb_show_saying_saying {K : PySem.W.Frag} {mg : Str → Option Value} (w : W K mg) : KB K w.fd_show_saying ["saying"] ["saying"] [0] := kb_of w.F_show_saying fun _ _ _ _ _ _ ws hl => match ws, hl with | [_], _ => rfl
theorem okN_show_saying {P : Program} {wd : World} {K : PySem.W.Frag} {mg : Str → Option Value} {base : Heap} (w : W K mg) : ∀ n : Nat, FnOk P wd K mg base L2.CX0 (3 + n) (He.ga K "show_saying") w.fd_show_saying ["saying"] (spD K [false] (denN_show_saying n))
  | 0 => fn_bad
  | n + 1 => by
    have ih := okN_show_saying (P := P) (wd := wd) (base := base) w n
    exact fn_ok0 (k := 3 + n) w.F_show_saying sc_show_saying rfl (by decide) fun cdv A outer s H E hr => ⟨_, dss_cons (ds_if (dt_cmp (op_eqA hr) o_eq (de_ix (dv 0) (de_int)) (de_str)) (dss_one (ds_ret (de_add (de_add (de_str) (de_call (ok_show_list w) (hr.mono (by omega)) rfl w.g_show_list w.F_show_list.kp (b_show_list w) pass00 (da_cons (de_ix (dv 0) (de_int)) (da_nil)))) (de_str)))) (dss_nil)) (dss_cons (ds_if (dt_cmp (op_eqA hr) o_eq (de_ix (dv 0) (de_int)) (de_str)) (dss_one (ds_ret (de_add (de_add (de_str) (de_ix (dv 0) (de_int))) (de_str)))) (dss_nil)) (dss_one (ds_ret (de_add (de_add (de_str) (de_join (de_str) (de_add (de_lst (n := 1) (da_cons (de_ix (dv 0) (de_int)) (da_nil))) (de_lc (own := [("part", 1)]) rfl sc_show_saying.nd (di_seq (de_sl (dv 0) (do_some (de_int)) (do_none))) (blkOk_by (by kernel_rfl)) (fun _ _ _ _ _ => ⟨_, dg_name sc_show_saying.nd (i := 1) rfl (by first | exact Or.inl rfl | exact Or.inr rfl)⟩) (fun _ _ _ _ _ => ⟨_, dts_nil⟩) (fun _ _ _ _ _ => ⟨_, de_call ih hr rfl w.g_show_saying w.F_show_saying.kp (b_show_saying w) pass00 (da_cons (dv 1) (da_nil))⟩))))) (de_str)))))⟩
theorem ok_show_saying {P : Program} {wd : World} {K : PySem.W.Frag} {mg : Str → Option Value} {base : Heap} (w : W K mg) : FnOk P wd K mg base L2.CX0 15 (He.ga K "show_saying") w.fd_show_saying ["saying"] (spD K [false] den_show_saying) := okN_show_saying w 12
theorem sc__law_shown : FnScope ["_law_door", "_law_thing_here", "_law_named"] ["_law_door", "_law_thing_here", "_law_named"] (defScope st__law_shown) := ⟨rfl, rfl, rfl, by decide +kernel, rfl, by decide +kernel, by decide +kernel⟩
theorem b__law_shown {K : PySem.W.Frag} {mg : Str → Option Value} (w : W K mg) : Binds K w.fd__law_shown ["_law_door", "_law_thing_here", "_law_named"] [] := w.F__law_shown.bindsN fun _ _ _ _ _ _ us hl => match us, hl with | [_, _, _], _ => rfl
theorem ok__law_shown {P : Program} {wd : World} {K : PySem.W.Frag} {mg : Str → Option Value} {base : Heap} (w : W K mg) : FnOk P wd K mg base L2.CX0 16 (He.ga K "_law_shown") w.fd__law_shown ["_law_door", "_law_thing_here", "_law_named"] (spD K [false, false, false] den_law_shown) :=
  fn_ok0 (k := 15) w.F__law_shown sc__law_shown rfl (by decide) fun cdv A outer s H E hr => ⟨_, dss_cons (ds_if (dt_cmp (op_eqA hr) o_eq (dv 0) (de_int)) (dss_one (ds_ret (de_if (dt_val (dv 2)) (de_callKw (ok_show_order w) (hr.mono (by decide)) rfl w.g_show_order w.F_show_order.kp (kb_show_order_order w) pass00 (dk_cons (dv 1) (dk_nil))) (de_call (ok_show_order w) (hr.mono (by decide)) rfl w.g_show_order w.F_show_order.kp (b_show_order w) pass00 (da_cons (dv 1) (da_nil)))))) (dss_nil)) (dss_cons (ds_if (dt_cmp (op_eqA hr) o_eq (dv 0) (de_int)) (dss_one (ds_ret (de_if (dt_val (dv 2)) (de_callKw (ok_show_list w) (hr.mono (by decide)) rfl w.g_show_list w.F_show_list.kp (kb_show_list_forbidden w) pass00 (dk_cons (dv 1) (dk_nil))) (de_call (ok_show_list w) (hr.mono (by decide)) rfl w.g_show_list w.F_show_list.kp (b_show_list w) pass00 (da_cons (dv 1) (da_nil)))))) (dss_nil)) (dss_cons (ds_if (dt_cmp (op_eqA hr) o_eq (dv 0) (de_int)) (dss_one (ds_ret (de_if (dt_val (dv 2)) (de_callKw (ok_show_word w) (hr.mono (by decide)) rfl w.g_show_word w.F_show_word.kp (kb_show_word_word w) pass00 (dk_cons (dv 1) (dk_nil))) (de_call (ok_show_word w) (hr.mono (by decide)) rfl w.g_show_word w.F_show_word.kp (b_show_word w) pass00 (da_cons (dv 1) (da_nil)))))) (dss_nil)) (dss_cons (ds_if (dt_cmp (op_eqA hr) o_eq (dv 0) (de_int)) (dss_one (ds_ret (de_if (dt_val (dv 2)) (de_callKw (ok_show_machine w) (hr.mono (by decide)) rfl w.g_show_machine w.F_show_machine.kp (kb_show_machine_machine w) pass00 (dk_cons (dv 1) (dk_nil))) (de_call (ok_show_machine w) (hr.mono (by decide)) rfl w.g_show_machine w.F_show_machine.kp (b_show_machine w) pass00 (da_cons (dv 1) (da_nil)))))) (dss_nil)) (dss_cons (ds_if (dt_cmp (op_eqA hr) o_eq (dv 0) (de_int)) (dss_one (ds_ret (de_if (dt_val (dv 2)) (de_callKw (ok_show_saying w) (hr.mono (by decide)) rfl w.g_show_saying w.F_show_saying.kp (kb_show_saying_saying w) pass00 (dk_cons (dv 1) (dk_nil))) (de_call (ok_show_saying w) (hr.mono (by decide)) rfl w.g_show_saying w.F_show_saying.kp (b_show_saying w) pass00 (da_cons (dv 1) (da_nil)))))) (dss_nil)) (dss_one (ds_ret (de_if (dt_val (dv 2)) (de_callKw (ok_show_number w) (hr.mono (by decide)) rfl w.g_show_number w.F_show_number.kp (kb_show_number_a w) pass00 (dk_cons (dv 1) (dk_nil))) (de_call (ok_show_number w) (hr.mono (by decide)) rfl w.g_show_number w.F_show_number.kp (b_show_number w) pass00 (da_cons (dv 1) (da_nil))))))))))⟩
theorem sc_law : FnScope ["_law_script", "_law_rows", "_law_place", "_law_well_here", "_law_a", "_law_door", "_law_thing_here", "_law_said"] ["_law_script"] (defScope st_law) := ⟨rfl, rfl, rfl, by decide +kernel, rfl, by decide +kernel, by decide +kernel⟩
theorem ok_law {P : Program} {wd : World} {K : PySem.W.Frag} {mg : Str → Option Value} {base : Heap} (w : W K mg) : FnOk P wd K mg base L2.CX0 17 (He.ga K "law") w.fd_law ["_law_script"] (spD K [false] den_law_k45) :=
  fn_ok0 (k := 16) w.F_law sc_law rfl (by decide) fun cdv A outer s H E hr => ⟨_, dss_cons (ds_set (i := 1) sc_law.nd rfl (by first | exact Or.inl rfl | exact Or.inr rfl) (de_lst (n := 0) (da_nil))) (dss_cons (ds_for PassesOwn.never rfl (di_rng1 rfl w.n_range (de_callB (call_max2 rfl) opc_max2 rfl w.n_max (by decide +kernel) (da_cons (de_int) (da_cons (de_callB (call_min2 rfl) opc_min2 rfl w.n_min (by decide +kernel) (da_cons (de_int) (da_cons (de_callB call_len opc_len rfl w.n_len (by decide +kernel) (da_cons (dv 0) (da_nil))) (da_nil)))) (da_nil))))) (dg_name sc_law.nd (i := 2) rfl (by first | exact Or.inl rfl | exact Or.inr rfl)) (dss_cons (ds_set (i := 3) sc_law.nd rfl (by first | exact Or.inl rfl | exact Or.inr rfl) (de_call (ok__law_well w) (hr.mono (by decide)) rfl w.g__law_well w.F__law_well.kp (b__law_well w) pass00 (da_cons (dv 0) (da_cons (dv 2) (da_nil))))) (dss_cons (ds_set (i := 4) sc_law.nd rfl (by first | exact Or.inl rfl | exact Or.inr rfl) (de_call (ok__law_number w) (hr.mono (by decide)) rfl w.g__law_number w.F__law_number.kp (b__law_number w) pass00 (da_cons (dv 3) (da_nil)))) (dss_cons (ds_expr (de_mut PySem.F.plainAttrs_list PySem.F.slot_list_append PySem.F.type_list_append mt_append opm_app (pv 1) (da_cons (de_tup (n := 3) (da_cons (de_int) (da_cons (dv 4) (da_cons (de_if (dt_cmp (op_eqA hr) o_eq (de_ix (dv 4) (de_int)) (de_int)) (de_callTy call_str_int opc_str rfl w.n_str (by decide +kernel) (da_cons (de_ix (dv 4) (de_int)) (da_nil))) (de_add (de_add (de_callTy call_str_int opc_str rfl w.n_str (by decide +kernel) (da_cons (de_ix (dv 4) (de_int)) (da_nil))) (de_str)) (de_callTy call_str_int opc_str rfl w.n_str (by decide +kernel) (da_cons (de_ix (dv 4) (de_int)) (da_nil))))) (da_nil))))) (da_nil)))) (dss_one (ds_for PassesOwn.never rfl (di_rng1 rfl w.n_range (de_int)) (dg_name sc_law.nd (i := 5) rfl (by first | exact Or.inl rfl | exact Or.inr rfl)) (dss_cons (ds_asg (de_call (ok__law_thing w) (hr.mono (by decide)) rfl w.g__law_thing w.F__law_thing.kp (b__law_thing w) pass00 (da_cons (dv 3) (da_cons (dv 5) (da_nil)))) (dg_tup rfl (dgs_cons (dg_name sc_law.nd (i := 6) rfl (by first | exact Or.inl rfl | exact Or.inr rfl)) (dgs_cons (dg_name sc_law.nd (i := 7) rfl (by first | exact Or.inl rfl | exact Or.inr rfl)) (dgs_nil))) (gs_len_cons (gs_len_cons gs_len_nil)))) (dss_cons (ds_if (dt_not (dt_val (de_call (ok__law_same w) (hr.mono (by decide)) rfl w.g__law_same w.F__law_same.kp (b__law_same w) pass00 (da_cons (de_call (ok__law_shown w) (hr.mono (by decide)) rfl w.g__law_shown w.F__law_shown.kp (b__law_shown w) pass00 (da_cons (dv 5) (da_cons (dv 6) (da_cons (de_cmp (op_eqA hr) o_eq (de_call (ok__law_draw w) (hr.mono (by decide)) rfl w.g__law_draw w.F__law_draw.kp (b__law_draw w) pass00 (da_cons (dv 3) (da_cons (de_int) (da_nil)))) (de_int)) (da_nil))))) (da_cons (dv 7) (da_nil)))))) (dss_one (ds_ret (de_bl))) (dss_nil)) (dss_one (ds_expr (de_mut PySem.F.plainAttrs_list PySem.F.slot_list_append PySem.F.type_list_append mt_append opm_app (pv 1) (da_cons (de_tup (n := 3) (da_cons (dv 5) (da_cons (dv 6) (da_cons (dv 7) (da_nil))))) (da_nil))))))))))))) (dss_cons (ds_for PassesOwn.never rfl (di_seq (de_step (dv 1) (de_neg (de_int)))) (dg_tup rfl (dgs_cons (dg_name sc_law.nd (i := 5) rfl (by first | exact Or.inl rfl | exact Or.inr rfl)) (dgs_cons (dg_name sc_law.nd (i := 6) rfl (by first | exact Or.inl rfl | exact Or.inr rfl)) (dgs_cons (dg_name sc_law.nd (i := 7) rfl (by first | exact Or.inl rfl | exact Or.inr rfl)) (dgs_nil)))) (gs_len_cons (gs_len_cons (gs_len_cons gs_len_nil)))) (dss_one (ds_if (dt_not (dt_val (de_call (ok__law_same w) (hr.mono (by decide)) rfl w.g__law_same w.F__law_same.kp (b__law_same w) pass00 (da_cons (de_call (ok__law_shown w) (hr.mono (by decide)) rfl w.g__law_shown w.F__law_shown.kp (b__law_shown w) pass00 (da_cons (dv 5) (da_cons (dv 6) (da_cons (de_cmp op_lt o_lt (de_callB call_len opc_len rfl w.n_len (by decide +kernel) (da_cons (dv 7) (da_nil))) (de_int)) (da_nil))))) (da_cons (dv 7) (da_nil)))))) (dss_one (ds_ret (de_bl))) (dss_nil)))) (dss_one (ds_ret (de_bl)))))⟩
end DLL

namespace DLL
open Evl (Ex)
open PySem PySem.Spec PyProof.Rows L2 DL DLS
theorem mkW {K : PySem.W.Frag} {h : Heap} {mg : Str → Option Value} (X : K.In h) (G : h.Ns mainGlobals mg) (c0 : DL.SaysC fa fn cs K) : Nonempty (W K mg) := by
  have c := c0.d
  obtain ⟨fd0, F0⟩ := c.def_ 0 (d := dd0) rfl
  obtain ⟨fd1, F1⟩ := c.def_ 1 (d := dd1) rfl
  obtain ⟨fd2, F2⟩ := c.def_ 2 (d := dd2) rfl
  obtain ⟨fd3, F3⟩ := c.def_ 3 (d := dd3) rfl
  obtain ⟨fd4, F4⟩ := c.def_ 4 (d := dd4) rfl
  obtain ⟨fd5, F5⟩ := c.def_ 5 (d := dd5) rfl
  obtain ⟨fd6, F6⟩ := c.def_ 6 (d := dd6) rfl
  obtain ⟨fd7, F7⟩ := c.def_ 7 (d := dd7) rfl
  obtain ⟨fd8, F8⟩ := c.def_ 8 (d := dd8) rfl
  obtain ⟨fd9, F9⟩ := c.def_ 9 (d := dd9) rfl
  obtain ⟨fd10, F10⟩ := c.def_ 10 (d := dd10) rfl
  obtain ⟨fd11, F11⟩ := c.def_ 11 (d := dd11) rfl
  obtain ⟨fd12, F12⟩ := c.def_ 12 (d := dd12) rfl
  obtain ⟨fd13, F13⟩ := c.def_ 13 (d := dd13) rfl
  obtain ⟨fd14, F14⟩ := c.def_ 14 (d := dd14) rfl
  obtain ⟨fd15, F15⟩ := c.def_ 15 (d := dd15) rfl
  obtain ⟨fd16, F16⟩ := c.def_ 16 (d := dd16) rfl
  obtain ⟨fd17, F17⟩ := c.def_ 17 (d := dd17) rfl
  obtain ⟨fd18, F18⟩ := c.def_ 18 (d := dd18) rfl
  obtain ⟨fd19, F19⟩ := c.def_ 19 (d := dd19) rfl
  obtain ⟨fd20, F20⟩ := c.def_ 20 (d := dd20) rfl
  obtain ⟨fd21, F21⟩ := c.def_ 21 (d := dd21) rfl
  obtain ⟨fd22, F22⟩ := c.def_ 22 (d := dd22) rfl
  obtain ⟨fd23, F23⟩ := c.def_ 23 (d := dd23) rfl
  obtain ⟨fd24, F24⟩ := c.def_ 24 (d := dd24) rfl
  obtain ⟨fd25, F25⟩ := c.def_ 25 (d := dd25) rfl
  obtain ⟨fd26, F26⟩ := c.def_ 26 (d := dd26) rfl
  obtain ⟨fd27, F27⟩ := c.def_ 27 (d := dd27) rfl
  obtain ⟨fd28, F28⟩ := c.def_ 28 (d := dd28) rfl
  obtain ⟨con0⟩ := DL.con_ok X G (c0.con 0 rfl)
  obtain ⟨con1⟩ := DL.con_ok X G (c0.con 1 rfl)
  exact ⟨⟨fd0, F0, He.glo_ok X G (c.fact 0 (f := .glo "_law_well") rfl),
    fd1, F1, He.glo_ok X G (c.fact 1 (f := .glo "_law_draw") rfl),
    fd2, F2, He.glo_ok X G (c.fact 2 (f := .glo "_law_same") rfl),
    fd3, F3, He.glo_ok X G (c.fact 3 (f := .glo "_law_order") rfl),
    fd4, F4, He.glo_ok X G (c.fact 4 (f := .glo "_law_list") rfl),
    fd5, F5, He.glo_ok X G (c.fact 5 (f := .glo "_law_letters") rfl),
    fd6, F6, He.glo_ok X G (c.fact 6 (f := .glo "_law_machine") rfl),
    fd7, F7, He.glo_ok X G (c.fact 7 (f := .glo "_law_saying") rfl),
    fd8, F8, He.glo_ok X G (c.fact 8 (f := .glo "_law_listed") rfl),
    fd9, F9, He.glo_ok X G (c.fact 9 (f := .glo "_law_said_order") rfl),
    fd10, F10, He.glo_ok X G (c.fact 10 (f := .glo "_law_said_list") rfl),
    fd11, F11, He.glo_ok X G (c.fact 11 (f := .glo "_law_said_letter") rfl),
    fd12, F12, He.glo_ok X G (c.fact 12 (f := .glo "_law_said_word") rfl),
    fd13, F13, He.glo_ok X G (c.fact 13 (f := .glo "_law_said_machine") rfl),
    fd14, F14, He.glo_ok X G (c.fact 14 (f := .glo "_law_said_saying") rfl),
    fd15, F15, He.glo_ok X G (c.fact 15 (f := .glo "_law_thing") rfl),
    fd16, F16, He.glo_ok X G (c.fact 16 (f := .glo "_law_lowest") rfl),
    fd17, F17, He.glo_ok X G (c.fact 17 (f := .glo "_law_power") rfl),
    fd18, F18, He.glo_ok X G (c.fact 18 (f := .glo "_law_number") rfl),
    fd19, F19, He.glo_ok X G (c.fact 19 (f := .glo "show_number") rfl),
    fd20, F20, He.glo_ok X G (c.fact 20 (f := .glo "listed") rfl),
    fd21, F21, He.glo_ok X G (c.fact 21 (f := .glo "show_order") rfl),
    fd22, F22, He.glo_ok X G (c.fact 22 (f := .glo "show_list") rfl),
    fd23, F23, He.glo_ok X G (c.fact 23 (f := .glo "show_letter") rfl),
    fd24, F24, He.glo_ok X G (c.fact 24 (f := .glo "show_word") rfl),
    fd25, F25, He.glo_ok X G (c.fact 25 (f := .glo "show_machine") rfl),
    fd26, F26, He.glo_ok X G (c.fact 26 (f := .glo "show_saying") rfl),
    fd27, F27, He.glo_ok X G (c.fact 27 (f := .glo "_law_shown") rfl),
    fd28, F28, He.glo_ok X G (c.fact 28 (f := .glo "law") rfl),
    con0,
    con1,
    He.free_ok X G (c.fact 29 (f := .free "abs") rfl),
    He.free_ok X G (c.fact 30 (f := .free "all") rfl),
    He.free_ok X G (c.fact 31 (f := .free "bool") rfl),
    He.free_ok X G (c.fact 32 (f := .free "enumerate") rfl),
    He.free_ok X G (c.fact 33 (f := .free "int") rfl),
    He.free_ok X G (c.fact 34 (f := .free "isinstance") rfl),
    He.free_ok X G (c.fact 35 (f := .free "len") rfl),
    He.free_ok X G (c.fact 36 (f := .free "list") rfl),
    He.free_ok X G (c.fact 37 (f := .free "max") rfl),
    He.free_ok X G (c.fact 38 (f := .free "min") rfl),
    He.free_ok X G (c.fact 39 (f := .free "range") rfl),
    He.free_ok X G (c.fact 40 (f := .free "set") rfl),
    He.free_ok X G (c.fact 41 (f := .free "sorted") rfl),
    He.free_ok X G (c.fact 42 (f := .free "str") rfl),
    He.free_ok X G (c.fact 43 (f := .free "tuple") rfl)⟩⟩
end DLL
open PySem PySem.W PySem.Calls PyProof.Rows
set_option maxHeartbeats 0
theorem PySem.Challenge.cw_bannedorders_k45_whole_texts_shown_holds : PySem.Challenge.rw_bannedorders_k45_whole_texts_shown.Holds := by
  w_on; o_law
  refine HandSHeadRun.head_any (r := OpenLaw.row PySem.Challenge.rw_bannedorders_k45_whole_texts_shown) (q := view (OpenLaw.row PySem.Challenge.rw_bannedorders_k45_whole_texts_shown).prog [32]) (H := DLL.hk) (ob := DLL.ob) (M := 4000) (loose := DLL.loose) (d := HandSHeadRun.topDef (OpenLaw.row PySem.Challenge.rw_bannedorders_k45_whole_texts_shown).prog 32) (kwd := []) DLL.ob_eq
    (by kernel_rfl) (fun s => by kernel_rfl) DLL.run (by kernel_rfl) (by kernel_rfl) (by kernel_rfl) (by rfl) (by first | assumption | decide +kernel) (by decide +kernel) ⟨rfl, rfl, rfl, rfl, rfl, by decide +kernel⟩ ?hw ?hc
  case hw => w_witness2
  case hc =>
    refine L2.walk_ofE (l := PySem.Challenge.rw_bannedorders_k45_whole_texts_shown) (n := 63) (k := 17) (x := "_law_script") (CX := L2.CX0) rfl (by decide) (by kernel_rfl) ⟨rfl, by decide, by decide⟩ ?F (fun _ _ _ _ z => z)
    intro w mg fa h Y G hmg0
    obtain ⟨K, KX, c⟩ := Y
    have hmg : mg ("law" : PySem.Str) = some (.ref fa) := by
      have e : (HandSHeadRun.topDef (OpenLaw.row PySem.Challenge.rw_bannedorders_k45_whole_texts_shown).prog 32).name = ("law" : PySem.Str) := by kernel_rfl
      rw [← e]
      exact hmg0
    obtain ⟨ww⟩ := DLL.mkW KX G c
    have e := hmg.symm.trans ww.g_law
    cases e
    have b := L2.FunD.bindsA (ps := ["_law_script"]) ww.F_law fun _ _ _ _ _ _ us hl => match us, hl with | [_], _ => rfl
    refine ⟨K, ww.fd_law, DL.spD K [false] DLS.den_law_k45, KX, fun s v => b s [v] rfl, fun H a ns hl _ hS => ?_, fun base _ _ => DLL.ok_law ww⟩
    refine ⟨H, [DL.scrD ns], Evl.Ex.refl H, .val (.scr hS) .nil, List.Pairwise.nil, ?_⟩
    rw [DLS.law_true_k45 ns hl]
    intro F' H' v _ hv
    cases hv
    rfl