import PyProof.Rows.All
import Wide.All
import OpenK.AllK
import Wide.FinOn
import HandS.ForMost
import HandS.Exc
import HandS.ExcOwn
import HandS.Style
import HandS.Flow
import HandS.Evl
import HandS.HeadHook2
import HandS.TupAny
import HandS.TupMul
import KE.KDictKeyed
import KE.KeyNested
import HandS.Wide
import HandS.IsInst
import HandS.SortInts
import HandS.Conv
import HandS.Deep
import KE.GoesMore
import KE.GoesEnum
import HandS.Iter
import HandS.Words
import HandS.WordsExc
import HandS.Defaults
import HandS.More
import KE.SortData
import KE.DataFind
import KE.KIndexOf
import HandS.SetFor
import HandS.Strs
import KE.GoesZip
import HandS.TryOnly
import HandS.SetBool
import HandS.TupSets
import HandS.Keys
import HandS.TupLe
import HandS.DictComp
import HandS.WordsDict
import HandS.TupLen
import HandS.HeadHook3
import HandS.MapObj
import HandS.ExcValue
import HandS.Head4
import HandS.HeadEnd
import KE.KDictList
import KE.KDictDisplayH
import HandS.ExcInit
import HandS.ExcField
import HandS.StrMore
import HandS.Star
import HandS.CallLocal
import HandS.ExcIs
import KE.KExcIs
import HandS.Head0
import HandS.Head1
import HandS.Head2
import HandS.HeadHook1
import KE.KStateDown
import PySem.Challenge.RW_bannedorders_k00_errors
set_option Elab.async false
set_option linter.all false
set_option maxRecDepth 100000
set_option maxHeartbeats 4000000
/-! tuples that have no attributes of their own -/
namespace DL
open Evl (Ex)
open PySem PySem.Spec PyProof.Rows L2
def TpD (K : PySem.W.Frag) (H : Hp) (a : Addr) (xs : List V) : Prop := (∃ o : Obj, o.dict = none ∧ H a = some (.frz o (.tup xs))) ∨
  ∃ (o : Obj) (its : Array Value) (n : Nat), K.lookup a = some o ∧ o.cls = .type "tuple" ∧ o.dict = none ∧ o.data = .seq its n ∧ its.size ≤ sizeLine ∧ Vals xs its.toList
section
variable {K : PySem.W.Frag} {H H' : Hp} {a : Addr} {xs : List V}
theorem TpD.sq (h : TpD K H a xs) : SqT K H a xs := by
  rcases h with ⟨o, _, h⟩ | ⟨o, its, n, h1, h2, h3, h4, h5, h6⟩
  · exact .inl (.inr ⟨o, h⟩)
  · exact .inr ⟨o, its, n, h1, h2, h4, h5, h6⟩
theorem TpD.ex (e : Ex H H') (h : TpD K H a xs) : TpD K H' a xs := by
  rcases h with ⟨o, h1, h⟩ | h
  · exact .inl ⟨o, h1, e _ _ h⟩
  · exact .inr h
theorem TpD.of {o : Obj} (d : o.dict = none) (h : H a = some (.frz o (.tup xs))) : TpD K H a xs := .inl ⟨o, d, h⟩
theorem frz_ok {P : Program} {w : World} {h : Heap} {its : List Value} {c : Nat} (hz : xs.length ≤ sizeLine) (r : Vals xs its) (g : h.get? a = some { cls := .type "tuple", data := .seq its.toArray c }) : ObjOk P w H h a (.frz { cls := .type "tuple", data := .seq its.toArray c } (.tup xs)) :=
  ⟨g, hz, its, r, ⟨_, g, rfl, c, rfl⟩⟩
end
/-- a new tuple -/
def NewT (xs : List V) (H : Hp) (Q : VK) : Prop := ∀ p (o : Obj), o.dict = none → H p = none → Q (.ref p) (upd H p (.frz o (.tup xs)))
section
variable {X : Cx} {es : List Expr} {t : TA} {pos : Pos}
theorem newT_push {pins : List (Addr × Obj)} {σ : L2.St} {H : Hp} {s : Shared} {xs : List V} {its : List Value} {tk : Nat} {Q : VK} (I : Inv X pins σ H s) (hz : xs.length ≤ sizeLine) (r : Vals xs its) (q : NewT xs H Q) :
    L2.EP X pins σ Q (.ref s.heap.objs.size) { s with heap := s.heap.push { cls := .type "tuple", data := .seq its.toArray }, toks := tk } :=
  ⟨.ref s.heap.objs.size, upd H s.heap.objs.size (.frz { cls := .type "tuple", data := .seq its.toArray } (.tup xs)), I.laid (t' := tk) (fun b u e => Heap.get?_push_of_some _ e) (Nat.le_refl _) (frz_ok hz r (Heap.get?_push_size _ rfl)), rfl, q _ _ rfl (I.hok.fresh (Nat.le_refl _))⟩
def tTupF (t : TA) : TE := fun σ H Q => t σ H fun xs H1 => xs.length ≤ sizeLine ∧ NewT xs H1 Q
theorem pe_tupF {x1} (h : PA X es t) : PE X (.Tuple es x1 pos) (tTupF t) := by
  refine ⟨fun pins s σ H Q I hq => ?_⟩
  refine wpAny_Tuple_spliced (thn (h.run pos pins s σ H _ I hq) fun us s1 ⟨xs, H1, I1, r, z, q⟩ => ⟨by rw [← r.length]; exact z, ?_⟩)
  exact newT_push (tk := s1.toks) I1 z r q
/-- t + u -/
def rCatF (K : PySem.W.Frag) : R2 := fun x y H Q => ∃ a b xs ys, x = .ref a ∧ y = .ref b ∧ SqT K H a xs ∧ SqT K H b ys ∧ xs.length + ys.length ≤ sizeLine ∧
  (xs = [] → Q (.ref b) H) ∧ (xs ≠ [] → ys = [] → Q (.ref a) H) ∧ (xs ≠ [] → ys ≠ [] → NewT (xs ++ ys) H Q)
theorem op_catF : OpR X (binaryOp .Add) (rCatF X.K) := by
  intro pins s σ H x y v u Q I rx ry h
  obtain ⟨a, b, xs, ys, rfl, rfl, ha, hb, hz, q0, q1, q2⟩ := h
  cases rx
  cases ry
  obtain ⟨its, r1, p1, _⟩ := I.tuple ha
  obtain ⟨its2, r2, p2, _⟩ := I.tuple hb
  by_cases hx : xs = []
  · subst hx
    cases r1
    exact cat_tup0 p1 p2 ⟨.ref b, H, I, rfl, q0 rfl⟩
  · refine HT.cat_tup p1 p2 (fun z => hx (r1.nil_iff.mp z)) (fun z => ⟨.ref a, H, I, rfl, q1 hx (r2.nil_iff.mp z)⟩) (fun z => ?_) (by rw [← r1.length, ← r2.length]; exact hz)
    exact newT_push (tk := s.toks) I (by rw [List.length_append]; exact hz) (r1.append r2) (q2 hx fun w => z (r2.nil_iff.mpr w))
/-- t * k -/
def rRepF (K : PySem.W.Frag) : R2 := fun x y H Q => ∃ l k xs, x = .ref l ∧ y = .int k ∧ SqT K H l xs ∧ xs ≠ [] ∧ 2 ≤ k ∧ k ≤ 1000 ∧ xs.length ≤ 1000 ∧ NewT (List.replicate k.toNat xs).flatten H Q
theorem op_repF : OpR X (binaryOp .Mult) (rRepF X.K) := by
  intro pins s σ H x y v u Q I rx ry h
  obtain ⟨l, k, xs, rfl, rfl, hT, hne, h1, h2, hz, q⟩ := h
  cases rx
  obtain ⟨t, rfl⟩ := ry
  obtain ⟨its, r, ⟨⟨cls, dd, data, sl⟩, ho, hc, n, hd⟩, hs⟩ := I.tuple hT
  simp only at hc hd
  subst hc hd
  have hle : its.length = xs.length := r.length.symm
  have hn : its ≠ [] := fun e => hne (by
    rw [e] at hle
    exact List.eq_nil_of_length_eq_zero hle.symm)
  have hi : its.toArray.isEmpty = false := by
    cases its with
    | nil => exact absurd rfl hn
    | cons a b => rfl
  have hsz0 : its.toArray.size = xs.length := by rw [List.size_toArray, hle]
  have hm : ((its.toArray.size : Nat) : Int) * k ≤ 1000000 := by
    rw [hsz0]
    have a1 : ((xs.length : Nat) : Int) * k ≤ 1000 * k := Int.mul_le_mul_of_nonneg_right (by omega) (by omega)
    omega
  have flen : (List.replicate k.toNat its).flatten.length ≤ sizeLine := by
    rw [PyProof.Rows.lm_len_rep_flat, hle, sizeLine_eq]
    have a1 : k.toNat * xs.length ≤ 1000 * 1000 := Nat.mul_le_mul (by omega) hz
    omega
  have c0 : (decide (k < -(2 ^ 63)) || decide (k ≥ 2 ^ 63)) = false := by
    rw [decide_eq_false (by omega), decide_eq_false (by omega)] <;> rfl
  have c1 : (its.toArray.isEmpty || k == 1) = false := by
    rw [hi, Bool.false_or]
    exact beq_eq_false_iff_ne.mpr (by omega)
  have c2 : (decide (k ≤ 0) || its.toArray.isEmpty) = false := by
    rw [hi, Bool.or_false]
    exact decide_eq_false (by omega)
  have c4 : Builtin.Tuple.tupleTooMany (((its.toArray.size : Nat) : Int) * k) = false := by
    unfold Builtin.Tuple.tupleTooMany
    rw [sizeLine_eq]
    exact decide_eq_false (by omega)
  refine wpAny_binaryOp_repeat_ref (T := "tuple") (U := "int") (by decide) ⟨_, ho, rfl⟩ (fun s' => typeIs_int s' k t) noFill_tuple_mul F.fills_int_mul F.slot_int_rmul repeat_tuple F.slot_int_index.lookup
    (call_meets F.slot_int_rmul (typeIs_int s k t) F.entry_int_rmul (F.args_int_rmul_2 _ _) (int_rmul_tuple k t l its.toArray n dd sl)
      ⟨ho, rfl, ⟨_, ho, rfl⟩, call_meets F.slot_tuple_mul ⟨_, ho, rfl⟩ F.entry_tuple_mul (F.args_tuple_mul_2 _ _) (tuple_mulW l its.toArray n dd sl k t c0 c1 c2 (by omega) c4 (by rw [size_rep, List.size_toArray]; exact flen)) ⟨ho, ?_⟩⟩)
  rw [size_rep]
  exact newT_push (tk := s.toks) I (by rw [PyProof.Rows.lm_len_rep_flat, sizeLine_eq]; have a1 : k.toNat * xs.length ≤ 1000 * 1000 := Nat.mul_le_mul (by omega) hz; omega) (r.rep k.toNat) q
end
/-! ### dicts whose keys are tuples, nested, and whose values are all True -/
abbrev NK := NestedKey
mutual
def noTx : NK → Bool
  | .none => true
  | .num _ => true
  | .text _ => false
  | .tup ks => noTxs ks
def noTxs : List NK → Bool
  | [] => true
  | k :: ks => noTx k && noTxs ks
end
def goodK (k : NK) : Prop := (∃ l, k = .tup l) ∧ k.depth ≤ 8 ∧ noTx k = true
def trN (p : NK × Addr) : NK × Addr × Value := (p.1, p.2, .bool true)
def RawN (P : Program) (w : World) (h : Heap) (a : Addr) (L : List (NK × Addr)) : Prop :=
  (a == sysModules) = false ∧ L.length ≤ 1000 ∧ ∃ o es ep, h.get? a = some o ∧ o.ExactDict ∧ o.data = .dict es ep ∧ es.toList = (L.map trN).map (entryOfKey (nestedKind P w)) ∧ ((L.map trN).map (·.1)).Nodup
mutual
theorem hash_any (w w' : World) : ∀ k : NK, noTx k = true → k.hash w = k.hash w'
  | .none, _ => rfl
  | .num _, _ => rfl
  | .text _, h => by simp [noTx] at h
  | .tup ks, h => by
    simp only [NestedKey.hash]
    rw [hashes_any w w' ks (by simpa [noTx] using h)]
theorem hashes_any (w w' : World) : ∀ ks : List NK, noTxs ks = true → NestedKey.hashes w ks = NestedKey.hashes w' ks
  | [], _ => rfl
  | k :: ks, h => by
    simp only [noTxs, Bool.and_eq_true] at h
    simp only [NestedKey.hashes]
    rw [hash_any w w' k h.1, hashes_any w w' ks h.2]
end
theorem RawN.any {P : Program} {w : World} {h : Heap} {a : Addr} {L : List (NK × Addr)} (g : ∀ p ∈ L, goodK p.1) (R : RawN P w h a L) (P' : Program) (w' : World) : RawN P' w' h a L := by
  obtain ⟨z, n, o, es, ep, ho, r1, r2, r3, r4⟩ := R
  refine ⟨z, n, o, es, ep, ho, r1, r2, ?_, r4⟩
  rw [r3, List.map_map, List.map_map]
  refine List.map_congr_left fun p hp => ?_
  have e : NestedKey.hash w p.1 = NestedKey.hash w' p.1 := hash_any w w' p.1 (g p hp).2.2
  show (⟨NestedKey.hash w p.1, _, _⟩ : DictEntry) = ⟨NestedKey.hash w' p.1, _, _⟩
  rw [e]
/-- such a dict as a list of one's own is -/
def DicG (a : Addr) (L : List (NK × Addr)) : HO := .ext fun h => ∀ P w, RawN P w h a L
end DL

namespace DL
open Evl (Ex)
open PySem PySem.Spec PyProof.Rows L2

abbrev D := PyData
def line : Nat := 16777216
theorem line_eq : line = sizeLine := by rw [sizeLine_eq]; rfl
inductive Sl where
  | val (d : D)
  | own (k : Option Nat) (d : D)
abbrev S := List (Option Sl)
inductive R where
  | val (d : D)
  | new (d : D)
  | slot (i : Nat)
inductive Out (α : Type) where
  | ok (a : α)
  | err (c : Str) (d : D) (s : S)
  | bad
/-- ties a part of a term, so that simp leaves it alone -/
class Dum {α : Type} (a : α) : Type where
instance {α : Type} (a : α) : Dum a := {}
def Out.bind {α β : Type} (o : Out α) (f : α → Out β) [Dum f] : Out β :=
  match o with
  | .ok a => f a
  | .err c d s => .err c d s
  | .bad => .bad
theorem bind_ok {α β : Type} (a : α) (f : α → Out β) : (Out.ok a).bind f = f a := rfl
theorem bind_err {α β : Type} (c : Str) (d : D) (s : S) (f : α → Out β) : (Out.err c d s : Out α).bind f = .err c d s := rfl
theorem bind_bad {α β : Type} (f : α → Out β) : (Out.bad : Out α).bind f = .bad := rfl
/-- what a function of the language gives back: a value, a new list, a new tuple -/
inductive RD where
  | val (d : D)
  | lst (ds : List D)
  | tup (ds : List D)
def RD.r : RD → R
  | .val d => .val d
  | .lst ds => .new (.list ds)
  | .tup ds => .val (.tuple ds)
def getS (s : S) (i : Nat) : Option Sl := match s[i]? with
  | some o => o
  | none => none
/-- a dict of one's own is read by rules of its own -/
def ownD : D → Option D
  | .dict _ => none
  | .tuple _ => none
  | d => some d
def getR (s : S) : R → Option D
  | .val d => some d
  | .new d => ownD d
  | .slot i => match getS s i with
    | some (.own _ d) => ownD d
    | some (.val d) => some d
    | _ => none
def frz (s : S) : R → Option (D × S)
  | .val d => some (d, s)
  | .new (.list ds) => some (.list ds, s)
  | .new _ => none
  | .slot i => match getS s i with
    | some (.own none (.list ds)) => some (.list ds, s.set i (some (.val (.list ds))))
    | some (.val d) => some (d, s)
    | _ => none
abbrev XE := S → Out (R × S)
abbrev XT := S → Out (Bool × S)
abbrev XA := S → Out (List R × S)
inductive Fl where
  | nx (s : S)
  | rt (r : R) (s : S)
  | bk (s : S)
  | ct (s : S)
abbrev XS := S → Out Fl

/-! ### relations -/
structure En where
  He : Hp
  Fe : Hp
  io : List Addr
/-- the script: no list of ours (it is never changed, compared, handed back) -/
def scrD (ns : List Int) : D := .dict [(.list [], .list (ns.map .int))]
def keyD : Key → D
  | .inl i => .int i
  | .inr x => .str x
mutual
inductive Rp (K : PySem.W.Frag) (H : Hp) : V → D → Prop
  | non : Rp K H .non .none
  | bl (b : Bool) : Rp K H (.bl b) (.bool b)
  | int (i : Int) : Rp K H (.int i) (.int i)
  | str (x : Str) : Rp K H (.str x) (.str x)
  | lst {a : Addr} {xs : List V} {ds : List PyData} : H a = some (.lst xs) → RpAll K H xs ds → ds.length ≤ line → Rp K H (.ref a) (.list ds)
  | tup {a : Addr} {xs : List V} {ds : List PyData} : TpD K H a xs → RpAll K H xs ds → ds.length ≤ line → Rp K H (.ref a) (.tuple ds)
  | scr {a : Addr} {ns : List Int} : SqL K H a (ns.map V.int) → Rp K H (.ref a) (scrD ns)
  | dic {a : Addr} {kvs : List (Key × V)} {ds : List (PyData × PyData)} : H a = some (.dK kvs) → RpKv K H kvs ds → ds.length ≤ line → Rp K H (.ref a) (.dict ds)
inductive RpAll (K : PySem.W.Frag) (H : Hp) : List V → List PyData → Prop
  | nil : RpAll K H [] []
  | cons {v : V} {vs : List V} {d : PyData} {ds : List PyData} : Rp K H v d → RpAll K H vs ds → RpAll K H (v :: vs) (d :: ds)
inductive RpKv (K : PySem.W.Frag) (H : Hp) : List (Key × V) → List (PyData × PyData) → Prop
  | nil : RpKv K H [] []
  | cons {k : Key} {v : V} {d : PyData} {kvs : List (Key × V)} {ds : List (PyData × PyData)} : Rp K H v d → RpKv K H kvs ds → RpKv K H ((k, v) :: kvs) ((keyD k, d) :: ds)
end
mutual
theorem Rp.mono {K : PySem.W.Frag} {H H' : Hp} (e : Ex H H') : ∀ {v : V} {d : D}, Rp K H v d → Rp K H' v d
  | _, _, .non => .non
  | _, _, .bl b => .bl b
  | _, _, .int i => .int i
  | _, _, .str x => .str x
  | _, _, .lst h a z => .lst (e _ _ h) (RpAll.mono e a) z
  | _, _, .tup h a z => .tup (h.ex e) (RpAll.mono e a) z
  | _, _, .scr h => .scr (Evl.ex_l e h)
  | _, _, .dic h a z => .dic (e _ _ h) (RpKv.mono e a) z
theorem RpAll.mono {K : PySem.W.Frag} {H H' : Hp} (e : Ex H H') : ∀ {v : List V} {d : List D}, RpAll K H v d → RpAll K H' v d
  | _, _, .nil => .nil
  | _, _, .cons h t => .cons (Rp.mono e h) (RpAll.mono e t)
theorem RpKv.mono {K : PySem.W.Frag} {H H' : Hp} (e : Ex H H') : ∀ {v : List (Key × V)} {d : List (D × D)}, RpKv K H v d → RpKv K H' v d
  | _, _, .nil => .nil
  | _, _, .cons h t => .cons (Rp.mono e h) (RpKv.mono e t)
end
/-- an error that is kept: its class, its own dict -/
def erH (p C x : Addr) : HO := .ext fun h => ∃ (o : Obj) (vs : Array Value), h.get? p = some o ∧ o.cls = .ref C ∧ o.dict = some x ∧ o.data = .fields vs
/-- an error of a class with a value, in a slot of one's own -/
def erD (c : Str) (d : D) : D := .tuple [.str c, d]
def OwnAt (K : PySem.W.Frag) (F H : Hp) (p : Addr) : D → Prop
  | .tuple ds => ∃ (c : Str) (d : D) (x : Addr) (v : V), ds = [.str c, d] ∧ H p = some (erH p (He.ga K c) x) ∧ F x = some (.xd [("value", v)]) ∧ Rp K F v d
  | .list ds => ∃ vs, H p = some (.lst vs) ∧ RpAll K F vs ds ∧ ds.length ≤ line
  | .dict ds => ∃ L : List (NK × Addr), H p = some (DicG p L) ∧ (∀ q ∈ L, goodK q.1 ∧ Rp K F (.ref q.2) q.1.data) ∧ L.length ≤ 900 ∧ ds = L.map fun q => (q.1.data, .bool true)
  | _ => False
structure Ow (K : PySem.W.Frag) (G : En) (k : Option Nat) (F H : Hp) (p : Addr) (d : D) : Prop where
  at_ : OwnAt K F H p d
  nf : F p = none
  ne : match k with
    | none => G.He p = none
    | some j => G.io[j]? = some p
structure SR (K : PySem.W.Frag) (G : En) (F : Hp) (T : List (Addr × D)) (s : S) (σ : L2.St) (H : Hp) : Prop where
  fh : Ex F H
  fe : Ex G.Fe F
  gr : ∀ a o, F a = some o → G.Fe a = some o ∨ G.He a = none
  kp : ∀ a o, G.He a = some o → a ∉ G.io → H a = some o
  ioh : ∀ a ∈ G.io, H a ≠ none
  sl : ∀ i d, getS s i = some (.val d) → ∃ v, σ[i]? = some (some v) ∧ Rp K F v d
  ow : ∀ i k d, getS s i = some (.own k d) → ∃ p, σ[i]? = some (some (.ref p)) ∧ Ow K G k F H p d ∧ ∀ q ∈ T, q.1 ≠ p
  di : ∀ i j k l d e p, getS s i = some (.own k d) → getS s j = some (.own l e) → σ[i]? = some (some (.ref p)) → σ[j]? = some (some (.ref p)) → i = j
  tn : T.Pairwise (fun a b => a.1 ≠ b.1)
  tt : ∀ p ∈ T, Ow K G none F H p.1 p.2
  len : s.length = σ.length

theorem RpAll.length {K : PySem.W.Frag} {H : Hp} : ∀ {v : List V} {d : List D}, RpAll K H v d → v.length = d.length
  | _, _, .nil => rfl
  | _, _, .cons _ t => by rw [List.length_cons, List.length_cons, RpAll.length t]
theorem RpAll.get {K : PySem.W.Frag} {H : Hp} : ∀ {vs : List V} {ds : List D} {i : Nat} {d : D}, RpAll K H vs ds → ds[i]? = some d → ∃ v, vs[i]? = some v ∧ Rp K H v d
  | _, _, _, _, .nil, e => by simp at e
  | _, _, 0, _, .cons r _, e => by simp at e; subst e; exact ⟨_, rfl, r⟩
  | _, _, i + 1, d, .cons _ t, e => by
    obtain ⟨u, h1, h2⟩ := RpAll.get (i := i) (d := d) t (by simpa using e)
    exact ⟨u, by simpa using h1, h2⟩
theorem RpAll.append {K : PySem.W.Frag} {H : Hp} : ∀ {vs ws : List V} {ds es : List D}, RpAll K H vs ds → RpAll K H ws es → RpAll K H (vs ++ ws) (ds ++ es)
  | _, _, _, _, .nil, s => s
  | _, _, _, _, .cons r t, s => .cons r (RpAll.append t s)
theorem RpAll.set {K : PySem.W.Frag} {H : Hp} {v : V} {d : D} (r : Rp K H v d) : ∀ {vs : List V} {ds : List D} (i : Nat), RpAll K H vs ds → RpAll K H (vs.set i v) (ds.set i d)
  | _, _, _, .nil => .nil
  | _, _, 0, .cons _ t => .cons r t
  | _, _, i + 1, .cons q t => .cons q (RpAll.set r i t)
theorem RpAll.take {K : PySem.W.Frag} {H : Hp} : ∀ {vs : List V} {ds : List D} (n : Nat), RpAll K H vs ds → RpAll K H (vs.take n) (ds.take n)
  | _, _, 0, _ => .nil
  | _, _, _ + 1, .nil => .nil
  | _, _, n + 1, .cons r t => .cons r (RpAll.take n t)
theorem RpAll.drop {K : PySem.W.Frag} {H : Hp} : ∀ {vs : List V} {ds : List D} (n : Nat), RpAll K H vs ds → RpAll K H (vs.drop n) (ds.drop n)
  | _, _, 0, r => r
  | _, _, _ + 1, .nil => .nil
  | _, _, n + 1, .cons _ t => RpAll.drop n t
theorem RpAll.reverse {K : PySem.W.Frag} {H : Hp} : ∀ {vs : List V} {ds : List D}, RpAll K H vs ds → RpAll K H vs.reverse ds.reverse
  | _, _, .nil => .nil
  | _, _, .cons r t => by
    rw [List.reverse_cons, List.reverse_cons]
    exact RpAll.append (RpAll.reverse t) (.cons r .nil)

theorem getS_set {s : S} {i j : Nat} {x : Option Sl} {y : Sl} (h : getS (s.set i x) j = some y) : (j = i ∧ x = some y) ∨ (j ≠ i ∧ getS s j = some y) := by
  unfold getS at h ⊢
  by_cases e : j = i
  · subst e
    by_cases hl : j < s.length
    · rw [List.getElem?_set_self hl] at h
      exact .inl ⟨rfl, h⟩
    · rw [List.getElem?_eq_none (by rw [List.length_set]; omega)] at h
      cases h
  · rw [List.getElem?_set_ne (fun q => e q.symm)] at h
    exact .inr ⟨e, h⟩
theorem getS_lt {s : S} {i : Nat} {y : Sl} (h : getS s i = some y) : i < s.length := by
  unfold getS at h
  cases e : s[i]? with
  | none => rw [e] at h; cases h
  | some o => exact (List.getElem?_eq_some_iff.mp e).1

section
variable {K : PySem.W.Frag} {G : En} {F F' : Hp} {T : List (Addr × D)} {s : S} {σ : L2.St} {H H' : Hp} {p : Addr} {v : V} {d : D} {ds : List D} {i : Nat}
theorem OwnAt.mono {p : Addr} {d : D} (e : Ex F F') (h : OwnAt K F H p d) : OwnAt K F' H p d := by
  cases d <;> first | exact h.elim | skip
  · obtain ⟨vs, h1, h2, h3⟩ := h
    exact ⟨vs, h1, RpAll.mono e h2, h3⟩
  · obtain ⟨c, d, x, v, h1, h2, h3, h4⟩ := h
    exact ⟨c, d, x, v, h1, h2, e _ _ h3, Rp.mono e h4⟩
  · obtain ⟨L, h1, h2, h3⟩ := h
    exact ⟨L, h1, fun q hq => ⟨(h2 q hq).1, Rp.mono e (h2 q hq).2⟩, h3⟩
theorem OwnAt.there {p : Addr} {d : D} (h : OwnAt K F H p d) : ∃ o, H p = some o := by
  cases d <;> first | exact h.elim | skip
  · obtain ⟨vs, h1, h2, h3⟩ := h
    exact ⟨_, h1⟩
  · obtain ⟨c, d, x, v, h1, h2, _⟩ := h
    exact ⟨_, h2⟩
  · obtain ⟨L, h1, _⟩ := h
    exact ⟨_, h1⟩
theorem OwnAt.heap {p : Addr} {d : D} (e : H' p = H p) (h : OwnAt K F H p d) : OwnAt K F H' p d := by
  cases d <;> first | exact h.elim | skip
  · obtain ⟨vs, h1, h2⟩ := h
    exact ⟨vs, e.trans h1, h2⟩
  · obtain ⟨c, d, x, v, h1, h2, h3⟩ := h
    exact ⟨c, d, x, v, h1, e.trans h2, h3⟩
  · obtain ⟨vs, h1, h2⟩ := h
    exact ⟨vs, e.trans h1, h2⟩
theorem SR.he (h : SR K G F T s σ H) (n : H p = none) : G.He p = none := by
  cases e : G.He p with
  | none => rfl
  | some o =>
    by_cases hm : p ∈ G.io
    · exact absurd n (h.ioh p hm)
    · rw [h.kp p o e hm] at n
      cases n
theorem SR.nofz (h : SR K G F T s σ H) (n : H p = none) : F p = none := by
  cases e : F p with
  | none => rfl
  | some o =>
    rw [h.fh p o e] at n
    cases n

theorem SR.setVal (h : SR K G F T s σ H) (hd : Rp K F v d) : SR K G F T (s.set i (some (.val d))) (σ.set i (some v)) H := by
  refine ⟨h.fh, h.fe, h.gr, h.kp, h.ioh, fun j e q => ?_, fun j k e q => ?_, fun j l k m e e' p q1 q2 r1 r2 => ?_, h.tn, h.tt, by rw [List.length_set, List.length_set]; exact h.len⟩
  · have hj : j < (s.set i (some (.val d))).length := getS_lt q
    rw [List.length_set] at hj
    rcases getS_set q with ⟨rfl, e1⟩ | ⟨n, e1⟩
    · cases e1
      exact ⟨v, List.getElem?_set_self (by rw [← h.len]; exact hj), hd⟩
    · obtain ⟨w, hw, hq⟩ := h.sl j e e1
      exact ⟨w, by rw [List.getElem?_set_ne (fun z => n z.symm)]; exact hw, hq⟩
  · rcases getS_set q with ⟨_, e1⟩ | ⟨n, e1⟩
    · cases e1
    · obtain ⟨p, hp, r⟩ := h.ow j k e e1
      exact ⟨p, by rw [List.getElem?_set_ne (fun z => n z.symm)]; exact hp, r⟩
  · rcases getS_set q1 with ⟨_, e1⟩ | ⟨n1, e1⟩
    · cases e1
    rcases getS_set q2 with ⟨_, e2⟩ | ⟨n2, e2⟩
    · cases e2
    rw [List.getElem?_set_ne (fun z => n1 z.symm)] at r1
    rw [List.getElem?_set_ne (fun z => n2 z.symm)] at r2
    exact h.di j l k m e e' p e1 e2 r1 r2
theorem SR.forget (h : SR K G F T s σ H) : SR K G F T (s.set i none) σ H := by
  have key : ∀ {j y}, getS (s.set i none) j = some y → getS s j = some y := fun {j y} q => by
    rcases getS_set q with ⟨_, e1⟩ | ⟨n, e1⟩
    · cases e1
    · exact e1
  exact ⟨h.fh, h.fe, h.gr, h.kp, h.ioh, fun j e q => h.sl j e (key q), fun j k e q => h.ow j k e (key q), fun j l k m e e' p q1 q2 => h.di j l k m e e' p (key q1) (key q2), h.tn, h.tt, by rw [List.length_set]; exact h.len⟩
/-- a slot that is forgotten may be written -/
theorem SR.over {x : Option V} (h : SR K G F T s σ H) (n : getS s i = none) : SR K G F T s (σ.set i x) H := by
  have ne : ∀ {j y}, getS s j = some y → i ≠ j := fun {j y} q e => by subst e; rw [n] at q; cases q
  refine ⟨h.fh, h.fe, h.gr, h.kp, h.ioh, fun j e q => ?_, fun j k e q => ?_, fun j l k m e e' p q1 q2 r1 r2 => ?_, h.tn, h.tt, by rw [List.length_set]; exact h.len⟩
  · rw [List.getElem?_set_ne (ne q)]; exact h.sl j e q
  · rw [List.getElem?_set_ne (ne q)]; exact h.ow j k e q
  · rw [List.getElem?_set_ne (ne q1)] at r1
    rw [List.getElem?_set_ne (ne q2)] at r2
    exact h.di j l k m e e' p q1 q2 r1 r2
theorem SR.drop {q : Addr × D} (h : SR K G F (q :: T) s σ H) : SR K G F T s σ H :=
  ⟨h.fh, h.fe, h.gr, h.kp, h.ioh, h.sl, fun j k e z => let ⟨p, a, b, c⟩ := h.ow j k e z; ⟨p, a, b, fun r hr => c r (List.mem_cons_of_mem _ hr)⟩, h.di, (List.pairwise_cons.mp h.tn).2, fun p hp => h.tt p (List.mem_cons_of_mem _ hp), h.len⟩
theorem SR.dropApp : ∀ {T' : List (Addr × D)}, SR K G F (T' ++ T) s σ H → SR K G F T s σ H
  | [], h => h
  | _ :: r, h => SR.dropApp (T' := r) h.drop
theorem SR.setNew (h : SR K G F ((p, d) :: T) s σ H) : SR K G F T (s.set i (some (.own none d))) (σ.set i (some (.ref p))) H := by
  have tp := List.pairwise_cons.mp h.tn
  refine ⟨h.fh, h.fe, h.gr, h.kp, h.ioh, fun j e q => ?_, fun j k e q => ?_, fun j l k m e e' p' q1 q2 r1 r2 => ?_, tp.2, fun p hp => h.tt p (List.mem_cons_of_mem _ hp), by rw [List.length_set, List.length_set]; exact h.len⟩
  · rcases getS_set q with ⟨_, e1⟩ | ⟨n, e1⟩
    · cases e1
    · obtain ⟨w, hw, hq⟩ := h.sl j e e1
      exact ⟨w, by rw [List.getElem?_set_ne (fun z => n z.symm)]; exact hw, hq⟩
  · have hj : j < (s.set i (some (.own none d))).length := getS_lt q
    rw [List.length_set] at hj
    rcases getS_set q with ⟨rfl, e1⟩ | ⟨n, e1⟩
    · cases e1
      exact ⟨p, List.getElem?_set_self (by rw [← h.len]; exact hj), h.tt (p, d) List.mem_cons_self, fun r hr => (tp.1 r hr).symm⟩
    · obtain ⟨p', hp, r, c⟩ := h.ow j k e e1
      exact ⟨p', by rw [List.getElem?_set_ne (fun z => n z.symm)]; exact hp, r, fun r hr => c r (List.mem_cons_of_mem _ hr)⟩
  · have no : ∀ {j k e}, j ≠ i → getS s j = some (.own k e) → (σ.set i (some (.ref p)))[j]? = some (some (.ref p')) → p' = p → False := fun {j k e} n q r z => by
      subst z
      rw [List.getElem?_set_ne (fun z => n z.symm)] at r
      obtain ⟨p2, a, _, c⟩ := h.ow j k e q
      rw [r] at a
      cases a
      exact c (p', d) List.mem_cons_self rfl
    have at' : ∀ {j k e}, getS (s.set i (some (.own none d))) j = some (.own k e) → j = i → (σ.set i (some (.ref p)))[j]? = some (some (.ref p')) → p' = p := fun {j k e} q z r => by
      subst z
      have hj := getS_lt q
      rw [List.length_set, h.len] at hj
      rw [List.getElem?_set_self hj] at r
      cases r
      rfl
    rcases getS_set q1 with ⟨z1, e1⟩ | ⟨n1, e1⟩
    · rcases getS_set q2 with ⟨z2, e2⟩ | ⟨n2, e2⟩
      · exact z1.trans z2.symm
      · exact (no n2 e2 r2 (at' q1 z1 r1)).elim
    · rcases getS_set q2 with ⟨z2, e2⟩ | ⟨n2, e2⟩
      · exact (no n1 e1 r1 (at' q2 z2 r2)).elim
      · rw [List.getElem?_set_ne (fun z => n1 z.symm)] at r1
        rw [List.getElem?_set_ne (fun z => n2 z.symm)] at r2
        exact h.di j l k m e e' p' e1 e2 r1 r2
/-- an object that is tracked in H, kept out of F, is put into F -/
theorem SR.enter {o : HO} (h : SR K G F T s σ H) (ho : H p = some o) (nf : F p = none) (ne : G.He p = none) (ns : ∀ i k d, getS s i = some (.own k d) → σ[i]? ≠ some (some (.ref p))) (nt : ∀ q ∈ T, q.1 ≠ p) :
    Ex F (upd F p o) ∧ SR K G (upd F p o) T s σ H := by
  have ex : Ex F (upd F p o) := Evl.Ex.new nf
  refine ⟨ex, ⟨fun a u q => ?_, h.fe.trans ex, fun a u q => ?_, h.kp, h.ioh, fun j e q => ?_, fun j k e q => ?_, h.di, h.tn, fun q hq => ?_, h.len⟩⟩
  · by_cases e : a = p
    · subst e; rw [upd_same] at q; cases q; exact ho
    · rw [upd_ne e] at q; exact h.fh a u q
  · by_cases e : a = p
    · subst e; exact .inr ne
    · rw [upd_ne e] at q; exact h.gr a u q
  · obtain ⟨w, a, b⟩ := h.sl j e q
    exact ⟨w, a, Rp.mono ex b⟩
  · obtain ⟨p', a, b, c⟩ := h.ow j k e q
    have np : p' ≠ p := fun z => by subst z; exact ns j k e q a
    exact ⟨p', a, ⟨b.at_.mono ex, by rw [upd_ne np]; exact b.nf, b.ne⟩, c⟩
  · have b := h.tt q hq
    exact ⟨b.at_.mono ex, by rw [upd_ne (nt q hq)]; exact b.nf, b.ne⟩
theorem SR.freezeTemp (h : SR K G F ((p, .list ds) :: T) s σ H) : ∃ F', Ex F F' ∧ SR K G F' T s σ H ∧ Rp K F' (.ref p) (.list ds) := by
  have tp := List.pairwise_cons.mp h.tn
  have o := h.tt (p, .list ds) List.mem_cons_self
  obtain ⟨vs, hv, hd, hz⟩ := o.at_
  obtain ⟨e, r⟩ := h.drop.enter hv o.nf o.ne (fun i k d q z => by
    obtain ⟨p', a, _, c⟩ := h.ow i k d q
    rw [z] at a; cases a
    exact c _ List.mem_cons_self rfl) fun q hq => (tp.1 q hq).symm
  exact ⟨_, e, r, .lst upd_same (RpAll.mono e hd) hz⟩
theorem SR.freezeSlot (h : SR K G F T s σ H) (q : getS s i = some (.own none (.list ds))) : ∃ F' p, Ex F F' ∧ SR K G F' T (s.set i (some (.val (.list ds)))) σ H ∧ σ[i]? = some (some (.ref p)) ∧ Rp K F' (.ref p) (.list ds) := by
  obtain ⟨p, hp, o, nt⟩ := h.ow i none _ q
  obtain ⟨vs, hv, hd, hz⟩ := o.at_
  obtain ⟨e, r⟩ := (h.forget (i := i)).enter hv o.nf o.ne (fun j k d z1 z2 => by
    rcases getS_set z1 with ⟨_, e1⟩ | ⟨n, e1⟩
    · cases e1
    · exact n (h.di j i _ _ _ _ p e1 q z2 hp)) nt
  have dp : Rp K (upd F p (.lst vs)) (.ref p) (.list ds) := .lst upd_same (RpAll.mono e hd) hz
  have r2 := r.setVal (i := i) dp
  rw [List.set_set] at r2
  have es : σ.set i (some (V.ref p)) = σ := by
    obtain ⟨hl, he⟩ := List.getElem?_eq_some_iff.mp hp
    rw [← he]
    exact List.set_getElem_self hl
  rw [es] at r2
  exact ⟨_, p, e, r2, hp, dp⟩
theorem ne_ref {j : Nat} {k : Option Nat} {e : D} (h : SR K G F T s σ H) (q : getS s j = some (.own k e)) (n : H p = none) : σ[j]? ≠ some (some (.ref p)) := fun z => by
  obtain ⟨p', a, b, _⟩ := h.ow j k e q
  rw [z] at a; cases a
  obtain ⟨vs, hv⟩ := b.at_.there
  rw [hv] at n; cases n
/-- H grows by a new object -/
theorem SR.grow {o : HO} (h : SR K G F T s σ H) (n : H p = none) : SR K G F T s σ (upd H p o) := by
  refine ⟨h.fh.trans (Evl.Ex.new n), h.fe, h.gr, fun a u q m => Evl.Ex.new n a u (h.kp a u q m), fun a ha => ?_, h.sl, fun j k e q => ?_, h.di, h.tn, fun q hq => ?_, h.len⟩
  · cases e : H a with
    | none => exact absurd e (h.ioh a ha)
    | some u => rw [Evl.Ex.new n a u e]; simp
  · obtain ⟨p', a, b, c⟩ := h.ow j k e q
    obtain ⟨vs, hv⟩ := b.at_.there
    exact ⟨p', a, ⟨b.at_.heap (upd_ne (ne_of_none hv n)), b.nf, b.ne⟩, c⟩
  · have b := h.tt q hq
    obtain ⟨vs, hv⟩ := b.at_.there
    exact ⟨b.at_.heap (upd_ne (ne_of_none hv n)), b.nf, b.ne⟩
theorem SR.newList {vs : List V} (h : SR K G F T s σ H) (n : H p = none) (hd : RpAll K F vs ds) (hz : ds.length ≤ line) : SR K G F ((p, .list ds) :: T) s σ (upd H p (.lst vs)) := by
  have g := h.grow (o := .lst vs) n
  have nt : ∀ q ∈ T, q.1 ≠ p := fun q hq z => by
    obtain ⟨ws, hw⟩ := (h.tt q hq).at_.there
    rw [z, n] at hw; cases hw
  refine ⟨g.fh, g.fe, g.gr, g.kp, g.ioh, g.sl, fun j k e q => ?_, g.di, List.pairwise_cons.mpr ⟨fun q hq z => nt q hq z.symm, g.tn⟩, fun q hq => ?_, g.len⟩
  · obtain ⟨p', a, b, c⟩ := g.ow j k e q
    refine ⟨p', a, b, fun r hr z => ?_⟩
    rcases List.mem_cons.mp hr with rfl | hr
    · exact ne_ref h q n (by rw [show p = p' from z]; exact a)
    · exact c r hr z
  · rcases List.mem_cons.mp hq with rfl | hq
    · exact ⟨⟨vs, upd_same, hd, hz⟩, h.nofz n, h.he n⟩
    · exact g.tt q hq
theorem SR.newTup {vs : List V} {o : Obj} (h : SR K G F T s σ H) (d0 : o.dict = none) (n : H p = none) (hd : RpAll K F vs ds) (hz : ds.length ≤ line) : ∃ F', Ex F F' ∧ SR K G F' T s σ (upd H p (.frz o (.tup vs))) ∧ Rp K F' (.ref p) (.tuple ds) := by
  have g := h.grow (o := .frz o (.tup vs)) n
  obtain ⟨e, r⟩ := g.enter (p := p) upd_same (h.nofz n) (h.he n) (fun i k d q => ne_ref h q n) fun q hq z => by
    obtain ⟨ws, hw⟩ := (h.tt q hq).at_.there
    rw [z, n] at hw; cases hw
  exact ⟨_, e, r, .tup (.of d0 upd_same) (RpAll.mono e hd) hz⟩
/-- an own object is written -/
theorem SR.write {vs : List V} {k : Option Nat} {ds' : List D} (h : SR K G F T s σ H) (q : getS s i = some (.own k d)) (hp : σ[i]? = some (some (.ref p))) (hd : RpAll K F vs ds') (hz : ds'.length ≤ line) :
    SR K G F T (s.set i (some (.own k (.list ds')))) σ (upd H p (.lst vs)) := by
  obtain ⟨p', a, o, nt⟩ := h.ow i k d q
  rw [hp] at a; cases a
  have hi := getS_lt q
  have oth : ∀ {j l e}, getS (s.set i (some (.own k (.list ds')))) j = some (.own l e) → j = i ∨ (j ≠ i ∧ getS s j = some (.own l e)) := fun {j l e} z => by
    rcases getS_set z with ⟨z, _⟩ | z
    · exact .inl z
    · exact .inr z
  have same : ∀ {j l e}, getS (s.set i (some (.own k (.list ds')))) j = some (.own l e) → ∃ e', getS s j = some (.own l e') := fun {j l e} z => by
    rcases getS_set z with ⟨rfl, z2⟩ | ⟨_, z2⟩
    · cases z2; exact ⟨_, q⟩
    · exact ⟨_, z2⟩
  refine ⟨fun b u z => ?_, h.fe, h.gr, fun b u z m => ?_, fun b hb => ?_, fun j e z => ?_, fun j l e z => ?_, fun j j' l m e e' p' z1 z2 => ?_, h.tn, fun r hr => ?_, by rw [List.length_set]; exact h.len⟩
  · have nb : b ≠ p := fun y => by subst y; rw [o.nf] at z; cases z
    rw [upd_ne nb]; exact h.fh b u z
  · have nb : b ≠ p := fun y => by
      subst y
      have := o.ne
      cases k with
      | none => rw [show G.He b = none from this] at z; cases z
      | some j => exact m (List.mem_of_getElem? (show G.io[j]? = some b from this))
    rw [upd_ne nb]; exact h.kp b u z m
  · by_cases nb : b = p
    · rw [nb, upd_same]; simp
    · rw [upd_ne nb]; exact h.ioh b hb
  · rcases getS_set z with ⟨_, z2⟩ | ⟨_, z2⟩
    · cases z2
    · exact h.sl j e z2
  · rcases getS_set z with ⟨rfl, z2⟩ | ⟨n, z2⟩
    · cases z2
      exact ⟨p, hp, ⟨⟨vs, upd_same, hd, hz⟩, o.nf, o.ne⟩, nt⟩
    · obtain ⟨p2, a, b, c⟩ := h.ow j l e z2
      have np : p2 ≠ p := fun y => by subst y; exact n (h.di j i _ _ _ _ p2 z2 q a hp)
      exact ⟨p2, a, ⟨b.at_.heap (upd_ne np), b.nf, b.ne⟩, c⟩
  · obtain ⟨_, y1⟩ := same z1
    obtain ⟨_, y2⟩ := same z2
    exact h.di j j' _ _ _ _ p' y1 y2
  · have b := h.tt r hr
    exact ⟨b.at_.heap (upd_ne (nt r hr)), b.nf, b.ne⟩
end

section
variable {K : PySem.W.Frag} {G : En} {F F' : Hp} {T : List (Addr × D)} {s : S} {σ : L2.St} {H H' : Hp} {p : Addr} {ds ds' : List D}
theorem SR.writeTemp {vs : List V} (h : SR K G F ((p, .list ds) :: T) s σ H) (hd : RpAll K F vs ds') (hz : ds'.length ≤ line) : SR K G F ((p, .list ds') :: T) s σ (upd H p (.lst vs)) := by
  have o := h.tt (p, .list ds) List.mem_cons_self
  have tp := List.pairwise_cons.mp h.tn
  refine ⟨fun b u z => ?_, h.fe, h.gr, fun b u z m => ?_, fun b hb => ?_, h.sl, fun j l e z => ?_, h.di, List.pairwise_cons.mpr ⟨fun q hq => tp.1 q hq, tp.2⟩, fun r hr => ?_, h.len⟩
  · have nb : b ≠ p := fun y => by subst y; rw [o.nf] at z; cases z
    rw [upd_ne nb]; exact h.fh b u z
  · have nb : b ≠ p := fun y => by
      subst y
      have z2 : G.He b = none := o.ne
      rw [z2] at z; cases z
    rw [upd_ne nb]; exact h.kp b u z m
  · by_cases nb : b = p
    · rw [nb, upd_same]; simp
    · rw [upd_ne nb]; exact h.ioh b hb
  · obtain ⟨p2, a, b, c⟩ := h.ow j l e z
    have np : p2 ≠ p := fun y => c _ List.mem_cons_self y.symm
    refine ⟨p2, a, ⟨b.at_.heap (upd_ne np), b.nf, b.ne⟩, fun q hq => ?_⟩
    rcases List.mem_cons.mp hq with rfl | hq
    · exact np.symm
    · exact c q (List.mem_cons_of_mem _ hq)
  · rcases List.mem_cons.mp hr with rfl | hr
    · exact ⟨⟨vs, upd_same, hd, hz⟩, o.nf, o.ne⟩
    · have b := h.tt r (List.mem_cons_of_mem _ hr)
      exact ⟨b.at_.heap (upd_ne (tp.1 r hr).symm), b.nf, b.ne⟩
end

/-! ### results -/
def RV (K : PySem.W.Frag) (F : Hp) (σ : L2.St) (T : List (Addr × D)) : R → V → List (Addr × D) → Prop
  | .val d, v, T' => Rp K F v d ∧ T' = T
  | .new d, v, T' => ∃ p, v = .ref p ∧ T' = (p, d) :: T
  | .slot i, v, T' => σ[i]? = some (some v) ∧ T' = T
/-- what a reader sees: the outermost object in H, its items in F -/
inductive View (K : PySem.W.Frag) (F H : Hp) : V → D → Prop where
  | lst {p : Addr} {vs : List V} {ds : List D} : H p = some (.lst vs) → RpAll K F vs ds → ds.length ≤ line → View K F H (.ref p) (.list ds)
  | scr {p : Addr} {ns : List Int} : SqL K F p (ns.map V.int) → View K F H (.ref p) (scrD ns)
  | dic {p : Addr} {kvs : List (Key × V)} {ds : List (D × D)} : H p = some (.dK kvs) → RpKv K F kvs ds → ds.length ≤ line → View K F H (.ref p) (.dict ds)
  | tup {p : Addr} {vs : List V} {ds : List D} : TpD K F p vs → RpAll K F vs ds → ds.length ≤ line → View K F H (.ref p) (.tuple ds)
  | non : View K F H .non .none
  | bl (b : Bool) : View K F H (.bl b) (.bool b)
  | int (i : Int) : View K F H (.int i) (.int i)
  | str (x : Str) : View K F H (.str x) (.str x)
theorem View.of {K : PySem.W.Frag} {F H : Hp} {v : V} {d : D} (e : Ex F H) (h : Rp K F v d) : View K F H v d := by
  cases h with
  | lst a b z => exact .lst (e _ _ a) b z
  | scr a => exact .scr a
  | dic a b z => exact .dic (e _ _ a) b z
  | tup a b z => exact .tup a b z
  | non => exact .non
  | bl b => exact .bl b
  | int i => exact .int i
  | str x => exact .str x
theorem View.rp {K : PySem.W.Frag} {F H : Hp} {v : V} {d : D} (e : Ex F H) (h : View K F H v d) : Rp K H v d := by
  cases h with
  | lst a b z => exact .lst a (RpAll.mono e b) z
  | scr a => exact .scr (Evl.ex_l e a)
  | dic a b z => exact .dic a (RpKv.mono e b) z
  | tup a b z => exact .tup (a.ex e) (RpAll.mono e b) z
  | non => exact .non
  | bl b => exact .bl b
  | int i => exact .int i
  | str x => exact .str x
section
variable {K : PySem.W.Frag} {G : En} {F F' : Hp} {T T' : List (Addr × D)} {s s' : S} {σ : L2.St} {H H' : Hp} {p : Addr} {v : V} {d : D} {ds : List D} {i : Nat} {r : R}
theorem View.own {d' : D} (h : OwnAt K F H p d') (e : ownD d' = some d) : View K F H (.ref p) d := by
  cases d' <;> first | exact h.elim | skip
  · cases e
    obtain ⟨vs, h1, h2, h3⟩ := h
    exact .lst h1 h2 h3
  · cases e
  · cases e
theorem getR_slot (e : getR s (.slot i) = some d) : (∃ k d', getS s i = some (.own k d') ∧ ownD d' = some d) ∨ getS s i = some (.val d) := by
  have e' : (match getS s i with
    | some (.own _ d) => ownD d
    | some (.val d) => some d
    | _ => none) = some d := e
  split at e'
  · rename_i k d' q
    exact .inl ⟨k, d', q, e'⟩
  · rename_i d' q
    cases e'
    exact .inr q
  · cases e'
/-- T2: the temporaries later on -/
theorem SR.view {T2 : List (Addr × D)} (h : SR K G F T2 s σ H) (rv : RV K F' σ T r v T') (ex : Ex F' F) (sub : ∀ q ∈ T', q ∈ T2) (e : getR s r = some d) : View K F H v d := by
  cases r with
  | val d' => cases e; exact .of h.fh (Rp.mono ex rv.1)
  | new d' =>
    obtain ⟨p, rfl, rfl⟩ := rv
    exact View.own (h.tt (p, d') (sub _ List.mem_cons_self)).at_ e
  | slot i =>
    obtain ⟨hv, rfl⟩ := rv
    rcases getR_slot e with ⟨k, d', q, e⟩ | q
    · obtain ⟨p, a, o, _⟩ := h.ow i k d' q
      rw [a] at hv; cases hv
      exact View.own o.at_ e
    · obtain ⟨w, a, b⟩ := h.sl i d q
      rw [a] at hv; cases hv
      exact .of h.fh b
theorem RV.mono (rv : RV K F σ T r v T') (ex : Ex F F') : RV K F' σ T r v T' := by
  cases r with
  | val d' => exact ⟨Rp.mono ex rv.1, rv.2⟩
  | new d' => exact rv
  | slot i => exact rv
theorem RV.sub (rv : RV K F σ T r v T') : ∃ pre, T' = pre ++ T := by
  cases r with
  | val d' => exact ⟨[], rv.2⟩
  | new d' => obtain ⟨p, _, e⟩ := rv; exact ⟨[(p, d')], e⟩
  | slot i => exact ⟨[], rv.2⟩
end

/-! ### what is wanted of an outcome -/
def ErrP (K : PySem.W.Frag) (G : En) (E : WX) (F : Hp) (c : Str) (d : D) (s' : S) : Prop :=
  ∀ x F' T' σ' H' v, Ex F F' → SR K G F' T' s' σ' H' → H' x = some (.xd [("value", v)]) → Rp K F' v d → G.He x = none → E (.ref (He.ga K c)) (some x) σ' H'
def Want {α : Type} (K : PySem.W.Frag) (G : En) (E : WX) (F : Hp) (o : Out α) (ok : α → Prop) : Prop :=
  match o with
  | .ok a => ok a
  | .err c d s' => ErrP K G E F c d s'
  | .bad => False
theorem ErrP.mono {K : PySem.W.Frag} {G : En} {E : WX} {F F' : Hp} {c : Str} {d : D} {s' : S} (e : Ex F F') (h : ErrP K G E F c d s') : ErrP K G E F' c d s' := fun x F2 T' σ' H' v e2 => h x F2 T' σ' H' v (e.trans e2)
theorem Want.mono {α : Type} {K : PySem.W.Frag} {G : En} {E : WX} {F F' : Hp} {o : Out α} {P Q : α → Prop} (h : Want K G E F o P) (e : Ex F F') (f : ∀ a, P a → Q a) : Want K G E F' o Q := by
  cases o with
  | ok a => exact f a h
  | err c d s => exact ErrP.mono e h
  | bad => exact h
theorem Want.bind {α β : Type} {K : PySem.W.Frag} {G : En} {E : WX} {F : Hp} {o : Out α} {f : α → Out β} {P : β → Prop} (h : Want K G E F (o.bind f) P) : Want K G E F o fun a => Want K G E F (f a) P := by
  cases o with
  | ok a => exact h
  | err c d s => exact h
  | bad => exact h
/-- the end of an expression: whatever heap the value comes in -/
def EP (K : PySem.W.Frag) (G : En) (F : Hp) (T : List (Addr × D)) (σ : L2.St) (Q : VK) (x : R × S) : Prop :=
  ∀ F' T' H' v, Ex F F' → SR K G F' T' x.2 σ H' → RV K F' σ T x.1 v T' → Q v H'
def TP (K : PySem.W.Frag) (G : En) (F : Hp) (T : List (Addr × D)) (σ : L2.St) (Q : Bool → Hp → Prop) (x : Bool × S) : Prop :=
  ∀ F' H', Ex F F' → SR K G F' T x.2 σ H' → Q x.1 H'
inductive RVs (K : PySem.W.Frag) (F : Hp) (σ : L2.St) : List (Addr × D) → List R → List V → List (Addr × D) → Prop where
  | nil {T} : RVs K F σ T [] [] T
  | cons {T T1 T2 r rs v vs} : RV K F σ T r v T1 → RVs K F σ T1 rs vs T2 → RVs K F σ T (r :: rs) (v :: vs) T2
def AP (K : PySem.W.Frag) (G : En) (F : Hp) (T : List (Addr × D)) (σ : L2.St) (Q : List V → Hp → Prop) (x : List R × S) : Prop :=
  ∀ F' T' H' vs, Ex F F' → SR K G F' T' x.2 σ H' → RVs K F' σ T x.1 vs T' → Q vs H'
def Snd (K : PySem.W.Frag) (E : WX) (t : TE) (f : XE) : Prop := ∀ G F T s σ H Q, SR K G F T s σ H → Want K G E F (f s) (EP K G F T σ Q) → t σ H Q
def SndT (K : PySem.W.Frag) (E : WX) (t : TT) (f : XT) : Prop := ∀ G F T s σ H Q, SR K G F T s σ H → Want K G E F (f s) (TP K G F T σ Q) → t σ H Q
def SndA (K : PySem.W.Frag) (E : WX) (t : TA) (f : XA) : Prop := ∀ G F T s σ H Q, SR K G F T s σ H → Want K G E F (f s) (AP K G F T σ Q) → t σ H Q
/-- the end of a statement -/
def FP (K : PySem.W.Frag) (G : En) (F : Hp) (Dn : Ends) (x : Fl) : Prop :=
  match x with
  | .nx s' => ∀ F' σ' H', Ex F F' → SR K G F' [] s' σ' H' → Dn.nx σ' H'
  | .bk s' => ∀ F' σ' H', Ex F F' → SR K G F' [] s' σ' H' → Dn.bk σ' H'
  | .ct s' => ∀ F' σ' H', Ex F F' → SR K G F' [] s' σ' H' → Dn.ct σ' H'
  | .rt r s' => ∀ F' T' σ' H' v, Ex F F' → SR K G F' T' s' σ' H' → RV K F' σ' [] r v T' → Dn.rt v H'
def SndS (K : PySem.W.Frag) (E : WX) (t : TS) (f : XS) : Prop := ∀ G F s σ H Dn, SR K G F [] s σ H → Want K G E F (f s) (FP K G F Dn) → t Dn σ H
structure DE (X : Cx) (E : WX) (e : Expr) (t : TE) (f : XE) : Prop where
  pe : PE X e t
  sd : Snd X.K E t f
structure DT (X : Cx) (E : WX) (e : Expr) (t : TT) (f : XT) : Prop where
  pt : PT X e t
  sd : SndT X.K E t f
structure DW (X : Cx) (E : WX) (e : Expr) (t : TT) (f : XT) : Prop where
  pw : PW X e t
  sd : SndT X.K E t f
structure DA (X : Cx) (E : WX) (es : List Expr) (t : TA) (f : XA) : Prop where
  pa : PA X es t
  sd : SndA X.K E t f
structure DS (X : Cx) (E : WX) (st : Stmt) (t : TS) (f : XS) : Prop where
  ps : PS X st t
  sd : SndS X.K E t f
structure DSs (X : Cx) (E : WX) (st : List Stmt) (t : TS) (f : XS) : Prop where
  ps : PSs X st t
  sd : SndS X.K E t f
end DL

namespace DL
open Evl (Ex)
open PySem PySem.Spec PyProof.Rows L2

section
variable {K : PySem.W.Frag} {E : WX} {X : Cx} {G : En} {F F' : Hp} {T T' : List (Addr × D)} {s s' : S} {σ : L2.St} {H H' : Hp} {v : V} {d : D} {ds : List D} {i : Nat} {r : R} {Q : VK}
/-! ### values and names -/
def xVal (d : D) : XE := fun s => .ok (.val d, s)
def xVar (i : Nat) : XE := fun s => match getS s i with
  | some (.val d) => .ok (.val d, s)
  | some (.own _ _) => .ok (.slot i, s)
  | none => .bad
theorem snd_val (h : ∀ F, Rp K F v d) : Snd K E (tC v) (xVal d) := fun G F T s σ H Q sr w => w F T H v (Evl.Ex.refl F) sr ⟨h F, rfl⟩
theorem snd_var : Snd K E (tVar i) (xVar i) := fun G F T s σ H Q sr w => by
  unfold xVar at w
  split at w
  · rename_i d q
    obtain ⟨v, a, b⟩ := sr.sl i d q
    exact ⟨v, a, w F T H v (Evl.Ex.refl F) sr ⟨b, rfl⟩⟩
  · rename_i k d q
    obtain ⟨p, a, b, _⟩ := sr.ow i k d q
    exact ⟨_, a, w F T H _ (Evl.Ex.refl F) sr ⟨a, rfl⟩⟩
  · exact w.elim
theorem dv (i : Nat) {x : Str} {pos : Pos} (hN : X.N[i]? = some x := by rfl) (hv : Vis X.env.scope x := by first | exact Or.inl rfl | exact Or.inr (Or.inl rfl) | exact Or.inr (Or.inr rfl)) (hd : (x == ("__debug__" : Str)) = false := by decide)
    (hcd : (x == ("__classdict__" : Str)) = false := by decide) : DE X E (.Name x pos) (tVar i) (xVar i) := ⟨pe_var hN hv hd hcd, snd_var⟩
theorem de_int {z : Int} {j pos} : DE X E (.Constant (.int z) j pos) (tC (.int z)) (xVal (.int z)) := ⟨pe_int, snd_val fun _ => .int z⟩
theorem de_bl {b : Bool} {j pos} : DE X E (.Constant (.bool b) j pos) (tC (.bl b)) (xVal (.bool b)) := ⟨pe_bl, snd_val fun _ => .bl b⟩
theorem de_non {j pos} : DE X E (.Constant .none j pos) (tC .non) (xVal .none) := ⟨pe_non, snd_val fun _ => .non⟩
theorem de_str {x : Str} {j pos} : DE X E (.Constant (.str x) j pos) (tC (.str x)) (xVal (.str x)) := ⟨pe_str, snd_val fun _ => .str x⟩
/-! ### what a function of the language gives -/
def Res (K : PySem.W.Frag) (F H : Hp) (Q : VK) : RD → Prop
  | .val d => ∀ v, Rp K F v d → Q v H
  | .lst ds => ds.length ≤ line → ∀ p vs, H p = none → RpAll K F vs ds → Q (.ref p) (upd H p (.lst vs))
  | .tup ds => ds.length ≤ line → (∀ vs, RpAll K F vs ds → NewT vs H Q) ∧ ∀ v, Rp K F v (.tuple ds) → Q v H
theorem res_of {F2 : Hp} {T2 : List (Addr × D)} {rd : RD} (ex : Ex F F2) (sr : SR K G F2 T2 s σ H) (sub : ∃ pre, T2 = pre ++ T) (w : EP K G F T σ Q (rd.r, s)) : Res K F2 H Q rd := by
  obtain ⟨pre, rfl⟩ := sub
  have sr2 := sr.dropApp
  cases rd with
  | val d => exact fun v hd => w F2 T H v ex sr2 ⟨hd, rfl⟩
  | lst ds => exact fun hz p vs n hd => w F2 _ _ _ ex (sr2.newList n hd hz) ⟨p, rfl, rfl⟩
  | tup ds =>
    refine fun hz => ⟨fun vs hd p o d0 n => ?_, fun v hd => w F2 T H v ex sr2 ⟨hd, rfl⟩⟩
    obtain ⟨F3, e3, sr3, hd3⟩ := sr2.newTup d0 n hd hz
    exact w F3 T _ _ (ex.trans e3) sr3 ⟨hd3, rfl⟩
inductive Views (K : PySem.W.Frag) (F H : Hp) : List V → List D → Prop where
  | nil : Views K F H [] []
  | cons {v d vs ds} : View K F H v d → Views K F H vs ds → Views K F H (v :: vs) (d :: ds)
def Op1 (K : PySem.W.Frag) (r : V → Hp → VK → Prop) (h : D → Option RD) : Prop := ∀ F H x a rd Q, Ex F H → View K F H x a → h a = some rd → Res K F H Q rd → r x H Q
def Op2 (K : PySem.W.Frag) (r : R2) (h : D → D → Option RD) : Prop := ∀ F H x y a b rd Q, Ex F H → View K F H x a → View K F H y b → h a b = some rd → Res K F H Q rd → r x y H Q
def OpC (K : PySem.W.Frag) (r : List V → Hp → VK → Prop) (h : List D → Option RD) : Prop := ∀ F H xs ds rd Q, Ex F H → Views K F H xs ds → h ds = some rd → Res K F H Q rd → r xs H Q
def fin (h : Option RD) (s : S) : Out (R × S) := match h with
  | some rd => .ok (rd.r, s)
  | none => .bad
def xOp1 (h : D → Option RD) (fa : XE) : XE := fun s => (fa s).bind fun (ra, s1) => match getR s1 ra with
  | some a => fin (h a) s1
  | none => .bad
def xOp2 (h : D → D → Option RD) (fa fb : XE) : XE := fun s => (fa s).bind fun (ra, s1) => (fb s1).bind fun (rb, s2) => match getR s2 ra, getR s2 rb with
  | some a, some b => fin (h a b) s2
  | _, _ => .bad
theorem want_fin {α : Type} {o : Option RD} {P : R × S → Prop} (w : Want K G E F (fin o s) P) : ∃ rd, o = some rd ∧ P (rd.r, s) := by
  unfold fin at w
  split at w
  · exact ⟨_, rfl, w⟩
  · exact w.elim
theorem snd_op1 {r : V → Hp → VK → Prop} {h : D → Option RD} {ta : TE} {fa : XE} (o : Op1 K r h) (ha : Snd K E ta fa) : Snd K E (tUn r ta) (xOp1 h fa) := fun G F T s σ H Q sr w => by
  refine ha G F T s σ H _ sr (w.bind.mono (Evl.Ex.refl F) fun ⟨ra, s1⟩ w1 F1 T1 H1 v1 e1 sr1 rv1 => ?_)
  dsimp only at w1 sr1 rv1
  split at w1
  · rename_i a qa
    obtain ⟨rd, h1, w2⟩ := want_fin (α := Unit) w1
    exact o F1 H1 v1 a rd Q sr1.fh (sr1.view rv1 (Evl.Ex.refl _) (fun _ q => q) qa) h1 (res_of e1 sr1 rv1.sub w2)
  · exact w1.elim
theorem snd_op2 {r : R2} {h : D → D → Option RD} {ta tb : TE} {fa fb : XE} (o : Op2 K r h) (ha : Snd K E ta fa) (hb : Snd K E tb fb) : Snd K E (tOp r ta tb) (xOp2 h fa fb) := fun G F T s σ H Q sr w => by
  refine ha G F T s σ H _ sr (w.bind.mono (Evl.Ex.refl F) fun ⟨ra, s1⟩ w1 F1 T1 H1 v1 e1 sr1 rv1 => ?_)
  refine hb G F1 T1 s1 σ H1 _ sr1 (w1.bind.mono e1 fun ⟨rb, s2⟩ w2 F2 T2 H2 v2 e2 sr2 rv2 => ?_)
  dsimp only at w2 sr2 rv2
  obtain ⟨p2, q2⟩ := rv2.sub
  obtain ⟨p1, q1⟩ := rv1.sub
  split at w2
  · rename_i a b qa qb
    obtain ⟨rd, h1, w3⟩ := want_fin (α := Unit) w2
    exact o F2 H2 v1 v2 a b rd Q sr2.fh (sr2.view rv1 e2 (fun _ q => by rw [q2]; exact List.mem_append_right _ q) qa) (sr2.view rv2 (Evl.Ex.refl _) (fun _ q => q) qb) h1
      (res_of (e1.trans e2) sr2 ⟨p2 ++ p1, by rw [q2, q1, List.append_assoc]⟩ w3)
  · exact w2.elim

/-! ### argument lists -/
def aNil : XA := fun s => .ok ([], s)
def aCons (fa : XE) (fr : XA) : XA := fun s => (fa s).bind fun (r, s1) => (fr s1).bind fun (rs, s2) => .ok (r :: rs, s2)
theorem RVs.mono {rs : List R} {vs : List V} (h : RVs K F σ T rs vs T') (e : Ex F F') : RVs K F' σ T rs vs T' := by
  induction h with
  | nil => exact .nil
  | cons a _ ih => exact .cons (a.mono e) ih
theorem RVs.sub {rs : List R} {vs : List V} (h : RVs K F σ T rs vs T') : ∃ pre, T' = pre ++ T := by
  induction h with
  | nil => exact ⟨[], rfl⟩
  | cons a _ ih =>
    obtain ⟨p, e⟩ := a.sub
    obtain ⟨q, e2⟩ := ih
    exact ⟨q ++ p, by rw [e2, e, List.append_assoc]⟩
theorem sndA_nil : SndA K E tNil aNil := fun G F T s σ H Q sr w => w F T H [] (Evl.Ex.refl F) sr .nil
theorem sndA_cons {ta : TE} {tr : TA} {fa : XE} {fr : XA} (ha : Snd K E ta fa) (hr : SndA K E tr fr) : SndA K E (tCons ta tr) (aCons fa fr) := fun G F T s σ H Q sr w => by
  refine ha G F T s σ H _ sr (w.bind.mono (Evl.Ex.refl F) fun ⟨ra, s1⟩ w1 F1 T1 H1 v1 e1 sr1 rv1 => ?_)
  refine hr G F1 T1 s1 σ H1 _ sr1 (w1.bind.mono e1 fun ⟨rs, s2⟩ w2 F2 T2 H2 vs e2 sr2 rv2 => ?_)
  exact w2 F2 T2 H2 _ (e1.trans e2) sr2 (.cons (rv1.mono e2) rv2)
theorem da_nil : DA X E [] tNil aNil := ⟨pa_nil, sndA_nil⟩
theorem da_cons {e : Expr} {es : List Expr} {ta : TE} {tr : TA} {fa : XE} {fr : XA} (ha : DE X E e ta fa) (hr : DA X E es tr fr) (hs : starEach (e :: es) X.env = (false, eval e X.env) :: starEach es X.env := by rfl) :
    DA X E (e :: es) (tCons ta tr) (aCons fa fr) := ⟨pa_cons ha.pe hr.pa hs, sndA_cons ha.sd hr.sd⟩
def getRs (s : S) : List R → Option (List D)
  | [] => some []
  | r :: rs => match getR s r, getRs s rs with
    | some d, some ds => some (d :: ds)
    | _, _ => none
theorem SR.views {F0 : Hp} {T2 : List (Addr × D)} (sr : SR K G F T2 s σ H) {rs : List R} {vs : List V} (h : RVs K F0 σ T rs vs T') (ex : Ex F0 F) : ∀ {ds : List D}, (∀ q ∈ T', q ∈ T2) → getRs s rs = some ds → Views K F H vs ds := by
  induction h with
  | nil => intro ds _ e; cases e; exact .nil
  | cons a b ih =>
    rename_i T3 T4 T5 r rs v vs
    intro ds sub e
    unfold getRs at e
    split at e
    · rename_i d ds' q1 q2
      cases e
      obtain ⟨p, ep⟩ := b.sub
      exact .cons (sr.view a ex (fun q hq => sub q (by rw [ep]; exact List.mem_append_right _ hq)) q1) (ih sub q2)
    · cases e
/-- f(..), f of the language -/
def xCB (h : List D → Option RD) (fa : XA) : XE := fun s => (fa s).bind fun (rs, s1) => match getRs s1 rs with
  | some ds => fin (h ds) s1
  | none => .bad
theorem snd_cb {r : List V → Hp → VK → Prop} {h : List D → Option RD} {ta : TA} {fa : XA} (o : OpC K r h) (ha : SndA K E ta fa) : Snd K E (tCB r ta) (xCB h fa) := fun G F T s σ H Q sr w => by
  refine ha G F T s σ H _ sr (w.bind.mono (Evl.Ex.refl F) fun ⟨rs, s1⟩ w1 F1 T1 H1 vs e1 sr1 rv1 => ?_)
  dsimp only at w1 sr1 rv1
  split at w1
  · rename_i ds q
    obtain ⟨rd, h1, w2⟩ := want_fin (α := Unit) w1
    exact o F1 H1 vs ds rd Q sr1.fh (sr1.views rv1 (Evl.Ex.refl _) (fun _ q => q) q) h1 (res_of e1 sr1 rv1.sub w2)
  · exact w1.elim

/-! ### displays -/
/-- from the right -/
def frzs (s : S) : List R → Option (List D × S)
  | [] => some ([], s)
  | r :: rs => match frzs s rs with
    | some (ds, s1) => match frz s1 r with
      | some (d, s2) => some (d :: ds, s2)
      | none => none
    | none => none
theorem SR.frz {F0 : Hp} (sr : SR K G F T' s σ H) (rv : RV K F0 σ T r v T') (ex : Ex F0 F) (e : frz s r = some (d, s')) : ∃ F', Ex F F' ∧ SR K G F' T s' σ H ∧ Rp K F' v d := by
  cases r with
  | val d' =>
    cases e
    obtain ⟨a, rfl⟩ := rv
    exact ⟨F, Evl.Ex.refl F, sr, Rp.mono ex a⟩
  | new d' =>
    obtain ⟨p, rfl, rfl⟩ := rv
    cases d' with
    | list ds =>
      cases e
      exact sr.freezeTemp
    | _ => cases e
  | slot i =>
    obtain ⟨a, rfl⟩ := rv
    have e' : (match getS s i with
      | some (.own none (.list ds)) => some (PyData.list ds, s.set i (some (.val (.list ds))))
      | some (.val d) => some (d, s)
      | _ => none) = some (d, s') := e
    split at e'
    · rename_i ds q
      cases e'
      obtain ⟨F', p, e1, sr', hp, hd⟩ := sr.freezeSlot q
      rw [a] at hp; cases hp
      exact ⟨F', e1, sr', hd⟩
    · rename_i d' q
      cases e'
      obtain ⟨w, b, c⟩ := sr.sl i d q
      rw [a] at b; cases b
      exact ⟨F, Evl.Ex.refl F, sr, c⟩
    · cases e'
theorem SR.frzs {F0 : Hp} {rs : List R} {vs : List V} (rv : RVs K F0 σ T rs vs T') : ∀ {F : Hp} {s s' : S} {ds : List D}, SR K G F T' s σ H → Ex F0 F → frzs s rs = some (ds, s') → ∃ F', Ex F F' ∧ SR K G F' T s' σ H ∧ RpAll K F' vs ds := by
  induction rv with
  | nil => intro F s s' ds sr ex e; cases e; exact ⟨F, Evl.Ex.refl F, sr, .nil⟩
  | cons a b ih =>
    intro F s s' ds sr ex e
    unfold DL.frzs at e
    split at e
    · rename_i ds1 s1 q1
      split at e
      · rename_i d s2 q2
        cases e
        obtain ⟨F1, e1, sr1, h1⟩ := ih sr ex q1
        obtain ⟨F2, e2, sr2, h2⟩ := sr1.frz a (ex.trans e1) q2
        exact ⟨F2, e1.trans e2, sr2, .cons h2 (RpAll.mono e2 h1)⟩
      · cases e
    · cases e
def xTup (fa : XA) : XE := fun s => (fa s).bind fun (rs, s1) => match frzs s1 rs with
  | some (ds, s2) => .ok (.val (.tuple ds), s2)
  | none => .bad
def xLst (fa : XA) : XE := fun s => (fa s).bind fun (rs, s1) => match frzs s1 rs with
  | some (ds, s2) => .ok (.new (.list ds), s2)
  | none => .bad
/-- a display has fewer things than the line -/
theorem snd_tup {ta : TA} {fa : XA} {n : Nat} (ha : SndA K E ta fa) (hl : ∀ s rs s', fa s = .ok (rs, s') → rs.length = n) (hn : n ≤ 1000) : Snd K E (tTupF ta) (xTup fa) := fun G F T s σ H Q sr w => by
  have w0 := w.bind
  cases e0 : fa s with
  | bad => rw [e0] at w0; exact w0.elim
  | err c d s1 => rw [e0] at w0; exact ha G F T s σ H _ sr (by rw [e0]; exact w0)
  | ok x =>
    obtain ⟨rs, s1⟩ := x
    rw [e0] at w0
    refine ha G F T s σ H _ sr ?_
    rw [e0]
    intro F1 T1 H1 vs e1 sr1 rv1
    have w1 := w0
    dsimp only [Want] at w1
    dsimp only at sr1 rv1
    cases q : frzs s1 rs with
    | none => rw [q] at w1; exact w1.elim
    | some y =>
      obtain ⟨ds, s2⟩ := y
      rw [q] at w1
      obtain ⟨F2, e2, sr2, h2⟩ := SR.frzs rv1 sr1 (Evl.Ex.refl _) q
      have hlen : vs.length = n := by
        have a := hl s rs s1 e0
        have : ∀ {T T' : List (Addr × D)} {rs : List R} {vs : List V}, RVs K F1 σ T rs vs T' → vs.length = rs.length := fun {T T' rs vs} z => by
          induction z with
          | nil => rfl
          | cons _ _ ih => rw [List.length_cons, List.length_cons, ih]
        rw [this rv1, a]
      have hz : ds.length ≤ line := by rw [← h2.length, hlen]; unfold line; omega
      refine ⟨by rw [hlen, sizeLine_eq]; omega, fun p o d0 hp => ?_⟩
      obtain ⟨F3, e3, sr3, h3⟩ := sr2.newTup d0 hp h2 hz
      exact w1 F3 T _ _ ((e1.trans e2).trans e3) sr3 ⟨h3, rfl⟩
theorem snd_lst {ta : TA} {fa : XA} {n : Nat} (ha : SndA K E ta fa) (hl : ∀ s rs s', fa s = .ok (rs, s') → rs.length = n) (hn : n ≤ 1000) : Snd K E (tLst ta) (xLst fa) := fun G F T s σ H Q sr w => by
  have w0 := w.bind
  cases e0 : fa s with
  | bad => rw [e0] at w0; exact w0.elim
  | err c d s1 => rw [e0] at w0; exact ha G F T s σ H _ sr (by rw [e0]; exact w0)
  | ok x =>
    obtain ⟨rs, s1⟩ := x
    rw [e0] at w0
    refine ha G F T s σ H _ sr ?_
    rw [e0]
    intro F1 T1 H1 vs e1 sr1 rv1
    have w1 := w0
    dsimp only [Want] at w1
    dsimp only at sr1 rv1
    cases q : frzs s1 rs with
    | none => rw [q] at w1; exact w1.elim
    | some y =>
      obtain ⟨ds, s2⟩ := y
      rw [q] at w1
      obtain ⟨F2, e2, sr2, h2⟩ := SR.frzs rv1 sr1 (Evl.Ex.refl _) q
      have hlen : vs.length = n := by
        have a := hl s rs s1 e0
        have : ∀ {T T' : List (Addr × D)} {rs : List R} {vs : List V}, RVs K F1 σ T rs vs T' → vs.length = rs.length := fun {T T' rs vs} z => by
          induction z with
          | nil => rfl
          | cons _ _ ih => rw [List.length_cons, List.length_cons, ih]
        rw [this rv1, a]
      have hz : ds.length ≤ line := by rw [← h2.length, hlen]; unfold line; omega
      refine ⟨by rw [hlen, sizeLine_eq]; omega, fun p hp => ?_⟩
      exact w1 F2 _ _ _ (e1.trans e2) (sr2.newList hp h2 hz) ⟨p, rfl, rfl⟩
/-- how many things an argument list has -/
def ALen (fa : XA) (n : Nat) : Prop := ∀ s rs s', fa s = .ok (rs, s') → rs.length = n
theorem alen_nil : ALen aNil 0 := fun s rs s' e => by cases e; rfl
theorem alen_cons {fa : XE} {fr : XA} {n : Nat} (h : ALen fr n) : ALen (aCons fa fr) (n + 1) := fun s rs s' e => by
  unfold aCons at e
  cases e1 : fa s with
  | bad => rw [e1] at e; cases e
  | err c d s1 => rw [e1] at e; cases e
  | ok x =>
    obtain ⟨r, s1⟩ := x
    rw [e1, bind_ok] at e
    dsimp only at e
    cases e2 : fr s1 with
    | bad => rw [e2] at e; cases e
    | err c d s1 => rw [e2] at e; cases e
    | ok y =>
      obtain ⟨rs2, s2⟩ := y
      rw [e2, bind_ok] at e
      cases e
      rw [List.length_cons, h s1 rs2 s2 e2]
theorem de_tup {es : List Expr} {ta : TA} {fa : XA} {n : Nat} {x1 pos} (ha : DA X E es ta fa) (hl : ALen fa n := by repeat (first | exact alen_nil | refine alen_cons ?_)) (hn : n ≤ 1000 := by decide) : DE X E (.Tuple es x1 pos) (tTupF ta) (xTup fa) := ⟨pe_tupF ha.pa, snd_tup ha.sd hl hn⟩
theorem de_lst {es : List Expr} {ta : TA} {fa : XA} {n : Nat} {pos} (ha : DA X E es ta fa) (hl : ALen fa n := by repeat (first | exact alen_nil | refine alen_cons ?_)) (hn : n ≤ 1000 := by decide) : DE X E (.List es pos) (tLst ta) (xLst fa) := ⟨pe_lst ha.pa, snd_lst ha.sd hl hn⟩

/-! ### tests -/
def truth (r : Out (R × S)) : Out (Bool × S) := r.bind fun (r, s) => match getR s r with
  | some (.bool b) => .ok (b, s)
  | _ => .bad
def tOf (fa : XE) : XT := fun s => truth (fa s)
theorem sndT_of {ta : TE} {fa : XE} (ha : Snd K E ta fa) : SndT K E (tTest ta) (tOf fa) := fun G F T s σ H Q sr w => by
  refine ha G F T s σ H _ sr (Want.mono (Want.bind w) (Evl.Ex.refl F) fun ⟨ra, s1⟩ w1 F1 T1 H1 v1 e1 sr1 rv1 => ?_)
  dsimp only at w1 sr1 rv1
  split at w1
  · rename_i b q
    obtain ⟨pre, rfl⟩ := rv1.sub
    have vw := sr1.view rv1 (Evl.Ex.refl _) (fun _ q => q) q
    cases vw
    exact ⟨b, rfl, w1 F1 H1 e1 sr1.dropApp⟩
  · exact w1.elim
theorem sndT_B {ta : TE} {fa : XE} (ha : Snd K E ta fa) : SndT K E (tB ta) (tOf fa) := sndT_of ha
theorem sndT_and {ta tb : TT} {fa fb : XT} (ha : SndT K E ta fa) (hb : SndT K E tb fb) : SndT K E (tAnd ta tb) (fun s => (fa s).bind fun (b, s1) => if b then fb s1 else .ok (false, s1)) := fun G F T s σ H Q sr w => by
  refine ha G F T s σ H _ sr (Want.mono (Want.bind w) (Evl.Ex.refl F) fun ⟨b, s1⟩ w1 F1 H1 e1 sr1 => ?_)
  dsimp only at w1 sr1
  cases b with
  | true =>
    show tb σ H1 Q
    refine hb G F1 T s1 σ H1 Q sr1 (Want.mono w1 e1 fun x w2 F2 H2 e2 sr2 => w2 F2 H2 (e1.trans e2) sr2)
  | false => exact w1 F1 H1 e1 sr1
def tAnds (fa fb : XT) : XT := fun s => (fa s).bind fun (b, s1) => if b then fb s1 else .ok (false, s1)
def tOrs (fa fb : XT) : XT := fun s => (fa s).bind fun (b, s1) => if b then .ok (true, s1) else fb s1
def tNots (fa : XT) : XT := fun s => (fa s).bind fun (b, s1) => .ok (!b, s1)
theorem sndT_or {ta tb : TT} {fa fb : XT} (ha : SndT K E ta fa) (hb : SndT K E tb fb) : SndT K E (tOr ta tb) (tOrs fa fb) := fun G F T s σ H Q sr w => by
  refine ha G F T s σ H _ sr (Want.mono (Want.bind w) (Evl.Ex.refl F) fun ⟨b, s1⟩ w1 F1 H1 e1 sr1 => ?_)
  dsimp only at w1 sr1
  cases b with
  | false =>
    show tb σ H1 Q
    refine hb G F1 T s1 σ H1 Q sr1 (Want.mono w1 e1 fun x w2 F2 H2 e2 sr2 => w2 F2 H2 (e1.trans e2) sr2)
  | true => exact w1 F1 H1 e1 sr1
theorem sndT_not {ta : TT} {fa : XT} (ha : SndT K E ta fa) : SndT K E (tNot ta) (tNots fa) := fun G F T s σ H Q sr w => by
  refine ha G F T s σ H _ sr (Want.mono (Want.bind w) (Evl.Ex.refl F) fun ⟨b, s1⟩ w1 F1 H1 e1 sr1 => ?_)
  exact w1 F1 H1 e1 sr1
theorem dw_and {a b : Expr} {rest : List Expr} {ta tb : TT} {fa fb : XT} {pos : Pos} (ha : DT X E a ta fa) (hb : DW X E (.BoolOp .And (b :: rest) pos) tb fb) : DW X E (.BoolOp .And (a :: b :: rest) pos) (tAnd ta tb) (tAnds fa fb) := ⟨pw_and ha.pt hb.pw, sndT_and ha.sd hb.sd⟩
theorem dw_and1 {a : Expr} {ta : TT} {fa : XT} {pos : Pos} (ha : DT X E a ta fa) : DW X E (.BoolOp .And [a] pos) ta fa := ⟨pw_and1 ha.pt, ha.sd⟩
theorem dw_or {a b : Expr} {rest : List Expr} {ta tb : TT} {fa fb : XT} {pos : Pos} (ha : DT X E a ta fa) (hb : DW X E (.BoolOp .Or (b :: rest) pos) tb fb) : DW X E (.BoolOp .Or (a :: b :: rest) pos) (tOr ta tb) (tOrs fa fb) := ⟨pw_or ha.pt hb.pw, sndT_or ha.sd hb.sd⟩
theorem dw_or1 {a : Expr} {ta : TT} {fa : XT} {pos : Pos} (ha : DT X E a ta fa) : DW X E (.BoolOp .Or [a] pos) ta fa := ⟨pw_or1 ha.pt, ha.sd⟩
theorem DW.dt {e : Expr} {t : TT} {f : XT} (h : DW X E e t f) : DT X E e t f := ⟨h.pw.pt, h.sd⟩
theorem dt_not {a : Expr} {ta : TT} {fa : XT} {pos : Pos} (ha : DT X E a ta fa) : DT X E (.UnaryOp .Not a pos) (tNot ta) (tNots fa) := ⟨pt_not ha.pt, sndT_not ha.sd⟩
/-- an expression whose value is a bool, as a test -/
theorem dt_val {a : Expr} {ta : TE} {fa : XE} (ha : DE X E a ta fa) (he : ∀ whole, isTrue a X.env whole = (do let v ← whole; standAt a.pos; holding [v] (truthy v)) := by intro _; rfl) : DT X E a (tB ta) (tOf fa) := ⟨pt_val ha.pe he, sndT_B ha.sd⟩

/-! ### the conditional expression, and, or, not as values -/
def xIf (fc : XT) (fa fb : XE) : XE := fun s => (fc s).bind fun (b, s1) => if b then fa s1 else fb s1
end
end DL

namespace DL
open Evl (Ex)
open PySem PySem.Spec PyProof.Rows L2

section
variable {K : PySem.W.Frag} {E : WX} {X : Cx} {G : En} {F F' : Hp} {T T' : List (Addr × D)} {s s' : S} {σ : L2.St} {H H' : Hp} {v : V} {d : D} {ds : List D} {i : Nat} {r : R} {Q : VK}

/-! ### data without the script: what == takes -/
mutual
def fl : Nat → D → Bool
  | _, .none => true
  | _, .bool _ => true
  | _, .int _ => true
  | _, .str x => PyData.strOk x
  | 0, .list _ => false
  | n + 1, .list ds => flAll n ds
  | 0, .tuple _ => false
  | n + 1, .tuple ds => flAll n ds
  | _, .dict _ => false
def flAll : Nat → List D → Bool
  | _, [] => true
  | n, d :: ds => fl n d && flAll n ds
end
mutual
theorem fl_can : ∀ (n : Nat) (d : D), fl n d = true → d.canLay0 = true ∧ d.depth ≤ n + 1
  | _, .none, _ => ⟨rfl, Nat.le_add_left _ _⟩
  | _, .bool _, _ => ⟨rfl, Nat.le_add_left _ _⟩
  | _, .int _, _ => ⟨rfl, Nat.le_add_left _ _⟩
  | _, .str _, h => ⟨by simpa [fl, PyData.canLay0] using h, Nat.zero_le _⟩
  | 0, .list _, h => by cases h
  | n + 1, .list ds, h => by
    have h := fl_canAll n ds h
    exact ⟨h.1, by show PyData.depthAll ds + 1 ≤ n + 1 + 1; have := h.2; omega⟩
  | 0, .tuple _, h => by cases h
  | n + 1, .tuple ds, h => by
    have h := fl_canAll n ds h
    exact ⟨h.1, by show PyData.depthAll ds + 1 ≤ n + 1 + 1; have := h.2; omega⟩
  | _, .dict _, h => by simp [fl] at h
theorem fl_canAll : ∀ (n : Nat) (ds : List D), flAll n ds = true → PyData.canLayAll0 ds = true ∧ PyData.depthAll ds ≤ n + 1
  | _, [], _ => ⟨rfl, Nat.zero_le _⟩
  | n, d :: ds, h => by
    unfold flAll at h
    have h := Bool.and_eq_true_iff.mp h
    have h1 := fl_can n d h.1
    have h2 := fl_canAll n ds h.2
    exact ⟨Bool.and_eq_true_iff.mpr ⟨h1.1, h2.1⟩, Nat.max_le.mpr ⟨h1.2, h2.2⟩⟩
end
theorem fl_shaped {d : D} (h : fl 60 d = true) : SeqAt.shaped d = true := by
  obtain ⟨h1, h2⟩ := fl_can 60 d h
  unfold SeqAt.shaped
  rw [h1, decide_eq_true (by omega)]
  rfl
mutual
theorem Rp.dp {K : PySem.W.Frag} {H : Hp} {n : Nat} : ∀ {v : V} {d : D}, Rp K H v d → fl n d = true → Dp K H v d
  | _, _, .non, _ => .non
  | _, _, .bl b, _ => .bl b
  | _, _, .int i, _ => .int i
  | _, _, .str x, _ => .str x
  | _, _, .lst h a _, e => by
    cases n with
    | zero => simp [fl] at e
    | succ n => exact .lst (.of h) (RpAll.dp a e)
  | _, _, .tup h a _, e => by
    cases n with
    | zero => simp [fl] at e
    | succ n => exact .tup h.sq (RpAll.dp a e)
  | _, _, .scr h, e => by simp [scrD, fl] at e
theorem RpAll.dp {K : PySem.W.Frag} {H : Hp} {n : Nat} : ∀ {vs : List V} {ds : List D}, RpAll K H vs ds → flAll n ds = true → DpAll K H vs ds
  | _, _, .nil, _ => .nil
  | _, _, .cons a b, e => by
    unfold flAll at e
    have e := Bool.and_eq_true_iff.mp e
    exact .cons (Rp.dp a e.1) (RpAll.dp b e.2)
end
theorem View.dp {x : V} {a : D} (ex : Ex F H) (va : View K F H x a) (e : fl 60 a = true) : Dp K H x a := Rp.dp (va.rp ex) e

/-! ### + - * // % ** -/
def hAdd : D → D → Option RD
  | .int i, .int j => some (.val (.int (i + j)))
  | .list a, .list b => if a.length + b.length ≤ line then some (.lst (a ++ b)) else none
  | .tuple a, .tuple b => if a.length + b.length ≤ line then some (.tup (a ++ b)) else none
  | .str a, .str b => if a.length + b.length ≤ line then some (.val (.str (a ++ b))) else none
  | _, _ => none
def rAddAll (K : PySem.W.Frag) : R2 := fun x y H Q => (rI0 (fun i j => .int (i + j)) x y H Q ∨ rCat x y H Q) ∨ (rCatF K x y H Q ∨ (∃ i j, x = .str i ∧ y = .str j ∧ i.length + j.length ≤ sizeLine ∧ Q (.str (i ++ j)) H))
theorem op_addAll : OpR X (binaryOp .Add) (rAddAll X.K) := (op_add.or op_cat).or (op_catF.or op_add_str)
theorem o_add : Op2 K (rAddAll K) hAdd := by
  intro F H x y a b rd Q ex va vb e q
  cases va <;> cases vb <;> simp only [hAdd, scrD, reduceCtorEq, Option.some.injEq, Option.ite_none_right_eq_some] at e
  · obtain ⟨hl, rfl⟩ := e
    rename_i p vs ds hp hd hz p2 vs2 ds2 hp2 hd2 hz2
    exact .inl (.inr ⟨p, p2, vs, vs2, rfl, rfl, hp, hp2, by rw [hd.length, hd2.length, ← line_eq]; exact hl, fun q1 hq => q (by rw [List.length_append]; exact hl) q1 _ hq (hd.append hd2)⟩)
  · obtain ⟨hl, rfl⟩ := e
    rename_i p vs ds hp hd hz p2 vs2 ds2 hp2 hd2 hz2
    replace q := q (by rw [List.length_append]; exact hl)
    refine .inr (.inl ⟨p, p2, vs, vs2, rfl, rfl, (hp.ex ex).sq, (hp2.ex ex).sq, by rw [hd.length, hd2.length, ← line_eq]; exact hl, fun z => ?_, fun _ z => ?_, fun _ _ => q.1 _ (hd.append hd2)⟩)
    · subst z
      cases hd
      exact q.2 _ (.tup hp2 hd2 hz2)
    · subst z
      cases hd2
      rw [List.append_nil] at q
      exact q.2 _ (.tup hp hd hz)
  · cases e
    exact .inl (.inl ⟨_, _, rfl, rfl, q _ (.int _)⟩)
  · obtain ⟨hl, rfl⟩ := e
    exact .inr (.inr ⟨_, _, rfl, rfl, by rw [← line_eq]; exact hl, q _ (.str _)⟩)

def hSub : D → D → Option RD
  | .int i, .int j => some (.val (.int (i - j)))
  | _, _ => none
theorem o_sub : Op2 K (rI0 fun i j => .int (i - j)) hSub := by
  intro F H x y a b rd Q ex va vb e q
  cases va <;> cases vb <;> simp only [hSub, scrD, reduceCtorEq, Option.some.injEq] at e
  subst e
  exact ⟨_, _, rfl, rfl, q _ (.int _)⟩
def two64 : Nat := 18446744073709551616
def mulOk (i j : Int) : Bool := decide (i.natAbs < two64) || decide (j.natAbs < two64)
def hMul : D → D → Option RD
  | .int i, .int j => if mulOk i j then some (.val (.int (i * j))) else none
  | .list a, .int k => if a.length * k.toNat ≤ line ∧ -1000000 ≤ k ∧ k ≤ 100000000 then some (.lst (List.replicate k.toNat a).flatten) else none
  | .tuple a, .int k => if a ≠ [] ∧ 2 ≤ k ∧ k ≤ 1000 ∧ a.length ≤ 1000 then some (.tup (List.replicate k.toNat a).flatten) else none
  | _, _ => none
def rMulAll (K : PySem.W.Frag) : R2 := fun x y H Q => (rI CMul (fun i j => .int (i * j)) x y H Q) ∨ (rRep x y H Q ∨ rRepF K x y H Q)
theorem op_mulAll : OpR X (binaryOp .Mult) (rMulAll X.K) := op_mul.or (op_rep.or op_repF)
theorem mulOk_c {i j : Int} (h : mulOk i j = true) : CMul i j := by
  unfold mulOk two64 at h
  rw [Bool.or_eq_true, decide_eq_true_eq, decide_eq_true_eq] at h
  rcases h with h | h
  · exact .inl (by omega)
  · exact .inr (by omega)
theorem rep_all {F : Hp} {vs : List V} {ds : List D} (h : RpAll K F vs ds) : ∀ n : Nat, RpAll K F (List.replicate n vs).flatten (List.replicate n ds).flatten
  | 0 => .nil
  | n + 1 => by
    rw [List.replicate_succ, List.replicate_succ, List.flatten_cons, List.flatten_cons]
    exact h.append (rep_all h n)
theorem rep_len {α : Type} (a : List α) (n : Nat) : (List.replicate n a).flatten.length = n * a.length := by
  induction n with
  | zero => simp
  | succ n ih => rw [List.replicate_succ, List.flatten_cons, List.length_append, ih, Nat.succ_mul, Nat.add_comm]
theorem o_mul : Op2 K (rMulAll K) hMul := by
  intro F H x y a b rd Q ex va vb e q
  cases va <;> cases vb <;> simp only [hMul, scrD, reduceCtorEq, Option.some.injEq, Option.ite_none_right_eq_some] at e
  · obtain ⟨⟨h1, h2, h3⟩, rfl⟩ := e
    rename_i p vs ds hp hd hz k
    exact .inr (.inl ⟨p, k, vs, rfl, rfl, hp, by omega, by omega, by rw [hd.length, ← line_eq]; exact h1, fun q1 hq => q (by rw [rep_len, Nat.mul_comm]; exact h1) q1 _ hq (rep_all hd _)⟩)
  · obtain ⟨⟨h0, h1, h2, h3⟩, rfl⟩ := e
    rename_i p vs ds hp hd hz k
    have hm : k.toNat * ds.length ≤ 1000 * 1000 := Nat.mul_le_mul (by omega) h3
    exact .inr (.inr ⟨p, k, vs, rfl, rfl, (hp.ex ex).sq, (fun z => h0 (by subst z; cases hd; rfl)), h1, h2, by rw [hd.length]; exact h3, (q (by rw [rep_len]; unfold line; omega)).1 _ (rep_all hd _)⟩)
  · obtain ⟨h, rfl⟩ := e
    exact .inl ⟨_, _, rfl, rfl, mulOk_c h, q _ (.int _)⟩
/-- // of a divisor above 0 -/
def hDiv : D → D → Option RD
  | .int i, .int j => if 0 < j ∧ j.natAbs.log2 < 9000 then some (.val (.int (i / j))) else none
  | _, _ => none
theorem o_div : Op2 K (rI CDivW fun i j => .int (i / j)) hDiv := by
  intro F H x y a b rd Q ex va vb e q
  cases va <;> cases vb <;> simp only [hDiv, scrD, reduceCtorEq, Option.some.injEq, Option.ite_none_right_eq_some] at e
  obtain ⟨h, rfl⟩ := e
  exact ⟨_, _, rfl, rfl, h, q _ (.int _)⟩
def hMod : D → D → Option RD
  | .int i, .int j => if 0 < j then some (.val (.int (i % j))) else none
  | _, _ => none
theorem o_mod : Op2 K (rI (fun _ j => 0 < j) fun i j => .int (i % j)) hMod := by
  intro F H x y a b rd Q ex va vb e q
  cases va <;> cases vb <;> simp only [hMod, scrD, reduceCtorEq, Option.some.injEq, Option.ite_none_right_eq_some] at e
  obtain ⟨h, rfl⟩ := e
  exact ⟨_, _, rfl, rfl, h, q _ (.int _)⟩
def hPow : D → D → Option RD
  | .int i, .int j => if 0 ≤ j ∧ j ≤ 1000000 ∧ i.natAbs < two64 then some (.val (.int (i ^ j.toNat))) else none
  | _, _ => none
theorem o_pow : Op2 K (rI CPow fun i j => .int (i ^ j.toNat)) hPow := by
  intro F H x y a b rd Q ex va vb e q
  cases va <;> cases vb <;> simp only [hPow, scrD, reduceCtorEq, Option.some.injEq, Option.ite_none_right_eq_some] at e
  obtain ⟨⟨h1, h2, h3⟩, rfl⟩ := e
  exact ⟨_, _, rfl, rfl, ⟨h1, h2, by unfold two64 at h3; omega⟩, q _ (.int _)⟩
def hNeg : D → Option RD
  | .int i => some (.val (.int (-i)))
  | _ => none
theorem o_neg : Op1 K (rU fun i => .int (-i)) hNeg := by
  intro F H x a rd Q ex va e q
  cases va <;> simp only [hNeg, scrD, reduceCtorEq, Option.some.injEq] at e
  subst e
  exact ⟨_, rfl, q _ (.int _)⟩
section
variable {a b : Expr} {ta tb : TE} {fa fb : XE} {pos : Pos}
theorem de_add (ha : DE X E a ta fa) (hb : DE X E b tb fb) : DE X E (.BinOp a .Add b pos) (tOp (rAddAll X.K) ta tb) (xOp2 hAdd fa fb) := ⟨pe_op op_addAll ha.pe hb.pe, snd_op2 o_add ha.sd hb.sd⟩
theorem de_sub (ha : DE X E a ta fa) (hb : DE X E b tb fb) : DE X E (.BinOp a .Sub b pos) (tOp (rI0 fun i j => .int (i - j)) ta tb) (xOp2 hSub fa fb) := ⟨pe_op op_sub ha.pe hb.pe, snd_op2 o_sub ha.sd hb.sd⟩
theorem de_mul (ha : DE X E a ta fa) (hb : DE X E b tb fb) : DE X E (.BinOp a .Mult b pos) (tOp (rMulAll X.K) ta tb) (xOp2 hMul fa fb) := ⟨pe_op op_mulAll ha.pe hb.pe, snd_op2 o_mul ha.sd hb.sd⟩
theorem de_div (ha : DE X E a ta fa) (hb : DE X E b tb fb) : DE X E (.BinOp a .FloorDiv b pos) (tOp (rI CDivW fun i j => .int (i / j)) ta tb) (xOp2 hDiv fa fb) := ⟨pe_op op_fdivW ha.pe hb.pe, snd_op2 o_div ha.sd hb.sd⟩
theorem de_mod (ha : DE X E a ta fa) (hb : DE X E b tb fb) : DE X E (.BinOp a .Mod b pos) (tOp (rI (fun _ j => 0 < j) fun i j => .int (i % j)) ta tb) (xOp2 hMod fa fb) := ⟨pe_op op_mod ha.pe hb.pe, snd_op2 o_mod ha.sd hb.sd⟩
theorem de_pow (ha : DE X E a ta fa) (hb : DE X E b tb fb) : DE X E (.BinOp a .Pow b pos) (tOp (rI CPow fun i j => .int (i ^ j.toNat)) ta tb) (xOp2 hPow fa fb) := ⟨pe_op op_pow ha.pe hb.pe, snd_op2 o_pow ha.sd hb.sd⟩
theorem de_neg (ha : DE X E a ta fa) : DE X E (.UnaryOp .USub a pos) (tUn (rU fun i => .int (-i)) ta) (xOp1 hNeg fa) := ⟨pe_un un_neg ha.pe, snd_op1 o_neg ha.sd⟩
end

/-! ### comparisons -/
def hEq : D → D → Option RD := fun a b => if fl 60 a && fl 60 b then some (.val (.bool (PyData.eqv a b))) else none
def hNe : D → D → Option RD := fun a b => if fl 60 a && fl 60 b then some (.val (.bool (!PyData.eqv a b))) else none
theorem o_eq : Op2 K (rEqD K) hEq := by
  intro F H x y a b rd Q ex va vb e q
  simp only [hEq, Option.ite_none_right_eq_some, Bool.and_eq_true, Option.some.injEq] at e
  obtain ⟨⟨h1, h2⟩, rfl⟩ := e
  exact ⟨a, b, va.dp ex h1, vb.dp ex h2, fl_shaped h1, fl_shaped h2, q _ (.bl _)⟩
theorem o_ne : Op2 K (rNeD K) hNe := by
  intro F H x y a b rd Q ex va vb e q
  simp only [hNe, Option.ite_none_right_eq_some, Bool.and_eq_true, Option.some.injEq] at e
  obtain ⟨⟨h1, h2⟩, rfl⟩ := e
  exact ⟨a, b, va.dp ex h1, vb.dp ex h2, fl_shaped h1, fl_shaped h2, q _ (.bl _)⟩
def hLt : D → D → Option RD
  | .int i, .int j => some (.val (.bool (decide (i < j))))
  | _, _ => none
def hLe : D → D → Option RD
  | .int i, .int j => some (.val (.bool (decide (i ≤ j))))
  | _, _ => none
def hGt : D → D → Option RD
  | .int i, .int j => some (.val (.bool (decide (j < i))))
  | _, _ => none
def hGe : D → D → Option RD
  | .int i, .int j => some (.val (.bool (decide (j ≤ i))))
  | _, _ => none
theorem o_cmp {p : Int → Int → Bool} {h : D → D → Option RD} (hh : ∀ i j, h (.int i) (.int j) = some (.val (.bool (p i j)))) (hn : ∀ a b, h a b ≠ none → ∃ i j, a = .int i ∧ b = .int j) : Op2 K (rI0 fun i j => .bl (p i j)) h := by
  intro F H x y a b rd Q ex va vb e q
  obtain ⟨i, j, rfl, rfl⟩ := hn a b (by rw [e]; simp)
  rw [hh] at e
  cases e
  cases va
  cases vb
  exact ⟨_, _, rfl, rfl, q _ (.bl _)⟩
theorem o_lt : Op2 K (rI0 fun i j => .bl (decide (i < j))) hLt := o_cmp (fun _ _ => rfl) fun a b => by
  cases a <;> cases b <;> simp [hLt]
theorem o_gt : Op2 K (rI0 fun i j => .bl (decide (j < i))) hGt := o_cmp (fun _ _ => rfl) fun a b => by
  cases a <;> cases b <;> simp [hGt]
def hIs : D → D → Option RD
  | a, .none => some (.val (.bool (match a with | .none => true | _ => false)))
  | _, _ => none
def hIsNot : D → D → Option RD
  | a, .none => some (.val (.bool (match a with | .none => false | _ => true)))
  | _, _ => none
theorem o_is : Op2 K (fun x y H Q => y = .non ∧ Q (.bl (decide (x = .non))) H) hIs := by
  intro F H x y a b rd Q ex va vb e q
  cases vb <;> simp only [hIs, scrD, reduceCtorEq, Option.some.injEq] at e
  subst e
  refine ⟨rfl, ?_⟩
  cases va <;> exact q _ (.bl _)
section
variable {a b : Expr} {ta tb : TE} {fa fb : XE} {pos : Pos} {op : CmpOp} {r : R2} {h : D → D → Option RD}
theorem de_cmp (ho : OpR X (compareOp op) r) (o : Op2 X.K r h) (ha : DE X E a ta fa) (hb : DE X E b tb fb) (hm : behindInMarks op b = false := by first | exact nomark _ | rfl) : DE X E (.Compare a [op] [b] pos) (tOp r ta tb) (xOp2 h fa fb) :=
  ⟨pe_cmpR ho ha.pe hb.pe hm, snd_op2 o ha.sd hb.sd⟩
theorem dt_cmp (ho : OpR X (compareOp op) r) (o : Op2 X.K r h) (ha : DE X E a ta fa) (hb : DE X E b tb fb) (hm : behindInMarks op b = false := by first | exact nomark _ | rfl) : DT X E (.Compare a [op] [b] pos) (tTest (tOp r ta tb)) (tOf (xOp2 h fa fb)) :=
  ⟨pt_cmpR ho ha.pe hb.pe hm, sndT_of (snd_op2 o ha.sd hb.sd)⟩
end
/-- a < b < c -/
def xChain (h h' : D → D → Option RD) (fa fb fc : XE) : XE := fun s => (fa s).bind fun (ra, s1) => (fb s1).bind fun (rb, s2) => match getR s2 ra, getR s2 rb with
  | some a, some b => (match h a b with
    | some (.val (.bool true)) => (fc s2).bind fun (rc, s3) => (match getR s3 rb, getR s3 rc with
      | some b', some c => fin (h' b' c) s3
      | _, _ => .bad)
    | some (.val (.bool false)) => .ok (.val (.bool false), s2)
    | _ => .bad)
  | _, _ => .bad
section
variable {a b c : Expr} {ta tb tc : TE} {fa fb fc : XE} {pos : Pos} {op op' : CmpOp} {r r' : R2} {h h' : D → D → Option RD}
end

/-! ### subscripts, slices -/
theorem RpAll.at_ {F : Hp} {vs : List V} {ds : List D} {i : Int} {d : D} (h : RpAll K F vs ds) (e : atI ds i = some d) : ∃ v, atI vs i = some v ∧ Rp K F v d := by
  unfold atI at e ⊢
  rw [h.length]
  cases q : ixN ds.length i with
  | none => rw [q] at e; cases e
  | some j =>
    rw [q] at e
    exact h.get (show ds[j]? = some d from e)
/-- a sign of a text, by its place -/
def hIx : D → D → Option RD
  | .list ds, .int i => (atI ds i).map .val
  | .tuple ds, .int i => (atI ds i).map .val
  | .str z, .int i => if z.length ≤ line then (atI z.cps.toList i).map fun c => .val (.str ⟨#[c]⟩) else none
  | .dict [(.list [], .list ds)], .int i => (match atI ds i with
    | some (.int n) => some (.val (.int n))
    | _ => none)
  | _, _ => none
theorem atI_map {α β : Type} (f : α → β) (xs : List α) (i : Int) : atI (xs.map f) i = (atI xs i).map f := by
  unfold atI
  rw [List.length_map]
  cases ixN xs.length i with
  | none => rfl
  | some j => show (xs.map f)[j]? = (xs[j]?).map f; rw [List.getElem?_map]
theorem o_ix : Op2 K (rIx K) hIx := by
  intro F H x y a b rd Q ex va vb e q
  cases va <;> cases vb <;> simp only [hIx, scrD, reduceCtorEq, Option.map_eq_some_iff, Option.ite_none_right_eq_some] at e
  · obtain ⟨d, h1, rfl⟩ := e
    rename_i p vs ds hp hd hz i
    obtain ⟨v, hv, hr⟩ := hd.at_ h1
    exact .inl ⟨p, vs, i, v, rfl, rfl, .of hp, hv, q v hr⟩
  · rename_i p ns hp i
    rw [atI_map] at e
    cases hn : atI ns i with
    | none => rw [hn] at e; cases e
    | some n =>
      rw [hn] at e
      cases e
      exact .inl ⟨p, _, i, .int n, rfl, rfl, Evl.ex_l ex hp, by rw [atI_map, hn]; rfl, q _ (.int n)⟩
  · rename_i p kvs ds hp hd hz i
    exfalso
    cases hd with
    | nil => cases e
    | cons a b =>
      rename_i k _ _ _ _
      cases k <;> cases e
  · obtain ⟨d, h1, rfl⟩ := e
    rename_i p vs ds hp hd hz i
    obtain ⟨v, hv, hr⟩ := hd.at_ h1
    exact .inr (.inl ⟨p, vs, i, v, rfl, rfl, (hp.ex ex).sq, hv, q v hr⟩)
  · obtain ⟨hl, c, h1, rfl⟩ := e
    exact .inr (.inr ⟨_, _, c, rfl, rfl, by rw [← line_eq]; exact hl, h1, q _ (.str _)⟩)
theorem de_ix {a b : Expr} {ta tb : TE} {fa fb : XE} {pos : Pos} (ha : DE X E a ta fa) (hb : DE X E b tb fb) (hs : PlainIx b := by exact fun _ _ => rfl) : DE X E (.Subscript a b pos) (tOp (rIx X.K) ta tb) (xOp2 hIx fa fb) :=
  ⟨pe_ix ix_seq ha.pe hb.pe hs, snd_op2 o_ix ha.sd hb.sd⟩
/-- a part of a slice -/
abbrev XO := S → Out (Option Int × S)
def oNone : XO := fun s => .ok (none, s)
def oSome (fa : XE) : XO := fun s => (fa s).bind fun (r, s1) => match getR s1 r with
  | some (.int i) => .ok (some i, s1)
  | _ => .bad
def cutD (ds : List D) (lo hi : Option Int) : List D := (ds.drop (HT.sIx ds.length 0 lo)).take (HT.sIx ds.length ds.length hi - HT.sIx ds.length 0 lo)
def hSl : D → Option Int → Option Int → Option RD
  | .list ds, lo, hi => some (.lst (cutD ds lo hi))
  | .tuple ds, lo, hi => some (.tup (cutD ds lo hi))
  | .str z, lo, hi => if z.length ≤ line then some (.val (.str (cutS z lo hi))) else none
  | _, _, _ => none
def xSl (fe : XE) (fl fh : XO) : XE := fun s => (fe s).bind fun (r, s1) => (fl s1).bind fun (lo, s2) => (fh s2).bind fun (hi, s3) => match getR s3 r with
  | some d => fin (hSl d lo hi) s3
  | none => .bad
end
end DL

namespace DL
open Evl (Ex)
open PySem PySem.Spec PyProof.Rows L2

section
variable {K : PySem.W.Frag} {E : WX} {X : Cx} {G : En} {F F' : Hp} {T T' : List (Addr × D)} {s s' : S} {σ : L2.St} {H H' : Hp} {v : V} {d : D} {ds : List D} {i : Nat} {r : R} {Q : VK}

theorem FP.mono {Dn : Ends} {x : Fl} (h : FP K G F Dn x) (e : Ex F F') : FP K G F' Dn x := by
  cases x with
  | nx s => exact fun F2 σ' H' e2 => h F2 σ' H' (e.trans e2)
  | bk s => exact fun F2 σ' H' e2 => h F2 σ' H' (e.trans e2)
  | ct s => exact fun F2 σ' H' e2 => h F2 σ' H' (e.trans e2)
  | rt r s => exact fun F2 T' σ' H' v e2 => h F2 T' σ' H' v (e.trans e2)

/-! ### blocks -/
def sNil : XS := fun s => .ok (.nx s)
def sSeq (f g : XS) : XS := fun s => (f s).bind fun fl => match fl with
  | .nx s1 => g s1
  | fl => .ok fl
theorem dss_nil : DSs X E [] tNext sNil := ⟨pss_nil, fun G F s σ H Dn sr w => w F σ H (Evl.Ex.refl F) sr⟩
theorem sndS_seq {t u : TS} {f g : XS} (h1 : SndS K E t f) (h2 : SndS K E u g) : SndS K E (tSeq t u) (sSeq f g) := fun G F s σ H Dn sr w => by
  refine h1 G F s σ H { Dn with nx := u Dn } sr (Want.mono (Want.bind w) (Evl.Ex.refl F) fun fl w1 => ?_)
  cases fl with
  | nx s1 => exact fun F1 σ1 H1 e1 sr1 => h2 G F1 s1 σ1 H1 Dn sr1 (Want.mono w1 e1 fun x wx => wx.mono e1)
  | bk s1 => exact w1
  | ct s1 => exact w1
  | rt r s1 => exact w1
theorem dss_cons {st : Stmt} {rest : List Stmt} {t u : TS} {f g : XS} (h1 : DS X E st t f) (h2 : DSs X E rest u g) : DSs X E (st :: rest) (tSeq t u) (sSeq f g) := ⟨pss_cons h1.ps h2.ps, sndS_seq h1.sd h2.sd⟩
theorem dss_one {st : Stmt} {t : TS} {f : XS} (h1 : DS X E st t f) : DSs X E [st] t f := ⟨pss_one h1.ps, h1.sd⟩
def sPass : XS := fun s => .ok (.nx s)
def sBreak : XS := fun s => .ok (.bk s)
def sCont : XS := fun s => .ok (.ct s)
def sBad : XS := fun _ => .bad
def sExpr (fe : XE) : XS := fun s => (fe s).bind fun (_, s1) => .ok (.nx s1)
theorem ds_expr {e : Expr} {te : TE} {fe : XE} {pos : Pos} (he : DE X E e te fe) (hs : swapsWith e none pos.line X.env = pure false := by rfl) : DS X E (.Expr e pos) (tDrop te) (sExpr fe) := ⟨ps_expr he.pe hs, fun G F s σ H Dn sr w => by
  refine he.sd G F [] s σ H _ sr (w.bind.mono (Evl.Ex.refl F) fun ⟨r, s1⟩ w1 F1 T1 H1 v1 e1 sr1 rv1 => ?_)
  obtain ⟨pre, q⟩ := rv1.sub
  subst q
  exact w1 F1 σ H1 e1 sr1.dropApp⟩
/-- what is handed back: a value, or a list of nobody else's -/
def sRet (fe : XE) : XS := fun s => (fe s).bind fun (r, s1) => match r with
  | .slot i => (match getS s1 i with
    | some (.own none d) => .ok (.rt (.new d) (s1.set i none))
    | some (.val d) => .ok (.rt (.val d) s1)
    | _ => .bad)
  | r => .ok (.rt r s1)
theorem SR.take {p : Addr} (h : SR K G F T s σ H) (q : getS s i = some (.own none d)) (hp : σ[i]? = some (some (.ref p))) : SR K G F ((p, d) :: T) (s.set i none) σ H := by
  obtain ⟨p', a, o, nt⟩ := h.ow i none d q
  rw [hp] at a; cases a
  have f := h.forget (i := i)
  refine ⟨f.fh, f.fe, f.gr, f.kp, f.ioh, f.sl, fun j k e z => ?_, f.di, List.pairwise_cons.mpr ⟨fun r hr z => nt r hr z.symm, f.tn⟩, fun r hr => ?_, f.len⟩
  · obtain ⟨p2, a, b, c⟩ := f.ow j k e z
    refine ⟨p2, a, b, fun r hr => ?_⟩
    rcases List.mem_cons.mp hr with rfl | hr
    · intro y
      have y : p = p2 := y
      subst y
      rcases getS_set z with ⟨_, z2⟩ | ⟨n, z2⟩
      · cases z2
      · exact n (h.di j i _ _ _ _ p z2 q a hp)
    · exact c r hr
  · rcases List.mem_cons.mp hr with rfl | hr
    · exact o
    · exact f.tt r hr
theorem ds_ret {e : Expr} {te : TE} {fe : XE} {pos : Pos} (he : DE X E e te fe) : DS X E (.Return (some e) pos) (tRet te) (sRet fe) := ⟨ps_ret he.pe, fun G F s σ H Dn sr w => by
  refine he.sd G F [] s σ H _ sr (w.bind.mono (Evl.Ex.refl F) fun ⟨r, s1⟩ w1 F1 T1 H1 v1 e1 sr1 rv1 => ?_)
  cases r with
  | val d => exact w1 F1 T1 σ H1 v1 e1 sr1 rv1
  | new d => exact w1 F1 T1 σ H1 v1 e1 sr1 rv1
  | slot i =>
    dsimp only at w1 sr1
    obtain ⟨hv, rfl⟩ := rv1
    split at w1
    · rename_i d q
      obtain ⟨p, a, _⟩ := sr1.ow i none d q
      rw [hv] at a; cases a
      exact w1 F1 _ σ H1 _ e1 (sr1.take q hv) ⟨p, rfl, rfl⟩
    · rename_i d q
      obtain ⟨w, a, b⟩ := sr1.sl i d q
      rw [hv] at a; cases a
      exact w1 F1 [] σ H1 _ e1 sr1 ⟨b, rfl⟩
    · exact w1.elim⟩
def sRetN : XS := fun s => .ok (.rt (.val .none) s)
def sIf (fc : XT) (f g : XS) : XS := fun s => (fc s).bind fun (b, s1) => if b then f s1 else g s1
theorem ds_if {c : Expr} {a b : List Stmt} {tc : TT} {t u : TS} {fc : XT} {f g : XS} {pos : Pos} (hc : DT X E c tc fc) (ha : DSs X E a t f) (hb : DSs X E b u g) : DS X E (.If c a b pos) (tIfS tc t u) (sIf fc f g) := ⟨ps_if hc.pt ha.ps hb.ps, fun G F s σ H Dn sr w => by
  refine hc.sd G F [] s σ H _ sr (Want.mono (Want.bind w) (Evl.Ex.refl F) fun ⟨b, s1⟩ w1 F1 H1 e1 sr1 => ?_)
  dsimp only at w1 sr1
  cases b with
  | true =>
    show t Dn σ H1
    exact ha.sd G F1 s1 σ H1 Dn sr1 (Want.mono w1 e1 fun x wx => wx.mono e1)
  | false =>
    show u Dn σ H1
    exact hb.sd G F1 s1 σ H1 Dn sr1 (Want.mono w1 e1 fun x wx => wx.mono e1)⟩

/-! ### name = e -/
/-- a result to a slot -/
def putR (s : S) (i : Nat) : R → Option S
  | .val d => some (s.set i (some (.val d)))
  | .new d => some (s.set i (some (.own none d)))
  | .slot j => match frz s (.slot j) with
    | some (d, s1) => some (s1.set i (some (.val d)))
    | none => none
theorem SR.put {F0 : Hp} (h : SR K G F T' s σ H) (rv : RV K F0 σ T r v T') (ex : Ex F0 F) (e : putR s i r = some s') : ∃ F', Ex F F' ∧ SR K G F' T s' (σ.set i (some v)) H := by
  cases r with
  | val d =>
    cases e
    obtain ⟨a, rfl⟩ := rv
    exact ⟨F, Evl.Ex.refl F, h.setVal (a.mono ex)⟩
  | new d =>
    cases e
    obtain ⟨p, rfl, rfl⟩ := rv
    exact ⟨F, Evl.Ex.refl F, h.setNew⟩
  | slot j =>
    have e' : (match DL.frz s (.slot j) with
      | some (d, s1) => some (s1.set i (some (.val d)))
      | none => none) = some s' := e
    cases q : DL.frz s (.slot j) with
    | none => rw [q] at e'; cases e'
    | some y =>
      obtain ⟨d, s1⟩ := y
      rw [q] at e'
      cases e'
      obtain ⟨F1, e1, sr1, hd⟩ := h.frz rv ex q
      exact ⟨F1, e1, sr1.setVal hd⟩
def sSet (i : Nat) (fe : XE) : XS := fun s => (fe s).bind fun (r, s1) => match putR s1 i r with
  | some s2 => .ok (.nx s2)
  | none => .bad
theorem sndS_set {te : TE} {fe : XE} (he : Snd K E te fe) : SndS K E (tAsg te (gName i)) (sSet i fe) := fun G F s σ H Dn sr w => by
  refine he G F [] s σ H _ sr (w.bind.mono (Evl.Ex.refl F) fun ⟨r, s1⟩ w1 F1 T1 H1 v1 e1 sr1 rv1 => ?_)
  dsimp only at w1 sr1 rv1
  split at w1
  · rename_i s2 q
    obtain ⟨F2, e2, sr2⟩ := sr1.put rv1 (Evl.Ex.refl _) q
    exact w1 F2 _ H1 (e1.trans e2) sr2
  · exact w1.elim
theorem ds_set {i : Nat} {x : Str} {e : Expr} {te : TE} {fe : XE} {pos pos' : Pos} (hN : X.N.Nodup) (hi : X.N[i]? = some x) (hx : Loc X.env.scope x) (he : DE X E e te fe) (hs : swapsWith e (some (.Name x pos')) pos.line X.env = pure false := by rfl) (hf : X.fn x = true ∨ X.env.scope.names.lookup x = some .local := by first | exact .inl rfl | exact .inr rfl | assumption) :
    DS X E (.Assign [.Name x pos'] e pos) (tAsg te (gName i)) (sSet i fe) := ⟨ps_set hN hi hx he.pe hs hf, sndS_set he.sd⟩
/-- a, b = x, y and a, b, c = x, y, z, told as one after another from the right (no tuple) -/
def putRs (s : S) : List Nat → List R → Option S
  | [], [] => some s
  | i :: is, r :: rs => match putRs s is rs with
    | some s1 => putR s1 i r
    | none => none
  | _, _ => none
theorem SR.puts {F0 : Hp} {rs : List R} {vs : List V} (rv : RVs K F0 σ T rs vs T') : ∀ {is : List Nat} {F : Hp} {s s' : S}, is.Nodup → (∀ i ∈ is, ∀ r ∈ rs, r ≠ .slot i) → SR K G F T' s σ H → Ex F0 F → putRs s is rs = some s' →
    ∃ F', Ex F F' ∧ SR K G F' T s' ((is.zip vs).foldr (fun p σ => σ.set p.1 (some p.2)) σ) H := by
  induction rv with
  | nil =>
    intro is F s s' nd hn sr ex e
    cases is with
    | nil => cases e; exact ⟨F, Evl.Ex.refl F, sr⟩
    | cons i is => cases e
  | cons a b ih =>
    rename_i T3 T4 T5 r rs v vs
    intro is F s s' nd hn sr ex e
    cases is with
    | nil => cases e
    | cons i is =>
      unfold putRs at e
      split at e
      · rename_i s1 q1
        obtain ⟨ni, nd2⟩ := List.nodup_cons.mp nd
        obtain ⟨F1, e1, sr1⟩ := ih nd2 (fun j hj r' hr => hn j (List.mem_cons_of_mem _ hj) r' (List.mem_cons_of_mem _ hr)) sr ex q1
        -- the slots that the rest was put into are none of r's
        have keep : ∀ (l : List (Nat × V)) (σ0 : L2.St) (j : Nat), (∀ p ∈ l, p.1 ≠ j) → (l.foldr (fun p σ => σ.set p.1 (some p.2)) σ0)[j]? = σ0[j]? := fun l σ0 j hl => by
          induction l with
          | nil => rfl
          | cons p l ih2 =>
            rw [List.foldr_cons, List.getElem?_set_ne (hl p List.mem_cons_self)]
            exact ih2 fun q hq => hl q (List.mem_cons_of_mem _ hq)
        have rv2 : RV K F0 ((is.zip vs).foldr (fun p σ => σ.set p.1 (some p.2)) σ) T3 r v T4 := by
          cases r with
          | val d => exact a
          | new d => exact a
          | slot j =>
            refine ⟨?_, a.2⟩
            rw [keep]
            · exact a.1
            · intro p hp z
              have : p.1 ∈ is := (List.of_mem_zip (a := p.1) (b := p.2) hp).1
              rw [z] at this
              exact hn j (List.mem_cons_of_mem _ this) _ List.mem_cons_self rfl
        obtain ⟨F2, e2, sr2⟩ := sr1.put rv2 (ex.trans e1) e
        exact ⟨F2, e1.trans e2, sr2⟩
      · cases e
def noSlot (is : List Nat) : List R → Bool
  | [] => true
  | .slot j :: rs => !(is.contains j) && noSlot is rs
  | _ :: rs => noSlot is rs
theorem noSlot_ok {is : List Nat} : ∀ {rs : List R}, noSlot is rs = true → ∀ i ∈ is, ∀ r ∈ rs, r ≠ .slot i
  | [], _, _, _, _, h => absurd h (by simp)
  | r0 :: rs, h, i, hi, r, hr => by
    rcases List.mem_cons.mp hr with rfl | hr
    · cases r with
      | val d => intro z; cases z
      | new d => intro z; cases z
      | slot j =>
        intro z
        cases z
        unfold noSlot at h
        have := (Bool.and_eq_true_iff.mp h).1
        simp [hi] at this
    · have h2 : noSlot is rs = true := by
        cases r0 with
        | val d => exact h
        | new d => exact h
        | slot j => unfold noSlot at h; exact (Bool.and_eq_true_iff.mp h).2
      exact noSlot_ok h2 i hi r hr
/-- slots that are asked for and stored too: frozen first -/
def sPar (is : List Nat) (fa : XA) : XS := fun s => (fa s).bind fun (rs, s1) => if noSlot is rs then (match putRs s1 is rs with
    | some s2 => .ok (.nx s2)
    | none => .bad)
  else (match frzs s1 rs with
    | some (ds, s2) => (match putRs s2 is (ds.map .val) with
      | some s3 => .ok (.nx s3)
      | none => .bad)
    | none => .bad)
theorem rvs_vals {ds : List D} {vs : List V} (h : RpAll K F vs ds) : RVs K F σ T (ds.map .val) vs T := by
  induction ds generalizing vs with
  | nil => cases h; exact .nil
  | cons d ds ih => cases h with
    | cons a b => exact .cons ⟨a, rfl⟩ (ih b)
theorem noSlot_vals (is : List Nat) : ∀ ds : List D, noSlot is (ds.map .val) = true
  | [] => rfl
  | _ :: ds => noSlot_vals is ds
theorem RVs.len {F0 : Hp} {rs : List R} {vs : List V} (h : RVs K F0 σ T rs vs T') : vs.length = rs.length := by
  induction h with
  | nil => rfl
  | cons _ _ ih => rw [List.length_cons, List.length_cons, ih]
theorem putRs_len : ∀ {is : List Nat} {rs : List R} {s s' : S}, putRs s is rs = some s' → is.length = rs.length
  | [], [], _, _, _ => rfl
  | [], _ :: _, _, _, h => by cases h
  | _ :: _, [], _, _, h => by cases h
  | i :: is, r :: rs, s, s', h => by
    unfold putRs at h
    split at h
    · rename_i s1 q
      rw [List.length_cons, List.length_cons, putRs_len q]
    · cases h
theorem par_ok {F0 : Hp} {is : List Nat} {rs : List R} {vs : List V} {P : Fl → Prop} (nd : is.Nodup) (sr : SR K G F T' s σ H) (rv : RVs K F0 σ T rs vs T') (ex : Ex F0 F)
    (w : Want K G E F (if noSlot is rs then (match putRs s is rs with
      | some s2 => Out.ok (Fl.nx s2)
      | none => .bad) else (match frzs s rs with
      | some (ds, s2) => (match putRs s2 is (ds.map .val) with
        | some s3 => .ok (.nx s3)
        | none => .bad)
      | none => .bad)) P) : ∃ F' s', Ex F F' ∧ SR K G F' T s' ((is.zip vs).foldr (fun p σ => σ.set p.1 (some p.2)) σ) H ∧ is.length = vs.length ∧ P (.nx s') := by
  split at w
  · rename_i hn
    split at w
    · rename_i s2 q
      obtain ⟨F2, e2, sr2⟩ := SR.puts rv nd (noSlot_ok hn) sr ex q
      exact ⟨F2, s2, e2, sr2, (putRs_len q).trans rv.len.symm, w⟩
    · exact w.elim
  · split at w
    · rename_i ds s2 q
      obtain ⟨F1, e1, sr1, h1⟩ := SR.frzs rv sr ex q
      split at w
      · rename_i s3 q3
        obtain ⟨F2, e2, sr2⟩ := SR.puts (rvs_vals h1) nd (noSlot_ok (noSlot_vals is ds)) sr1 (Evl.Ex.refl _) q3
        exact ⟨F2, s3, e1.trans e2, sr2, (putRs_len q3).trans (by rw [List.length_map, h1.length]), w⟩
      · exact w.elim
    · exact w.elim
theorem ds_par2 {i j : Nat} {x y : Str} {a b : Expr} {ta : TA} {fa : XA} {px py pt : Pos} {kt k2 pt2 pos} (hc : X.calm = true) (hN : X.N.Nodup) (hi : X.N[i]? = some x) (hj : X.N[j]? = some y) (hij : i ≠ j)
    (hx : X.env.scope.names.lookup x = some .local) (hy : X.env.scope.names.lookup y = some .local) (ha : DA X E [a, b] ta fa)
    (hw : swappedStores [.Tuple [.Name x px, .Name y py] kt pt] (.Tuple [a, b] k2 pt2) X.env = pure (some [x, y]))
    (hs : swapsWithSole [.Tuple [.Name x px, .Name y py] kt pt] (.Tuple [a, b] k2 pt2) pos.line X.env = pure false := by rfl) :
    DS X E (.Assign [.Tuple [.Name x px, .Name y py] kt pt] (.Tuple [a, b] k2 pt2) pos) (tPar i j ta) (sPar [i, j] fa) := ⟨ps_par hc hN hi hj hij hx hy ha.pa hw hs, fun G F s σ H Dn sr w => by
  refine ha.sd G F [] s σ H _ sr (w.bind.mono (Evl.Ex.refl F) fun ⟨rs, s1⟩ w1 F1 T1 H1 vs e1 sr1 rv1 => ?_)
  dsimp only at w1 sr1 rv1
  obtain ⟨F2, s2, e2, sr2, hl, w3⟩ := par_ok (K := X.K) (E := E) (is := [i, j]) (P := FP X.K G F1 Dn) (by simp [hij]) sr1 rv1 (Evl.Ex.refl _) (Want.mono w1 e1 fun x (wx : FP X.K G F Dn x) => wx.mono e1)
  obtain ⟨v, w, rfl⟩ : ∃ v w, vs = [v, w] := by
    match vs, hl with
    | [v, w], _ => exact ⟨v, w, rfl⟩
  refine ⟨v, w, rfl, ?_⟩
  rw [List.set_comm _ _ hij]
  exact w3 F2 _ H1 e2 sr2⟩
/-! ### targets -/
abbrev XG := D → S → Option S
def SndG (K : PySem.W.Frag) (vs : List Nat) (tg : TG) (g : XG) : Prop := ∀ G F T s σ H x d Q s', SR K G F T s σ H → Rp K F x d → g d s = some s' →
  (∀ σ', SR K G F T s' σ' H → (∀ ws, (∀ i ∈ vs, i ∈ ws) → wipe σ' ws = wipe σ ws) → Q σ' H) → tg x σ H Q
structure DG (X : Cx) (vs : List Nat) (e : Expr) (t : TG) (g : XG) : Prop where
  pg : PG X e t
  sd : SndG X.K vs t g
theorem wipe_set {σ : L2.St} {i : Nat} {x : Option V} : ∀ {ws : List Nat}, i ∈ ws → wipe (σ.set i x) ws = wipe σ ws
  | [], h => absurd h (by simp)
  | w :: ws, h => by
    unfold wipe
    by_cases e : i = w
    · subst e
      by_cases hm : i ∈ ws
      · rw [wipe_set hm]
      · have : ∀ (ws : List Nat) (σ : L2.St), i ∉ ws → wipe (σ.set i x) ws = (wipe σ ws).set i x := fun ws => by
          induction ws with
          | nil => intro σ _; rfl
          | cons w ws ih =>
            intro σ hn
            unfold wipe
            rw [ih σ (fun z => hn (List.mem_cons_of_mem _ z)), List.set_comm]
            intro z
            exact hn (by rw [z]; exact List.mem_cons_self)
        rw [this ws σ hm, List.set_set]
    · rcases List.mem_cons.mp h with z | z
      · exact absurd z e
      · rw [wipe_set z]
def gN (i : Nat) : XG := fun d s => some (s.set i (some (.val d)))
theorem dg_name {i : Nat} {x : Str} {pos : Pos} (hN : X.N.Nodup) (hi : X.N[i]? = some x) (hx : Loc X.env.scope x) (hf : X.fn x = true ∨ X.env.scope.names.lookup x = some .local := by first | exact .inl rfl | exact .inr rfl | assumption) : DG X [i] (.Name x pos) (gName i) (gN i) :=
  ⟨pg_name hN hi hx hf, fun G F T s σ H x d Q s' sr hd e q => by
    cases e
    exact q _ (sr.setVal hd) fun ws hw => wipe_set (hw i (by simp))⟩
def gsNil : List D → S → Option S := fun ds s => match ds with
  | [] => some s
  | _ => none
def gsCons (g : XG) (h : List D → S → Option S) : List D → S → Option S := fun ds s => match ds with
  | [] => none
  | d :: r => match g d s with
    | some s1 => h r s1
    | none => none
def gT (g : List D → S → Option S) : XG := fun d s => match d with
  | .tuple ds => g ds s
  | _ => none
/-- target = e, the target a tuple of names -/
def sTup (g : XG) (fe : XE) : XS := fun s => (fe s).bind fun (r, s1) => match frz s1 r with
  | some (d, s2) => (match g d s2 with
    | some s3 => .ok (.nx s3)
    | none => .bad)
  | none => .bad
end
end DL

namespace DL
open Evl (Ex)
open PySem PySem.Spec PyProof.Rows L2 PySem.W

section
variable {K : PySem.W.Frag} {E : WX} {X : Cx} {G : En} {F F' : Hp} {T T' : List (Addr × D)} {s s' : S} {σ : L2.St} {H H' : Hp} {v : V} {d : D} {ds : List D} {i : Nat} {r : R} {Q : VK}

/-! ### what is walked -/
def ItemOk (K : PySem.W.Frag) (F H : Hp) (x : V) (H' : Hp) (d : D) : Prop :=
  (H' = H ∧ Rp K F x d) ∨ ∃ p vs es, ∃ o : Obj, o.dict = none ∧ x = .ref p ∧ H p = none ∧ H' = upd H p (.frz o (.tup vs)) ∧ d = .tuple es ∧ RpAll K F vs es ∧ es.length ≤ line
structure Wk (K : PySem.W.Frag) (F : Hp) (J : It) (ds : List D) : Prop where
  go : ∀ i d H, ds[i]? = some d → Ex F H → J.go i H ∧ ∀ x H', J.yld i H x H' → ItemOk K F H x H' d
  stop : ∀ H, Ex F H → J.stop ds.length H
  len : ds.length ≤ line
abbrev XI := S → Out (List D × S)
def IP (K : PySem.W.Frag) (G : En) (F : Hp) (T : List (Addr × D)) (σ : L2.St) (R : It → Hp → Prop) (x : List D × S) : Prop :=
  ∀ F' H' J, Ex F F' → SR K G F' T x.2 σ H' → Wk K F' J x.1 → R J H'
def SndI (K : PySem.W.Frag) (E : WX) (wi : TI) (f : XI) : Prop := ∀ G F T s σ H R, SR K G F T s σ H → Want K G E F (f s) (IP K G F T σ R) → wi σ H R
structure DI (X : Cx) (E : WX) (tg e : Expr) (wi : TI) (f : XI) : Prop where
  pi : PI X tg e wi
  sd : SndI X.K E wi f
/-! ### list or tuple (b: a list) -/
def SqB (b : Bool) (K : PySem.W.Frag) (H : Hp) (a : Addr) (xs : List V) : Prop := if b then SqL K H a xs else SqT K H a xs
def IterB (b : Bool) (h : Heap) (it a : Addr) (i : Nat) : Prop := if b then h.IsListIter it a i else h.IsTupleIter it a i
def IsB (b : Bool) (h : Heap) (a : Addr) (items : Array Value) : Prop := if b then h.IsList a items else h.IsTuple a items
theorem SqB.items {b : Bool} {pins : List (Addr × Obj)} {sh : Shared} {a : Addr} {xs : List V} (h : SqB b X.K H a xs) (I : Inv X pins σ H sh) : ∃ its : List Value, Vals xs its ∧ IsB b sh.heap a its.toArray ∧ ∃ ob, sh.heap.get? a = some ob ∧ (ob.cls = .type "list" ∨ ob.cls = .type "tuple") := by
  cases b with
  | true =>
    obtain ⟨its, rv, p, _⟩ := I.list h
    obtain ⟨o, n, e, c, d⟩ := id p
    exact ⟨its, rv, p.isList, o, e, .inl c⟩
  | false =>
    obtain ⟨its, rv, p, _⟩ := I.tuple h
    obtain ⟨o, e, c, d⟩ := id p
    exact ⟨its, rv, p, o, e, .inr c⟩
theorem SqB.inj {b : Bool} {pins : List (Addr × Obj)} {sh : Shared} {a : Addr} {xs ys : List V} (h : SqB b X.K H a xs) (h' : SqB b X.K H a ys) (I : Inv X pins σ H sh) : xs = ys := by
  cases b with
  | true => exact I.list_inj h h'
  | false => exact I.tuple_inj h h'
def beginB (b : Bool) (a : Addr) : Obj := { cls := .type (if b then "list_iterator" else "tuple_iterator"), data := .fields #[.ref a, .int 0 0] }
theorem IterB.at_ {b : Bool} {h h' : Heap} {it a : Addr} {i : Nat} (x : IterB b h it a i) (k : ∀ o, h.get? it = some o → h'.get? it = some o) : IterB b h' it a i := by
  cases b with
  | true => exact Heap.IsListIter.at (show h.IsListIter it a i from x) k
  | false => exact Heap.IsTupleIter.at (show h.IsTupleIter it a i from x) k
theorem IterB.new {b : Bool} {h : Heap} {it a : Addr} (e : h.get? it = some (beginB b a)) : IterB b h it a 0 := by
  cases b with
  | true => exact ⟨_, e, rfl, rfl⟩
  | false => exact ⟨_, e, rfl, rfl⟩

end
end DL

namespace DL
open Evl (Ex)
open PySem PySem.Spec PyProof.Rows L2

section
variable {K : PySem.W.Frag} {E : WX} {X : Cx} {G : En} {F F' : Hp} {T T' : List (Addr × D)} {s s' : S} {σ : L2.St} {H H' : Hp} {v : V} {d : D} {ds : List D} {i : Nat} {r : R} {Q : VK}

/-! ### sequences, ranges, enumerate as what is walked -/
def signs (z : Str) : List D := z.cps.toList.map fun c => .str ⟨#[c]⟩
def seqOf : D → Option (List D)
  | .list ds => some ds
  | .tuple ds => some ds
  | .str z => if z.length ≤ line then some (signs z) else none
  | _ => none
def xSeq (fa : XE) : XI := fun s => (fa s).bind fun (r, s1) => match frz s1 r with
  | some (d, s2) => (match seqOf d with
    | some ds => .ok (ds, s2)
    | none => .bad)
  | none => .bad
/-- lo, lo + c, .. -/
def rgD (lo c : Int) (n : Nat) : List D := (List.range n).map fun i : Nat => .int (lo + (i : Int) * c)
theorem rgD_get {lo c : Int} {n i : Nat} {d : D} (e : (rgD lo c n)[i]? = some d) : i < n ∧ d = .int (lo + (i : Int) * c) := by
  unfold rgD at e
  rw [List.getElem?_map, Option.map_eq_some_iff] at e
  obtain ⟨j, hj, rfl⟩ := e
  obtain ⟨h1, h2⟩ := List.getElem?_eq_some_iff.mp hj
  rw [List.length_range] at h1
  rw [List.getElem_range] at h2
  subst h2
  exact ⟨h1, rfl⟩
theorem rgD_len (lo c : Int) (n : Nat) : (rgD lo c n).length = n := by unfold rgD; rw [List.length_map, List.length_range]
theorem wk_rng {lo : Int} {n : Nat} (hz : n ≤ line) : Wk K F (Itr lo n) (rgD lo 1 n) where
  go := fun i d H e ex => by
    obtain ⟨hi, rfl⟩ := rgD_get e
    refine ⟨hi, fun y H' q => ?_⟩
    obtain ⟨rfl, rfl⟩ := q
    rw [Int.mul_one]
    exact .inl ⟨rfl, .int _⟩
  stop := fun H ex => by rw [rgD_len]; exact Nat.le_refl _
  len := by rw [rgD_len]; exact hz
theorem Views.one {xs : List V} {d : D} (h : Views K F H xs [d]) : ∃ x, xs = [x] ∧ View K F H x d := by
  cases h with
  | cons a b => cases b; exact ⟨_, rfl, a⟩
theorem Views.two {xs : List V} {d e : D} (h : Views K F H xs [d, e]) : ∃ x y, xs = [x, y] ∧ View K F H x d ∧ View K F H y e := by
  cases h with
  | cons a b =>
    obtain ⟨y, rfl, q⟩ := b.one
    exact ⟨_, y, rfl, a, q⟩
theorem Views.three {xs : List V} {d e f : D} (h : Views K F H xs [d, e, f]) : ∃ x y z, xs = [x, y, z] ∧ View K F H x d ∧ View K F H y e ∧ View K F H z f := by
  cases h with
  | cons a b =>
    obtain ⟨y, z, rfl, q, r⟩ := b.two
    exact ⟨_, y, z, rfl, a, q, r⟩

def rg1Ok (j : Int) : Bool := decide (j ≤ 16777216) && decide (-1000000000 ≤ j)
def rg2Ok (i j : Int) : Bool := decide (j ≤ 1000000000) && decide (-1000000000 ≤ j) && decide (i ≤ 1000000000) && decide (-1000000000 ≤ i) && decide ((j - i).toNat ≤ 16777216)
def xRng1 (fa : XE) : XI := fun s => (fa s).bind fun (r, s1) => match getR s1 r with
  | some (.int j) => if rg1Ok j then .ok (rgD 0 1 j.toNat, s1) else .bad
  | _ => .bad
def xRng2 (fa fb : XE) : XI := fun s => (fa s).bind fun (r, s1) => (fb s1).bind fun (q, s2) => match getR s2 r, getR s2 q with
  | some (.int i), some (.int j) => if rg2Ok i j then .ok (rgD i 1 (j - i).toNat, s2) else .bad
  | _, _ => .bad
/-- range(i, j, -1) -/
def xRng3 (fa fb fc : XE) : XI := fun s => (fa s).bind fun (r, s1) => (fb s1).bind fun (q, s2) => (fc s2).bind fun (u, s3) => match getR s3 r, getR s3 q, getR s3 u with
  | some (.int i), some (.int j), some (.int c) => if c == -1 && rg2Ok j i then .ok (rgD i (-1) (i - j).toNat, s3) else .bad
  | _, _, _ => .bad
theorem sndI_rng1 {ta : TE} {fa : XE} (ha : Snd K E ta fa) : SndI K E (iRng1 (tCons ta tNil)) (xRng1 fa) := fun G F T s σ H R sr w => by
  refine ha G F T s σ H _ sr (w.bind.mono (Evl.Ex.refl F) fun ⟨r, s1⟩ w1 F1 T1 H1 v1 e1 sr1 rv1 => ?_)
  dsimp only at w1 sr1 rv1
  split at w1
  · rename_i j q
    split at w1
    · rename_i hj
      unfold rg1Ok at hj
      simp only [Bool.and_eq_true, decide_eq_true_eq] at hj
      obtain ⟨pre, rfl⟩ := rv1.sub
      have vw := sr1.view rv1 (Evl.Ex.refl _) (fun _ q => q) q
      cases vw
      exact ⟨j, rfl, by omega, by omega, w1 F1 H1 _ e1 sr1.dropApp (wk_rng (by unfold line; omega))⟩
    · exact w1.elim
  · exact w1.elim
section
variable {tg a b c : Expr} {ta tb tc : TE} {fa fb fc : XE} {p pos : Pos}
theorem di_rng1 (hg : Gl X "range") (hm : X.mg "range" = none) (ha : DE X E a ta fa) (hs : starEach [a] X.env = [(false, eval a X.env)] := by rfl) : DI X E tg (.Call (.Name "range" p) [a] [] pos) (iRng1 (tCons ta tNil)) (xRng1 fa) :=
  ⟨pi_range1 hg hm (pa_cons ha.pe pa_nil hs) hs, sndI_rng1 ha.sd⟩
end
/-- enumerate(e) -/
def enumD : Nat → List D → List D
  | _, [] => []
  | k, d :: ds => .tuple [.int (k : Int), d] :: enumD (k + 1) ds
def xEnum (fa : XE) : XI := fun s => (fa s).bind fun (r, s1) => match frz s1 r with
  | some (.list ds, s2) => .ok (enumD 0 ds, s2)
  | some (.tuple ds, s2) => .ok (enumD 0 ds, s2)
  | _ => .bad
/-! ### for -/
def forD (g : XG) (body : XS) : List D → S → Out Fl
  | [], s => .ok (.nx s)
  | d :: ds, s => match g d s with
    | none => .bad
    | some s1 => (body s1).bind fun fl => match fl with
      | .nx s2 => forD g body ds s2
      | .ct s2 => forD g body ds s2
      | .bk s2 => .ok (.nx s2)
      | .rt r s2 => .ok (.rt r s2)
def sFor (fi : XI) (g : XG) (body : XS) [Dum (fi, g, body)] : XS := fun s => (fi s).bind fun (ds, s1) => forD g body ds s1
/-- an item as it comes -/
theorem SR.item {F0 : Hp} {x : V} (sr : SR K G F T s σ H) (e0 : Ex F0 F) (io : ItemOk K F0 H x H' d) : ∃ F', Ex F F' ∧ SR K G F' T s σ H' ∧ Rp K F' x d := by
  rcases io with ⟨rfl, hr⟩ | ⟨p, vs, es, o, d0, rfl, hn, rfl, rfl, hr, hz⟩
  · exact ⟨F, Evl.Ex.refl F, sr, Rp.mono e0 hr⟩
  · exact sr.newTup d0 hn (RpAll.mono e0 hr) hz
theorem ds_for {tg iter : Expr} {body : List Stmt} {wi : TI} {tG : TG} {tb : TS} {fi : XI} {g : XG} {fb : XS} {vs : List Nat} {pos : Pos} (hp : PassesOwn (model X.prog X.w) X.A X.env X.xe) (hc : X.calm = true) (hi : DI X E tg iter wi fi) (hg : DG X vs tg tG g) (hb : DSs X E body tb fb)
    (hs : ∀ x, foldedSetIterable iter X.env x = pure x := by intro _; rfl) : DS X E (.For tg iter body [] pos) (tFor wi tG tb) (sFor fi g fb) := ⟨ps_for hp hc hi.pi hg.pg hb.ps hs, fun G F s σ H Dn sr w => by
  refine hi.sd G F [] s σ H _ sr (w.bind.mono (Evl.Ex.refl F) fun ⟨ds, s1⟩ w1 F1 H1 J e1 sr1 wk => ?_)
  dsimp only at w1 sr1 wk
  have w1' : Want X.K G E F1 (forD g fb ds s1) (FP X.K G F1 Dn) := Want.mono w1 e1 fun x (wx : FP X.K G F Dn x) => wx.mono e1
  refine ⟨fun i m σ H => m = ds.length - i ∧ i ≤ ds.length ∧ ∃ F2 s2, Ex F1 F2 ∧ SR X.K G F2 [] s2 σ H ∧ Want X.K G E F2 (forD g fb (ds.drop i) s2) (FP X.K G F2 Dn), ⟨ds.length, by simp, Nat.zero_le _, F1, s1, Evl.Ex.refl _, sr1, w1'⟩, ?_⟩
  rintro i m σ2 H2 ⟨rfl, hi2, F2, s2, e2, sr2, w2⟩
  by_cases hlt : i < ds.length
  · obtain ⟨d, hd⟩ : ∃ d, ds[i]? = some d := ⟨ds[i], List.getElem?_eq_getElem hlt⟩
    have ed : ds.drop i = d :: ds.drop (i + 1) := by
      rw [List.drop_eq_getElem_cons hlt]
      rw [List.getElem?_eq_getElem hlt] at hd
      cases hd
      rfl
    obtain ⟨go, yld⟩ := wk.go i d H2 hd (e2.trans sr2.fh)
    refine .inr ⟨go, fun σ' H' => ∃ m', m' < ds.length - i ∧ m' = ds.length - (i + 1) ∧ i + 1 ≤ ds.length ∧ ∃ F3 s3, Ex F1 F3 ∧ SR X.K G F3 [] s3 σ' H' ∧ Want X.K G E F3 (forD g fb (ds.drop (i + 1)) s3) (FP X.K G F3 Dn), fun σ' H' h => ?_, fun x H' y => ?_⟩
    · obtain ⟨m', h1, h2⟩ := h
      exact ⟨m', h1, h2⟩
    · obtain ⟨F3, e3, sr3, hx⟩ := sr2.item e2 (yld x H' y)
      rw [ed] at w2
      unfold forD at w2
      split at w2
      · exact w2.elim
      · rename_i s3 q3
        refine hg.sd G F3 [] s2 σ2 H' x d _ s3 sr3 hx q3 fun σ3 sr4 _ => ?_
        refine hb.sd G F3 s3 σ3 H' _ sr4 (Want.mono (Want.bind w2) e3 fun fl wf => ?_)
        cases fl with
        | nx s4 => exact fun F4 σ4 H4 e4 sr5 => ⟨ds.length - (i + 1), by omega, rfl, hlt, F4, s4, (e2.trans e3).trans e4, sr5, Want.mono wf (e3.trans e4) fun x (wx : FP X.K G F2 Dn x) => wx.mono (e3.trans e4)⟩
        | ct s4 => exact fun F4 σ4 H4 e4 sr5 => ⟨ds.length - (i + 1), by omega, rfl, hlt, F4, s4, (e2.trans e3).trans e4, sr5, Want.mono wf (e3.trans e4) fun x (wx : FP X.K G F2 Dn x) => wx.mono (e3.trans e4)⟩
        | bk s4 => exact fun F4 σ4 H4 e4 sr5 => wf F4 σ4 H4 (e3.trans e4) sr5
        | rt r s4 => exact fun F4 T4 σ4 H4 v4 e4 sr5 rv => wf F4 T4 σ4 H4 v4 (e3.trans e4) sr5 rv
  · have ei : i = ds.length := by omega
    subst ei
    rw [List.drop_length] at w2
    exact .inl ⟨wk.stop H2 (e2.trans sr2.fh), w2 F2 σ2 H2 (Evl.Ex.refl _) sr2⟩⟩

/-! ### names forgotten -/
def forget (is : List Nat) (s : S) : S := is.foldl (fun s i => s.set i none) s
theorem SR.forgets : ∀ {is : List Nat} {s : S}, SR K G F T s σ H → SR K G F T (DL.forget is s) σ H
  | [], _, h => h
  | i :: is, s, h => SR.forgets (is := is) (s := s.set i none) h.forget
/-! ### while -/
def whileN (fc : XT) (fb : XS) : Nat → S → Option (Out Fl)
  | 0, _ => none
  | n + 1, s => match fc s with
    | .bad => some .bad
    | .err c d s1 => some (.err c d s1)
    | .ok (false, s1) => some (.ok (.nx s1))
    | .ok (true, s1) => match fb s1 with
      | .bad => some .bad
      | .err c d s2 => some (.err c d s2)
      | .ok (.nx s2) => whileN fc fb n s2
      | .ok (.ct s2) => whileN fc fb n s2
      | .ok (.bk s2) => some (.ok (.nx s2))
      | .ok (.rt r s2) => some (.ok (.rt r s2))
theorem whileN_mono {fc : XT} {fb : XS} : ∀ {n m : Nat} {s : S} {r : Out Fl}, n ≤ m → whileN fc fb n s = some r → whileN fc fb m s = some r
  | 0, _, _, _, _, h => by cases h
  | n + 1, 0, _, _, h, _ => by omega
  | n + 1, m + 1, s, r, h, e => by
    unfold whileN at e ⊢
    cases hc : fc s with
    | bad => rw [hc] at e; exact e
    | err c d s1 => rw [hc] at e; exact e
    | ok x =>
      obtain ⟨b, s1⟩ := x
      rw [hc] at e
      cases b with
      | false => exact e
      | true =>
        dsimp only at e ⊢
        cases hb : fb s1 with
        | bad => rw [hb] at e; exact e
        | err c d s2 => rw [hb] at e; exact e
        | ok fl =>
          rw [hb] at e
          cases fl with
          | nx s2 => exact whileN_mono (Nat.le_of_succ_le_succ h) e
          | ct s2 => exact whileN_mono (Nat.le_of_succ_le_succ h) e
          | bk s2 => exact e
          | rt r2 s2 => exact e
open Classical in
noncomputable def sWhile (fc : XT) (fb : XS) [Dum (fc, fb)] : XS := fun s => if h : ∃ n r, whileN fc fb n s = some r then Classical.choose (Classical.choose_spec h) else .bad
theorem sWhile_of {fc : XT} {fb : XS} {n : Nat} {s : S} {r : Out Fl} (h : whileN fc fb n s = some r) : sWhile fc fb s = r := by
  have hx : ∃ n r, whileN fc fb n s = some r := ⟨n, r, h⟩
  unfold sWhile
  rw [dif_pos hx]
  have h2 := Classical.choose_spec (Classical.choose_spec hx)
  have a := whileN_mono (Nat.le_max_left n (Classical.choose hx)) h
  have b := whileN_mono (Nat.le_max_right n (Classical.choose hx)) h2
  rw [a] at b
  exact (Option.some.inj b).symm
/-- one turn -/
theorem sWhile_eq (fc : XT) (fb : XS) (s : S) : sWhile fc fb s = (fc s).bind fun (b, s1) => if b then (fb s1).bind fun fl => (match fl with
    | .nx s2 => sWhile fc fb s2
    | .ct s2 => sWhile fc fb s2
    | .bk s2 => .ok (.nx s2)
    | .rt r s2 => .ok (.rt r s2)) else .ok (.nx s1) := by
  cases hc : fc s with
  | bad => exact sWhile_of (n := 1) (by unfold whileN; rw [hc]; rfl)
  | err c d s1 => exact sWhile_of (n := 1) (by unfold whileN; rw [hc]; rfl)
  | ok x =>
    obtain ⟨b, s1⟩ := x
    rw [bind_ok]
    dsimp only
    cases b with
    | false => exact sWhile_of (n := 1) (by unfold whileN; rw [hc]; rfl)
    | true =>
      rw [if_pos rfl]
      cases hb : fb s1 with
      | bad => exact sWhile_of (n := 1) (by unfold whileN; rw [hc]; dsimp only; rw [hb]; rfl)
      | err c d s2 => exact sWhile_of (n := 1) (by unfold whileN; rw [hc]; dsimp only; rw [hb]; rfl)
      | ok fl =>
        rw [bind_ok]
        have key : ∀ s2, (∀ n, whileN fc fb (n + 1) s = whileN fc fb n s2) → sWhile fc fb s = sWhile fc fb s2 := fun s2 hk => by
          by_cases hx : ∃ n r, whileN fc fb n s2 = some r
          · obtain ⟨n, r, e⟩ := hx
            rw [sWhile_of e]
            exact sWhile_of (n := n + 1) (by rw [hk]; exact e)
          · have hy : ¬ ∃ n r, whileN fc fb n s = some r := fun ⟨n, r, e⟩ => by
              cases n with
              | zero => cases e
              | succ n => exact hx ⟨n, r, by rw [← hk]; exact e⟩
            unfold sWhile
            rw [dif_neg hx, dif_neg hy]
        cases fl with
        | nx s2 => exact key s2 fun n => by conv => lhs; unfold whileN; rw [hc]; dsimp only; rw [hb]
        | ct s2 => exact key s2 fun n => by conv => lhs; unfold whileN; rw [hc]; dsimp only; rw [hb]
        | bk s2 => exact sWhile_of (n := 1) (by unfold whileN; rw [hc]; dsimp only; rw [hb])
        | rt r s2 => exact sWhile_of (n := 1) (by unfold whileN; rw [hc]; dsimp only; rw [hb])
end
end DL

namespace DL
open Evl (Ex)
open PySem PySem.Spec PyProof.Rows L2 PySem.W

section
variable {K : PySem.W.Frag} {E : WX} {X : Cx} {G : En} {F F' : Hp} {T T' : List (Addr × D)} {s s' : S} {σ σ' : L2.St} {H H' : Hp} {v : V} {d : D} {ds : List D} {i : Nat} {r : R} {Q : VK}
/-! ### states that agree where something is known -/
theorem SR.agree (h : SR K G F T s σ H) (ha : ∀ i y, getS s i = some y → σ'[i]? = σ[i]?) (hl : σ'.length = σ.length) : SR K G F T s σ' H :=
  ⟨h.fh, h.fe, h.gr, h.kp, h.ioh, fun j e q => by rw [ha j _ q]; exact h.sl j e q, fun j k e q => by rw [ha j _ q]; exact h.ow j k e q,
    fun j l k m e e' p q1 q2 r1 r2 => h.di j l k m e e' p q1 q2 (by rw [← ha j _ q1]; exact r1) (by rw [← ha l _ q2]; exact r2), h.tn, h.tt, by rw [hl]; exact h.len⟩
theorem getS_forget : ∀ {is : List Nat} {s : S} {j : Nat} {y : Sl}, getS (DL.forget is s) j = some y → j ∉ is ∧ getS s j = some y
  | [], _, _, _, h => ⟨by simp, h⟩
  | i :: is, s, j, y, h => by
    obtain ⟨a, b⟩ := getS_forget (is := is) (s := s.set i none) h
    rcases getS_set b with ⟨_, e⟩ | ⟨n, e⟩
    · cases e
    · exact ⟨fun z => by
        rcases List.mem_cons.mp z with z | z
        · exact n z
        · exact a z, e⟩
def Cl (vs : List Nat) (s : S) : Prop := ∀ i ∈ vs, getS s i = none
theorem cl_forget (vs : List Nat) (s : S) : Cl vs (DL.forget vs s) := fun i hi => by
  cases e : getS (DL.forget vs s) i with
  | none => rfl
  | some y => exact absurd hi (getS_forget e).1
theorem SR.wiped {vs : List Nat} (h : SR K G F T s σ H) : SR K G F T (DL.forget vs s) (wipe σ vs) H :=
  (h.forgets (is := vs)).agree (fun i y e => wipe_out (getS_forget e).1) (wipe_length σ vs)
theorem SR.rewiped {vs : List Nat} {σ2 : L2.St} (h : SR K G F T s σ2 H) (e : wipe σ2 vs = wipe σ vs) : SR K G F T (DL.forget vs s) (wipe σ vs) H := by
  rw [← e]; exact h.wiped
def clean (vs : List Nat) (s : S) : Bool := vs.all fun i => (getS s i).isNone
/-- the names of a block behind it: values are known again -/
def back (s1 : S) : List Nat → S → S
  | [], s => s
  | i :: is, s => match getS s1 i with
    | some (.val d) => (back s1 is s).set i (some (.val d))
    | _ => back s1 is s
theorem SR.back {G0 : En} {F0 : Hp} {T0 : List (Addr × D)} {H0 : Hp} {s1 : S} (h0 : SR K G0 F0 T0 s1 σ H0) (e : Ex F0 F) : ∀ {vs : List Nat} {s : S}, SR K G F T s σ H → SR K G F T (DL.back s1 vs s) σ H
  | [], _, h => h
  | i :: is, s, h => by
    have ih := SR.back h0 e (vs := is) h
    unfold DL.back
    split
    · rename_i d q
      obtain ⟨w, a, b⟩ := h0.sl i d q
      have r := ih.setVal (i := i) (Rp.mono e b)
      have es : σ.set i (some w) = σ := by
        obtain ⟨hl, he⟩ := List.getElem?_eq_some_iff.mp a
        rw [← he]
        exact List.set_getElem_self hl
      rw [es] at r
      exact r
    · exact ih

/-! ### tests of a clause -/
structure DTs (X : Cx) (E : WX) (es : List Expr) (t : TT) (f : XT) : Prop where
  pt : PTs X es t
  sd : SndT X.K E t f
def tTrue : XT := fun s => .ok (true, s)
theorem dts_nil : DTs X E [] tYes tTrue := ⟨pts_nil, fun G F T s σ H Q sr w => w F H (Evl.Ex.refl F) sr⟩
theorem dts_one {c : Expr} {t : TT} {f : XT} (h : DT X E c t f) : DTs X E [c] t f := ⟨pts_one h.pt, h.sd⟩

/-! ### [e for x in xs if t] -/
/-- one thing more -/
def lcAdd (vs : List Nat) (acc : List D) (r : R) (s : S) : Out (List D × S) := match frz s r with
  | some (d, s') => .ok (acc ++ [d], DL.forget vs s')
  | none => .bad
def lcTurn (vs : List Nat) (ft : XT) (fe : XE) (acc : List D) (s : S) : Out (List D × S) := (ft s).bind fun (b, s1) => if b then ((fe s1).bind fun (r, s2) => lcAdd vs acc r s2) else .ok (acc, DL.forget vs s1)
def lcD (vs : List Nat) (g : XG) (ft : XT) (fe : XE) : List D → List D → S → Out (List D × S)
  | [], acc, s => .ok (acc, s)
  | d :: ds, acc, s => match g d s with
    | none => .bad
    | some s1 => (lcTurn vs ft fe acc s1).bind fun (acc', s2) => lcD vs g ft fe ds acc' s2
def xLc (vs : List Nat) (fi : XI) (g : XG) (ft : XT) (fe : XE) [Dum (vs, fi, g, ft, fe)] : XE := fun s => (fi s).bind fun (ds, s1) => (lcD vs g ft fe ds [] (DL.forget vs s1)).bind fun (acc, s2) => if acc.length ≤ line then .ok (.new (.list acc), back s1 vs s2) else .bad
theorem lc_sound {wi : TI} {g : TG} {tt : TT} {te : TE} {fi : XI} {xg : XG} {ft : XT} {fe : XE} {vs gs : List Nat} (hi : SndI K E wi fi) (hg : SndG K gs g xg) (ht : SndT K E tt ft) (he : Snd K E te fe) (hv : ∀ i ∈ gs, i ∈ vs) : Snd K E (tLc wi g tt te vs) (xLc vs fi xg ft fe) := fun G F T s σ H Q sr w => by
  refine hi G F T s σ H _ sr (w.bind.mono (Evl.Ex.refl F) fun ⟨ds, s1⟩ w1 F1 H1 J e1 sr1 wk Dd hD => ?_)
  dsimp only at w1 sr1 wk
  have sr0 := ((sr1.newList (ds := []) (vs := []) hD .nil (Nat.zero_le _)).wiped (vs := vs))
  refine ⟨fun i m H => m = ds.length - i ∧ i ≤ ds.length ∧ ∃ F2 s2 acc, Ex F1 F2 ∧ acc.length ≤ i ∧ Cl vs s2 ∧ SR K G F2 ((Dd, .list acc) :: T) s2 (wipe σ vs) H ∧ Want K G E F2 (lcD vs xg ft fe (ds.drop i) acc s2) fun x => ∀ F3 H3, Ex F2 F3 → x.1.length ≤ ds.length → SR K G F3 ((Dd, .list x.1) :: T) x.2 (wipe σ vs) H3 → Cl vs x.2 → Q (.ref Dd) H3,
    ⟨ds.length, by simp, Nat.zero_le _, F1, DL.forget vs s1, [], Evl.Ex.refl _, Nat.zero_le _, cl_forget vs s1, sr0, ?_⟩, ?_⟩
  · refine Want.mono w1.bind e1 fun ⟨acc, s2⟩ w2 F3 H3 e3 hz sr3 hn => ?_
    dsimp only at w2 sr3 hn hz
    have hz2 : acc.length ≤ line := Nat.le_trans hz wk.len
    rw [if_pos hz2] at w2
    have srs : SR K G F3 ((Dd, .list acc) :: T) s2 σ H3 := sr3.agree (fun i y e => by
      refine (wipe_out fun m => ?_).symm
      rw [hn i m] at e; cases e) (wipe_length σ vs).symm
    exact w2 F3 _ H3 _ (e1.trans e3) (SR.back sr1 e3 srs) ⟨Dd, rfl, rfl⟩
  rintro i m H2 ⟨rfl, hi2, F2, s2, acc, e2, hacc, hcl, sr2, w2⟩
  by_cases hlt : i < ds.length
  · obtain ⟨d, hd⟩ : ∃ d, ds[i]? = some d := ⟨ds[i], List.getElem?_eq_getElem hlt⟩
    have ed : ds.drop i = d :: ds.drop (i + 1) := by
      rw [List.drop_eq_getElem_cons hlt]
      rw [List.getElem?_eq_getElem hlt] at hd
      cases hd
      rfl
    obtain ⟨go, yld⟩ := wk.go i d H2 hd (e2.trans sr2.fh)
    refine .inr ⟨go, fun H' => ∃ m', m' < ds.length - i ∧ m' = ds.length - (i + 1) ∧ i + 1 ≤ ds.length ∧ ∃ F3 s3 acc', Ex F1 F3 ∧ acc'.length ≤ i + 1 ∧ Cl vs s3 ∧ SR K G F3 ((Dd, .list acc') :: T) s3 (wipe σ vs) H' ∧ Want K G E F3 (lcD vs xg ft fe (ds.drop (i + 1)) acc' s3) fun x => ∀ F4 H4, Ex F3 F4 → x.1.length ≤ ds.length → SR K G F4 ((Dd, .list x.1) :: T) x.2 (wipe σ vs) H4 → Cl vs x.2 → Q (.ref Dd) H4,
      fun H' h => ?_, fun x H' y => ?_⟩
    · obtain ⟨m', h1, h2⟩ := h
      exact ⟨m', h1, h2⟩
    · obtain ⟨F3, e3, sr3, hx⟩ := sr2.item e2 (yld x H' y)
      rw [ed] at w2
      unfold lcD at w2
      split at w2
      · exact w2.elim
      · rename_i s3 q3
        refine hg G F3 _ s2 (wipe σ vs) H' x d _ s3 sr3 hx q3 fun σ3 sr4 kw => ?_
        have ww : wipe σ3 vs = wipe σ vs := by
          rw [kw vs hv]
          have : ∀ (us : List Nat) (σ : L2.St), wipe (wipe σ us) us = wipe σ us := fun us σ => by
            apply List.ext_getElem?
            intro j
            by_cases hj : j ∈ us
            · have key : ∀ (us : List Nat) (τ : L2.St), τ.length = σ.length → j ∈ us → (wipe τ us)[j]? = if j < σ.length then some none else none := fun us => by
                induction us with
                | nil => intro τ _ hm; cases hm
                | cons u us ih =>
                  intro τ hl hm
                  unfold wipe
                  by_cases eu : u = j
                  · subst eu
                    rw [List.getElem?_set_self', ]
                    by_cases hlt : u < σ.length
                    · rw [if_pos hlt, List.getElem?_eq_getElem (by rw [wipe_length, hl]; exact hlt)]
                      rfl
                    · rw [if_neg hlt, List.getElem?_eq_none (by rw [wipe_length, hl]; omega)]
                      rfl
                  · rw [List.getElem?_set_ne eu]
                    exact ih τ hl ((List.mem_cons.mp hm).resolve_left fun z => eu z.symm)
              rw [key us _ (wipe_length σ us) hj, key us σ rfl hj]
            · rw [wipe_out hj]
          exact this vs σ
        refine ⟨ww, ?_⟩
        have w3 := Want.bind w2
        unfold lcTurn at w3
        refine ht G F3 _ s3 σ3 H' _ sr4 (Want.mono (Want.bind w3) e3 fun ⟨b, s5⟩ w5 F5 H5 e5 sr5 => ?_)
        dsimp only at w5 sr5
        cases b with
        | false =>
          rw [if_neg (by simp)]
          rw [if_neg (by simp)] at w5
          exact ⟨ds.length - (i + 1), by omega, rfl, hlt, F5, _, acc, (e2.trans e3).trans e5, by omega, cl_forget _ _, sr5.rewiped ww, Want.mono w5 (e3.trans e5) fun x wx F6 H6 e6 => wx F6 H6 ((e3.trans e5).trans e6)⟩
        | true =>
          rw [if_pos rfl]
          rw [if_pos rfl] at w5
          refine he G F5 _ s5 σ3 H5 _ sr5 (Want.mono (Want.bind w5) (e3.trans e5) fun ⟨r, s6⟩ w6 F6 T6 H6 v6 e6 sr6 rv6 => ?_)
          dsimp only at w6 sr6 rv6
          unfold lcAdd at w6
          split at w6
          · rename_i d7 s7 q7
            obtain ⟨F7, e7, sr7, hd7⟩ := sr6.frz rv6 (Evl.Ex.refl _) q7
            obtain ⟨av, hav, hr, hz⟩ := (sr7.tt (Dd, .list acc) List.mem_cons_self).at_
            have hz1 : acc.length + 1 ≤ line := by have := wk.len; omega
            refine ⟨av, hav, by rw [hr.length, ← line_eq]; omega, ds.length - (i + 1), by omega, rfl, hlt, F7, _, acc ++ [d7], ((e2.trans e3).trans e5).trans (e6.trans e7), by rw [List.length_append]; simp; omega, cl_forget _ _, (sr7.writeTemp (ds' := acc ++ [d7]) (hr.append (.cons hd7 .nil)) (by rw [List.length_append]; exact hz1)).rewiped ww, Want.mono w6 ((e3.trans e5).trans (e6.trans e7)) fun x wx F8 H8 e8 => wx F8 H8 (((e3.trans e5).trans (e6.trans e7)).trans e8)⟩
          · exact w6.elim
  · have ei : i = ds.length := by omega
    subst ei
    rw [List.drop_length] at w2
    have w2' : ∀ F3 H3, Ex F2 F3 → acc.length ≤ ds.length → SR K G F3 ((Dd, .list acc) :: T) s2 (wipe σ vs) H3 → (∀ i ∈ vs, getS s2 i = none) → Q (.ref Dd) H3 := w2
    exact .inl ⟨wk.stop H2 (e2.trans sr2.fh), w2' F2 H2 (Evl.Ex.refl _) hacc sr2 hcl⟩
/-! ### readings that only the meaning gives -/
def canE (K : PySem.W.Frag) (E : WX) (f : XE) : TE := fun σ H Q => ∃ G F T s, SR K G F T s σ H ∧ Want K G E F (f s) (EP K G F T σ Q)
def canT (K : PySem.W.Frag) (E : WX) (f : XT) : TT := fun σ H Q => ∃ G F T s, SR K G F T s σ H ∧ Want K G E F (f s) (TP K G F T σ Q)
def canG (K : PySem.W.Frag) (vs : List Nat) (g : XG) : TG := fun x σ H Q => ∃ G F T s d s', SR K G F T s σ H ∧ Rp K F x d ∧ g d s = some s' ∧ ∀ σ', SR K G F T s' σ' H → (∀ ws, (∀ i ∈ vs, i ∈ ws) → wipe σ' ws = wipe σ ws) → Q σ' H
theorem can_sd {f : XE} : Snd K E (canE K E f) f := fun G F T s σ H Q sr w => ⟨G, F, T, s, sr, w⟩
theorem canT_sd {f : XT} : SndT K E (canT K E f) f := fun G F T s σ H Q sr w => ⟨G, F, T, s, sr, w⟩
theorem canG_sd {vs : List Nat} {g : XG} : SndG K vs (canG K vs g) g := fun G F T s σ H x d Q s' sr hd e q => ⟨G, F, T, s, d, s', sr, hd, e, q⟩
theorem DE.can {e : Expr} {t : TE} {f : XE} (h : DE X E e t f) : PE X e (canE X.K E f) := ⟨fun pins s σ H Q I ⟨G, F, T, st, sr, w⟩ => h.pe.run pins s σ H Q I (h.sd G F T st σ H Q sr w)⟩
theorem DTs.can {e : List Expr} {t : TT} {f : XT} (h : DTs X E e t f) : PTs X e (canT X.K E f) := ⟨fun pins s σ H Q I ⟨G, F, T, st, sr, w⟩ => h.pt.run pins s σ H Q I (h.sd G F T st σ H Q sr w)⟩
theorem DG.can {vs : List Nat} {e : Expr} {t : TG} {g : XG} (h : DG X vs e t g) : PG X e (canG X.K vs g) := ⟨fun pins s σ H x u Q I r ⟨G, F, T, st, d, s', sr, hd, ee, q⟩ => h.pg.run pins s σ H x u Q I r (h.sd G F T st σ H x d Q s' sr hd ee q)⟩
theorem de_lc {elt tg iter : Expr} {ifs : List Expr} {scope : Scope} {own : List (Str × Nat)} {gs : List Nat} {pos : Pos} {wi : TI} {fi : XI} {xg : XG} {ft : XT} {fe : XE} (hc : X.calm = true) (hN : X.N.Nodup) (hi : DI X E tg iter wi fi) (ok : BlkOk X.N X.env.scope scope own)
    (hg : ∀ (s : Shared) (H : Hp) (C : Addr) (cl : List (Str × Addr)) (fp : List Addr), ∃ g, DG (X.blk s H scope (compEnvC scope cl C X.env) fp) gs tg g xg) (ht : ∀ (s : Shared) (H : Hp) (C : Addr) (cl : List (Str × Addr)) (fp : List Addr), ∃ tt, DTs (X.blk s H scope (compEnvC scope cl C X.env) fp) E ifs tt ft)
    (he : ∀ (s : Shared) (H : Hp) (C : Addr) (cl : List (Str × Addr)) (fp : List Addr), ∃ te, DE (X.blk s H scope (compEnvC scope cl C X.env) fp) E elt te fe) (hv : ∀ i ∈ gs, i ∈ own.map (·.2) := by decide) (hs : ∀ x, foldedSetIterable iter X.env x = pure x := by intro _; rfl) :
    DE X E (.ListComp elt [⟨tg, iter, ifs, 0⟩] scope pos) (tLc wi (canG X.K gs xg) (canT X.K E ft) (canE X.K E fe) (own.map (·.2))) (xLc (own.map (·.2)) fi xg ft fe) :=
  ⟨pe_lc hc hN hi.pi ok (fun s H C cl fp => let ⟨_, h⟩ := hg s H C cl fp; h.can) (fun s H C cl fp => let ⟨_, h⟩ := ht s H C cl fp; h.can) (fun s H C cl fp => let ⟨_, h⟩ := he s H C cl fp; h.can) hs,
    lc_sound hi.sd canG_sd canT_sd can_sd hv⟩
end
end DL

namespace DL
open Evl (Ex)
open PySem PySem.Spec PyProof.Rows L2 PySem.W

section
variable {K : PySem.W.Frag} {E : WX} {X : Cx} {G : En} {F F' : Hp} {T T' : List (Addr × D)} {s s' : S} {σ σ' : L2.St} {H H' : Hp} {v : V} {d : D} {ds : List D} {i : Nat} {r : R} {Q : VK}
/-! ### a range handed to list, tuple -/
abbrev TRg := L2.St → Hp → (Int → Int → Nat → Hp → Prop) → Prop
section
variable {a b c : Expr} {ta : TA} {p pos : Pos}
end
section
variable {e : Expr} {te : TRg} {p pos : Pos}
end
section
variable {a b c : Expr} {ta tb tc : TE} {fa fb fc : XE} {p pos : Pos}
end
def xLstI (fi : XI) : XE := fun s => (fi s).bind fun (ds, s1) => .ok (.new (.list ds), s1)
def xTupI (fi : XI) : XE := fun s => (fi s).bind fun (ds, s1) => .ok (.val (.tuple ds), s1)
section
variable {e : Expr} {te : TRg} {fi : XI} {p pos : Pos}
end
end
end DL

namespace DL
open Evl (Ex)
open PySem PySem.Spec PyProof.Rows L2 PySem.W

/-! ### walks of a tuple -/
section
variable {prog : Program} {w : World} {A : Around} {E : Value → Shared → Prop} {s : Shared} {l : Addr} {items : Array Value} {its : List Value} {ns : List Int} {Q : Value → Shared → Prop}
end

section
variable {X : Cx}
theorem CallR.or {f : Value} {r r' : List V → Hp → VK → Prop} (h : CallR X f r) (h' : CallR X f r') : CallR X f (fun vs H Q => r vs H Q ∨ r' vs H Q) := by
  intro pins s σ H vs us Q I rv q
  rcases q with q | q
  · exact h pins s σ H vs us Q I rv q
  · exact h' pins s σ H vs us Q I rv q
end
end DL

namespace DL
open Evl (Ex)
open PySem PySem.Spec PyProof.Rows L2 PySem.W

section
variable {K : PySem.W.Frag} {E : WX} {X : Cx} {G : En} {F F' : Hp} {T T' : List (Addr × D)} {s s' : S} {σ σ' : L2.St} {H H' : Hp} {v : V} {d : D} {ds : List D} {i : Nat} {r : R} {Q : VK}
/-! ### lists of ints, of bools -/
def intsOf : List D → Option (List Int)
  | [] => some []
  | .int i :: r => (intsOf r).map (i :: ·)
  | _ => none
theorem Rp.ints {vs : List V} {ns : List Int} (h : RpAll K F vs (ns.map .int)) : vs = ns.map V.int := by
  induction ns generalizing vs with
  | nil => cases h; rfl
  | cons n r ih => cases h with
    | cons a b => cases a; rw [ih b]; rfl
theorem Rp.bools {vs : List V} {ns : List Bool} (h : RpAll K F vs (ns.map .bool)) : vs = ns.map V.bl := by
  induction ns generalizing vs with
  | nil => cases h; rfl
  | cons n r ih => cases h with
    | cons a b => cases a; rw [ih b]; rfl
def srt (ns : List Int) : List Int := ns.mergeSort (fun a b => decide (a ≤ b))
theorem srt_perm (ns : List Int) : (srt ns).Perm ns := List.mergeSort_perm _ _
theorem srt_pw (ns : List Int) : (srt ns).Pairwise (· ≤ ·) := by
  have h := List.pairwise_mergeSort (le := fun a b : Int => decide (a ≤ b)) (fun a b c h1 h2 => by simp only [decide_eq_true_eq] at *; omega) (fun a b => by simp only [Bool.or_eq_true, decide_eq_true_eq]; omega) ns
  exact h.imp fun {a b} q => by simpa using q
theorem srt_eq {ns ms : List Int} (hp : ms.Perm ns) (hs : ms.Pairwise (· ≤ ·)) : ms = srt ns :=
  List.Perm.eq_of_pairwise (fun a b _ _ h1 h2 => Int.le_antisymm h1 h2) hs (srt_pw ns) (hp.trans (srt_perm ns).symm)

/-! ### the functions of the language -/
def vi (i : Int) : Option RD := some (.val (.int i))
def vb (b : Bool) : Option RD := some (.val (.bool b))
def itemsOf : D → Option (List D)
  | .list ds => some ds
  | .tuple ds => some ds
  | _ => none
def hLen : List D → Option RD
  | [.list ds] => vi ds.length
  | [.tuple ds] => vi ds.length
  | [.str z] => if z.length ≤ line then vi z.length else none
  | [.dict [(.list [], .list ds)]] => vi ds.length
  | _ => none
def hInt : List D → Option RD
  | [.int i] => vi i
  | [.bool b] => vi (if b then 1 else 0)
  | _ => none
def hAbs : List D → Option RD
  | [.int i] => vi (if i < 0 then -i else i)
  | _ => none
def hMax2 : List D → Option RD
  | [.int i, .int j] => vi (if j > i then j else i)
  | _ => none
def hMin2 : List D → Option RD
  | [.int i, .int j] => vi (if j < i then j else i)
  | _ => none
def h1L (f : List D → Option RD) : List D → Option RD
  | [.list ds] => f ds
  | [.tuple ds] => f ds
  | _ => none
def hList : List D → Option RD
  | [.list ds] => some (.lst ds)
  | [.tuple ds] => some (.lst ds)
  | _ => none
def hTuple : List D → Option RD
  | [.list ds] => some (.tup ds)
  | [.tuple ds] => some (.tup ds)
  | _ => none
theorem Res.int {i : Int} (h : Res K F H Q (.val (.int i))) : Q (.int i) H := h _ (.int i)
theorem Res.bool {b : Bool} (h : Res K F H Q (.val (.bool b))) : Q (.bl b) H := h _ (.bl b)
theorem RpKv.head {kvs : List (Key × V)} {k d : D} {ds : List (D × D)} (h : RpKv K F kvs ((k, d) :: ds)) : ∃ q, k = keyD q := by
  cases h
  exact ⟨_, rfl⟩
theorem opc_len : OpC K (fun xs H Q => ∃ x n, xs = [x] ∧ LenV K x H n ∧ Q (.int n) H) hLen := fun F H xs ds rd Q ex hv e hr => by
  unfold hLen at e
  split at e
  · obtain ⟨x, rfl, q⟩ := hv.one
    cases q with
    | lst a b c => cases e; exact ⟨_, _, rfl, .inl ⟨_, .of a, rfl⟩, by rw [b.length]; exact hr.int⟩
  · obtain ⟨x, rfl, q⟩ := hv.one
    cases q with
    | tup a b c => cases e; exact ⟨_, _, rfl, .inr ⟨_, (a.ex ex).sq, rfl⟩, by rw [b.length]; exact hr.int⟩
  · rename_i z
    obtain ⟨x, rfl, q⟩ := hv.one
    cases q
    split at e
    · rename_i hz
      cases e
      exact ⟨_, _, rfl, ⟨by rw [← line_eq]; exact hz, rfl⟩, hr.int⟩
    · cases e
  · obtain ⟨x, rfl, q⟩ := hv.one
    cases q with
    | scr a =>
      cases e
      rename_i p ns
      refine ⟨_, _, rfl, .inl ⟨_, Evl.ex_l ex a, rfl⟩, ?_⟩
      have := hr.int
      rw [List.length_map] at this ⊢
      exact this
    | dic a b c =>
      obtain ⟨q, hq⟩ := b.head
      cases q <;> cases hq
  · cases e
theorem opc_int : OpC K (fun xs H Q => (∃ i, xs = [.int i] ∧ Q (.int i) H) ∨ ∃ k, xs = [.bl k] ∧ Q (.int (if k then 1 else 0)) H) hInt := fun F H xs ds rd Q ex hv e hr => by
  unfold hInt at e
  split at e
  · obtain ⟨x, rfl, q⟩ := hv.one
    cases q; cases e
    exact .inl ⟨_, rfl, hr.int⟩
  · obtain ⟨x, rfl, q⟩ := hv.one
    cases q; cases e
    exact .inr ⟨_, rfl, hr.int⟩
  · cases e
theorem opc_max2 : OpC K (fun xs H Q => ∃ i j, xs = [.int i, .int j] ∧ Q (.int (if j > i then j else i)) H) hMax2 := fun F H xs ds rd Q ex hv e hr => by
  unfold hMax2 at e
  split at e
  · obtain ⟨x, y, rfl, q, q2⟩ := hv.two
    cases q; cases q2; cases e
    exact ⟨_, _, rfl, hr.int⟩
  · cases e
theorem opc_min2 : OpC K (fun xs H Q => ∃ i j, xs = [.int i, .int j] ∧ Q (.int (if j < i then j else i)) H) hMin2 := fun F H xs ds rd Q ex hv e hr => by
  unfold hMin2 at e
  split at e
  · obtain ⟨x, y, rfl, q, q2⟩ := hv.two
    cases q; cases q2; cases e
    exact ⟨_, _, rfl, hr.int⟩
  · cases e
/-! ### the calls -/
section
variable {x : Str} {p pos : Pos} {e : Expr} {es : List Expr} {ta : TA} {fa : XA}
theorem de_callB {id : String} {r : List V → Hp → VK → Prop} {h : List D → Option RD} (hc : CallR X (.builtin id) r) (o : OpC X.K r h) (hg : Gl X x) (hm : X.mg x = none) (hv : bootBuiltins x = some (.builtin id)) (ha : DA X E (e :: es) ta fa) (hn : x ≠ "__name__" := by decide) (hdb : (x == ("__debug__" : Str)) = false := by decide)
    (he : starEach (e :: es) X.env = (false, eval e X.env) :: starEach es X.env := by rfl) (hpl : (backTo pos (starEach es X.env)).any (·.1) = false := by rfl) : DE X E (.Call (.Name x p) (e :: es) [] pos) (tCB r ta) (xCB h fa) :=
  ⟨pe_callB hc hg hm hv ha.pa hn hdb he hpl, snd_cb o ha.sd⟩
theorem de_callTy {T : String} {r : List V → Hp → VK → Prop} {h : List D → Option RD} (hc : CallR X (.type T) r) (o : OpC X.K r h) (hg : Gl X x) (hm : X.mg x = none) (hv : bootBuiltins x = some (.type T)) (ha : DA X E (e :: es) ta fa) (hn : x ≠ "__name__" := by decide) (hdb : (x == ("__debug__" : Str)) = false := by decide)
    (he : starEach (e :: es) X.env = (false, eval e X.env) :: starEach es X.env := by rfl) (hpl : (backTo pos (starEach es X.env)).any (·.1) = false := by rfl) : DE X E (.Call (.Name x p) (e :: es) [] pos) (tCB r ta) (xCB h fa) :=
  ⟨pe_callTy hc hg hm hv ha.pa hn hdb he hpl, snd_cb o ha.sd⟩
end
/-! ### isinstance -/
inductive Ty6 where | int | bool | str | tup | lst
def Ty6.name : Ty6 → String
  | .int => "int"
  | .bool => "bool"
  | .str => "str"
  | .tup => "tuple"
  | .lst => "list"
def tyName : D → String
  | .none => "NoneType"
  | .bool _ => "bool"
  | .int _ => "int"
  | .str _ => "str"
  | .tuple _ => "tuple"
  | .dict ((.list _, _) :: _) => "list"
  | .dict _ => "dict"
  | .list _ => "list"
def isTy : Ty6 → D → Bool
  | .int, .int _ => true
  | .int, .bool _ => true
  | .bool, .bool _ => true
  | .str, .str _ => true
  | .tup, .tuple _ => true
  | .lst, .list _ => true
  | .lst, .dict ((.list _, _) :: _) => true
  | _, _ => false
theorem tyX_l {p : Addr} {vs : List V} (h : SqL K H p vs) : TyX K H (.ref p) (.type "list") := by
  rcases h with h | ⟨o, its, n, h1, h2, _⟩
  · rcases h with h | ⟨o, h⟩
    · exact .base (.lst h)
    · exact .base (.frz h)
  · exact .kList h1 h2
theorem tyX_t {p : Addr} {vs : List V} (h : SqT K H p vs) : TyX K H (.ref p) (.type "tuple") := by
  rcases h with h | ⟨o, its, n, h1, h2, _⟩
  · rcases h with h | ⟨o, h⟩
    · exact .base (.tup h)
    · exact .fTuple h
  · exact .kTuple h1 h2
theorem tyName_dic {kvs : List (Key × V)} {ds : List (D × D)} (h : RpKv K F kvs ds) : tyName (.dict ds) = "dict" := by
  cases h with
  | nil => rfl
  | cons a b =>
    rename_i k _ _ _ _
    cases k <;> rfl
theorem view_ty (ex : Ex F H) (h : View K F H v d) : TyX K H v (.type (tyName d)) := by
  cases h with
  | lst a b c => exact tyX_l (.of a)
  | scr a => exact tyX_l (Evl.ex_l ex a)
  | dic a b c =>
    have e : tyName (.dict _) = "dict" := tyName_dic b
    rw [e]
    exact .base (.dK a)
  | tup a b c => exact tyX_t ((a.ex ex).sq)
  | non => exact .base .non
  | bl b => exact .base (.bl b)
  | int i => exact .base (.int i)
  | str x => exact .base (.str x)
theorem TyX.mono {H H' : Hp} {v : V} {t : Value} (e : Ex H H') (h : TyX K H v t) : TyX K H' v t := by
  cases h with
  | base b => cases b with
    | non => exact .base .non
    | bl x => exact .base (.bl x)
    | int x => exact .base (.int x)
    | str x => exact .base (.str x)
    | flt x => exact .base (.flt x)
    | lst q => exact .base (.lst (e _ _ q))
    | frz q => exact .base (.frz (e _ _ q))
    | tup q => exact .base (.tup (e _ _ q))
    | dK q => exact .base (.dK (e _ _ q))
    | dT q => exact .base (.dT (e _ _ q))
    | ins q a b c d f => exact .base (.ins (e _ _ q) a b c d f)
  | byt b => exact .byt b
  | set q => exact .set (e _ _ q)
  | kList a b => exact .kList a b
  | kTuple a b => exact .kTuple a b
  | kDict a b => exact .kDict a b
  | fTuple q => exact .fTuple (e _ _ q)
  | fDict q => exact .fDict (e _ _ q)
theorem isTy_dic {kvs : List (Key × V)} {ds : List (D × D)} (h : RpKv K F kvs ds) (T : Ty6) : isTy T (.dict ds) = false := by
  cases h with
  | nil => cases T <;> rfl
  | cons a b =>
    rename_i k _ _ _ _
    cases k <;> cases T <;> rfl
theorem kitB_ok (T : Ty6) (h : View K F H v d) : kitB (tyName d) T.name = some (isTy T d) := by
  cases h with
  | dic a b c =>
    rw [tyName_dic b, isTy_dic b T]
    cases T <;> (dsimp only [Ty6.name]; decide +kernel)
  | _ => cases T <;> (dsimp only [tyName, Ty6.name, isTy, scrD]; decide +kernel)
def xIsi (g : D → Bool) (fa : XE) : XE := fun s => (fa s).bind fun (r, s1) => match getR s1 r with
  | some d => .ok (.val (.bool (g d)), s1)
  | none => .bad
section
variable {a : Expr} {ta : TE} {fa : XE} {p p2 pos : Pos}
theorem de_isi (T : Ty6) {x : Str} (hg : Gl X "isinstance") (hm : X.mg "isinstance" = none) (ha : DE X E a ta fa) (hg2 : Gl X x) (hm2 : X.mg x = none) (hv2 : bootBuiltins x = some (.type T.name)) (hn : x ≠ "__name__" := by decide) (hd : (x == ("__debug__" : Str)) = false := by decide)
    (he : starEach [a, .Name x p2] X.env = (false, eval a X.env) :: starEach [.Name x p2] X.env := by rfl) (he2 : starEach [.Name x p2] X.env = [(false, eval (.Name x p2) X.env)] := by rfl) (hpl : (backTo pos (starEach [.Name x p2] X.env)).any (·.1) = false := by rfl) :
    DE X E (.Call (.Name "isinstance" p) [a, .Name x p2] [] pos) (tCB (rIsi X.K) (tCons ta (tCons (tC (.ty T.name)) tNil))) (xIsi (isTy T) fa) :=
  ⟨pe_callB call_isi hg hm (by decide +kernel) (pa_cons ha.pe (pa_cons (pe_bltn hg2 hm2 hv2 rfl hn hd) pa_nil he2) he) (he := he) (hpl := hpl), fun G F T' s σ H Q sr w => by
    refine ha.sd G F T' s σ H _ sr (w.bind.mono (Evl.Ex.refl F) fun ⟨r, s1⟩ w1 F1 T1 H1 v1 e1 sr1 rv1 => ?_)
    dsimp only at w1 sr1 rv1
    split at w1
    · rename_i d q
      have vw := sr1.view rv1 (Evl.Ex.refl _) (fun _ q => q) q
      obtain ⟨pre, rfl⟩ := rv1.sub
      exact ⟨v1, .ty T.name, _, _, _, rfl, .ty _, view_ty sr1.fh vw, kit_ty (kitB_ok T vw), w1 F1 _ H1 _ e1 sr1.dropApp ⟨.bl _, rfl⟩⟩
    · exact w1.elim⟩
theorem kitAny_two (T U : Ty6) (h : View K F H v d) : PySem.W.kitAny K (.type (tyName d)) [.type T.name, .type U.name] = some (isTy T d || isTy U d) := by
  refine kitAny_cons (kit_ty (kitB_ok T h)) (fun e => ?_) fun e => by rw [e]; rfl
  rw [e, Bool.false_or]
  refine kitAny_cons (kit_ty (kitB_ok U h)) (fun e => ?_) fun e => e
  rw [kitAny_nil, e]
theorem de_isi2 (T U : Ty6) {x y : Str} {px py pt : Pos} {kt : Nat} (hg : Gl X "isinstance") (hm : X.mg "isinstance" = none) (ha : DE X E a ta fa) (hg2 : Gl X x) (hm2 : X.mg x = none) (hv2 : bootBuiltins x = some (.type T.name)) (hg3 : Gl X y) (hm3 : X.mg y = none) (hv3 : bootBuiltins y = some (.type U.name))
    (hn : x ≠ "__name__" := by decide) (hd : (x == ("__debug__" : Str)) = false := by decide) (hn3 : y ≠ "__name__" := by decide) (hd3 : (y == ("__debug__" : Str)) = false := by decide)
    (he : starEach [a, .Tuple [.Name x px, .Name y py] kt pt] X.env = (false, eval a X.env) :: starEach [.Tuple [.Name x px, .Name y py] kt pt] X.env := by rfl) (he2 : starEach [.Tuple [.Name x px, .Name y py] kt pt] X.env = [(false, eval (.Tuple [.Name x px, .Name y py] kt pt) X.env)] := by rfl)
    (he3 : starEach [.Name x px, .Name y py] X.env = (false, eval (.Name x px) X.env) :: starEach [.Name y py] X.env := by rfl) (he4 : starEach [.Name y py] X.env = [(false, eval (.Name y py) X.env)] := by rfl)
    (hpl : (backTo pos (starEach [.Tuple [.Name x px, .Name y py] kt pt] X.env)).any (·.1) = false := by rfl) :
    DE X E (.Call (.Name "isinstance" p) [a, .Tuple [.Name x px, .Name y py] kt pt] [] pos) (tCB (rIsiT X.K) (tCons ta (tCons (tTup (tCons (tC (.ty T.name)) (tCons (tC (.ty U.name)) tNil))) tNil))) (xIsi (fun d => isTy T d || isTy U d) fa) :=
  ⟨pe_callB call_isiT hg hm (by decide +kernel) (pa_cons ha.pe (pa_cons (pe_tup (pa_cons (pe_bltn hg2 hm2 hv2 rfl hn hd) (pa_cons (pe_bltn hg3 hm3 hv3 rfl hn3 hd3) pa_nil he4) he3)) pa_nil he2) he) (he := he) (hpl := hpl), fun G F T' s σ H Q sr w => by
    refine ha.sd G F T' s σ H _ sr (w.bind.mono (Evl.Ex.refl F) fun ⟨r, s1⟩ w1 F1 T1 H1 v1 e1 sr1 rv1 => ?_)
    dsimp only at w1 sr1 rv1
    split at w1
    · rename_i d q
      have vw := sr1.view rv1 (Evl.Ex.refl _) (fun _ q => q) q
      obtain ⟨pre, rfl⟩ := rv1.sub
      refine ⟨by rw [sizeLine_eq]; simp, fun t ht => ?_⟩
      exact ⟨v1, t, [.ty T.name, .ty U.name], _, _, _, rfl, upd_same, .cons (.ty _) (.cons (.ty _) .nil), TyX.mono (Evl.Ex.new ht) (view_ty sr1.fh vw), kitAny_two T U vw, w1 F1 _ _ _ e1 (sr1.dropApp.grow ht) ⟨.bl _, rfl⟩⟩
    · exact w1.elim⟩
end
end
end DL

namespace DL
open Evl (Ex)
open PySem PySem.Spec PyProof.Rows L2 PySem.W

section
variable {K : PySem.W.Frag} {E : WX} {X : Cx} {G : En} {F F' : Hp} {T T' : List (Addr × D)} {s s' : S} {σ σ' : L2.St} {H H' : Hp} {v : V} {d : D} {ds : List D} {i : Nat} {r : R} {Q : VK}
/-! ### methods that change a list of our own -/
/-- the own list in slot i -/
def ownL (s : S) (i : Nat) : Option (Option Nat × List D) := match getS s i with
  | some (.own k (.list ds)) => some (k, ds)
  | _ => none
theorem ownL_eq {k : Option Nat} (h : ownL s i = some (k, ds)) : getS s i = some (.own k (.list ds)) := by
  unfold ownL at h
  split at h
  · rename_i k' ds' q
    cases h
    exact q
  · cases h
def xMut (i : Nat) (h : List D → List D → Option (List D × D)) (fa : XA) : XE := fun s => match ownL s i with
  | none => .bad
  | some _ => (fa s).bind fun (rs, s1) => match frzs s1 rs with
    | none => .bad
    | some (es, s2) => match ownL s2 i with
      | none => .bad
      | some (k, xs) => match h xs es with
        | none => .bad
        | some (ys, d) => if ys.length ≤ line then .ok (.val d, s2.set i (some (.own k (.list ys)))) else .bad
section
variable {x : Str} {e : Expr} {es : List Expr} {ta : TA} {fa : XA} {name : Str} {px apos cpos : Pos} {id : String} {r : V → List V → Hp → VK → Prop} {h : List D → List D → Option (List D × D)}
end
def mApp : List D → List D → Option (List D × D)
  | xs, [d] => if xs.length < line then some (xs ++ [d], .none) else none
  | _, _ => none
def mExt : List D → List D → Option (List D × D)
  | xs, [.list ys] => some (xs ++ ys, .none)
  | _, _ => none
def mIns : List D → List D → Option (List D × D)
  | xs, [.int j, d] => if xs.length < line ∧ 0 ≤ j ∧ j < 1000000000 then some (xs.take j.toNat ++ [d] ++ xs.drop j.toNat, .none) else none
  | _, _ => none
def mPop : List D → List D → Option (List D × D)
  | xs, [] => (xs[xs.length - 1]?).map fun d => (xs.dropLast, d)
  | _, _ => none
def mPopAt : List D → List D → Option (List D × D)
  | xs, [.int j] => match ixN xs.length j with
    | some k => (xs[k]?).map fun d => (xs.eraseIdx k, d)
    | none => none
  | _, _ => none
def mRev : List D → List D → Option (List D × D)
  | xs, [] => some (xs.reverse, .none)
  | _, _ => none
theorem RpAll.one {vs : List V} (h : RpAll K F vs [d]) : ∃ v, vs = [v] ∧ Rp K F v d := by
  cases h with
  | cons a b => cases b; exact ⟨_, rfl, a⟩
theorem RpAll.two {vs : List V} {e : D} (h : RpAll K F vs [d, e]) : ∃ v w, vs = [v, w] ∧ Rp K F v d ∧ Rp K F w e := by
  cases h with
  | cons a b => obtain ⟨w, rfl, q⟩ := b.one; exact ⟨_, w, rfl, a, q⟩
theorem RpAll.zero {vs : List V} (h : RpAll K F vs []) : vs = [] := by cases h; rfl
theorem RpAll.dropLast : ∀ {vs : List V} {ds : List D}, RpAll K F vs ds → RpAll K F vs.dropLast ds.dropLast
  | _, _, .nil => .nil
  | _, _, .cons a .nil => .nil
  | _, _, .cons a (.cons b t) => .cons a (RpAll.dropLast (.cons b t))
theorem RpAll.erase : ∀ {vs : List V} {ds : List D} (k : Nat), RpAll K F vs ds → RpAll K F (vs.eraseIdx k) (ds.eraseIdx k)
  | _, _, _, .nil => .nil
  | _, _, 0, .cons a t => t
  | _, _, k + 1, .cons a t => .cons a (RpAll.erase k t)
/-! ### xs[i] = e -/
def sSub (i : Nat) (fe fi : XE) : XS := fun s => (fe s).bind fun (r, s1) => match ownL s1 i with
  | none => .bad
  | some _ => (fi s1).bind fun (q, s2) => match getR s2 q with
  | some (.int j) => (match frz s2 r with
    | some (d, s3) => (match ownL s3 i with
      | some (k, xs) => (match ixN xs.length j with
        | some m => .ok (.nx (s3.set i (some (.own k (.list (xs.set m d))))))
        | none => .bad)
      | none => .bad)
    | none => .bad)
  | _ => .bad
theorem ds_sub {x : Str} {e a : Expr} {te ta : TE} {fe fa : XE} {px ps pos : Pos} (he : DE X E e te fe) (ho : PE X (.Name x px) (tVar i)) (ha : DE X E a ta fa)
    (hb : ∀ v, assign (.Subscript (.Name x px) a ps) X.env v = (do
      let ov ← holding [v] (eval (.Name x px) X.env)
      let iv ← holding [v, ov] (eval a X.env)
      standAt ps
      holding [v, ov, iv] (setItem ov iv v)
      release [v, ov, iv] []) := by intro _; rfl) (hs : swapsWithSole [.Subscript (.Name x px) a ps] e pos.line X.env = pure false := by rfl) (hw : swappedStores [.Subscript (.Name x px) a ps] e X.env = pure none := by rfl)
    (h1 : (assignEach [.Subscript (.Name x px) a ps] X.env).map (·.2) = [assign (.Subscript (.Name x px) a ps) X.env] := by rfl) : DS X E (.Assign [.Subscript (.Name x px) a ps] e pos) (tAsg te (gSub (tVar i) ta rSetL)) (sSub i fe fa) :=
  ⟨ps_asg he.pe (pg_sub ho ha.pe set_list hb) hs hw h1, fun G F s σ H Dn sr w => by
    refine he.sd G F [] s σ H _ sr (w.bind.mono (Evl.Ex.refl F) fun ⟨r, s1⟩ w1 F1 T1 H1 v1 e1 sr1 rv1 => ?_)
    dsimp only at w1 sr1 rv1
    split at w1
    · exact w1.elim
    rename_i kd q0
    obtain ⟨k0, ds0⟩ := kd
    obtain ⟨p, hp, o0, _⟩ := sr1.ow i k0 _ (ownL_eq q0)
    refine ⟨.ref p, hp, ?_⟩
    refine ha.sd G F1 T1 s1 σ H1 _ sr1 (w1.bind.mono e1 fun ⟨q, s2⟩ w2 F2 T2 H2 v2 e2 sr2 rv2 => ?_)
    dsimp only at w2 sr2 rv2
    split at w2
    · rename_i j qj
      have vw := sr2.view rv2 (Evl.Ex.refl _) (fun _ q => q) qj
      cases vw
      obtain ⟨pre, rfl⟩ := rv2.sub
      have sr2' := sr2.dropApp
      split at w2
      · rename_i d s3 q3
        obtain ⟨F3, e3, sr3, hd⟩ := sr2'.frz rv1 e2 q3
        split at w2
        · rename_i k xs q4
          split at w2
          · rename_i m q5
            have g4 := ownL_eq q4
            obtain ⟨p', hp', o3, _⟩ := sr3.ow i k _ g4
            rw [hp] at hp'; cases hp'
            obtain ⟨vs3, hv3, hr3, hz3⟩ := o3.at_
            refine ⟨p, vs3, j, m, rfl, rfl, hv3, by rw [hr3.length]; exact q5, ?_⟩
            exact w2 F3 σ _ ((e1.trans e2).trans e3) (sr3.write g4 hp (RpAll.set hd m hr3) (by rw [List.length_set]; exact hz3))
          · exact w2.elim
        · exact w2.elim
      · exact w2.elim
    · exact w2.elim⟩

/-! ### x op= e, x[i] op= e, of ints -/
def sAug (i : Nat) (f : Int → Int → Int) (fe : XE) : XS := fun s => match getS s i with
  | some (.val (.int a)) => (fe s).bind fun (r, s1) => match getR s1 r with
    | some (.int b) => .ok (.nx (s1.set i (some (.val (.int (f a b))))))
    | _ => .bad
  | _ => .bad
def sAugS (i : Nat) (f : Int → Int → Int) (fi fe : XE) : XS := fun s => match ownL s i with
  | none => .bad
  | some _ => (fi s).bind fun (q, s1) => match getR s1 q, ownL s1 i with
    | some (.int j), some (_, xs) => (match atI xs j with
      | some (.int a) => (fe s1).bind fun (r, s2) => (match getR s2 r, ownL s2 i with
        | some (.int b), some (k, ys) => (match ixN ys.length j with
          | some m => .ok (.nx (s2.set i (some (.own k (.list (ys.set m (.int (f a b))))))))
          | none => .bad)
        | _, _ => .bad)
      | _ => .bad)
    | _, _ => .bad
end
end DL

namespace DL
open Evl (Ex)
open PySem PySem.Spec PyProof.Rows L2 PySem.W

/-! ### t[::-1] of a tuple -/
section
variable {prog : Program} {w : World} {A : Around} {E : Value → Shared → Prop} {s : Shared}
end

section
variable {K : PySem.W.Frag} {E : WX} {X : Cx} {G : En} {F F' : Hp} {T T' : List (Addr × D)} {s s' : S} {σ σ' : L2.St} {H H' : Hp} {v : V} {d : D} {ds : List D} {i : Nat} {r : R} {Q : VK}
def hStep : D → D → Option RD
  | .list ds, .int c => if c = -1 then some (.lst ds.reverse) else if c = 1 then some (.lst ds) else none
  | .tuple ds, .int c => if c = -1 then some (.tup ds.reverse) else none
  | _, _ => none
/-! ### and, or, not as values -/
def xAnd (fa fb : XE) : XE := fun s => (truth (fa s)).bind fun (b, s1) => if b then fb s1 else .ok (.val (.bool false), s1)
def xOr (fa fb : XE) : XE := fun s => (truth (fa s)).bind fun (b, s1) => if b then .ok (.val (.bool true), s1) else fb s1
def xNot (fa : XE) : XE := fun s => (truth (fa s)).bind fun (b, s1) => .ok (.val (.bool (!b)), s1)
theorem snd_truth {ta : TE} {fa : XE} {k : Bool → Hp → Prop} (ha : Snd K E ta fa) (sr : SR K G F T s σ H) (w : Want K G E F (truth (fa s)) (TP K G F T σ k)) : ta σ H fun x H1 => ∃ c, x = .bl c ∧ k c H1 := by
  unfold truth at w
  refine ha G F T s σ H _ sr (Want.mono (Want.bind w) (Evl.Ex.refl F) fun ⟨ra, s1⟩ w1 F1 T1 H1 v1 e1 sr1 rv1 => ?_)
  dsimp only at w1 sr1 rv1
  split at w1
  · rename_i b q
    obtain ⟨pre, rfl⟩ := rv1.sub
    have vw := sr1.view rv1 (Evl.Ex.refl _) (fun _ q => q) q
    cases vw
    exact ⟨b, rfl, w1 F1 H1 e1 sr1.dropApp⟩
  · exact w1.elim
section
variable {a b : Expr} {rest : List Expr} {ta tb : TE} {fa fb : XE} {pos : Pos}
theorem de_one {op} (h : DE X E a ta fa) : DE X E (.BoolOp op [a] pos) ta fa := ⟨pe_one h.pe, h.sd⟩
theorem de_and (ha : DE X E a ta fa) (hb : DE X E (.BoolOp .And (b :: rest) pos) tb fb) : DE X E (.BoolOp .And (a :: b :: rest) pos) (tAndV ta tb) (xAnd fa fb) := ⟨pe_and ha.pe hb.pe, fun G F T s σ H Q sr w => by
  refine snd_truth (k := fun c H1 => if c = true then tb σ H1 Q else Q (.bl false) H1) ha.sd sr (Want.mono (Want.bind w) (Evl.Ex.refl F) fun ⟨c, s1⟩ w1 F1 H1 e1 sr1 => ?_)
  dsimp only at w1 sr1
  cases c with
  | true => exact hb.sd G F1 T s1 σ H1 Q sr1 (Want.mono w1 e1 fun x wx F2 T2 H2 v2 e2 => wx F2 T2 H2 v2 (e1.trans e2))
  | false => exact w1 F1 T H1 _ e1 sr1 ⟨.bl false, rfl⟩⟩
theorem de_not (ha : DE X E a ta fa) : DE X E (.UnaryOp .Not a pos) (tNotV ta) (xNot fa) := ⟨pe_not ha.pe, fun G F T s σ H Q sr w => by
  refine snd_truth (k := fun c H1 => Q (.bl (!c)) H1) ha.sd sr (Want.mono (Want.bind w) (Evl.Ex.refl F) fun ⟨c, s1⟩ w1 F1 H1 e1 sr1 => ?_)
  exact w1 F1 T H1 _ e1 sr1 ⟨.bl _, rfl⟩⟩
end
end
end DL

namespace DL
open Evl (Ex)
open PySem PySem.Spec PyProof.Rows L2 PySem.W

/-! ### what a def does -/
inductive Rt where
  | val (d : D)
  | new (d : D)
/-- what a def comes to; io: what the lists that it may change hold then -/
inductive FOut where
  | ret (r : Rt) (io : List D)
  | err (c : Str) (d : D) (io : List D)
  | bad
/-- the values of the arguments; true: a list that the def may change -/
inductive AR (K : PySem.W.Frag) (F H : Hp) : List Bool → List V → List D → Prop where
  | nil : AR K F H [] [] []
  | val {m v d vs ds} : Rp K F v d → AR K F H m vs ds → AR K F H (false :: m) (v :: vs) (d :: ds)
  | io {m p d vs ds} : OwnAt K F H p d → F p = none → AR K F H m vs ds → AR K F H (true :: m) (.ref p :: vs) (d :: ds)
def ioA : List Bool → List V → List Addr
  | false :: m, _ :: vs => ioA m vs
  | true :: m, .ref p :: vs => p :: ioA m vs
  | true :: m, _ :: vs => ioA m vs
  | _, _ => []
inductive IoR (K : PySem.W.Frag) (F H : Hp) : List Addr → List D → Prop where
  | nil : IoR K F H [] []
  | cons {p d ps ds} : OwnAt K F H p d → F p = none → IoR K F H ps ds → IoR K F H (p :: ps) (d :: ds)
structure Ext (K : PySem.W.Frag) (F H F' H' : Hp) (ioa : List Addr) (ios : List D) : Prop where
  ex : Ex F F'
  fh : Ex F' H'
  kp : ∀ a o, H a = some o → a ∉ ioa → H' a = some o
  gr : ∀ a o, F' a = some o → F a = some o ∨ H a = none
  io : IoR K F' H' ioa ios
def RR (K : PySem.W.Frag) (F' H H' : Hp) : Rt → V → Prop
  | .val d, v => Rp K F' v d
  | .new d, v => ∃ p, v = .ref p ∧ OwnAt K F' H' p d ∧ F' p = none ∧ H p = none
def Aft (K : PySem.W.Frag) (F H : Hp) (ioa : List Addr) (Q : VK) (E : XK) : FOut → Prop
  | .ret r ios => ∀ F' H' v, Ext K F H F' H' ioa ios → RR K F' H H' r v → Q v H'
  | .err c d ios => ∀ F' H' v x, Ext K F H F' H' ioa ios → H' x = some (.xd [("value", v)]) → Rp K F' v d → H x = none → E (.ref (He.ga K c)) (some x) H'
  | .bad => False
/-- the promise of a def -/
def spD (K : PySem.W.Frag) (m : List Bool) (fn : List D → FOut) : Sp := fun vs H Q E => ∃ F ds, Ex F H ∧ AR K F H m vs ds ∧ (ioA m vs).Nodup ∧ Aft K F H (ioA m vs) Q E (fn ds)
def initS : List Bool → Nat → List D → S
  | false :: m, j, d :: ds => some (.val d) :: initS m j ds
  | true :: m, j, d :: ds => some (.own (some j) d) :: initS m (j + 1) ds
  | _, _, _ => []
/-- what the changed lists hold -/
def ioOut : List Bool → Nat → Nat → S → Option (List D)
  | [], _, _, _ => some []
  | false :: m, i, j, s => ioOut m (i + 1) j s
  | true :: m, i, j, s => match getS s i with
    | some (.own (some k) d) => if k = j then (ioOut m (i + 1) (j + 1) s).map (d :: ·) else none
    | _ => none
def endF (m : List Bool) : Out Fl → FOut
  | .bad => .bad
  | .err c d s => match ioOut m 0 0 s with
    | some ios => .err c d ios
    | none => .bad
  | .ok (.nx s) => match ioOut m 0 0 s with
    | some ios => .ret (.val .none) ios
    | none => .bad
  | .ok (.rt (.val d) s) => match ioOut m 0 0 s with
    | some ios => .ret (.val d) ios
    | none => .bad
  | .ok (.rt (.new d) s) => match ioOut m 0 0 s with
    | some ios => .ret (.new d) ios
    | none => .bad
  | .ok _ => .bad
/-- a body as a function -/
def runF (m : List Bool) (n : Nat) (fb : XS) : List D → FOut := fun ds => endF m (fb (initS m 0 ds ++ List.replicate (n - ds.length) none))

section
variable {K : PySem.W.Frag} {E : WX} {X : Cx} {G : En} {F F' : Hp} {T T' : List (Addr × D)} {s s' : S} {σ σ' : L2.St} {H H' : Hp} {v : V} {d : D} {ds : List D} {i : Nat} {r : R} {Q : VK} {m : List Bool} {vs : List V}
theorem AR.len (h : AR K F H m vs ds) : vs.length = m.length ∧ ds.length = m.length := by
  induction h with
  | nil => exact ⟨rfl, rfl⟩
  | val _ _ ih => exact ⟨by simp [ih.1], by simp [ih.2]⟩
  | io _ _ _ ih => exact ⟨by simp [ih.1], by simp [ih.2]⟩
theorem getS_succ {o : Option Sl} {r : S} {i : Nat} : getS (o :: r) (i + 1) = getS r i := by
  unfold getS
  rw [List.getElem?_cons_succ]
theorem getS_rep {n i : Nat} : getS (List.replicate n none) i = none := by
  unfold getS
  by_cases h : i < n
  · rw [List.getElem?_replicate, if_pos h]
  · rw [List.getElem?_replicate, if_neg h]
theorem init_get {n j : Nat} (h : AR K F H m vs ds) : ∀ {j i : Nat} {y : Sl}, getS (initS m j ds ++ List.replicate n none) i = some y → ∃ v d, vs[i]? = some v ∧ ds[i]? = some d ∧
    ((y = .val d ∧ Rp K F v d) ∨ ∃ p l, y = .own (some (j + l)) d ∧ v = .ref p ∧ (ioA m vs)[l]? = some p ∧ OwnAt K F H p d ∧ F p = none) := by
  induction h with
  | nil =>
    intro j i y e
    exact absurd e (by rw [show initS [] j [] ++ List.replicate n none = List.replicate n none from rfl, getS_rep]; simp)
  | val hr _ ih =>
    intro j i y e
    cases i with
    | zero =>
      cases e
      exact ⟨_, _, rfl, rfl, .inl ⟨rfl, hr⟩⟩
    | succ i =>
      obtain ⟨v, d, h1, h2, h3⟩ := ih (j := j) (i := i) (by rw [← getS_succ]; exact e)
      exact ⟨v, d, h1, h2, h3⟩
  | io ho hf _ ih =>
    intro j i y e
    cases i with
    | zero =>
      cases e
      exact ⟨_, _, rfl, rfl, .inr ⟨_, 0, rfl, rfl, rfl, ho, hf⟩⟩
    | succ i =>
      obtain ⟨v, d, h1, h2, h3⟩ := ih (j := j + 1) (i := i) (by rw [← getS_succ]; exact e)
      refine ⟨v, d, h1, h2, ?_⟩
      rcases h3 with h3 | ⟨p, l, a, b, c, e⟩
      · exact .inl h3
      · refine .inr ⟨p, l + 1, ?_, b, c, e⟩
        rw [a]
        congr 2
        omega
theorem init_ge {n : Nat} : ∀ {m : List Bool} {ds : List D} {j i k : Nat} {d : D}, getS (initS m j ds ++ List.replicate n none) i = some (.own (some k) d) → j ≤ k
  | [], ds, j, i, k, d, e => absurd e (by rw [show initS [] j ds ++ List.replicate n none = List.replicate n none from by cases ds <;> rfl, getS_rep]; simp)
  | b :: m, [], j, i, k, d, e => absurd e (by rw [show initS (b :: m) j [] ++ List.replicate n none = List.replicate n none from by cases b <;> rfl, getS_rep]; simp)
  | false :: m, d0 :: ds, j, 0, k, d, e => by cases e
  | false :: m, d0 :: ds, j, i + 1, k, d, e => init_ge (m := m) (ds := ds) (i := i) (by rw [← getS_succ]; exact e)
  | true :: m, d0 :: ds, j, 0, k, d, e => by cases e; exact Nat.le_refl _
  | true :: m, d0 :: ds, j, i + 1, k, d, e => Nat.le_of_succ_le (init_ge (m := m) (ds := ds) (j := j + 1) (i := i) (by rw [← getS_succ]; exact e))
theorem init_inj {n : Nat} : ∀ {m : List Bool} {ds : List D} {j a b k : Nat} {d e : D}, getS (initS m j ds ++ List.replicate n none) a = some (.own (some k) d) → getS (initS m j ds ++ List.replicate n none) b = some (.own (some k) e) → a = b
  | [], ds, j, a, b, k, d, e, h, _ => absurd h (by rw [show initS [] j ds ++ List.replicate n none = List.replicate n none from by cases ds <;> rfl, getS_rep]; simp)
  | c :: m, [], j, a, b, k, d, e, h, _ => absurd h (by rw [show initS (c :: m) j [] ++ List.replicate n none = List.replicate n none from by cases c <;> rfl, getS_rep]; simp)
  | false :: m, d0 :: ds, j, 0, b, k, d, e, h, _ => by cases h
  | false :: m, d0 :: ds, j, a + 1, 0, k, d, e, h, h2 => by cases h2
  | false :: m, d0 :: ds, j, a + 1, b + 1, k, d, e, h, h2 => congrArg Nat.succ (init_inj (m := m) (ds := ds) (a := a) (b := b) (by rw [← getS_succ]; exact h) (by rw [← getS_succ]; exact h2))
  | true :: m, d0 :: ds, j, 0, 0, k, d, e, _, _ => rfl
  | true :: m, d0 :: ds, j, 0, b + 1, k, d, e, h, h2 => by
    cases h
    have := init_ge (m := m) (ds := ds) (j := j + 1) (i := b) (by rw [← getS_succ]; exact h2)
    omega
  | true :: m, d0 :: ds, j, a + 1, 0, k, d, e, h, h2 => by
    cases h2
    have := init_ge (m := m) (ds := ds) (j := j + 1) (i := a) (by rw [← getS_succ]; exact h)
    omega
  | true :: m, d0 :: ds, j, a + 1, b + 1, k, d, e, h, h2 => congrArg Nat.succ (init_inj (m := m) (ds := ds) (j := j + 1) (a := a) (b := b) (by rw [← getS_succ]; exact h) (by rw [← getS_succ]; exact h2))
theorem ioA_mem (h : AR K F H m vs ds) : ∀ a ∈ ioA m vs, H a ≠ none := by
  induction h with
  | nil => intro a ha; cases ha
  | val _ _ ih => exact ih
  | io ho hf _ ih =>
    intro a ha
    rcases List.mem_cons.mp ha with rfl | ha
    · obtain ⟨vs, hv⟩ := ho.there
      rw [hv]; simp
    · exact ih a ha
theorem initS_len (h : AR K F H m vs ds) (j : Nat) : (initS m j ds).length = ds.length := by
  induction h generalizing j with
  | nil => rfl
  | val _ _ ih => show (initS _ j _).length + 1 = _; rw [ih]; rfl
  | io _ _ _ ih => show (initS _ (j + 1) _).length + 1 = _; rw [ih]; rfl
/-- at the entry of a def -/
theorem SR.entry {N : List Str} (hx : Ex F H) (h : AR K F H m vs ds) (nd : (ioA m vs).Nodup) (hN : vs.length ≤ N.length) : SR K ⟨H, F, ioA m vs⟩ F [] (initS m 0 ds ++ List.replicate (N.length - ds.length) none) (start N vs) H := by
  have hl := h.len
  have st : ∀ {i : Nat} {v : V}, vs[i]? = some v → (start N vs)[i]? = some (some v) := fun {i v} e => by
    unfold L2.start
    obtain ⟨hi, he⟩ := List.getElem?_eq_some_iff.mp e
    rw [List.getElem?_append_left (by rw [List.length_map]; exact hi), List.getElem?_map, e]
    rfl
  refine ⟨hx, Evl.Ex.refl F, fun a o q => .inl q, fun a o q _ => q, ioA_mem h, fun i d q => ?_, fun i k d q => ?_, fun i j k l d e p q1 q2 r1 r2 => ?_, .nil, (fun p hp => nomatch hp), ?_⟩
  · obtain ⟨v, d', h1, h2, h3⟩ := init_get (j := 0) h q
    rcases h3 with ⟨h3, h4⟩ | ⟨p, l, a, _⟩
    · cases h3
      exact ⟨v, st h1, h4⟩
    · cases a
  · obtain ⟨v, d', h1, h2, h3⟩ := init_get (j := 0) h q
    rcases h3 with ⟨h3, _⟩ | ⟨p, l, a, b, c, e, f⟩
    · cases h3
    · cases a
      subst b
      exact ⟨p, st h1, ⟨e, f, by simpa using c⟩, fun q hq => by cases hq⟩
  · obtain ⟨v, d', h1, h2, h3⟩ := init_get (j := 0) h q1
    obtain ⟨v', d'', h1', h2', h3'⟩ := init_get (j := 0) h q2
    rcases h3 with ⟨h3, _⟩ | ⟨p1, l1, a1, b1, c1, e1, f1⟩
    · cases h3
    rcases h3' with ⟨h3', _⟩ | ⟨p2, l2, a2, b2, c2, e2, f2⟩
    · cases h3'
    cases a1
    cases a2
    subst b1 b2
    rw [st h1] at r1; cases r1
    rw [st h1'] at r2; cases r2
    have hl1 : l1 < (ioA m vs).length := (List.getElem?_eq_some_iff.mp c1).1
    have ell : l1 = l2 := (List.getElem?_inj hl1 nd).mp (c1.trans c2.symm)
    subst ell
    exact init_inj q1 q2
  · rw [List.length_append, initS_len h, List.length_replicate]
    unfold L2.start
    rw [List.length_append, List.length_map, List.length_replicate, hl.1, hl.2]
/-- the changed lists at the end -/
theorem ioOut_ok {ioa : List Addr} (hG : G.io = ioa) (sr : SR K G F T s σ H) : ∀ {m : List Bool} {i j : Nat} {ios : List D}, ioOut m i j s = some ios → (m.filter id).length + j = ioa.length → IoR K F H (ioa.drop j) ios
  | [], i, j, ios, e, hl => by
    cases e
    have : j = ioa.length := by simpa using hl
    rw [this, List.drop_length]
    exact .nil
  | false :: m, i, j, ios, e, hl => ioOut_ok hG sr (m := m) (i := i + 1) (j := j) e (by simpa using hl)
  | true :: m, i, j, ios, e, hl => by
    have e' : (match getS s i with
      | some (.own (some k) d) => if k = j then (ioOut m (i + 1) (j + 1) s).map (d :: ·) else none
      | _ => none) = some ios := e
    split at e'
    · rename_i k d q
      split at e'
      · rename_i hk
        subst hk
        obtain ⟨ios', h1, rfl⟩ := Option.map_eq_some_iff.mp e'
        have ih := ioOut_ok hG sr (m := m) (i := i + 1) (j := k + 1) h1 (by simp at hl ⊢; omega)
        obtain ⟨p, hp, o, _⟩ := sr.ow i _ d q
        have hp2 : ioa[k]? = some p := by rw [← hG]; exact o.ne
        obtain ⟨hk, ek⟩ := List.getElem?_eq_some_iff.mp hp2
        rw [List.drop_eq_getElem_cons hk, ek]
        exact .cons o.at_ o.nf ih
      · cases e'
    · cases e'
theorem ioA_len (h : AR K F H m vs ds) : (m.filter id).length = (ioA m vs).length := by
  induction h with
  | nil => rfl
  | val _ _ ih => exact ih
  | io _ _ _ ih => exact congrArg Nat.succ ih
/-- a def's body: the reading comes to the promise -/
theorem body_ok {N : List Str} {t : TS} {fb : XS} {E : XK} (hb : SndS K (fun c d _ H => E c d H) t fb) (hN : m.length ≤ N.length) (h : spD K m (runF m N.length fb) vs H Q E) : t { nx := fun _ H' => Q .non H', rt := Q } (start N vs) H := by
  obtain ⟨F, ds, hx, ha, nd, w⟩ := h
  have hl := ha.len
  have sr := SR.entry (N := N) hx ha nd (by rw [hl.1]; exact hN)
  refine hb ⟨H, F, ioA m vs⟩ F _ (start N vs) H _ sr ?_
  unfold runF at w
  have ext : ∀ {F' H' : Hp} {T' : List (Addr × D)} {s' : S} {σ' : L2.St} {ios : List D}, Ex F F' → SR K ⟨H, F, ioA m vs⟩ F' T' s' σ' H' → ioOut m 0 0 s' = some ios → Ext K F H F' H' (ioA m vs) ios := fun {F' H' T' s' σ' ios} e sr' q =>
    ⟨e, sr'.fh, sr'.kp, sr'.gr, by
      have := ioOut_ok (ioa := ioA m vs) rfl sr' q (by rw [ioA_len ha]; rfl)
      simpa using this⟩
  cases q : fb (initS m 0 ds ++ List.replicate (N.length - ds.length) none) with
  | bad => rw [q] at w; exact w
  | err c d s' =>
    rw [q] at w
    intro x F' T' σ' H' v e sr' hx' hv hn
    have w' : Aft K F H (ioA m vs) Q E (match ioOut m 0 0 s' with
      | some ios => .err c d ios
      | none => .bad) := w
    split at w'
    · rename_i ios q2
      exact w' F' H' v x (ext e sr' q2) hx' hv hn
    · exact w'.elim
  | ok fl =>
    rw [q] at w
    cases fl with
    | nx s' =>
      intro F' σ' H' e sr'
      have w' : Aft K F H (ioA m vs) Q E (match ioOut m 0 0 s' with
        | some ios => .ret (.val .none) ios
        | none => .bad) := w
      split at w'
      · rename_i ios q2
        exact w' F' H' .non (ext e sr' q2) .non
      · exact w'.elim
    | bk s' => exact w.elim
    | ct s' => exact w.elim
    | rt r s' =>
      intro F' T' σ' H' v e sr' rv
      cases r with
      | slot i => exact w.elim
      | val d =>
        have w' : Aft K F H (ioA m vs) Q E (match ioOut m 0 0 s' with
          | some ios => .ret (.val d) ios
          | none => .bad) := w
        split at w'
        · rename_i ios q2
          exact w' F' H' v (ext e sr' q2) rv.1
        · exact w'.elim
      | new d =>
        have w' : Aft K F H (ioA m vs) Q E (match ioOut m 0 0 s' with
          | some ios => .ret (.new d) ios
          | none => .bad) := w
        split at w'
        · rename_i ios q2
          obtain ⟨p, rfl, rfl⟩ := rv
          have o := sr'.tt (p, d) List.mem_cons_self
          exact w' F' H' _ (ext e sr' q2) ⟨p, rfl, o.at_, o.nf, o.ne⟩
        · exact w'.elim
end
end DL

namespace DL
open Evl (Ex)
open PySem PySem.Spec PyProof.Rows L2 PySem.W

/-! ### the arguments of a call -/
def argD (s : S) : Bool → R → Option D
  | false, .val d => some d
  | false, .new (.list ds) => some (.list ds)
  | false, .slot i => match getS s i with
    | some (.own _ (.list ds)) => some (.list ds)
    | some (.val d) => some d
    | _ => none
  | true, .slot i => match getS s i with
    | some (.own _ (.list ds)) => some (.list ds)
    | some (.own _ (.tuple ds)) => some (.tuple ds)
    | _ => none
  | _, _ => none
def argsD (s : S) : List Bool → List R → Option (List D)
  | [], [] => some []
  | b :: m, r :: rs => match argD s b r, argsD s m rs with
    | some d, some ds => some (d :: ds)
    | _, _ => none
  | _, _ => none
def ioIx : List Bool → List R → List Nat
  | true :: m, .slot i :: rs => i :: ioIx m rs
  | _ :: m, _ :: rs => ioIx m rs
  | _, _ => []
def isOwn (s : S) (i : Nat) : Bool := match getS s i with
  | some (.own _ _) => true
  | _ => false
def boIx (s : S) : List Bool → List R → List Nat
  | false :: m, .slot i :: rs => if isOwn s i then i :: boIx s m rs else boIx s m rs
  | _ :: m, _ :: rs => boIx s m rs
  | _, _ => []
def nodupB : List Nat → Bool
  | [] => true
  | i :: is => !is.contains i && nodupB is
theorem nodupB_ok : ∀ {is : List Nat}, nodupB is = true → is.Nodup
  | [], _ => .nil
  | i :: is, h => by
    unfold nodupB at h
    obtain ⟨h1, h2⟩ := Bool.and_eq_true_iff.mp h
    exact List.nodup_cons.mpr ⟨by simpa using h1, nodupB_ok h2⟩
def disB (a b : List Nat) : Bool := a.all fun i => !b.contains i
theorem disB_ok {a b : List Nat} (h : disB a b = true) {i : Nat} (ha : i ∈ a) (hb : i ∈ b) : False := by
  have := List.all_eq_true.mp h i ha
  simp [hb] at this
def putIo (s : S) : List Nat → List D → Option S
  | [], [] => some s
  | i :: is, d :: ds => match getS s i with
    | some (.own k _) => putIo (s.set i (some (.own k d))) is ds
    | _ => none
  | _, _ => none
def frzIx (s : S) : List Nat → Option S
  | [] => some s
  | i :: is => match getS s i with
    | some (.own none (.list ds)) => frzIx (s.set i (some (.val (.list ds)))) is
    | some (.val _) => frzIx s is
    | _ => none
mutual
/-- no list in it -/
def nl : D → Bool
  | .tuple ds => nls ds
  | .list _ => false
  | .dict _ => false
  | _ => true
def nls : List D → Bool
  | [] => true
  | d :: ds => nl d && nls ds
end
def nlI : D → Bool
  | .list ds => nls ds
  | _ => false
def nlR : Rt → Bool
  | .val d => nl d
  | .new d => nlI d
def Rt.r : Rt → R
  | .val d => .val d
  | .new d => .new d
def postS (s1 : S) (io bo : List Nat) (ios : List D) (cl : Bool) : Option S := match putIo s1 io ios with
  | none => none
  | some s2 => if cl then some s2 else frzIx s2 bo
def xPost (s1 : S) (io bo : List Nat) : FOut → Out (R × S)
  | .bad => .bad
  | .ret r ios => match postS s1 io bo ios (nlR r && ios.all nlI) with
    | some s2 => .ok (r.r, s2)
    | none => .bad
  | .err c d ios => match postS s1 io bo ios (nl d && ios.all nlI) with
    | some s2 => .err c d s2
    | none => .bad
/-- f(..) -/
def xCall (m : List Bool) (fn : List D → FOut) (fa : XA) : XE := fun s => (fa s).bind fun (rs, s1) => match argsD s1 m rs with
  | none => .bad
  | some ds => if nodupB (ioIx m rs) && disB (ioIx m rs) (boIx s1 m rs) then xPost s1 (ioIx m rs) (boIx s1 m rs) (fn ds) else .bad

/-- arguments, the own ones by what F tells of them -/
inductive ARx (K : PySem.W.Frag) (F Fc H : Hp) : List Bool → List V → List D → Prop where
  | nil : ARx K F Fc H [] [] []
  | val {m v d vs ds} : Rp K Fc v d → ARx K F Fc H m vs ds → ARx K F Fc H (false :: m) (v :: vs) (d :: ds)
  | io {m p d vs ds} : OwnAt K F H p d → F p = none → ARx K F Fc H m vs ds → ARx K F Fc H (true :: m) (.ref p :: vs) (d :: ds)
inductive IoIs (s : S) (σ : L2.St) : List Nat → List Addr → Prop where
  | nil : IoIs s σ [] []
  | cons {i k d p is ps} : getS s i = some (.own k d) → σ[i]? = some (some (.ref p)) → IoIs s σ is ps → IoIs s σ (i :: is) (p :: ps)
section
variable {K : PySem.W.Frag} {E : WX} {X : Cx} {G : En} {F Fc F' F1 Fs : Hp} {T T' T1 : List (Addr × D)} {s s' s1 s2 s3 : S} {σ σ' : L2.St} {H H' H1 : Hp} {v : V} {d : D} {ds ios : List D} {i : Nat} {r : R} {Q : VK} {m : List Bool} {vs : List V} {rs : List R} {p : Addr} {is bs : List Nat} {ioa : List Addr}
mutual
theorem Rp.minus {B : List Addr} (hB : ∀ b ∈ B, ∃ vs, F' b = some (.lst vs)) (hF : ∀ a o, a ∉ B → F' a = some o → Fs a = some o) : ∀ {v : V} {d : D}, Rp K F' v d → nl d = true → Rp K Fs v d
  | _, _, .non, _ => .non
  | _, _, .bl b, _ => .bl b
  | _, _, .int i, _ => .int i
  | _, _, .str x, _ => .str x
  | _, _, .lst h a z, e => by simp [nl] at e
  | _, _, .tup (a := a) (xs := xs) h r z, e => by
    refine .tup ?_ (RpAll.minus hB hF r (by simpa [nl] using e)) z
    rcases h with h | h
    · refine .inl ?_
      have na : ∀ o, F' a = some o → (∀ vs, o ≠ .lst vs) → a ∉ B := fun o ho hn hb => by
        obtain ⟨vs, hv⟩ := hB a hb
        rw [ho] at hv
        exact hn vs (Option.some.inj hv)
      obtain ⟨o, d0, h⟩ := h
      exact ⟨o, d0, hF a _ (na _ h fun vs z => by cases z) h⟩
    · exact .inr h
  | _, _, .scr h, e => by simp [scrD, nl] at e
theorem RpAll.minus {B : List Addr} (hB : ∀ b ∈ B, ∃ vs, F' b = some (.lst vs)) (hF : ∀ a o, a ∉ B → F' a = some o → Fs a = some o) : ∀ {vs : List V} {ds : List D}, RpAll K F' vs ds → nls ds = true → RpAll K Fs vs ds
  | _, _, .nil, _ => .nil
  | _, _, .cons h t, e => by
    simp only [nls, Bool.and_eq_true] at e
    exact .cons (Rp.minus hB hF h e.1) (RpAll.minus hB hF t e.2)
end
theorem OwnAt.minus {B : List Addr} (hB : ∀ b ∈ B, ∃ vs, F' b = some (.lst vs)) (hF : ∀ a o, a ∉ B → F' a = some o → Fs a = some o) (h : OwnAt K F' H p d) (e : nlI d = true) : OwnAt K Fs H p d := by
  cases d <;> first | exact h.elim | skip
  · obtain ⟨vs, h1, h2, h3⟩ := h
    exact ⟨vs, h1, RpAll.minus hB hF h2 e, h3⟩
  · simp [nlI] at e
  · simp [nlI] at e
/-- lent: what the callee sees as given -/
structure Lent (K : PySem.W.Frag) (F H : Hp) (Fc : Hp) (B : List Addr) : Prop where
  ex : Ex F Fc
  fh : Ex Fc H
  out : ∀ a o, Fc a = some o → F a = some o ∨ a ∈ B
  at_ : ∀ b ∈ B, F b = none ∧ ∃ vs, Fc b = some (.lst vs)
theorem Lent.refl (h : Ex F H) : Lent K F H F [] := ⟨Evl.Ex.refl F, h, fun a o e => .inl e, fun b hb => nomatch hb⟩
theorem Lent.add {B : List Addr} {ds : List D} (h : Lent K F H Fc B) (ho : OwnAt K F H p (.list ds)) (nf : F p = none) : ∃ Fc', Ex Fc Fc' ∧ Lent K F H Fc' (p :: B) ∧ Rp K Fc' (.ref p) (.list ds) := by
  obtain ⟨vs, hv, hr, hz⟩ := ho
  have e1 : Ex Fc (upd Fc p (.lst vs)) := fun a o q => by
    by_cases e : a = p
    · subst e
      rw [upd_same]
      have := h.fh a o q
      rw [hv] at this
      exact this
    · rw [upd_ne e]; exact q
  refine ⟨_, e1, ⟨h.ex.trans e1, fun a o q => ?_, fun a o q => ?_, fun b hb => ?_⟩, .lst upd_same (RpAll.mono (h.ex.trans e1) hr) hz⟩
  · by_cases e : a = p
    · subst e; rw [upd_same] at q; rw [← q]; exact hv
    · rw [upd_ne e] at q; exact h.fh a o q
  · by_cases e : a = p
    · exact .inr (by rw [e]; exact List.mem_cons_self)
    · rw [upd_ne e] at q
      rcases h.out a o q with z | z
      · exact .inl z
      · exact .inr (List.mem_cons_of_mem _ z)
  · rcases List.mem_cons.mp hb with rfl | hb
    · exact ⟨nf, vs, upd_same⟩
    · obtain ⟨a, ws, b⟩ := h.at_ _ hb
      exact ⟨a, ws, e1 _ _ b⟩
theorem ARx.mono {Fc' : Hp} (e : Ex Fc Fc') (h : ARx K F Fc H m vs ds) : ARx K F Fc' H m vs ds := by
  induction h with
  | nil => exact .nil
  | val a _ ih => exact .val (Rp.mono e a) ih
  | io a b _ ih => exact .io a b ih
theorem ARx.ar {B : List Addr} (l : Lent K F H Fc B) (h : ARx K F Fc H m vs ds) (hd : ∀ a ∈ ioA m vs, a ∉ B) : AR K Fc H m vs ds := by
  induction h with
  | nil => exact .nil
  | val a _ ih => exact .val a (ih hd)
  | io a b _ ih =>
    rename_i m p d vs ds _
    have hp := hd p List.mem_cons_self
    refine .io (a.mono l.ex) ?_ (ih fun q hq => hd q (List.mem_cons_of_mem _ hq))
    cases e : Fc p with
    | none => rfl
    | some o =>
      rcases l.out p o e with z | z
      · rw [b] at z; cases z
      · exact absurd z hp
/-- whose a lent list is -/
def Whose (s : S) (σ : L2.St) (bs : List Nat) (T T1 : List (Addr × D)) (b : Addr) : Prop := (∃ i k d, i ∈ bs ∧ getS s i = some (.own k d) ∧ σ[i]? = some (some (.ref b))) ∨ ((∃ d, (b, d) ∈ T1) ∧ ∀ q ∈ T, q.1 ≠ b)
theorem args_ok {F0 : Hp} (sr : SR K G F T1 s σ H) (ex : Ex F0 F) : ∀ {T : List (Addr × D)} {rs : List R} {vs : List V} {m : List Bool} {ds : List D}, RVs K F0 σ T rs vs T1 → argsD s m rs = some ds →
    ∃ Fc B, Lent K F H Fc B ∧ ARx K F Fc H m vs ds ∧ (∀ b ∈ B, Whose s σ (boIx s m rs) T T1 b) ∧ IoIs s σ (ioIx m rs) (ioA m vs) ∧ ∀ i ∈ boIx s m rs, ∀ k d, getS s i = some (.own k d) → ∃ p, σ[i]? = some (some (.ref p)) ∧ Rp K Fc (.ref p) d := by
  intro T rs vs m ds rv
  induction rv generalizing m ds with
  | nil =>
    intro e
    cases m with
    | nil => cases e; exact ⟨F, [], .refl sr.fh, .nil, (fun b hb => nomatch hb), .nil, fun i hi => nomatch hi⟩
    | cons b m => cases e
  | cons a b ih =>
    rename_i T2 T3 T4 r rs v vs
    intro e
    cases m with
    | nil => cases e
    | cons mb m =>
      have e' : (match argD s mb r, argsD s m rs with
        | some d, some ds => some (d :: ds)
        | _, _ => none) = some ds := e
      split at e'
      · rename_i d ds' q1 q2
        cases e'
        obtain ⟨Fc, B, l, ar, wh, io, bw⟩ := ih sr q2
        have bwm : ∀ {Fc'}, Ex Fc Fc' → ∀ i ∈ boIx s m rs, ∀ k d, getS s i = some (.own k d) → ∃ p, σ[i]? = some (some (.ref p)) ∧ Rp K Fc' (.ref p) d := fun {Fc'} e i hi k d g => by
          obtain ⟨p, h1, h2⟩ := bw i hi k d g
          exact ⟨p, h1, Rp.mono e h2⟩
        obtain ⟨pre2, hpre2⟩ := b.sub
        have sub34 : ∀ q ∈ T3, q ∈ T4 := fun q hq => by rw [hpre2]; exact List.mem_append_right _ hq
        have sub23 : ∀ q ∈ T2, q ∈ T3 := fun q hq => by
          obtain ⟨pre1, hp1⟩ := a.sub
          rw [hp1]; exact List.mem_append_right _ hq
        have whm : ∀ {bs}, (∀ i ∈ boIx s m rs, i ∈ bs) → ∀ b ∈ B, Whose s σ bs T2 T4 b := fun {bs} hs b hb => by
          rcases wh b hb with ⟨i, k, d, h1, h2, h3⟩ | ⟨h1, h2⟩
          · exact .inl ⟨i, k, d, hs i h1, h2, h3⟩
          · exact .inr ⟨h1, fun q hq => h2 q (sub23 q hq)⟩
        cases mb with
        | false =>
          cases r with
          | val d0 =>
            cases q1
            exact ⟨Fc, B, l, .val (Rp.mono (ex.trans l.ex) a.1) ar, whm fun i hi => hi, io, bw⟩
          | new d0 =>
            obtain ⟨ds0, rfl⟩ : ∃ ds0, d0 = .list ds0 := by
              cases d0 with
              | list ds0 => exact ⟨ds0, rfl⟩
              | _ => cases q1
            cases q1
            obtain ⟨p, rfl, rfl⟩ := a
            have o := sr.tt (p, .list ds0) (sub34 _ List.mem_cons_self)
            obtain ⟨Fc', e1, l', rp⟩ := l.add o.at_ o.nf
            refine ⟨Fc', _, l', .val rp (ar.mono e1), fun b hb => ?_, io, bwm e1⟩
            rcases List.mem_cons.mp hb with rfl | hb
            · refine .inr ⟨⟨_, sub34 _ List.mem_cons_self⟩, fun q hq => ?_⟩
              have tn := sr.tn
              rw [hpre2] at tn
              have := (List.pairwise_append.mp tn).2.1
              exact ((List.pairwise_cons.mp this).1 q hq).symm
            · exact whm (fun i hi => hi) b hb
          | slot i =>
            obtain ⟨hv, rfl⟩ := a
            have q1' : (match getS s i with
              | some (.own _ (.list ds)) => some (PyData.list ds)
              | some (.val d) => some d
              | _ => none) = some d := q1
            split at q1'
            · rename_i k ds0 g
              cases q1'
              obtain ⟨p, hp, o, _⟩ := sr.ow i k _ g
              rw [hv] at hp; cases hp
              obtain ⟨Fc', e1, l', rp⟩ := l.add o.at_ o.nf
              have hown : isOwn s i = true := by unfold isOwn; rw [g]
              have hbo : boIx s (false :: m) (.slot i :: rs) = i :: boIx s m rs := by
                show (if isOwn s i then i :: boIx s m rs else boIx s m rs) = _
                rw [if_pos hown]
              refine ⟨Fc', _, l', .val rp (ar.mono e1), fun b hb => ?_, io, ?_⟩
              · rw [hbo]
                rcases List.mem_cons.mp hb with rfl | hb
                · exact .inl ⟨i, k, _, List.mem_cons_self, g, hv⟩
                · exact whm (fun i hi => List.mem_cons_of_mem _ hi) b hb
              · rw [hbo]
                intro i2 hi2 k2 d2 g2
                rcases List.mem_cons.mp hi2 with rfl | hi2
                · rw [g] at g2; cases g2
                  exact ⟨p, hv, rp⟩
                · exact bwm e1 i2 hi2 k2 d2 g2
            · rename_i d0 g
              cases q1'
              obtain ⟨w, hw, hd⟩ := sr.sl i _ g
              rw [hv] at hw; cases hw
              have hown : isOwn s i = false := by unfold isOwn; rw [g]
              have hbo : boIx s (false :: m) (.slot i :: rs) = boIx s m rs := by
                show (if isOwn s i then i :: boIx s m rs else boIx s m rs) = _
                rw [hown]; rfl
              exact ⟨Fc, B, l, .val (Rp.mono l.ex hd) ar, by rw [hbo]; exact whm fun i hi => hi, io, by rw [hbo]; exact bw⟩
            · cases q1'
        | true =>
          cases r with
          | val d0 => cases q1
          | new d0 => cases q1
          | slot i =>
            obtain ⟨hv, rfl⟩ := a
            have q1' : (match getS s i with
              | some (.own _ (.list ds)) => some (PyData.list ds)
              | some (.own _ (.tuple ds)) => some (PyData.tuple ds)
              | _ => none) = some d := q1
            split at q1'
            · rename_i k ds0 g
              cases q1'
              obtain ⟨p, hp, o, _⟩ := sr.ow i k _ g
              rw [hv] at hp; cases hp
              exact ⟨Fc, B, l, .io o.at_ o.nf ar, whm fun i hi => hi, .cons g hv io, bw⟩
            · rename_i k ds0 g
              cases q1'
              obtain ⟨p, hp, o, _⟩ := sr.ow i k _ g
              rw [hv] at hp; cases hp
              exact ⟨Fc, B, l, .io o.at_ o.nf ar, whm fun i hi => hi, .cons g hv io, bw⟩
            · cases q1'
      · cases e'
theorem IoR.mem : ∀ {ps : List Addr} {ds : List D}, IoR K F H ps ds → ∀ a ∈ ps, F a = none ∧ ∃ o, H a = some o
  | _, _, .nil, a, h => nomatch h
  | _, _, .cons o n t, a, h => by
    rcases List.mem_cons.mp h with rfl | h
    · exact ⟨n, o.there⟩
    · exact t.mem a h
theorem IoR.get : ∀ {ps : List Addr} {ds : List D} {l : Nat} {p : Addr} {d : D}, IoR K F H ps ds → ps[l]? = some p → ds[l]? = some d → OwnAt K F H p d
  | _, _, 0, _, _, .cons o n t, h1, h2 => by cases h1; cases h2; exact o
  | _, _, l + 1, _, _, .cons o n t, h1, h2 => t.get (by simpa using h1) (by simpa using h2)
  | _, _, _, _, _, .nil, h1, _ => by simp at h1
theorem IoIs.get : ∀ {is : List Nat} {ps : List Addr} {p : Addr}, IoIs s σ is ps → p ∈ ps → ∃ i k d, i ∈ is ∧ getS s i = some (.own k d) ∧ σ[i]? = some (some (.ref p))
  | _, _, _, .nil, h => nomatch h
  | _, _, p, .cons a b t, h => by
    rcases List.mem_cons.mp h with rfl | h
    · exact ⟨_, _, _, List.mem_cons_self, a, b⟩
    · obtain ⟨i, k, d, h1, h2⟩ := t.get h
      exact ⟨i, k, d, List.mem_cons_of_mem _ h1, h2⟩
theorem IoIs.at_ : ∀ {is : List Nat} {ps : List Addr} {l i : Nat}, IoIs s σ is ps → is[l]? = some i → ∃ k d p, ps[l]? = some p ∧ getS s i = some (.own k d) ∧ σ[i]? = some (some (.ref p))
  | _, _, 0, i, .cons a b t, h => by cases h; exact ⟨_, _, _, rfl, a, b⟩
  | _, _, l + 1, i, .cons a b t, h => by
    obtain ⟨k, d, p, h1, h2⟩ := t.at_ (l := l) (by simpa using h)
    exact ⟨k, d, p, by simpa using h1, h2⟩
  | _, _, _, _, .nil, h => by simp at h
theorem IoIs.nodup (sr : SR K G F T s σ H) : ∀ {is : List Nat} {ps : List Addr}, IoIs s σ is ps → is.Nodup → ps.Nodup
  | _, _, .nil, _ => .nil
  | _, _, .cons (i := i) (p := p) a b t, n => by
    obtain ⟨n1, n2⟩ := List.nodup_cons.mp n
    refine List.nodup_cons.mpr ⟨fun hp => ?_, t.nodup sr n2⟩
    obtain ⟨j, k, d, h1, h2, h3⟩ := t.get hp
    exact n1 (by rw [sr.di i j _ _ _ _ p a h2 b h3]; exact h1)
theorem putIo_get : ∀ {is : List Nat} {ds : List D} {s s' : S} {i : Nat} {y : Sl}, putIo s is ds = some s' → is.Nodup → getS s' i = some y →
    (i ∉ is ∧ getS s i = some y) ∨ ∃ (l : Nat) (k : Option Nat) (d0 d : D), is[l]? = some i ∧ ds[l]? = some d ∧ getS s i = some (.own k d0) ∧ y = .own k d
  | [], [], s, s', i, y, e, _, h => by cases e; exact .inl ⟨by simp, h⟩
  | [], _ :: _, s, s', i, y, e, _, h => by cases e
  | _ :: _, [], s, s', i, y, e, _, h => by cases e
  | j :: is, d :: ds, s, s', i, y, e, n, h => by
    have e' : (match getS s j with
      | some (.own k _) => putIo (s.set j (some (.own k d))) is ds
      | _ => none) = some s' := e
    obtain ⟨n1, n2⟩ := List.nodup_cons.mp n
    split at e'
    · rename_i k d0 g
      rcases putIo_get e' n2 h with ⟨h1, h2⟩ | ⟨l, k', d1, d2, h1, h2, h3, h4⟩
      · rcases getS_set h2 with ⟨rfl, z⟩ | ⟨z1, z2⟩
        · cases z
          exact .inr ⟨0, k, d0, d, rfl, rfl, g, rfl⟩
        · exact .inl ⟨fun hm => by
            rcases List.mem_cons.mp hm with q | q
            · exact z1 q
            · exact h1 q, z2⟩
      · rcases getS_set h3 with ⟨rfl, z⟩ | ⟨z1, z2⟩
        · exact absurd (List.mem_of_getElem? h1) n1
        · exact .inr ⟨l + 1, k', d1, d2, by simpa using h1, by simpa using h2, z2, h4⟩
    · cases e'
theorem putIo_len : ∀ {is : List Nat} {ds : List D} {s s' : S}, putIo s is ds = some s' → s'.length = s.length
  | [], [], s, s', e => by cases e; rfl
  | [], _ :: _, s, s', e => by cases e
  | _ :: _, [], s, s', e => by cases e
  | j :: is, d :: ds, s, s', e => by
    have e' : (match getS s j with
      | some (.own k _) => putIo (s.set j (some (.own k d))) is ds
      | _ => none) = some s' := e
    split at e'
    · rw [putIo_len e', List.length_set]
    · cases e'
theorem frzIx_get : ∀ {bs : List Nat} {s s' : S} {i : Nat} {y : Sl}, frzIx s bs = some s' → getS s' i = some y →
    (getS s i = some y ∧ (i ∈ bs → ∃ d, y = .val d)) ∨ (i ∈ bs ∧ ∃ ds, getS s i = some (.own none (.list ds)) ∧ y = .val (.list ds))
  | [], s, s', i, y, e, h => by cases e; exact .inl ⟨h, fun z => nomatch z⟩
  | j :: bs, s, s', i, y, e, h => by
    have e' : (match getS s j with
      | some (.own none (.list ds)) => frzIx (s.set j (some (.val (.list ds)))) bs
      | some (.val _) => frzIx s bs
      | _ => none) = some s' := e
    split at e'
    · rename_i ds g
      rcases frzIx_get e' h with ⟨h1, h2⟩ | ⟨h1, ds', h2, h3⟩
      · rcases getS_set h1 with ⟨rfl, z⟩ | ⟨z1, z2⟩
        · cases z
          exact .inr ⟨List.mem_cons_self, ds, g, rfl⟩
        · refine .inl ⟨z2, fun hm => h2 ?_⟩
          rcases List.mem_cons.mp hm with q | q
          · exact absurd q z1
          · exact q
      · rcases getS_set h2 with ⟨rfl, z⟩ | ⟨z1, z2⟩
        · cases z
        · exact .inr ⟨List.mem_cons_of_mem _ h1, ds', z2, h3⟩
    · rename_i d g
      rcases frzIx_get e' h with ⟨h1, h2⟩ | ⟨h1, ds', h2, h3⟩
      · refine .inl ⟨h1, fun hm => ?_⟩
        rcases List.mem_cons.mp hm with q | q
        · subst q
          rw [g] at h1
          cases h1
          exact ⟨_, rfl⟩
        · exact h2 q
      · exact .inr ⟨List.mem_cons_of_mem _ h1, ds', h2, h3⟩
    · cases e'
theorem frzIx_len : ∀ {bs : List Nat} {s s' : S}, frzIx s bs = some s' → s'.length = s.length
  | [], s, s', e => by cases e; rfl
  | j :: bs, s, s', e => by
    have e' : (match getS s j with
      | some (.own none (.list ds)) => frzIx (s.set j (some (.val (.list ds)))) bs
      | some (.val _) => frzIx s bs
      | _ => none) = some s' := e
    split at e'
    · rw [frzIx_len e', List.length_set]
    · exact frzIx_len e'
    · cases e'
/-- what was lent and not handed on: its owner has it again, or all have it -/
theorem frzIx_own : ∀ {bs : List Nat} {s s' : S} {i : Nat} {k : Option Nat} {d : D}, frzIx s bs = some s' → i ∈ bs → getS s i = some (.own k d) → k = none
  | j :: bs, s, s', i, k, d, e, hm, g0 => by
    have e' : (match getS s j with
      | some (.own none (.list ds)) => frzIx (s.set j (some (.val (.list ds)))) bs
      | some (.val _) => frzIx s bs
      | _ => none) = some s' := e
    split at e'
    · rename_i ds g
      by_cases q : i = j
      · subst q; rw [g] at g0; cases g0; rfl
      · refine frzIx_own e' ((List.mem_cons.mp hm).resolve_left q) (d := d) ?_
        unfold getS
        rw [List.getElem?_set_ne (fun z => q z.symm)]
        exact g0
    · rename_i d' g
      by_cases q : i = j
      · subst q; rw [g] at g0; cases g0
      · exact frzIx_own e' ((List.mem_cons.mp hm).resolve_left q) g0
    · cases e'
/-- behind a call -/
theorem SR.post {B : List Addr} (sr : SR K G F T1 s σ H) (sub : ∃ pre, T1 = pre ++ T) (l : Lent K F H Fc B) (wh : ∀ b ∈ B, Whose s σ bs T T1 b) (io : IoIs s σ is ioa) (nd : is.Nodup) (x : Ext K Fc H F' H' ioa ios) (h1 : Ex F Fs) (h2 : Ex Fs F')
    (hB : ∀ b ∈ B, Fs b = none ∨ G.He b = none) (hp : putIo s is ios = some s2)
    (hs : ∀ i y, getS s' i = some y → getS s2 i = some y ∨ ∃ d, y = .val d) (hv : ∀ i d, getS s' i = some (.val d) → ∃ v, σ[i]? = some (some v) ∧ Rp K Fs v d)
    (ho : ∀ i k d p, getS s' i = some (.own k d) → σ[i]? = some (some (.ref p)) → p ∈ B → Fs p = none) (hi : ∀ (l : Nat) (p : Addr) (d : D), ioa[l]? = some p → ios[l]? = some d → OwnAt K Fs H' p d) (hT : ∀ q ∈ T, q.1 ∉ B) (len : s'.length = s.length) : SR K G Fs T s' σ H' := by
  obtain ⟨pre, rfl⟩ := sub
  have sr0 := sr.dropApp
  have ioG : ∀ a ∈ ioa, G.He a = none ∨ a ∈ G.io := fun a ha => by
    obtain ⟨i, k, d, _, g, hv⟩ := io.get ha
    obtain ⟨p, hp, o, _⟩ := sr0.ow i k d g
    rw [hv] at hp; cases hp
    have := o.ne
    cases k with
    | none => exact .inl this
    | some j => exact .inr (List.mem_of_getElem? this)
  have nT : ∀ q ∈ T, q.1 ∉ ioa := fun q hq hm => by
    obtain ⟨i, k, d, _, g, hv⟩ := io.get hm
    obtain ⟨p, hp, o, c⟩ := sr0.ow i k d g
    rw [hv] at hp
    have := c q hq
    cases hp
    exact this rfl
  -- a place that F does not show, is not lent and held something: Fs does not show it
  have nf : ∀ p, F p = none → p ∉ B → H p ≠ none → Fs p = none := fun p n nb hn => by
    cases e : Fs p with
    | none => rfl
    | some o =>
      rcases x.gr p o (h2 p o e) with q | q
      · rcases l.out p o q with z | z
        · rw [n] at z; cases z
        · exact absurd z nb
      · exact absurd q hn
  have old : ∀ {i k d}, getS s' i = some (.own k d) → ∃ d0, getS s i = some (.own k d0) := fun {i k d} g => by
    rcases hs i _ g with g2 | ⟨d', z⟩
    · rcases putIo_get hp nd g2 with ⟨_, g3⟩ | ⟨l, k', d0, d1, _, _, g3, z⟩
      · exact ⟨d, g3⟩
      · cases z; exact ⟨d0, g3⟩
    · cases z
  refine ⟨fun a o e => x.fh a o (h2 a o e), sr.fe.trans h1, fun a o e => ?_, fun a o e m => ?_, fun a ha => ?_, hv, fun i k d g => ?_, fun i j k l d e p g1 g2 r1 r2 => ?_, sr0.tn, fun q hq => ?_, len.trans sr.len⟩
  · rcases x.gr a o (h2 a o e) with q | q
    · rcases l.out a o q with z | z
      · exact sr.gr a o z
      · rcases hB a z with w | w
        · rw [w] at e; cases e
        · exact .inr w
    · exact .inr (sr.he q)
  · refine x.kp a o (sr.kp a o e m) fun hm => ?_
    rcases ioG a hm with z | z
    · rw [z] at e; cases e
    · exact m z
  · by_cases hm : a ∈ ioa
    · obtain ⟨_, vs, hv⟩ := x.io.mem a hm
      rw [hv]; simp
    · cases e : H a with
      | none => exact absurd e (sr.ioh a ha)
      | some o => rw [x.kp a o e hm]; simp
  · obtain ⟨d0, g0⟩ := old g
    obtain ⟨p, hpp, o, c⟩ := sr0.ow i k d0 g0
    have fs : Fs p = none := by
      by_cases hb : p ∈ B
      · exact ho i k d p g hpp hb
      · obtain ⟨vs, hvs⟩ := o.at_.there
        exact nf p o.nf hb (by rw [hvs]; simp)
    refine ⟨p, hpp, ⟨?_, fs, o.ne⟩, c⟩
    rcases hs i _ g with g2 | ⟨d', z⟩
    · rcases putIo_get hp nd g2 with ⟨h3, g3⟩ | ⟨l, k', d1, d2, h3, h4, g3, z⟩
      · rw [g0] at g3; cases g3
        have np : p ∉ ioa := fun hm => by
          obtain ⟨j, k', d', hj, gj, hvj⟩ := io.get hm
          exact h3 (by rw [sr0.di i j _ _ _ _ p g0 gj hpp hvj]; exact hj)
        obtain ⟨vs, hvs⟩ := o.at_.there
        exact (o.at_.mono h1).heap (by rw [x.kp p _ hvs np, hvs])
      · cases z
        obtain ⟨k2, d3, p2, hl, g4, hv4⟩ := io.at_ h3
        rw [hpp] at hv4; cases hv4
        exact hi l p d hl h4
    · cases z
  · obtain ⟨d0, g0⟩ := old g1
    obtain ⟨e0, g0'⟩ := old g2
    exact sr0.di i j _ _ _ _ p g0 g0' r1 r2
  · have o := sr0.tt q hq
    obtain ⟨vs, hvs⟩ := o.at_.there
    have fs : Fs q.1 = none := nf q.1 o.nf (hT q hq) (by rw [hvs]; simp)
    exact ⟨(o.at_.mono h1).heap (by rw [x.kp q.1 _ hvs (nT q hq), hvs]), fs, o.ne⟩
end
end DL

namespace DL
open Evl (Ex)
open PySem PySem.Spec PyProof.Rows L2 PySem.W

section
variable {K : PySem.W.Frag} {E : WX} {X : Cx} {G : En} {F Fc F' F1 Fs : Hp} {T T' T1 : List (Addr × D)} {s s' s1 s2 s3 : S} {σ σ' : L2.St} {H H' H1 : Hp} {v : V} {d : D} {ds ios : List D} {i : Nat} {r : R} {Q : VK} {m : List Bool} {vs : List V} {rs : List R} {p : Addr} {is bs : List Nat} {ioa : List Addr}
theorem putIo_out : ∀ {is : List Nat} {ds : List D} {s s' : S} {i : Nat}, putIo s is ds = some s' → i ∉ is → getS s' i = getS s i
  | [], [], s, s', i, e, _ => by cases e; rfl
  | [], _ :: _, s, s', i, e, _ => by cases e
  | _ :: _, [], s, s', i, e, _ => by cases e
  | j :: is, d :: ds, s, s', i, e, n => by
    have e' : (match getS s j with
      | some (.own k _) => putIo (s.set j (some (.own k d))) is ds
      | _ => none) = some s' := e
    split at e'
    · rw [putIo_out e' fun z => n (List.mem_cons_of_mem _ z)]
      unfold getS
      rw [List.getElem?_set_ne]
      intro z
      exact n (by rw [z]; exact List.mem_cons_self)
    · cases e'
theorem whose_not {B : Addr} (sr : SR K G F T1 s σ H) (sub : ∃ pre, T1 = pre ++ T) (w : Whose s σ bs T T1 B) {j : Nat} {k : Option Nat} {e : D} (hj : j ∉ bs) (g : getS s j = some (.own k e)) (hv : σ[j]? = some (some (.ref B))) : False := by
  rcases w with ⟨i, k', d, h1, h2, h3⟩ | ⟨⟨d, h1⟩, h2⟩
  · exact hj (by rw [← sr.di i j _ _ _ _ B h2 g h3 hv]; exact h1)
  · obtain ⟨p, hp, _, c⟩ := sr.ow j k e g
    rw [hv] at hp; cases hp
    exact c _ h1 rfl
theorem whose_T {B : Addr} (sr : SR K G F T1 s σ H) (sub : ∃ pre, T1 = pre ++ T) (w : Whose s σ bs T T1 B) : ∀ q ∈ T, q.1 ≠ B := by
  rcases w with ⟨i, k', d, h1, h2, h3⟩ | ⟨⟨d, h1⟩, h2⟩
  · intro q hq e
    obtain ⟨p, hp, _, c⟩ := sr.ow i _ _ h2
    rw [h3] at hp; cases hp
    obtain ⟨pre, rfl⟩ := sub
    exact c q (List.mem_append_right _ hq) e
  · exact h2
theorem call_post {B : List Addr} {cl : Bool} (sr : SR K G F T1 s σ H) (sub : ∃ pre, T1 = pre ++ T) (l : Lent K F H Fc B) (wh : ∀ b ∈ B, Whose s σ bs T T1 b) (io : IoIs s σ is ioa) (nd : is.Nodup) (dis : ∀ i ∈ is, i ∉ bs) (x : Ext K Fc H F' H' ioa ios)
    (bw : ∀ i ∈ bs, ∀ k d, getS s i = some (.own k d) → ∃ p, σ[i]? = some (some (.ref p)) ∧ Rp K Fc (.ref p) d) (hp : postS s is bs ios cl = some s') (hc : cl = true → ios.all nlI = true) :
    ∃ Fs, Ex F Fs ∧ SR K G Fs T s' σ H' ∧ (∀ v d, Rp K F' v d → (cl = true → nl d = true) → Rp K Fs v d) ∧ (∀ p d, OwnAt K F' H' p d → (cl = true → nlI d = true) → OwnAt K Fs H' p d) ∧ Ex Fs F' := by
  unfold postS at hp
  split at hp
  · cases hp
  rename_i s2 q2
  have l2 : s2.length = s.length := putIo_len q2
  split at hp
  · rename_i hcl
    cases hp
    have hB : ∀ b ∈ B, ∃ vs, F' b = some (.lst vs) := fun b hb => by
      obtain ⟨_, vs, hv⟩ := l.at_ b hb
      exact ⟨vs, x.ex _ _ hv⟩
    let Fs : Hp := fun a => if a ∈ B then none else F' a
    have hFs : ∀ a o, a ∉ B → F' a = some o → Fs a = some o := fun a o n e => by show (if a ∈ B then none else F' a) = _; rw [if_neg n]; exact e
    have hFB : ∀ a ∈ B, Fs a = none := fun a ha => by show (if a ∈ B then none else F' a) = _; rw [if_pos ha]
    have h2 : Ex Fs F' := fun a o e => by
      by_cases hm : a ∈ B
      · rw [hFB a hm] at e; cases e
      · have e' : (if a ∈ B then none else F' a) = some o := e
        rw [if_neg hm] at e'; exact e'
    have h1 : Ex F Fs := fun a o e => hFs a o (fun hb => by rw [(l.at_ a hb).1] at e; cases e) (x.ex _ _ (l.ex _ _ e))
    refine ⟨Fs, h1, ?_, fun v d h n => Rp.minus hB hFs h (n hcl), fun p d h n => OwnAt.minus hB hFs h (n hcl), h2⟩
    refine SR.post sr sub l wh io nd x h1 h2 (fun b hb => .inl (hFB b hb)) q2 (fun i y g => .inl g) (fun i d g => ?_) (fun i k d p g hv hb => hFB p hb) (fun l p d e1 e2 => ?_) (fun q hq hb => whose_T sr sub (wh _ hb) q hq rfl) l2
    · rcases putIo_get q2 nd g with ⟨_, g2⟩ | ⟨l, k, d0, d1, _, _, _, z⟩
      · obtain ⟨v, a, b⟩ := sr.sl i d g2
        exact ⟨v, a, Rp.mono h1 b⟩
      · cases z
    · exact OwnAt.minus hB hFs (x.io.get e1 e2) (List.all_eq_true.mp (hc hcl) d (List.mem_of_getElem? e2))
  · rename_i hcl
    have h1 : Ex F F' := l.ex.trans x.ex
    have back : ∀ {j : Nat} {y : Sl}, j ∈ bs → getS s2 j = some y → getS s j = some y := fun {j y} hj g => by
      rw [← putIo_out q2 fun hm => dis j hm hj]; exact g
    refine ⟨F', h1, ?_, fun v d h _ => h, fun p d h _ => h, Evl.Ex.refl _⟩
    refine SR.post sr sub l wh io nd x h1 (Evl.Ex.refl _) (fun b hb => .inr ?_) q2 (fun i y g => ?_) (fun i d g => ?_) (fun i k d p g hv hb => ?_) (fun l p d e1 e2 => x.io.get e1 e2) (fun q hq hb => whose_T sr sub (wh _ hb) q hq rfl) ((frzIx_len hp).trans l2)
    · rcases wh b hb with ⟨i, k, d, a1, a2, a3⟩ | ⟨⟨d, a1⟩, a2⟩
      · have g2 : getS s2 i = some (.own k d) := by rw [putIo_out q2 fun hm => dis i hm a1]; exact a2
        have := frzIx_own hp a1 g2
        subst this
        obtain ⟨p, hpp, o, _⟩ := sr.ow i _ _ a2
        rw [a3] at hpp; cases hpp
        exact o.ne
      · exact (sr.tt _ a1).ne
    · rcases frzIx_get hp g with ⟨g2, _⟩ | ⟨_, ds, _, z⟩
      · exact .inl g2
      · exact .inr ⟨_, z⟩
    · rcases frzIx_get hp g with ⟨g2, _⟩ | ⟨hm, ds, g2, z⟩
      · rcases putIo_get q2 nd g2 with ⟨_, g3⟩ | ⟨l, k, d0, d1, _, _, _, z⟩
        · obtain ⟨v, a, b⟩ := sr.sl i d g3
          exact ⟨v, a, Rp.mono h1 b⟩
        · cases z
      · cases z
        obtain ⟨p, a, b⟩ := bw i hm _ _ (back hm g2)
        exact ⟨_, a, Rp.mono x.ex b⟩
    · exfalso
      rcases frzIx_get hp g with ⟨g2, nb⟩ | ⟨_, ds, _, z⟩
      · have hnb : i ∉ bs := fun hm => by obtain ⟨d', z⟩ := nb hm; cases z
        rcases putIo_get q2 nd g2 with ⟨_, g3⟩ | ⟨l, k', d0, d1, _, _, g3, z⟩
        · exact whose_not sr sub (wh p hb) hnb g3 hv
        · cases z
          exact whose_not sr sub (wh p hb) hnb g3 hv
      · cases z
theorem SR.addTemp (sr : SR K G F T s σ H) (o : OwnAt K F H p d) (nf : F p = none) (ne : G.He p = none) (ns : ∀ i k d, getS s i = some (.own k d) → σ[i]? ≠ some (some (.ref p))) (nt : ∀ q ∈ T, q.1 ≠ p) : SR K G F ((p, d) :: T) s σ H := by
  refine ⟨sr.fh, sr.fe, sr.gr, sr.kp, sr.ioh, sr.sl, fun i k e g => ?_, sr.di, List.pairwise_cons.mpr ⟨fun q hq z => nt q hq z.symm, sr.tn⟩, fun q hq => ?_, sr.len⟩
  · obtain ⟨p', a, b, c⟩ := sr.ow i k e g
    refine ⟨p', a, b, fun q hq z => ?_⟩
    rcases List.mem_cons.mp hq with rfl | hq
    · exact ns i k e g (by rw [show p = p' from z]; exact a)
    · exact c q hq z
  · rcases List.mem_cons.mp hq with rfl | hq
    · exact ⟨o, nf, ne⟩
    · exact sr.tt q hq
theorem call_sp {fn : List D → FOut} {F0 : Hp} {T1 : List (Addr × D)} {H1 : Hp} {vs : List V} {rs : List R} {s1 : S} {F1 : Hp} (e1 : Ex F0 F1) (sr1 : SR K G F1 T1 s1 σ H1) (rv1 : RVs K F1 σ T rs vs T1) (w1 : Want K G E F0 (match argsD s1 m rs with
  | none => Out.bad
  | some ds => if nodupB (ioIx m rs) && disB (ioIx m rs) (boIx s1 m rs) then xPost s1 (ioIx m rs) (boIx s1 m rs) (fn ds) else .bad) (EP K G F0 T σ Q)) : spD K m fn vs H1 Q (WE E σ) := by
  split at w1
  · exact w1.elim
  rename_i ds qd
  split at w1
  · rename_i hok
    obtain ⟨hnd, hdis⟩ := Bool.and_eq_true_iff.mp hok
    have nd := nodupB_ok hnd
    have dis : ∀ i ∈ ioIx m rs, i ∉ boIx s1 m rs := fun i h1 h2 => disB_ok hdis h1 h2
    obtain ⟨Fc, B, l, arx, wh, io, bw⟩ := args_ok sr1 (Evl.Ex.refl _) rv1 qd
    have sub := rv1.sub
    have hioB : ∀ a ∈ ioA m vs, a ∉ B := fun a h1 h2 => by
      obtain ⟨i, k, d, hi, g, hv⟩ := io.get h1
      exact whose_not sr1 sub (wh a h2) (dis i hi) g hv
    refine ⟨Fc, ds, l.fh, arx.ar l hioB, io.nodup sr1 nd, ?_⟩
    have other : ∀ {s' : S} {ios : List D} {cl : Bool}, postS s1 (ioIx m rs) (boIx s1 m rs) ios cl = some s' → ∀ {i k d p}, getS s' i = some (.own k d) → σ[i]? = some (some (.ref p)) → H1 p ≠ none := fun {s' ios cl} hp {i k d p} g hv => by
      have key : ∃ d0, getS s1 i = some (.own k d0) := by
        unfold postS at hp
        split at hp
        · cases hp
        rename_i s2 q2
        have k2 : getS s2 i = some (.own k d) → ∃ d0, getS s1 i = some (.own k d0) := fun g2 => by
          rcases putIo_get q2 nd g2 with ⟨_, g3⟩ | ⟨l, k', d0, d1, _, _, g3, z⟩
          · exact ⟨_, g3⟩
          · cases z; exact ⟨_, g3⟩
        split at hp
        · cases hp; exact k2 g
        · rcases frzIx_get hp g with ⟨g2, _⟩ | ⟨_, ds, _, z⟩
          · exact k2 g2
          · cases z
      obtain ⟨d0, g0⟩ := key
      obtain ⟨p', hp', o, _⟩ := sr1.ow i k d0 g0
      rw [hv] at hp'; cases hp'
      obtain ⟨vs, hvs⟩ := o.at_.there
      rw [hvs]; simp
    unfold xPost at w1
    cases qf : fn ds with
    | bad => rw [qf] at w1; exact w1.elim
    | ret r ios =>
      rw [qf] at w1
      intro F' H' v x rr
      dsimp only at w1
      split at w1
      · rename_i s2 q2
        obtain ⟨Fs, h1, srs, kr, ko, h2⟩ := call_post sr1 sub l wh io nd dis x bw q2 (fun e => (Bool.and_eq_true_iff.mp e).2)
        cases r with
        | val d => exact w1 Fs T H' v (e1.trans h1) srs ⟨kr v d rr (fun e => (Bool.and_eq_true_iff.mp e).1), rfl⟩
        | new d =>
          obtain ⟨p, rfl, o, nf, hn⟩ := rr
          have fs : Fs p = none := by
            cases e : Fs p with
            | none => rfl
            | some ob => rw [h2 p ob e] at nf; cases nf
          obtain ⟨pre, hpre⟩ := sub
          refine w1 Fs ((p, d) :: T) H' _ (e1.trans h1) (srs.addTemp (ko p d o (fun e => (Bool.and_eq_true_iff.mp e).1)) fs (sr1.he hn) (fun i k d' g hv => other q2 g hv hn) fun q hq e => ?_) ⟨p, rfl, rfl⟩
          have o1 := sr1.tt q (by rw [hpre]; exact List.mem_append_right _ hq)
          obtain ⟨vs, hvs⟩ := o1.at_.there
          rw [e, hn] at hvs; cases hvs
      · exact w1.elim
    | err c d ios =>
      rw [qf] at w1
      intro F' H' v x ext hx hv hn
      dsimp only at w1
      split at w1
      · rename_i s2 q2
        obtain ⟨Fs, h1, srs, kr, ko, h2⟩ := call_post sr1 sub l wh io nd dis ext bw q2 (fun e => (Bool.and_eq_true_iff.mp e).2)
        exact w1 x Fs T σ H' v (e1.trans h1) srs hx (kr v d hv (fun e => (Bool.and_eq_true_iff.mp e).1)) (sr1.he hn)
      · exact w1.elim
  · exact w1.elim

theorem snd_call {fn : List D → FOut} {ta : TA} {fa : XA} (ha : SndA K E ta fa) : Snd K E (tCallS (spD K m fn) (WE E) ta) (xCall m fn fa) := fun G F T s σ H Q sr w => by
  refine ha G F T s σ H _ sr (w.bind.mono (Evl.Ex.refl F) fun ⟨rs, s1⟩ w1 F1 T1 H1 vs e1 sr1 rv1 => ?_)
  exact call_sp e1 sr1 rv1 w1

/-! ### calls and defs -/
abbrev PassS (CX : CXT) (X : Cx) (E : WX) : Prop := ∀ σ, PassesAt CX X σ (WE E σ)
section
variable {CX : CXT} {k : Nat} {f : Addr} {fd : FuncData} {ps : List Str} {fn : List D → FOut} {x : Str} {p pos : Pos} {e : Expr} {es : List Expr} {ta : TA} {fa : XA}
theorem de_call (Fn : FnOk X.prog X.w X.K X.mg X.base CX k f fd ps (spD X.K m fn)) (hr : Room k X.A) (hg : Gl X x) (hm : X.mg x = some (.ref f)) (hk : PySem.W.keepIn X.K (.ref f) = true) (hb : Binds X.K fd ps []) (hx : PassS CX X E) (ha : DA X E (e :: es) ta fa)
    (hdb : (x == ("__debug__" : Str)) = false := by decide) (he : starEach (e :: es) X.env = (false, eval e X.env) :: starEach es X.env := by rfl) (hpl : (backTo pos (starEach es X.env)).any (·.1) = false := by rfl) :
    DE X E (.Call (.Name x p) (e :: es) [] pos) (tCallS (spD X.K m fn) (WE E) ta) (xCall m fn fa) := ⟨pe_callS Fn hr hg hm hk hb hx ha.pa hdb he hpl, snd_call ha.sd⟩
end
/-- a def that nothing is let out of -/
theorem fn_ok0 {P : Program} {w : World} {mg : Str → Option Value} {base : Heap} {x qual : Str} {params : Arguments} {body : List Stmt} {scope : Scope} {f : Addr} {fd : FuncData} {N ps : List Str} {k : Nat} {fb : XS} (Fd : FunD K x qual params body scope [] [] f fd) (S : FnScope N ps scope) (hm : m.length = ps.length) (hN : m.length ≤ N.length)
    (hb : ∀ (cdv : Value) (A : Around) (outer : List Env) (s : Shared) (H : Hp) (E : XK), Room k (A.deeper (envOfC qual scope s.heap.objs.size f cdv)) → ∃ t, DSs (cxOf CX0 P w K mg base N qual scope f cdv A outer s H E).nox (fun c d _ H => E c d H) body t fb) :
    FnOk P w K mg base CX0 (k + 1) f fd ps (spD K m (runF m N.length fb)) :=
  Fd.ok S (fun vs H Q E ⟨F, ds, _, h, _⟩ => h.len.1.trans hm) fun cdv A outer s H vs Q E hr hsp => by
    obtain ⟨t, h⟩ := hb cdv A outer s H E hr
    exact ⟨t, PSs.nox h.ps, body_ok h.sd hN hsp⟩
/-- no promise: any def keeps it -/
theorem fn_bad {P : Program} {w : World} {mg : Str → Option Value} {base : Heap} {CX : CXT} {f : Addr} {fd : FuncData} {ps : List Str} {k : Nat} : FnOk P w K mg base CX k f fd ps (spD K m fun _ => .bad) :=
  ⟨fun vs H Q E ⟨F, ds, _, _, _, h⟩ => h.elim, fun A outer s H args us vs Q E _ _ _ _ ⟨F, ds, _, _, _, h⟩ => h.elim⟩
end
end DL

namespace DL
open Evl (Ex)
open PySem PySem.Spec PyProof.Rows L2 PySem.W

/-! ### f(k = v, ..) -/
def permL {α : Type} (ix : List Nat) (l : List α) : List α := ix.filterMap (l[·]?)
section
variable {K : PySem.W.Frag} {E : WX} {X : Cx} {G : En} {F Fc F' F1 Fs : Hp} {T T' T1 : List (Addr × D)} {s s' s1 s2 s3 : S} {σ σ' : L2.St} {H H' H1 : Hp} {v : V} {d : D} {ds ios : List D} {i : Nat} {r : R} {Q : VK} {m : List Bool} {vs : List V} {rs : List R} {p : Addr} {is bs : List Nat} {ioa : List Addr}
theorem Vals.permL {vs : List V} {us : List Value} (h : Vals vs us) (ix : List Nat) : Vals (DL.permL ix vs) (DL.permL ix us) := by
  induction ix with
  | nil => exact .nil
  | cons i ix ih =>
    unfold DL.permL at ih ⊢
    rw [List.filterMap_cons, List.filterMap_cons]
    cases e : vs[i]? with
    | none =>
      have : us[i]? = none := by
        rw [List.getElem?_eq_none_iff] at e ⊢
        rw [← h.length]; exact e
      rw [this]
      exact ih
    | some v =>
      obtain ⟨u, hu, hr⟩ := h.get e
      rw [hu]
      exact .cons hr ih
section
variable {CX : CXT} {k : Nat} {f : Addr} {fd : FuncData} {ps ks : List Str} {fn : List D → FOut} {x : Str} {p pos : Pos} {kws : List Keyword} {tk : TA} {fk : XA} {ix : List Nat} {sp : Sp}
end
end
end DL

namespace DL
open Evl (Ex)
open PySem PySem.Spec PyProof.Rows L2 PySem.W

section
variable {K : PySem.W.Frag} {E : WX} {X : Cx} {G : En} {F Fc F' F1 Fs : Hp} {T T' T1 : List (Addr × D)} {s s' s1 s2 s3 : S} {σ σ' : L2.St} {H H' H1 : Hp} {v : V} {d : D} {ds ios : List D} {i : Nat} {r : R} {Q : VK}
/-! ### a, b, .. = x, y, .. by way of a tuple -/
def setsL (is : List Nat) (vs : List V) (σ : L2.St) : L2.St := (is.zip vs).foldl (fun σ p => σ.set p.1 (some p.2)) σ
def setsR (is : List Nat) (vs : List V) (σ : L2.St) : L2.St := (is.zip vs).foldr (fun p σ => σ.set p.1 (some p.2)) σ
theorem setsR_comm {x : Option V} : ∀ {is : List Nat} {vs : List V} {σ : L2.St}, i ∉ is → setsR is vs (σ.set i x) = (setsR is vs σ).set i x
  | [], _, _, _ => rfl
  | _ :: _, [], _, _ => rfl
  | j :: is, v :: vs, σ, h => by
    show (setsR is vs (σ.set i x)).set j (some v) = ((setsR is vs σ).set j (some v)).set i x
    rw [setsR_comm fun z => h (List.mem_cons_of_mem _ z), List.set_comm]
    intro z
    exact h (by rw [z]; exact List.mem_cons_self)
theorem sets_eq : ∀ {is : List Nat} {vs : List V} {σ : L2.St}, is.Nodup → setsL is vs σ = setsR is vs σ
  | [], _, _, _ => rfl
  | _ :: _, [], _, _ => rfl
  | j :: is, v :: vs, σ, h => by
    obtain ⟨h1, h2⟩ := List.nodup_cons.mp h
    show setsL is vs (σ.set j (some v)) = (setsR is vs σ).set j (some v)
    rw [sets_eq h2, setsR_comm h1]
structure GNs (X : Cx) (is : List Nat) (es : List Expr) (t : TGs) : Prop where
  pg : PGs X es t
  sd : ∀ vs σ H Q, vs.length = is.length → Q (setsL is vs σ) H → t vs σ H Q
theorem gns_nil : GNs X [] [] gNil := ⟨pgs_nil, fun vs σ H Q hl q => by
  cases vs with
  | nil => exact ⟨rfl, q⟩
  | cons _ _ => cases hl⟩
theorem gns_cons {x : Str} {pos : Pos} {es : List Expr} {t : TGs} {is : List Nat} (hN : X.N.Nodup) (hi : X.N[i]? = some x) (hx : Loc X.env.scope x) (h : GNs X is es t) (hf : X.fn x = true ∨ X.env.scope.names.lookup x = some .local := by first | exact .inl rfl | exact .inr rfl | assumption)
    (hs : (assignEach (.Name x pos :: es) X.env).map (·.2) = assign (.Name x pos) X.env :: (assignEach es X.env).map (·.2) := by rfl) : GNs X (i :: is) (.Name x pos :: es) (gCons (gName i) t) := ⟨pgs_cons (pg_name hN hi hx hf) h.pg hs, fun vs σ H Q hl q => by
  cases vs with
  | nil => cases hl
  | cons v vs => exact ⟨v, vs, rfl, h.sd vs _ H Q (Nat.succ.inj hl) q⟩⟩
theorem ds_parT {is : List Nat} {es as : List Expr} {tgs : TGs} {ta : TA} {fa : XA} {n : Nat} {kt k2 : Nat} {pt pt2 pos : Pos} (hc : X.calm = true) (nd : is.Nodup) (hg : GNs X is es tgs) (ha : DA X E as ta fa) (hl : ALen fa n) (hn : n ≤ 1000) (hln : is.length = n)
    (hn1 : (assignEach es X.env).length = n := by rfl) (hst : (assignEach es X.env).findIdx? (·.1) = none := by rfl)
    (hs : swapsWithSole [.Tuple es kt pt] (.Tuple as k2 pt2) pos.line X.env = pure false := by rfl) (hw : swappedStores [.Tuple es kt pt] (.Tuple as k2 pt2) X.env = pure none := by rfl)
    (h1 : (assignEach [.Tuple es kt pt] X.env).map (·.2) = [assign (.Tuple es kt pt) X.env] := by rfl) : DS X E (.Assign [.Tuple es kt pt] (.Tuple as k2 pt2) pos) (tAsg (tTupF ta) (gTup X.K n tgs)) (sPar is fa) :=
  ⟨ps_asg (pe_tupF ha.pa) (pg_tup hc hg.pg hn1 hst) hs hw h1, fun G F s σ H Dn sr w => by
    have w0 := w.bind
    cases e0 : fa s with
    | bad => rw [e0] at w0; exact w0.elim
    | err c d s1 => rw [e0] at w0; exact ha.sd G F [] s σ H _ sr (by rw [e0]; exact w0)
    | ok x =>
      obtain ⟨rs, s1⟩ := x
      rw [e0] at w0
      refine ha.sd G F [] s σ H _ sr ?_
      rw [e0]
      intro F1 T1 H1 vs e1 sr1 rv1
      have w1 := w0
      dsimp only [Want] at w1
      dsimp only at sr1 rv1
      have hlv : vs.length = n := by rw [rv1.len, hl s rs s1 e0]
      refine ⟨by rw [hlv, sizeLine_eq]; omega, fun p ob d0 hp => ?_⟩
      obtain ⟨F2, s2, e2, sr2, hl2, w3⟩ := par_ok (K := X.K) (E := E) (is := is) (P := FP X.K G F1 Dn) nd (sr1.grow (o := .frz ob (.tup vs)) hp) rv1 (Evl.Ex.refl _) (Want.mono w1 e1 fun x (wx : FP X.K G F Dn x) => wx.mono e1)
      refine ⟨p, vs, rfl, (TpD.of d0 upd_same).sq, hlv, hg.sd vs σ _ _ (by rw [hlv, hln]) ?_⟩
      rw [sets_eq nd]
      exact w3 F2 _ _ e2 sr2⟩
/-- a comparison with the heads of both -/
theorem op_eqA {k : Nat} (hr : Room k X.A) : OpR X (compareOp .Eq) (rEqD X.K) := op_eqD hr.units
theorem op_neA {k : Nat} (hr : Room k X.A) : OpR X (compareOp .NotEq) (rNeD X.K) := op_neD hr.units
end
theorem pass00 {X : Cx} {E : WX} : PassS L2.CX0 X E := fun _ _ _ _ _ _ _ h => h.elim
abbrev FnP (K : PySem.W.Frag) (x : Str) (st : Stmt) (f : Addr) (fd : FuncData) : Prop := FunD K x x (defArgs st) (defBody st) (defScope st) [] [] f fd
section
variable {X : Cx}
end
end DL

namespace DL
open Evl (Ex)
open PySem PySem.Spec PyProof.Rows L2 PySem.W

section
variable {K : PySem.W.Frag} {E : WX} {X : Cx} {G : En} {F F' : Hp} {T T' : List (Addr × D)} {s s' : S} {σ σ' : L2.St} {H H' : Hp} {v : V} {d : D} {ds : List D} {i : Nat} {r : R} {Q : VK}
/-! ### in, not in -/
def rInT (K : PySem.W.Frag) (neg : Bool) : R2 := fun x y H Q => ∃ d ds, Dp K H x d ∧ (Dp K H y (.list ds) ∨ Dp K H y (.tuple ds)) ∧ SeqAt.shaped d = true ∧ SeqAt.shaped (.list ds) = true ∧ Q (.bl (if neg then !ds.any fun z => PyData.eqv z d else ds.any fun z => PyData.eqv z d)) H
theorem op_inA {k : Nat} (hr : Room k X.A) : OpR X (compareOp .In) (rInT X.K false) := by
  intro pins s σ H x y v u Q I rx ry h
  have hu : X.A.units + 65 < cLine := by have := hr.un; omega
  obtain ⟨d, ds, hd, he, sd, se, q⟩ := h
  obtain ⟨as, r1⟩ := Dp.reads I d x v hd rx
  rcases he with he | he
  · obtain ⟨bs, r2⟩ := Dp.reads I (.list ds) y u he ry
    exact SeqAt.in_list_reads r2 r1 (SeqAt.canLay_of_shaped se) (SeqAt.canLay_of_shaped sd) (room_in_shaped sd hu) ⟨.bl _, H, I, rfl, q⟩
  · obtain ⟨bs, r2⟩ := Dp.reads I (.tuple ds) y u he ry
    exact SeqAt.in_tuple_reads r2 r1 (SeqAt.canLay_of_shaped (d := .list ds) se) (SeqAt.canLay_of_shaped sd) (room_in_shaped sd hu) ⟨.bl _, H, I, rfl, q⟩
def inD (d : D) (ds : List D) : Bool := ds.any fun z => PyData.eqv z d
def hIn (a b : D) : Option RD := match itemsOf b with
  | some ds => if fl 60 a && fl 60 b then some (.val (.bool (inD a ds))) else none
  | none => none
theorem items_cases {b : D} {ds : List D} (h : itemsOf b = some ds) : b = .list ds ∨ b = .tuple ds := by
  cases b <;> simp [itemsOf] at h <;> subst h
  · exact .inl rfl
  · exact .inr rfl
theorem fl_tl {n : Nat} {ds : List D} (h : fl n (.tuple ds) = true) : fl n (.list ds) = true := by
  cases n with
  | zero => simp [fl] at h
  | succ n => simpa [fl] using h
theorem o_inAny {neg : Bool} {F H : Hp} {x y : V} {a b : D} {ds : List D} (ex : Ex F H) (va : View K F H x a) (vb : View K F H y b) (hi : itemsOf b = some ds) (hf : (fl 60 a && fl 60 b) = true) (q : Q (.bl (if neg then !inD a ds else inD a ds)) H) : rInT K neg x y H Q := by
  obtain ⟨h1, h2⟩ := Bool.and_eq_true_iff.mp hf
  rcases items_cases hi with rfl | rfl
  · exact ⟨a, ds, va.dp ex h1, .inl (vb.dp ex h2), fl_shaped h1, fl_shaped h2, q⟩
  · exact ⟨a, ds, va.dp ex h1, .inr (vb.dp ex h2), fl_shaped h1, fl_shaped (fl_tl h2), q⟩
theorem o_in : Op2 K (rInT K false) hIn := by
  intro F H x y a b rd Q ex va vb e q
  unfold hIn at e
  split at e
  · rename_i ds hi
    split at e
    · rename_i hf
      cases e
      exact o_inAny ex va vb hi hf (q _ (.bl _))
    · cases e
  · cases e
/-! ### methods that read a tuple or a list -/
section
variable {o e : Expr} {es : List Expr} {to : TE} {t : TA} {fo : XE} {fa : XA} {name : Str} {apos cpos : Pos} {T id : String} {r : V → List V → Hp → VK → Prop}
end
/-- the receiver: a value that stays -/
def xMeth (h : D → List D → Option RD) (fo : XE) (fa : XA) : XE := fun s => (fo s).bind fun (r, s1) => match getR s1 r with
  | some (.tuple d0) => (fa s1).bind fun (rs, s2) => (match getR s2 r, getRs s2 rs with
    | some (.tuple d), some ds => fin (h (.tuple d) ds) s2
    | _, _ => .bad)
  | _ => .bad
section
variable {o e : Expr} {es : List Expr} {to : TE} {t : TA} {fo : XE} {fa : XA} {apos cpos : Pos}
end
end
end DL

namespace DL
open Evl (Ex)
open PySem PySem.Spec PyProof.Rows L2 PySem.W

section
variable {K : PySem.W.Frag} {E : WX} {X : Cx} {G : En} {F F' : Hp} {T T' : List (Addr × D)} {s s' : S} {σ σ' : L2.St} {H H' : Hp} {v : V} {d : D} {ds : List D} {i : Nat} {r : R} {Q : VK}
/-! ### sorted of a list of tuples -/
def leD (a b : D) : Bool := !dataLt b a
def tup1 : D → Bool
  | .tuple (_ :: _) => true
  | _ => false
def sortOk (ds : List D) : Bool := (ds.all fun d => ds.all fun e => alike d e) && (ds.all tup1 && flAll 60 ds)
/-! ### isinstance of three classes -/
section
variable {a : Expr} {ta : TE} {fa : XE} {p pos : Pos}
end
end
end DL

namespace DL
open Evl (Ex)
open PySem PySem.Spec PyProof.Rows L2 PySem.W

section
variable {K : PySem.W.Frag} {E : WX} {X : Cx} {G : En} {F F' : Hp} {T T' : List (Addr × D)} {s s' : S} {σ σ' : L2.St} {H H' : Hp} {v : V} {d : D} {ds : List D} {i : Nat} {r : R} {Q : VK}
/-! ### zip of two, each a list or a tuple -/
theorem IsB.push {b : Bool} {h : Heap} {a : Addr} {items : Array Value} (x : IsB b h a items) (o : Obj) : IsB b (h.push o) a items := by
  cases b with
  | true => exact Heap.IsList.push (show h.IsList a items from x) o
  | false => exact Heap.IsTuple.push (show h.IsTuple a items from x) o
def zipD : List D → List D → List D
  | a :: as, b :: bs => .tuple [a, b] :: zipD as bs
  | _, _ => []
def xZip (fa fb : XE) : XI := fun s => (fa s).bind fun (r, s1) => (fb s1).bind fun (q, s2) => match frzs s2 [r, q] with
  | some ([a, b], s3) => (match itemsOf a, itemsOf b with
    | some ds, some es => .ok (zipD ds es, s3)
    | _, _ => .bad)
  | _ => .bad
end
end DL

namespace DL
open Evl (Ex)
open PySem PySem.Spec PyProof.Rows L2 PySem.W

section
variable {K : PySem.W.Frag} {E : WX} {X : Cx} {G : En} {F F' : Hp} {T T' : List (Addr × D)} {s s' : S} {σ σ' : L2.St} {H H' : Hp} {v : V} {d : D} {ds : List D} {i j : Nat} {r : R} {Q : VK}
/-! ### a[i], b[j] = x, y -/
def stIx (i : Nat) (fi : XE) (d : D) : S → Out S := fun s => match ownL s i with
  | none => .bad
  | some _ => (fi s).bind fun (q, s2) => match getR s2 q with
    | some (.int k) => (match ownL s2 i with
      | some (kk, xs) => (match ixN xs.length k with
        | some m => .ok (s2.set i (some (.own kk (.list (xs.set m d)))))
        | none => .bad)
      | none => .bad)
    | _ => .bad
def sSub2 (i : Nat) (fi : XE) (j : Nat) (fj : XE) (fa : XE) : XS := fun s => (fa s).bind fun (r, s1) => match r with
  | .val (.tuple [d, e]) => (stIx i fi d s1).bind fun s2 => (stIx j fj e s2).bind fun s3 => .ok (.nx s3)
  | _ => .bad
end

/-! ### constants of a module -/
section
variable {K : PySem.W.Frag} {h : Heap} {mg : Str → Option Value}
mutual
def datB (K : PySem.W.Frag) : Nat → Value → D → Bool
  | _, .none, .none => true
  | _, .bool b, .bool c => b == c
  | _, .int i _, .int j => decide (i = j)
  | _, .str x _, .str y => decide (x = y)
  | n + 1, .ref a, .tuple ds => match K.lookup a with
    | some ⟨.type c, none, .seq its _, _⟩ => decide (c = "tuple") && (decide (its.size ≤ 1000) && datAll K n its.toList ds)
    | _ => false
  | _, _, _ => false
def datAll (K : PySem.W.Frag) : Nat → List Value → List D → Bool
  | _, [], [] => true
  | n, u :: us, d :: ds => datB K n u d && datAll K n us ds
  | _, _, _ => false
end
theorem datAll_ok {n : Nat} (hb : ∀ (u : Value) (d : D), datB K n u d = true → ∃ v, RelV v u ∧ ∀ F, Rp K F v d) : ∀ (us : List Value) (ds : List D), datAll K n us ds = true → ∃ vs, Vals vs us ∧ ∀ F, RpAll K F vs ds
  | [], [], _ => ⟨[], .nil, fun _ => .nil⟩
  | u :: us, d :: ds, e => by
    unfold datAll at e
    obtain ⟨h1, h2⟩ := Bool.and_eq_true_iff.mp e
    obtain ⟨v, r1, r2⟩ := hb u d h1
    obtain ⟨vs, q1, q2⟩ := datAll_ok hb us ds h2
    exact ⟨v :: vs, .cons r1 q1, fun F => .cons (r2 F) (q2 F)⟩
  | [], _ :: _, e => by simp [datAll] at e
  | _ :: _, [], e => by simp [datAll] at e
theorem datB_ok (n : Nat) : ∀ (u : Value) (d : D), datB K n u d = true → ∃ v, RelV v u ∧ ∀ F, Rp K F v d := by
  induction n with
  | zero =>
    intro u d e
    cases d with
    | none => cases u <;> first | exact ⟨.non, rfl, fun _ => .non⟩ | (simp [datB] at e)
    | bool c =>
      cases u <;> simp [datB] at e
      subst e
      exact ⟨.bl _, rfl, fun _ => .bl _⟩
    | int j =>
      cases u <;> simp [datB] at e
      subst e
      exact ⟨.int _, ⟨_, rfl⟩, fun _ => .int _⟩
    | str y =>
      cases u <;> simp [datB] at e
      subst e
      exact ⟨.str _, ⟨_, rfl⟩, fun _ => .str _⟩
    | list ds => cases u <;> simp [datB] at e
    | tuple ds => cases u <;> simp [datB] at e
    | dict ds => cases u <;> simp [datB] at e
  | succ n ih =>
    intro u d e
    cases d with
    | none => cases u <;> first | exact ⟨.non, rfl, fun _ => .non⟩ | (simp [datB] at e)
    | bool c =>
      cases u <;> simp [datB] at e
      subst e
      exact ⟨.bl _, rfl, fun _ => .bl _⟩
    | int j =>
      cases u <;> simp [datB] at e
      subst e
      exact ⟨.int _, ⟨_, rfl⟩, fun _ => .int _⟩
    | str y =>
      cases u <;> simp [datB] at e
      subst e
      exact ⟨.str _, ⟨_, rfl⟩, fun _ => .str _⟩
    | list ds => cases u <;> simp [datB] at e
    | dict ds => cases u <;> simp [datB] at e
    | tuple ds =>
      cases u <;> simp only [datB, Bool.false_eq_true] at e
      split at e
      · rename_i a _ c its m sl q
        obtain ⟨h1, h2⟩ := Bool.and_eq_true_iff.mp e
        obtain ⟨h3, h4⟩ := Bool.and_eq_true_iff.mp h2
        obtain ⟨vs, hv, hr⟩ := datAll_ok ih its.toList ds h4
        have hz : its.size ≤ 1000 := of_decide_eq_true h3
        have hl : ds.length ≤ line := by
          have : ds.length = its.toList.length := by rw [← (hr (fun _ => none)).length, hv.length]
          rw [this]; unfold line; simp; omega
        exact ⟨.ref a, rfl, fun F => .tup (.inr ⟨_, its, m, q, congrArg Value.type (of_decide_eq_true h1), rfl, rfl, by rw [sizeLine_eq]; omega, hv⟩) (hr F) hl⟩
      · cases e
def conB (K : PySem.W.Frag) (c : Str × D) : Bool := match PySem.W.nsIn K mainGlobals c.1 with
  | some (some u) => datB K 20 u c.2
  | _ => false
abbrev AlC : Type := He.AlD × Bool
def obsC (fa : List He.Fa) (fn : List He.DefD) (cs : List (Str × D)) (K : PySem.W.Frag) : AlC := (He.obsD fa fn K, cs.all (conB K))
def valC (fn : List He.DefD) : AlC := (He.valD fn, true)
def SaysC (fa : List He.Fa) (fn : List He.DefD) (cs : List (Str × D)) (K : PySem.W.Frag) : Prop := obsC fa fn cs K = valC fn
section
variable {fa : List He.Fa} {fn : List He.DefD} {cs : List (Str × D)}
theorem SaysC.d (c : SaysC fa fn cs K) : He.SaysD fa fn K := congrArg (fun z : AlC => z.1) c
end
end
end DL

namespace DL
open Evl (Ex)
open PySem PySem.Spec PyProof.Rows L2 PySem.W

section
variable {K : PySem.W.Frag} {E : WX} {X : Cx} {G : En} {F F' : Hp} {T T' : List (Addr × D)} {s s' : S} {σ σ' : L2.St} {H H' : Hp} {v : V} {d : D} {ds : List D} {i j : Nat} {r : R} {Q : VK}
/-! ### x = y, y asked for no more -/
def sMove (i j : Nat) : XS := fun s => match getS s j with
  | some (.own none d) => .ok (.nx ((s.set j none).set i (some (.own none d))))
  | some (.val d) => .ok (.nx (s.set i (some (.val d))))
  | _ => .bad
end
end DL

namespace DL
open Evl (Ex)
open PySem PySem.Spec PyProof.Rows L2 PySem.W

/-- f([..]): a fresh list is handed to a def that changes it; the list is dropped -/
def xCallN (fn : List D → FOut) (fa : XA) : XE := fun s => (fa s).bind fun (rs, s1) => match rs with
  | [.new (.list ds)] => match fn [.list ds] with
    | .bad => .bad
    | .ret r _ => .ok (r.r, s1)
    | .err c d _ => .err c d s1
  | _ => .bad
section
variable {K : PySem.W.Frag} {E : WX} {X : Cx} {G : En} {F Fc F' F1 Fs : Hp} {T T' T1 : List (Addr × D)} {s s' s1 s2 s3 : S} {σ σ' : L2.St} {H H' H1 : Hp} {v : V} {d : D} {ds ios : List D} {i : Nat} {r : R} {Q : VK} {m : List Bool} {vs : List V} {rs : List R} {p : Addr} {is bs : List Nat} {ioa : List Addr}
section
variable {CX : CXT} {k : Nat} {f : Addr} {fd : FuncData} {ps : List Str} {fn : List D → FOut} {x : Str} {p pos : Pos} {e : Expr} {es : List Expr} {ta : TA} {fa : XA}
end
end
end DL

namespace DL
open Evl (Ex)
open PySem PySem.Spec PyProof.Rows L2 PySem.W
/-- list(script) too -/
def hListS : List D → Option RD
  | [.dict [(.list [], .list ds)]] => if ds.length ≤ line then some (.lst ds) else none
  | ds => hList ds
end DL

namespace DL
open Evl (Ex)
open PySem PySem.Spec PyProof.Rows L2 PySem.W

/-! ### [e for x in xs if t for y in ys if u] -/
def lcAdd2 (vs : List Nat) (acc : List D) (r : R) (s : S) : Out (List D × S) := if acc.length < line then lcAdd vs acc r s else .bad
def lcTurn2 (vs : List Nat) (ft : XT) (fe : XE) (acc : List D) (s : S) : Out (List D × S) := (ft s).bind fun (b, s1) => if b then ((fe s1).bind fun (r, s2) => lcAdd2 vs acc r s2) else .ok (acc, DL.forget vs s1)
section
variable {K : PySem.W.Frag} {E : WX} {X : Cx} {G : En} {F F' F1 : Hp} {T T' : List (Addr × D)} {s s' : S} {σ σ' : L2.St} {H H' : Hp} {v : V} {d : D} {ds : List D} {i : Nat} {r : R} {Q : VK}
def canI (K : PySem.W.Frag) (E : WX) (f : XI) : TI := fun σ H R => ∃ G F T s, SR K G F T s σ H ∧ Want K G E F (f s) (IP K G F T σ R)
theorem DI.can {tg e : Expr} {t : TI} {f : XI} (h : DI X E tg e t f) : PI X tg e (canI X.K E f) := ⟨fun pins s σ H R I ⟨G, F, T, st, sr, w⟩ => h.pi.run pins s σ H R I (h.sd G F T st σ H R sr w)⟩
section
variable {elt tg iter tg1 iter1 : Expr} {ifs ifs1 : List Expr} {scope : Scope} {own : List (Str × Nat)} {vs1 gs gs1 : List Nat} {pos : Pos} {wi : TI} {fi fi1 : XI} {xg xg1 : XG} {ft ft1 : XT} {fe : XE}
end
end
end DL

namespace DL
open Evl (Ex)
open PySem PySem.Spec PyProof.Rows L2 PySem.W

/-! ### count of a list of ints -/
def hCountL : D → List D → Option RD
  | .list ds, [.int k] => match intsOf ds with
    | some ns => some (.val (.int ((ns.count k : Nat) : Int)))
    | none => none
  | _, _ => none
def xMethL (h : D → List D → Option RD) (fo : XE) (fa : XA) : XE := fun s => (fo s).bind fun (r, s1) => match getR s1 r with
  | some (.list d0) => (fa s1).bind fun (rs, s2) => (match getR s2 r, getRs s2 rs with
    | some (.list d), some ds => fin (h (.list d) ds) s2
    | _, _ => .bad)
  | _ => .bad
section
variable {K : PySem.W.Frag} {E : WX} {X : Cx} {G : En} {F F' : Hp} {T T' : List (Addr × D)} {s s' : S} {σ σ' : L2.St} {H H' : Hp} {v : V} {d : D} {ds : List D} {i : Nat} {r : R} {Q : VK}
section
variable {o e : Expr} {es : List Expr} {to : TE} {t : TA} {fo : XE} {fa : XA} {apos cpos : Pos}
end
end
end DL

namespace DL
open Evl (Ex)
open PySem PySem.Spec PyProof.Rows L2 PySem.W
section
variable {X : Cx}
end
end DL

namespace DL
open Evl (Ex)
open PySem PySem.Spec PyProof.Rows L2

/-! ### sets whose members are tuples, nested -/
/-- the tuple at b is the key k, which fits -/
structure Mem (h : Heap) (k : NK) (b : Addr) : Prop where
  is : NestedIs h k (.ref b)
  dp : k.depth ≤ 8
  nt : noTx k = true
section
variable {P : Program} {w : World}
/-- a question that answers b and changes nothing -/
def Says (P : Program) (w : World) (m : Sem Bool) (b : Bool) (s : Shared) : Prop := ∀ (A : Around) (E : Value → Shared → Prop) (Q : Bool → Shared → Prop), Q b s → wpAny (model P w) A m Q E s
mutual
theorem cls_key : ∀ (k : NK) (v : Value) (n : Nat) (s : Shared), NestedIs s.heap k v → k.depth ≤ n → Says P w (ofAClassStatement n v) false s
  | .none, _, n, s, x, _ => fun A E Q q => by
    cases x
    have e : ofAClassStatement n .none = pure false := by cases n <;> rfl
    rw [e]; exact wpAny_pure q
  | .num i, _, n, s, x, _ => fun A E Q q => by
    cases x with
    | int _ t =>
      have e : ofAClassStatement n (.int i t) = pure false := by cases n <;> rfl
      rw [e]; exact wpAny_pure q
    | @bool b _ z =>
      have e : ofAClassStatement n (.bool b) = pure false := by cases n <;> rfl
      rw [e]; exact wpAny_pure q
  | .text y, _, n, s, x, _ => fun A E Q q => by
    cases x with
    | text _ t =>
      have e : ofAClassStatement n (.str y t) = pure false := by cases n <;> rfl
      rw [e]; exact wpAny_pure q
  | .tup ks, _, 0, s, x, hn => by simp [NestedKey.depth] at hn
  | .tup ks, _, n + 1, s, x, hn => fun A E Q q => by
    cases x with
    | @tup a o vs m _ hg hc hd hk =>
      have all := cls_keys ks vs.toList n s hk (by simp only [NestedKey.depth] at hn; omega)
      unfold ofAClassStatement
      refine wpAny_bind (wpAny_typeOf (T := "tuple") ⟨o, hg, hc⟩ ?_)
      dsimp only
      rw [if_pos (show (("tuple" : String) == "tuple") = true by decide)]
      refine wpAny_bind (wpAny_pure ?_)
      simp only [Bool.not_true, Bool.false_eq_true, if_false]
      show wpAny _ _ (seqItems? (.ref a) >>= _) _ _ s
      refine wpAny_bind (wpAny_seqItems hg hd ?_)
      dsimp only
      refine wpAny_bind ?_
      show wpAny _ _ (forIn vs _ _) _ _ s
      rw [← Array.forIn_toList]
      refine wpAny_forIn_list _ (fun l r z => r.1 = none ∧ z = s ∧ ∀ v ∈ l, Says P w (ofAClassStatement n v) false s) _ ?_ ?_ _ _ ⟨rfl, rfl, all⟩
      · rintro v l r z ⟨hr, rfl, hl⟩
        refine wpAny_bind (hl v List.mem_cons_self _ _ _ ?_)
        simp only [Bool.false_eq_true, if_false]
        exact wpAny_pure ⟨rfl, rfl, fun u hu => hl u (List.mem_cons_of_mem _ hu)⟩
      · rintro ⟨r1, r2⟩ z ⟨hr, rfl, _⟩
        cases (show r1 = none from hr)
        exact wpAny_pure q
theorem cls_keys : ∀ (ks : List NK) (vs : List Value) (n : Nat) (s : Shared), NestedAll s.heap ks vs → NestedKey.depthAll ks ≤ n → ∀ v ∈ vs, Says P w (ofAClassStatement n v) false s
  | [], _, n, s, x, _, v, hv => by cases x; cases hv
  | k :: ks, _, n, s, x, hn, v, hv => by
    cases x with
    | cons x1 x2 =>
      simp only [NestedKey.depthAll] at hn
      rcases List.mem_cons.mp hv with e | hv
      · subst e; exact cls_key k _ n s x1 (by omega)
      · exact cls_keys ks _ n s x2 (by omega) v hv
end
mutual
theorem byv_key : ∀ (k : NK) (v : Value) (n : Nat) (s : Shared), NestedIs s.heap k v → k.depth ≤ n → noTx k = true → Says P w (hashByValue n v) true s
  | .none, _, n, s, x, _, _ => fun A E Q q => by
    cases x
    have e : hashByValue n .none = pure true := by cases n <;> rfl
    rw [e]; exact wpAny_pure q
  | .num i, _, n, s, x, _, _ => fun A E Q q => by
    cases x with
    | int _ t =>
      have e : hashByValue n (.int i t) = pure true := by cases n <;> rfl
      rw [e]; exact wpAny_pure q
    | @bool b _ z =>
      have e : hashByValue n (.bool b) = pure true := by cases n <;> rfl
      rw [e]; exact wpAny_pure q
  | .text y, _, n, s, x, _, ht => by cases ht
  | .tup ks, _, 0, s, x, hn, _ => by simp [NestedKey.depth] at hn
  | .tup ks, _, n + 1, s, x, hn, ht => fun A E Q q => by
    cases x with
    | @tup a o vs m _ hg hc hd hk =>
      have all := byv_keys ks vs.toList n s hk (by simp only [NestedKey.depth] at hn; omega) ht
      unfold hashByValue
      refine wpAny_bind (wpAny_specialOf (T := "tuple") ⟨o, hg, hc⟩ F.slot_tuple_hash.lookup ?_)
      show wpAny _ _ (seqItems? (.ref a) >>= _) _ _ s
      refine wpAny_bind (wpAny_seqItems hg hd ?_)
      refine wpAny_bind ?_
      show wpAny _ _ (forIn vs _ _) _ _ s
      rw [← Array.forIn_toList]
      refine wpAny_forIn_list _ (fun l r z => r.1 = none ∧ z = s ∧ ∀ v ∈ l, Says P w (hashByValue n v) true s) _ ?_ ?_ _ _ ⟨rfl, rfl, all⟩
      · rintro v l r z ⟨hr, rfl, hl⟩
        refine wpAny_bind (hl v List.mem_cons_self _ _ _ ?_)
        simp only [Bool.not_true, Bool.false_eq_true, if_false]
        exact wpAny_pure ⟨rfl, rfl, fun u hu => hl u (List.mem_cons_of_mem _ hu)⟩
      · rintro ⟨r1, r2⟩ z ⟨hr, rfl, _⟩
        cases (show r1 = none from hr)
        exact wpAny_pure q
theorem byv_keys : ∀ (ks : List NK) (vs : List Value) (n : Nat) (s : Shared), NestedAll s.heap ks vs → NestedKey.depthAll ks ≤ n → noTxs ks = true → ∀ v ∈ vs, Says P w (hashByValue n v) true s
  | [], _, n, s, x, _, _, v, hv => by cases x; cases hv
  | k :: ks, _, n, s, x, hn, ht, v, hv => by
    cases x with
    | cons x1 x2 =>
      simp only [NestedKey.depthAll] at hn
      obtain ⟨t1, t2⟩ := Bool.and_eq_true_iff.mp (show (noTx k && noTxs ks) = true from ht)
      rcases List.mem_cons.mp hv with e | hv
      · subst e; exact byv_key k _ n s x1 (by omega) t1
      · exact byv_keys ks _ n s x2 (by omega) t2 v hv
end
/-- a search among keys tells nothing -/
theorem unseen {s : Shared} {k : NK} {b : Addr} (x : Mem s.heap k b) {ys : List Value} (hy : ∀ y ∈ ys, ∃ j c, y = Value.ref c ∧ Mem s.heap j c) : Says P w (searchCouldBeSeen (.ref b) ys) false s := fun A E Q q => by
  unfold searchCouldBeSeen
  refine wpAny_bind ?_
  refine wpAny_forIn_list _ (fun l r z => r.1 = none ∧ z = s ∧ ∀ y ∈ l, ∃ j c, y = Value.ref c ∧ Mem s.heap j c) _ ?_ ?_ _ _ ⟨rfl, rfl, hy⟩
  · rintro v l r z ⟨hr, rfl, hl⟩
    obtain ⟨j, c, rfl, y⟩ := hl v List.mem_cons_self
    have nx : ∀ u ∈ l, ∃ j c, u = Value.ref c ∧ Mem z.heap j c := fun u hu => hl u (List.mem_cons_of_mem _ hu)
    dsimp only
    by_cases hv : (b == c || (carriedByValue (.ref b) && carriedByValue (.ref c))) = true
    · exact wp_if_pos hv (wpAny_pure ⟨rfl, rfl, nx⟩)
    · refine wp_if_neg hv ?_
      refine wpAny_bind (quiet_key k _ 8 _ x.is x.dp _ _ _ ?_)
      simp only [Bool.not_true, Bool.false_eq_true, if_false]
      refine wpAny_bind (quiet_key j _ 8 _ y.is y.dp _ _ _ ?_)
      simp only [Bool.not_true, Bool.false_eq_true, if_false]
      refine wpAny_bind (cls_key k _ 8 _ x.is x.dp _ _ _ ?_)
      simp only [Bool.false_eq_true, if_false]
      refine wpAny_bind (cls_key j _ 8 _ y.is y.dp _ _ _ ?_)
      simp only [Bool.false_eq_true, if_false]
      exact wpAny_pure ⟨rfl, rfl, nx⟩
  · rintro ⟨r1, r2⟩ z ⟨hr, rfl, _⟩
    cases (show r1 = none from hr)
    exact wpAny_pure q
end
end DL

namespace DL
open Evl (Ex)
open PySem PySem.Spec PyProof.Rows L2
/-! ### a set of keys -/
abbrev Ky := Addr × NK
def entN (w : World) (L : List Ky) : List (Int × Value) := L.map fun p => (p.2.hash w, Value.ref p.1)
def hsN (w : World) (L : List Ky) : List Int := L.map fun p => p.2.hash w
/-- what is true of the object alone -/
structure SetN (w : World) (h : Heap) (a : Addr) (L : List Ky) (es : Array (Int × Value)) (ep : Nat) (t : SetTable) : Prop where
  ob : ∃ o, h.get? a = some o ∧ o.ExactSet ∧ o.data = .set es ep t
  en : es.toList = entN w L
  tb : TabOk t (hsN w L)
  nd : (L.map (·.2)).Nodup
  pl : t.plain = true
  ld : w.params.followText "set-order" = true ∨ t.led = true
  rm : L.length * 5 < t.mask * 3
  fw : L.length < 64
section
variable {P : Program} {w : World} {A : Around} {E : Value → Shared → Prop} {s : Shared} {a : Addr} {L : List Ky} {es : Array (Int × Value)} {ep : Nat} {t : SetTable}
theorem SetN.sz (R : SetN w s.heap a L es ep t) : es.size = L.length := by
  rw [← Array.length_toList, R.en, entN, List.length_map]
theorem SetN.ft (R : SetN w s.heap a L es ep t) : t.fits es.size = true := by
  have h1 := R.tb.sz
  rw [hsN, List.length_map] at h1
  have h2 := R.sz
  have h3 := R.rm
  unfold SetTable.fits SetTable.fill
  rw [R.tb.dm]
  simp
  omega
theorem SetN.at_ (R : SetN w s.heap a L es ep t) {i : Nat} {p : Ky} (h : L[i]? = some p) : es[i]? = some (p.2.hash w, Value.ref p.1) := by
  rw [← Array.getElem?_toList, R.en, entN, List.getElem?_map, h]; rfl
theorem SetN.hs (R : SetN w s.heap a L es ep t) {i : Nat} {p : Ky} (h : L[i]? = some p) : (es[i]?.map (·.1)).getD 0 = p.2.hash w := by
  rw [R.at_ h]; rfl
/-- the c-th step of the way of a hash -/
abbrev stp (t : SetTable) (h : Int) (c : Nat) : SetTable.Probe := nth t.mask (runAt t.mask (SetTable.bits h % (t.mask + 1)) (SetTable.bits h)) c
theorem stp_add (t : SetTable) (h : Int) (c q : Nat) : nth t.mask (stp t h c) q = stp t h (c + q) := (nth_add t.mask c _ q).symm
theorem stp_j (t : SetTable) (h : Int) (c q : Nat) : (nth t.mask (stp t h c) q).j = way t.mask h (c + q) := by rw [stp_add]
theorem stp_clean (t : SetTable) (h : Int) (c : Nat) : (stp t h c).dummy = none := by
  induction c with
  | zero => rfl
  | succ c ih =>
    show (nth t.mask _ (c + 1)).dummy = none
    rw [nth_succ]
    unfold adv
    split <;> exact ih
/-- where a member sits on the way from the c-th step on -/
def Ahead (w : World) (L : List Ky) (t : SetTable) (k : NK) (c K : Nat) : Prop := ∀ (i : Nat) (p : Ky), L[i]? = some p → p.2 = k → ∃ q, c ≤ q ∧ q < K ∧ t.place.toList[i]? = some (way t.mask (k.hash w) q)
theorem look_from (R : SetN w s.heap a L es ep t) (mem : ∀ p ∈ L, Mem s.heap p.2 p.1) {x : Addr} {k : NK} (hx : Mem s.heap k x) (hu : A.units + 8 < cLine) {K : Nat} (hf : K < 10 * SetTable.turns t.mask)
    (hK : way t.mask (k.hash w) K ∉ t.place.toList) (hb : ∀ c, c < K → way t.mask (k.hash w) c ∈ t.place.toList) {Q : SetFound → Shared → Prop}
    (yes : k ∈ L.map (·.2) → Q (.there none) s) (no : k ∉ L.map (·.2) → Q (.free (way t.mask (k.hash w) K) false) s) :
    ∀ (n f c : Nat) (st : Option SetTable.Probe), K = c + n → n < f → st.getD (t.probeStart (k.hash w)) = stp t (k.hash w) c → Ahead w L t k c K → wpAny (model P w) A (setSearchFrom a (.ref x) (k.hash w) true f st) Q E s := by
  intro n
  induction n using Nat.strongRecOn with
  | ind n ih =>
  intro f c st hKc hnf hst hA
  cases f with
  | zero => exact absurd hnf (Nat.not_lt_zero _)
  | succ f =>
  obtain ⟨o, ho, hex, hd⟩ := R.ob
  have gw : ¬ t.gaveWay = true := by
    unfold SetTable.gaveWay
    rw [mask_odd R.tb.mok]
    decide
  rw [setSearchFrom_succ]
  refine wpAny_bind (wpAny_setState_of ho hd R.ft ?_)
  dsimp only
  refine wp_if_neg gw ?_
  try refine wpAny_bind (wpAny_pure ?_)
  have spec := go_spec t R.tb.ris R.tb.dm (fun i => (es[i]?.map (·.1)).getD 0) (k.hash w) (10 * SetTable.turns t.mask) n (stp t (k.hash w) c) (stp_clean t _ c) (by omega)
    (fun q hq => by rw [stp_j]; exact hb _ (by omega)) (by rw [stp_j, ← hKc]; exact hK)
  rcases spec with ⟨q, i, hq, hi, hh, before, hp⟩ | ⟨none_, hp⟩
  · rw [stp_j] at hi hp
    rw [stp_add] at hp
    have hp' : t.probe (fun i => (es[i]?.map (·.1)).getD 0) (k.hash w) (st.getD (t.probeStart (k.hash w))) = some (.candidate (way t.mask (k.hash w) (c + q)) i (stp t (k.hash w) (c + (q + 1)))) := by rw [hst]; exact hp
    rw [hp']
    dsimp only
    have hil : i < L.length := by
      have h1 := (List.getElem?_eq_some_iff.mp hi).1
      have h2 := R.tb.sz
      rw [hsN, List.length_map] at h2
      rw [Array.length_toList] at h1
      omega
    obtain ⟨p, hpi⟩ : ∃ p, L[i]? = some p := ⟨_, List.getElem?_eq_getElem hil⟩
    have hpm := List.mem_of_getElem? hpi
    have mp := mem p hpm
    have sl := slot_live R.tb.ris hi
    have rest : wpAny (model P w) A (searchRest a (.ref x) (k.hash w) true f es t (way t.mask (k.hash w) (c + q)) i (stp t (k.hash w) (c + (q + 1)))) Q E s := by
      unfold searchRest
      rw [R.at_ hpi]
      dsimp only
      refine wpAny_bind (wpAny_holding ((nestedKind P w).eqBool (x := p.2) (y := k) hu ⟨mp.is, mp.dp⟩ ⟨hx.is, hx.dp⟩ ?_))
      refine wpAny_bind (wpAny_setState_of ho hd R.ft ?_)
      dsimp only
      by_cases e : p.2 = k
      · refine wp_if_pos (by simp [e]) (wpAny_pure (yes (List.mem_map.mpr ⟨p, hpm, e⟩)))
      · refine wp_if_neg (by simp [e]) ?_
        try refine wpAny_bind (wpAny_pure ?_)
        have same : t.sameMemory t.moves t.mask = some true := by
          unfold SetTable.sameMemory
          rw [if_pos (beq_self_eq_true _)]
        rw [same]
        dsimp only
        simp only [if_true, sl, R.at_ hpi]
        refine wpAny_bind (wpAny_isSame_ref_self (wpAny_bind (wpAny_pure ?_)))
        simp only [if_true]
        refine wp_if_neg (by simp [e]) ?_
        refine ih (n - (q + 1)) (by omega) f (c + (q + 1)) _ (by omega) (by omega) rfl fun i2 p2 h2 e2 => ?_
        obtain ⟨r, b1, b2, b3⟩ := hA i2 p2 h2 e2
        refine ⟨r, ?_, b2, b3⟩
        have hne : ¬ (r < c + q) := fun z => by
          refine before (r - c) i2 (by omega) (by rw [stp_j, show c + (r - c) = r by omega]; exact b3) ?_
          rw [← e2]; exact R.hs h2
        have hne2 : r ≠ c + q := fun z => by
          subst z
          have s0 := slot_live R.tb.ris b3
          rw [sl] at s0
          injection s0 with s0
          rw [← s0, hpi] at h2
          cases h2
          exact e e2
        omega
    by_cases hl : t.led = true
    · refine wp_if_neg (by simp [hl]) ?_
      try refine wpAny_bind (wpAny_pure ?_)
      exact rest
    · refine wp_if_pos (by simp [hl]) ?_
      refine wpAny_bind (unseen hx (fun y hy => ?_) _ _ _ ?_)
      · obtain ⟨e, he, rfl⟩ := List.mem_map.mp hy
        have h2 : e ∈ es.toList := by
          have h1 : e ∈ es ∧ (e.1 == k.hash w) = true := by simpa using he
          simpa using h1.1
        rw [R.en, entN] at h2
        obtain ⟨p2, m2, rfl⟩ := List.mem_map.mp h2
        exact ⟨p2.2, p2.1, rfl, mem p2 m2⟩
      · refine wp_if_neg (by decide) ?_
        try refine wpAny_bind (wpAny_pure ?_)
        exact rest
  · rw [stp_j, ← hKc] at hp
    have hp' : t.probe (fun i => (es[i]?.map (·.1)).getD 0) (k.hash w) (st.getD (t.probeStart (k.hash w))) = some (.empty (way t.mask (k.hash w) K) none) := by rw [hst]; exact hp
    rw [hp']
    dsimp only
    refine wpAny_pure (no fun hm => ?_)
    obtain ⟨p0, m0, e0⟩ := List.mem_map.mp hm
    obtain ⟨i0, hi0⟩ := List.mem_iff_getElem?.mp m0
    obtain ⟨r, b1, b2, b3⟩ := hA i0 p0 hi0 e0
    refine none_ (r - c) i0 (by omega) (by rw [stp_j, show c + (r - c) = r by omega]; exact b3) ?_
    rw [← e0]; exact R.hs hi0
theorem look (R : SetN w s.heap a L es ep t) (mem : ∀ p ∈ L, Mem s.heap p.2 p.1) {x : Addr} {k : NK} (hx : Mem s.heap k x) (hu : A.units + 8 < cLine) {Q : SetFound → Shared → Prop}
    (yes : k ∈ L.map (·.2) → Q (.there none) s) (no : ∀ K, k ∉ L.map (·.2) → way t.mask (k.hash w) K ∉ t.place.toList → (∀ c, c < K → way t.mask (k.hash w) c ∈ t.place.toList) → Q (.free (way t.mask (k.hash w) K) false) s) :
    wpAny (model P w) A (setSearch a (.ref x) (k.hash w) true) Q E s := by
  have rm := R.rm
  have ls : (hsN w L).length = L.length := List.length_map _
  obtain ⟨K, hf, hK, hb⟩ := R.tb.first (by rw [ls]; omega) (k.hash w)
  have few : 10 * SetTable.turns t.mask ≤ 1420 := by
    unfold SetTable.turns
    rcases R.tb.mok with e | e | e <;> omega
  unfold setSearch
  refine look_from R mem hx hu hf hK hb yes (fun n => no K n hK hb) K 100000 0 none (Nat.zero_add K).symm (by omega) rfl fun i p hp e => ?_
  have hi : (hsN w L)[i]? = some (k.hash w) := by rw [hsN, List.getElem?_map, hp, ← e]; rfl
  have hil : i < t.place.toList.length := by
    have h1 := (List.getElem?_eq_some_iff.mp hp).1
    have h2 := R.tb.sz
    rw [Array.length_toList]
    omega
  obtain ⟨c, hc, e2⟩ := R.tb.before hK hi (List.getElem?_eq_getElem hil)
  exact ⟨c, Nat.zero_le _, hc, by rw [List.getElem?_eq_getElem hil, e2]⟩
end
end DL

namespace DL
open Evl (Ex)
open PySem PySem.Spec PyProof.Rows L2
section
variable {P : Program} {w : World} {A : Around} {E : Value → Shared → Prop} {s : Shared} {a : Addr} {L : List Ky} {es : Array (Int × Value)} {ep : Nat} {t : SetTable}
theorem Mem.kept {h h' : Heap} {k : NK} {b : Addr} (x : Mem h k b) (q : ∀ c o v n, h.get? c = some o → o.data = .seq v n → h'.get? c = some o) : Mem h' k b :=
  ⟨x.is.at q _ _, x.dp, x.nt⟩
/-- a set that changes is no tuple -/
theorem Mem.beside {h h' : Heap} {k : NK} {b : Addr} {o : Obj} (x : Mem h k b) (ho : h.get? a = some o) (hd : o.data = .set es ep t) (sb : Heap.SameBut a h h') : Mem h' k b :=
  x.kept fun c u v n e hv => by
    have hne : c ≠ a := fun z => by
      subst z
      rw [ho] at e
      cases e
      rw [hd] at hv
      cases hv
    exact (sb.2 c hne).trans e
/-- the entries in a new sequence -/
theorem entN_pick (L : List Ky) (es : Array (Int × Value)) (hr : es.toList = entN w L) : ∀ is : List Nat, (∀ i ∈ is, i < L.length) →
    is.filterMap (fun i => es[i]?) = entN w (is.filterMap fun i => L[i]?) ∧ hsN w (is.filterMap fun i => L[i]?) = is.map fun i => (es.map (·.1)).getD i 0
  | [], _ => ⟨rfl, rfl⟩
  | i :: is, h => by
    obtain ⟨h1, h2⟩ := entN_pick L es hr is fun j hj => h j (List.mem_cons_of_mem _ hj)
    have hi := h i List.mem_cons_self
    have e1 : L[i]? = some L[i] := List.getElem?_eq_getElem hi
    have e2 : es[i]? = some (L[i].2.hash w, Value.ref L[i].1) := by
      rw [← Array.getElem?_toList, hr, entN, List.getElem?_map, e1]; rfl
    refine ⟨?_, ?_⟩
    · rw [List.filterMap_cons_some e2, List.filterMap_cons_some e1, h1]; rfl
    · rw [List.filterMap_cons_some e1, List.map_cons, ← h2]
      have e3 : (es.map (·.1))[i]? = some (L[i].2.hash w) := by rw [Array.getElem?_map, e2]; rfl
      show _ :: _ = _
      rw [show (es.map (·.1)).getD i 0 = L[i].2.hash w by simp [Array.getD_eq_getD_getElem?, e3]]
      rfl
theorem pick_all {α : Type} (L : List α) : ∀ n, n ≤ L.length → (List.range n).filterMap (fun i => L[i]?) = L.take n
  | 0, _ => rfl
  | n + 1, h => by
    have hn : n < L.length := h
    rw [List.range_succ, List.filterMap_append, pick_all L n (Nat.le_of_lt hn), List.take_succ, List.getElem?_eq_getElem hn, List.filterMap_cons_some (List.getElem?_eq_getElem hn)]
    rfl
theorem laid_anew {o : Obj} (ho : s.heap.get? a = some o) (hex : o.ExactSet) (hd : o.data = .set es ep t) (hr : es.toList = entN w L) (hf : t.fits es.size = true) (nd : (L.map (·.2)).Nodup) (pl : t.plain = true)
    (ld : w.params.followText "set-order" = true ∨ t.led = true) (fw : L.length < 64) {wn M : Nat} (h1 : SetTable.sizeAbove wn - 1 = M) (h2 : MaskOk M) (h3 : SetTable.sizeAbove wn ≤ 128) (h4 : L.length * 5 < M * 3) {Q : Unit → Shared → Prop}
    (q : ∀ h' L' es' ep' t', Heap.SameBut a s.heap h' → SetN w h' a L' es' ep' t' → L'.Perm L → Q () { s with heap := h' }) : wpAny (model P w) A (setRelay a wn) Q E s := by
  have hz : es.size = L.length := by rw [← Array.length_toList, hr, entN, List.length_map]
  obtain ⟨t', od, e, hp, T, em, el, ek, _⟩ := relaid_ok t (hs := es.map (·.1)) (wanted := wn) h1 h2 (by rw [Array.size_map, hz]; omega)
  rw [Array.size_map, hz] at hp
  obtain ⟨p1, p2⟩ := entN_pick L es hr od.toList fun i hi => List.mem_range.mp (hp.mem_iff.mp hi)
  have pm : (od.toList.filterMap fun i => L[i]?).Perm L := by
    have z := hp.filterMap fun i => L[i]?
    rwa [pick_all L _ (Nat.le_refl _), List.take_length] at z
  have hl : (od.filterMap (es[·]?)).toList = entN w (od.toList.filterMap fun i => L[i]?) := by rw [Array.toList_filterMap]; exact p1
  have hz2 : (od.filterMap (es[·]?)).size = es.size := by rw [← Array.length_toList, hl, entN, List.length_map, pm.length_eq, hz]
  rw [← p2] at T
  rw [setRelay_eq]
  refine wpAny_bind (wpAny_setState_of ho hd hf ?_)
  dsimp only
  refine wp_if_neg (by rw [sizeLine_eq]; omega) ?_
  try refine wpAny_bind (wpAny_pure ?_)
  rw [e]
  dsimp only
  refine wpAny_bind ?_
  refine wp_if_neg (by rw [hz2]; simp) ?_
  try refine wpAny_bind (wpAny_pure ?_)
  refine wpAny_pure ?_
  dsimp only
  refine wpAny_storeSet_of ho hd ?_ (by rw [hz2, hz, sizeLine_eq]; omega)
  refine q _ _ _ _ _ (Heap.SameBut.update s.heap a (Obj.putSet (od.filterMap (es[·]?)) t')) ⟨⟨_, store_at ho hd, ⟨hex.1, hex.2.1, hex.2.2⟩, rfl⟩, hl, T, (pm.map (·.2)).nodup_iff.mpr nd, by rw [ek]; exact pl, by rw [el]; exact ld, ?_, ?_⟩ pm
  · rw [pm.length_eq, em]; exact h4
  · rw [pm.length_eq]; exact fw
theorem SetN.add (R : SetN w s.heap a L es ep t) (mem : ∀ p ∈ L, Mem s.heap p.2 p.1) {x : Addr} {k : NK} (hx : Mem s.heap k x) (hu : A.units + 8 < cLine) (room : L.length + 1 < 64) {Q : Bool → Shared → Prop}
    (old : k ∈ L.map (·.2) → Q false s) (new : k ∉ L.map (·.2) → ∀ h' L' es' ep' t', Heap.SameBut a s.heap h' → SetN w h' a L' es' ep' t' → L'.Perm ((x, k) :: L) → Q true { s with heap := h' }) :
    wpAny (model P w) A (setAddHashed a (.ref x) (k.hash w)) Q E s := by
  obtain ⟨o, ho, hex, hd⟩ := R.ob
  have hz := R.sz
  have rm := R.rm
  have lh : (hsN w L).length = L.length := List.length_map _
  unfold setAddHashed
  refine wpAny_holding ?_
  rw [show (100000 : Nat) = 99999 + 1 from rfl, setAddHashedIn_succ]
  refine wpAny_bind (wpAny_setState_of ho hd R.ft ?_)
  dsimp only
  refine wp_if_neg (by simp [byScan, Value.scannable]) ?_
  try refine wpAny_bind (wpAny_pure ?_)
  refine wpAny_bind (look R mem hx hu (fun hm => wpAny_pure (old hm)) fun K hm hK hb => ?_)
  dsimp only
  refine wpAny_bind (wpAny_setState_of ho hd R.ft ?_)
  dsimp only
  obtain ⟨e1, e2, T1, e4, e5, e6, _, _, e9⟩ := R.tb.put hK hb
  generalize way t.mask (k.hash w) K = j at e1 e2 T1 e4 e5 e6 e9 ⊢
  have f1 : (t.put j).1.plain = true := by rw [e6]; exact R.pl
  obtain ⟨p, hp⟩ : ∃ p, p = SetTable.below t.place j := ⟨_, rfl⟩
  rw [← hp] at e1 e2 T1
  generalize hpt : t.put j = pt at e1 T1 e4 e5 e6 e9 f1 ⊢
  obtain ⟨t1, p'⟩ := pt
  dsimp only at e1 T1 e4 e5 e6 e9 f1 ⊢
  subst e1
  refine wp_if_pos f1 (wpAny_bind (byv_key k _ 8 _ hx.is hx.dp hx.nt _ _ _ ?_))
  simp only [if_true]
  have pmL : (L.take p' ++ (x, k) :: L.drop p').Perm ((x, k) :: L) := by
    have z : (L.take p' ++ (x, k) :: L.drop p').Perm ((x, k) :: (L.take p' ++ L.drop p')) := List.perm_middle
    rwa [List.take_append_drop] at z
  have enL : (SetTable.insertAt es p' (k.hash w, Value.ref x)).toList = entN w (L.take p' ++ (x, k) :: L.drop p') := by
    rw [SetTable.toList_insertAt, R.en]
    unfold entN
    rw [List.map_append, List.map_cons, List.map_take, List.map_drop]
  have hsL : hsN w (L.take p' ++ (x, k) :: L.drop p') = (hsN w L).take p' ++ k.hash w :: (hsN w L).drop p' := by
    unfold hsN
    rw [List.map_append, List.map_cons, List.map_take, List.map_drop]
  rw [← hsL] at T1
  generalize SetTable.insertAt es p' (k.hash w, Value.ref x) = es1 at enL ⊢
  generalize L.take p' ++ (x, k) :: L.drop p' = L1 at pmL enL T1
  have l1 : L1.length = L.length + 1 := pmL.length_eq
  have z1 : es1.size = L.length + 1 := by rw [← Array.length_toList, enL, entN, List.length_map, l1]
  have nd1 : (L1.map (·.2)).Nodup := (pmL.map (·.2)).nodup_iff.mpr (List.nodup_cons.mpr ⟨hm, R.nd⟩)
  have ld1 : w.params.followText "set-order" = true ∨ t1.led = true := by rw [e5]; exact R.ld
  refine wpAny_bind (wpAny_storeSet_of ho hd ?_ (by rw [z1, sizeLine_eq]; omega))
  have sb : Heap.SameBut a s.heap (s.heap.update a (Obj.putSet es1 t1)) := Heap.SameBut.update ..
  have ho1 := store_at (es' := es1) (t' := t1) ho hd
  generalize s.heap.update a (Obj.putSet es1 t1) = h1 at sb ho1 ⊢
  by_cases hf : t1.tooFull = true
  · have full : (L.length + 1) * 5 ≥ t1.mask * 3 := by
      have z := hf
      unfold SetTable.tooFull at z
      rwa [decide_eq_true_eq, e9, lh] at z
    have fits1 : t1.fits es1.size = true := by
      have h1' := T1.sz
      rw [hsN, List.length_map, l1] at h1'
      unfold SetTable.fits SetTable.fill
      rw [T1.dm]
      simp
      rcases R.tb.mok with e | e | e <;> omega
    have go : ∀ M, SetTable.sizeAbove (SetTable.grown (L.length + 1)) - 1 = M → MaskOk M → SetTable.sizeAbove (SetTable.grown (L.length + 1)) ≤ 128 → (L.length + 1) * 5 < M * 3 →
        wpAny (model P w) A (setRelay a (SetTable.grown (L.length + 1))) (fun _ z => wpAny (model P w) A (pure true) Q E z) E { s with heap := h1 } := fun M q1 q2 q3 q4 => by
      refine laid_anew (s := { s with heap := h1 }) ho1 ⟨hex.1, hex.2.1, hex.2.2⟩ rfl enL fits1 nd1 f1 ld1 (by rw [l1]; exact room) q1 q2 q3 (by rw [l1]; exact q4) ?_
      intro h2 L2' es2 ep2 t2 sb2 R2 pm2
      exact wpAny_pure (new hm h2 L2' es2 ep2 t2 (sb.trans sb2) R2 (pm2.trans pmL))
    rw [hz]
    refine wp_if_pos (by simp [hf]) (wpAny_bind ?_)
    have two : L.length = 4 ∨ L.length = 18 := by rcases R.tb.mok with e | e | e <;> omega
    rcases two with e | e
    · exact go 31 (by rw [e]; decide +kernel) (.inr (.inl rfl)) (by rw [e]; decide +kernel) (by omega)
    · exact go 127 (by rw [e]; decide +kernel) (.inr (.inr rfl)) (by rw [e]; decide +kernel) (by omega)
  · refine wp_if_neg (by simp [hf]) ?_
    refine wpAny_pure (new hm h1 L1 es1 (ep + 1) t1 sb ⟨⟨_, ho1, ⟨hex.1, hex.2.1, hex.2.2⟩, rfl⟩, enL, T1, nd1, f1, ld1, ?_, by rw [l1]; exact room⟩ pmL)
    have z := hf
    unfold SetTable.tooFull at z
    rw [decide_eq_true_eq, e9, lh] at z
    rw [l1]
    omega
/-- s.add(x) -/
theorem SetN.call (R : SetN w s.heap a L es ep t) (mem : ∀ p ∈ L, Mem s.heap p.2 p.1) {x : Addr} {k : NK} (hx : Mem s.heap k x) (hu : A.units + 32 < cLine) (room : L.length + 1 < 64) {Q : Value → Shared → Prop}
    (old : k ∈ L.map (·.2) → ∀ tk, Q .none { s with toks := tk }) (new : k ∉ L.map (·.2) → ∀ h' L' es' ep' t' tk, Heap.SameBut a s.heap h' → SetN w h' a L' es' ep' t' → L'.Perm ((x, k) :: L) → Q .none { s with heap := h', toks := tk }) :
    wpAny (model P w) A (call (.builtin "set.add") [.ref a, .ref x]) Q E s := by
  obtain ⟨o, ho, hex, hd⟩ := id R.ob
  refine wpAny_call_entry F.slot_set_add ⟨o, ho, hex.1⟩ F.entry_set_add ?_ (F.args_set_add_2 _ _)
  unfold Builtin.«set.add» Builtin.Frozenset.oneOther
  simp only [List.isEmpty_nil, bind_assoc]
  unfold Builtin.Frozenset.addrOf setAdd
  refine wpAny_bind (wpAny_pure ?_)
  try dsimp only
  refine wpAny_bind (wpAny_pure ?_)
  try dsimp only
  refine wpAny_bind (wpAny_holding ?_)
  have dp := hx.dp
  refine wpAny_bind (pyHash_key k _ _ _ _ hx.is (by first | (simp only [Around.in1_units]; omega) | omega) ?_)
  refine SetN.add (s := { s with toks := s.toks + k.draws }) R mem hx (by first | (simp only [Around.in1_units]; omega) | omega) room (fun hm => ?_) fun hm h' L' es' ep' t' sb R' pm => ?_
  · exact wpAny_pure ⟨_, rfl, old hm _⟩
  · exact wpAny_pure ⟨_, rfl, new hm h' L' es' ep' t' _ sb R' pm⟩
theorem SetN.fresh {h : Heap} (ho : h.get? a = some { cls := .type "set", dict := none, data := .set #[] 0 (.fresh 0 0 (!w.params.followText "set-order")) }) : SetN w h a [] #[] 0 (.fresh 0 0 (!w.params.followText "set-order")) := by
  refine ⟨⟨_, ho, ⟨rfl, rfl, rfl⟩, rfl⟩, rfl, ⟨List.Pairwise.nil, rfl, rfl, .inl rfl, fun x hx => (by cases hx), fun i h j hi => (by cases hi)⟩, List.nodup_nil, rfl, ?_, (by show 0 * 5 < 7 * 3; decide), (by show 0 < 64; decide)⟩
  show _ ∨ (!w.params.followText "set-order") = true
  cases w.params.followText "set-order"
  · exact .inr rfl
  · exact .inl rfl
end
end DL

namespace DL
open Evl (Ex)
open PySem PySem.Spec PyProof.Rows L2
/-! ### {e for x in xs if t}: a set of keys -/
section
variable {X : Cx}
end
end DL

namespace DL
open Evl (Ex)
open PySem PySem.Spec PyProof.Rows L2 PySem.W
/-! ### sorted(a set of keys) -/
mutual
theorem data_inj : ∀ (k j : NK), k.data = j.data → k = j
  | .none, j, e => by cases j <;> first | rfl | (simp [NestedKey.data] at e)
  | .num i, j, e => by cases j <;> simp [NestedKey.data] at e; rw [e]
  | .text i, j, e => by cases j <;> simp [NestedKey.data] at e; rw [e]
  | .tup ks, j, e => by
    cases j with
    | tup js => rw [datas_inj ks js (by simpa [NestedKey.data] using e)]
    | _ => simp [NestedKey.data] at e
theorem datas_inj : ∀ (ks js : List NK), NestedKey.datas ks = NestedKey.datas js → ks = js
  | [], [], _ => rfl
  | [], _ :: _, e => by simp [NestedKey.datas] at e
  | _ :: _, [], e => by simp [NestedKey.datas] at e
  | k :: ks, j :: js, e => by
    simp only [NestedKey.datas, List.cons.injEq] at e
    rw [data_inj k j e.1, datas_inj ks js e.2]
end
section
variable {X : Cx}
end
end DL

namespace DL
open Evl (Ex)
open PySem PySem.Spec PyProof.Rows L2 PySem.W
/-! ### sorted({e for x in xs if t}) in the data layer -/
def SetSorted (ds out : List D) : Prop := ∃ ks M : List NK, ds = ks.map NestedKey.data ∧ (∀ k ∈ ks, goodK k) ∧ M.Nodup ∧ (∀ k, k ∈ M ↔ k ∈ ks) ∧ M.length + 1 < 64 ∧ sortOk (M.map NestedKey.data) = true ∧ ∀ M' : List NK, M'.Perm M → (M'.map NestedKey.data).mergeSort leD = out
theorem map_data_inj : ∀ {ks js : List NK}, ks.map NestedKey.data = js.map NestedKey.data → ks = js
  | [], [], _ => rfl
  | [], _ :: _, e => by cases e
  | _ :: _, [], e => by cases e
  | k :: ks, j :: js, e => by
    rw [List.map_cons, List.map_cons, List.cons.injEq] at e
    rw [data_inj k j e.1, map_data_inj e.2]
theorem SetSorted.one {ds a b : List D} (h : SetSorted ds a) (h' : SetSorted ds b) : a = b := by
  obtain ⟨ks, M, e1, _, n1, m1, _, _, s1⟩ := h
  obtain ⟨js, N, e2, _, n2, m2, _, _, s2⟩ := h'
  have e : ks = js := map_data_inj (e1.symm.trans e2)
  subst e
  have pm : M.Perm N := (List.perm_ext_iff_of_nodup n1 n2).mpr fun k => (m1 k).trans (m2 k).symm
  exact (s1 M (.refl _)).symm.trans (s2 M pm)
theorem nk_nodup_len : ∀ (l M : List NK), l.Nodup → (∀ k ∈ l, k ∈ M) → l.length ≤ M.length
  | [], _, _, _ => Nat.zero_le _
  | k :: l, M, hn, hs => by
    obtain ⟨h1, h2⟩ := List.nodup_cons.mp hn
    have hk := hs k List.mem_cons_self
    have ih := nk_nodup_len l (M.erase k) h2 fun j hj => (List.mem_erase_of_ne (fun e => h1 (by rw [← e]; exact hj))).2 (hs j (List.mem_cons_of_mem _ hj))
    have e := List.length_erase_of_mem hk
    have := List.length_pos_of_mem hk
    rw [List.length_cons]
    omega
section
variable {K : PySem.W.Frag} {E : WX} {X : Cx} {G : En} {F F' : Hp} {T T' : List (Addr × D)} {s s' : S} {σ σ' : L2.St} {H H' : Hp} {v : V} {d : D} {ds : List D} {i : Nat} {r : R} {Q : VK}
/-! an object beside what the state tracks -/
structure Beside (G : En) (F : Hp) (Dd : Addr) : Prop where
  he : G.He Dd = none
  io : Dd ∉ G.io
  nf : F Dd = none
/-- nothing of one's own stands at Dd -/
def NoOwn (s : S) (σ : L2.St) (T : List (Addr × D)) (Dd : Addr) : Prop := (∀ i k d, getS s i = some (.own k d) → σ[i]? ≠ some (some (.ref Dd))) ∧ ∀ q ∈ T, q.1 ≠ Dd
theorem SR.other {Dd : Addr} {o' : HO} (h : SR K G F T s σ H) (b : Beside G F Dd) (no : NoOwn s σ T Dd) : SR K G F T s σ (upd H Dd o') := by
  have ow : ∀ {k p d}, p ≠ Dd → Ow K G k F H p d → Ow K G k F (upd H Dd o') p d := fun {k p d} ne q => ⟨q.at_.heap (upd_ne ne), q.nf, q.ne⟩
  refine ⟨fun a u q => ?_, h.fe, h.gr, fun a u q m => ?_, fun a ha => ?_, h.sl, fun i k d q => ?_, h.di, h.tn, fun p hp => ow (no.2 p hp) (h.tt p hp), h.len⟩
  · rw [upd_ne (fun e => by rw [e, b.nf] at q; cases q)]; exact h.fh a u q
  · rw [upd_ne (fun e => by rw [e, b.he] at q; cases q)]; exact h.kp a u q m
  · rw [upd_ne (fun e => b.io (by rw [← e]; exact ha))]; exact h.ioh a ha
  · obtain ⟨p, a, c, d'⟩ := h.ow i k d q
    exact ⟨p, a, ow (fun e => no.1 i k d q (by rw [← e]; exact a)) c, d'⟩
/-! a key as it stands -/
/-- what the set holds, what was put in -/
structure Holds (K : PySem.W.Frag) (F : Hp) (L : List Ky) (acc : List D) : Prop where
  rp : ∀ p ∈ L, Rp K F (.ref p.1) p.2.data
  sub : ∀ p ∈ L, p.2.data ∈ acc
  all : ∀ d ∈ acc, ∃ p ∈ L, p.2.data = d
  nd : (L.map (·.2)).Nodup
theorem Holds.ex {L : List Ky} {acc : List D} (h : Holds K F L acc) (e : Ex F F') : Holds K F' L acc := ⟨fun p hp => Rp.mono e (h.rp p hp), h.sub, h.all, h.nd⟩
theorem Holds.len {L : List Ky} {acc : List D} {M : List NK} {ks : List NK} (h : Holds K F L acc) (hm : ∀ d ∈ acc, d ∈ ks.map NestedKey.data) (m : ∀ k, k ∈ M ↔ k ∈ ks) : L.length ≤ M.length := by
  have sub : ∀ k ∈ L.map (·.2), k ∈ M := fun k hk => by
    obtain ⟨p, hp, rfl⟩ := List.mem_map.mp hk
    obtain ⟨j, hj, e⟩ := List.mem_map.mp (hm _ (h.sub p hp))
    rw [← data_inj _ _ e]
    exact (m j).mpr hj
  have q := nk_nodup_len _ _ h.nd sub
  rwa [List.length_map] at q
end
end DL

namespace DL
open Evl (Ex)
open PySem PySem.Spec PyProof.Rows L2 PySem.W
section
variable {K : PySem.W.Frag} {E : WX} {X : Cx} {G : En} {F F' : Hp} {T T' : List (Addr × D)} {s s' : S} {σ σ' : L2.St} {H H' : Hp} {v : V} {d : D} {ds : List D} {i : Nat} {r : R} {Q : VK}
/-! ### is True, is not True -/
end
end DL

namespace DL
open Evl (Ex)
open PySem PySem.Spec PyProof.Rows L2 PySem.W
/-! ### dicts whose keys are whole numbers or texts -/
abbrev KvD := List (Key × D)
def valD (ks : KvD) (k : Key) : Option D := (ks.find? fun p => decide (p.1 = k)).map (·.2)
def putD (ks : KvD) (k : Key) (v : D) : KvD := if (ks.any fun p => decide (p.1 = k)) = true then ks.map (fun p => if p.1 = k then (p.1, v) else p) else ks ++ [(k, v)]
inductive RK (K : PySem.W.Frag) (F : Hp) : List (Key × V) → KvD → Prop
  | nil : RK K F [] []
  | cons {k : Key} {v : V} {d : D} {kvs : List (Key × V)} {ks : KvD} : Rp K F v d → RK K F kvs ks → RK K F ((k, v) :: kvs) ((k, d) :: ks)
section
variable {K : PySem.W.Frag} {F F' : Hp} {kvs : List (Key × V)} {ks : KvD} {k : Key} {v : V} {d : D}
theorem RK.ex (h : RK K F kvs ks) (e : Ex F F') : RK K F' kvs ks := by
  induction h with
  | nil => exact .nil
  | cons a _ ih => exact .cons (Rp.mono e a) ih
theorem RK.len (h : RK K F kvs ks) : kvs.length = ks.length := by
  induction h with
  | nil => rfl
  | cons a _ ih => rw [List.length_cons, List.length_cons, ih]
theorem RK.any (h : RK K F kvs ks) (k : Key) : (kvs.any fun p => decide (p.1 = k)) = ks.any fun p => decide (p.1 = k) := by
  induction h with
  | nil => rfl
  | cons a _ ih => rw [List.any_cons, List.any_cons, ih]
theorem RK.snoc (h : RK K F kvs ks) (r : Rp K F v d) : RK K F (kvs ++ [(k, v)]) (ks ++ [(k, d)]) := by
  induction h with
  | nil => exact .cons r .nil
  | cons a _ ih => exact .cons a ih
theorem RK.upd (h : RK K F kvs ks) (r : Rp K F v d) : RK K F (kvs.map fun p => if p.1 = k then (p.1, v) else p) (ks.map fun p => if p.1 = k then (p.1, d) else p) := by
  induction h with
  | nil => exact .nil
  | @cons k' v' d' kvs ks a _ ih =>
    rw [List.map_cons, List.map_cons]
    by_cases e : k' = k
    · rw [if_pos e, if_pos e]; exact .cons r ih
    · rw [if_neg e, if_neg e]; exact .cons a ih
theorem RK.put (h : RK K F kvs ks) (r : Rp K F v d) : RK K F (putK kvs k v) (putD ks k d) := by
  unfold putK putD
  rw [h.any k]
  split
  · exact h.upd r
  · exact h.snoc r
theorem RK.val (h : RK K F kvs ks) (e : valD ks k = some d) : ∃ v, valV kvs k = some v ∧ Rp K F v d := by
  induction h with
  | nil => cases e
  | @cons k' v' d' kvs ks a _ ih =>
    unfold valD at e
    rw [List.find?_cons] at e
    by_cases c : k' = k
    · rw [show decide ((k', d').1 = k) = true from decide_eq_true c] at e
      cases e
      exact ⟨v', valV_pos c, a⟩
    · rw [show decide ((k', d').1 = k) = false from decide_eq_false c] at e
      obtain ⟨v, h1, h2⟩ := ih e
      exact ⟨v, by rw [valV_neg c]; exact h1, h2⟩
theorem RpKv.split {k' d' : D} {ds : List (D × D)} (h : RpKv K F kvs ((k', d') :: ds)) : ∃ k v r, kvs = (k, v) :: r ∧ k' = keyD k ∧ Rp K F v d' ∧ RpKv K F r ds := by
  cases h with
  | cons a b => exact ⟨_, _, _, rfl, rfl, a, b⟩
end
section
variable {K : PySem.W.Frag} {E : WX} {X : Cx} {G : En} {F F' : Hp} {T T' : List (Addr × D)} {s s' : S} {σ σ' : L2.St} {H H' : Hp} {v : V} {d : D} {ds : List D} {i : Nat} {r : R} {Q : VK}
end
end DL

namespace DL
open Evl (Ex)
open PySem PySem.Spec PyProof.Rows L2 PySem.W
/-! ### {k: v for x in xs if t}, d[k], len(d) -/
section
variable {K : PySem.W.Frag} {E : WX} {X : Cx} {G : En} {F F' : Hp} {T T' : List (Addr × D)} {s s' : S} {σ σ' : L2.St} {H H' : Hp} {v : V} {d : D} {ds : List D} {i : Nat} {r : R} {Q : VK}
end
end DL

namespace DL
open Evl (Ex)
open PySem PySem.Spec PyProof.Rows L2
/-! ### a dict whose keys are tuples and whose values are all True -/
theorem RawN.full {P : Program} {w : World} {h : Heap} {a : Addr} {L : List (NK × Addr)} (R : RawN P w h a L) (hk : ∀ p ∈ L, Mem h p.1 p.2) : h.DictOfH (nestedKind P w) a (L.map trN) := by
  obtain ⟨z, n, o, es, ep, ho, r1, r2, r3, r4⟩ := R
  refine ⟨o, es, ep, ho, r1, r2, r3, fun x hx => ?_, r4⟩
  obtain ⟨p, hp, rfl⟩ := List.mem_map.mp hx
  obtain ⟨q1, q2, _⟩ := hk p hp
  exact ⟨q1, q2⟩
section
variable {X : Cx} {pins : List (Addr × Obj)} {σ : L2.St} {H : Hp} {s : Shared} {E : Value → Shared → Prop} {a b : Addr} {k : NK} {L : List (NK × Addr)}
end
end DL

namespace DL
open Evl (Ex)
open PySem PySem.Spec PyProof.Rows L2 PySem.W
section
variable {X : Cx}
end
end DL

namespace DL
open Evl (Ex)
open PySem PySem.Spec PyProof.Rows L2 PySem.W
/-! ### n, seen = e, {}; rows = e2; for tg in rows: (if test: return ..); seen[key] = True; return len(seen) == l and e4 -/
open Classical in
noncomputable def keyOf (s : S) (j : Nat) : Option NK := match getS s j with
  | some (.val d) => if h : ∃ k, goodK k ∧ k.data = d then some (Classical.choose h) else none
  | _ => none
section
variable {K : PySem.W.Frag} {E : WX} {G : En} {F F' : Hp} {T T' : List (Addr × D)} {s s' : S} {σ σ' : L2.St} {H H' : Hp}
end
end DL

namespace DL
open Evl (Ex)
open PySem PySem.Spec PyProof.Rows L2 PySem.W
section
variable {X : Cx} {E : WX}
end
end DL

namespace DL
open Evl (Ex)
open PySem PySem.Spec PyProof.Rows L2 PySem.W
/-! ### a dict of the module with text keys: e in T, T[e] -/
section
variable {K : PySem.W.Frag} {E : WX} {X : Cx} {G : En} {F F' : Hp} {T T' : List (Addr × D)} {s s' : S} {σ σ' : L2.St} {H H' : Hp} {v : V} {d : D} {ds : List D} {i : Nat} {r : R} {Q : VK}
structure Tab (K : PySem.W.Frag) (w : World) (mg : Str → Option Value) (x : Str) (kvs : List (Str × D)) : Prop where
  m : mg x = some (.ref (He.ga K x))
  d : ∃ es n, KDict K w (He.ga K x) es n
  no : ∀ z, kvs.lookup z = none → PySem.W.nsIn K (He.ga K x) z = some none
  yes : ∀ z d, kvs.lookup z = some d → ∃ u v, PySem.W.nsIn K (He.ga K x) z = some (some u) ∧ RelV v u ∧ ∀ F, Rp K F v d
theorem keys_no {P : Params} {z : Str} : ∀ {l : List DictEntry} {ks : List Str}, l.map He.keyOf = He.keysIn P ks → z ∉ ks → l.find? (·.key.isStr z) = none ∧ l.any (·.refKey) = false
  | [], _, _, _ => ⟨rfl, rfl⟩
  | e :: r, [], h, _ => by cases h
  | e :: r, k :: ks, h, hz => by
    have h1 : He.keyOf e :: r.map He.keyOf = some (k, PyData.keyHash P k) :: He.keysIn P ks := h
    injection h1 with h2 h3
    obtain ⟨i1, i2⟩ := keys_no h3 (fun q => hz (List.mem_cons_of_mem _ q))
    unfold He.keyOf at h2
    split at h2
    · rename_i x t q
      have h4 := Option.some.inj h2
      obtain ⟨rfl, _⟩ := Prod.mk.inj h4
      have hne : (x == z) = false := by
        rw [beq_eq_false_iff_ne]
        intro e
        exact hz (by rw [e]; exact List.mem_cons_self)
      have e1 : e.key.isStr z = false := by rw [q]; exact hne
      have e2 : e.refKey = false := by unfold DictEntry.refKey; rw [q]
      constructor
      · rw [List.find?_cons, e1]; exact i1
      · rw [List.any_cons, e2, i2]; rfl
    · cases h2
def tabV (K : PySem.W.Frag) (t : Str × List (Str × D)) : Bool := t.2.all fun q => match PySem.W.nsIn K (He.ga K t.1) q.1 with
  | some (some u) => datB K 20 u q.2
  | _ => false
def tabM (K : PySem.W.Frag) (t : Str × List (Str × D)) : Bool := He.eqO (PySem.W.nsIn K mainGlobals t.1) (some (some (.ref (He.ga K t.1))))
abbrev TabD : Type := Str × List (Str × D)
abbrev AlK : Type := AlC × (List (Option (List (Option (Str × Int)))) × Bool)
def obsK (fa : List He.Fa) (fn : List He.DefD) (cs : List (Str × D)) (ts : List TabD) (K : PySem.W.Frag) : AlK := (obsC fa fn cs K, (ts.map fun t => He.dicW K (He.ga K t.1), ts.all fun t => tabM K t && tabV K t))
def valK (fn : List He.DefD) (ts : List TabD) (w : World) : AlK := (valC fn, (ts.map fun t => some (He.keysIn w.params (t.2.map (·.1))), true))
def SaysK (fa : List He.Fa) (fn : List He.DefD) (cs : List (Str × D)) (ts : List TabD) (w : World) (K : PySem.W.Frag) : Prop := obsK fa fn cs ts K = valK fn ts w
section
variable {fa : List He.Fa} {fn : List He.DefD} {cs : List (Str × D)} {ts : List TabD} {w : World} {h : Heap} {mg : Str → Option Value}
theorem SaysK.c (c : SaysK fa fn cs ts w K) : SaysC fa fn cs K := congrArg (fun z : AlK => z.1) c
theorem SaysK.tab (c : SaysK fa fn cs ts w K) (X : K.In h) (G : h.Ns mainGlobals mg) (i : Nat) {t : TabD} (hi : ts[i]? = some t := by rfl) (nd : (t.2.map (·.1)).Nodup := by decide) : Tab K w mg t.1 t.2 := by
  have e1 : ts.map (fun t => He.dicW K (He.ga K t.1)) = ts.map fun t => some (He.keysIn w.params (t.2.map (·.1))) := congrArg (fun z : AlK => z.2.1) c
  have e2 : (ts.all fun t => tabM K t && tabV K t) = true := congrArg (fun z : AlK => z.2.2) c
  have e3 : (ts.map fun t => He.dicW K (He.ga K t.1))[i]? = (ts.map fun t => some (He.keysIn w.params (t.2.map (·.1))))[i]? := by rw [e1]
  rw [List.getElem?_map, List.getElem?_map, hi] at e3
  have e4 := Option.some.inj e3
  obtain ⟨m, vv⟩ := Bool.and_eq_true_iff.mp (List.all_eq_true.mp e2 t (List.mem_of_getElem? hi))
  obtain ⟨es, n, D⟩ := He.dicW_ok e4
  have ke : es.toList.map He.keyOf = He.keysIn w.params (t.2.map (·.1)) := by
    have e5 : He.dicW K (He.ga K t.1) = some (He.keysIn w.params (t.2.map (·.1))) := e4
    unfold He.dicW at e5
    rw [D.at_] at e5
    dsimp only at e5
    split at e5
    · exact Option.some.inj e5
    · cases e5
  refine ⟨PySem.W.mg_of X G (He.eqO_ok m), ⟨es, n, D⟩, fun z hz => ?_, fun z d hz => ?_⟩
  · have hz2 : z ∉ t.2.map (·.1) := fun q => by
      obtain ⟨p, hp, rfl⟩ := List.mem_map.mp q
      have := List.lookup_eq_none_iff.mp hz p hp
      simp at this
    obtain ⟨k1, k2⟩ := keys_no ke hz2
    unfold PySem.W.nsIn
    rw [D.at_]
    dsimp only
    rw [k1, k2]
    rfl
  · obtain ⟨l1, l2, q⟩ := List.lookup_eq_some_iff.mp hz
    have hm : (z, d) ∈ t.2 := by rw [q.1]; simp
    have h3 := List.all_eq_true.mp (show (t.2.all fun q => match PySem.W.nsIn K (He.ga K t.1) q.1 with
      | some (some u) => datB K 20 u q.2
      | _ => false) = true from vv) _ hm
    dsimp only at h3
    split at h3
    · rename_i u qu
      obtain ⟨v, r1, r2⟩ := datB_ok 20 u d h3
      exact ⟨u, v, qu, r1, r2⟩
    · cases h3
end
variable {kvs : List (Str × D)} {x : Str} {a b : Expr} {ta : TE} {fa : XE} {pos px : Pos}
end
end DL

namespace DL
open Evl (Ex)
open PySem PySem.Spec PyProof.Rows L2

/-! ### evaluation of meanings -/
theorem getS_0 {o : Option Sl} {r : S} : getS (o :: r) 0 = o := rfl
theorem getS_s {o : Option Sl} {r : S} {i : Nat} : getS (o :: r) (i + 1) = getS r i := getS_succ
theorem bind_ok' {α β : Type} (a : α) (f : α → Out β) [u : Dum f] : @Out.bind α β (Out.ok a) f u = f a := rfl
def lcStep (vs : List Nat) (g : XG) (ft : XT) (fe : XE) (acc : List D) (d : D) (s : S) : Out (List D × S) := match g d s with
  | none => .bad
  | some s1 => lcTurn vs ft fe acc s1
def lcStep2 (vs : List Nat) (g : XG) (ft : XT) (fe : XE) (acc : List D) (d : D) (s : S) : Out (List D × S) := match g d s with
  | none => .bad
  | some s1 => lcTurn2 vs ft fe acc s1
theorem lcD_cons {vs : List Nat} {g : XG} {ft : XT} {fe : XE} {acc : List D} {d : D} {ds : List D} {s : S} : lcD vs g ft fe (d :: ds) acc s = (lcStep vs g ft fe acc d s).bind fun (acc', s2) => lcD vs g ft fe ds acc' s2 := by
  show (match g d s with
    | none => Out.bad
    | some s1 => (lcTurn vs ft fe acc s1).bind fun (acc', s2) => lcD vs g ft fe ds acc' s2) = _
  unfold lcStep
  cases g d s <;> rfl
/-- all turns alike -/
theorem lcD_fm {vs : List Nat} {g : XG} {ft : XT} {fe : XE} {s : S} (h : D → Option D) : ∀ {ds acc : List D}, (∀ d ∈ ds, ∀ acc, lcStep vs g ft fe acc d s = .ok (acc ++ (h d).toList, s)) → lcD vs g ft fe ds acc s = .ok (acc ++ ds.filterMap h, s)
  | [], acc, _ => by simp [lcD]
  | d :: ds, acc, st => by
    rw [lcD_cons, st d List.mem_cons_self acc, bind_ok']
    show lcD vs g ft fe ds (acc ++ (h d).toList) s = _
    rw [lcD_fm h fun e he => st e (List.mem_cons_of_mem _ he)]
    cases e : h d with
    | none => simp [e]
    | some x => simp [e]
theorem filterMap_len {α β : Type} (h : α → Option β) : ∀ ds : List α, (ds.filterMap h).length ≤ ds.length
  | [] => Nat.le_refl _
  | d :: ds => by
    have := filterMap_len h ds
    rw [List.filterMap_cons]
    cases h d with
    | none => exact Nat.le_succ_of_le this
    | some x => exact Nat.succ_le_succ this
theorem xLc_fm {vs : List Nat} {fi : XI} {g : XG} {ft : XT} {fe : XE} {s s1 : S} {ds : List D} (h : D → Option D) (hi : fi s = .ok (ds, s1)) (hz : ds.length ≤ line) (st : ∀ d ∈ ds, ∀ acc, lcStep vs g ft fe acc d (DL.forget vs s1) = .ok (acc ++ (h d).toList, DL.forget vs s1)) :
    xLc vs fi g ft fe s = .ok (.new (.list (ds.filterMap h)), back s1 vs (DL.forget vs s1)) := by
  unfold xLc
  rw [hi, bind_ok']
  dsimp only
  rw [lcD_fm h st, bind_ok', List.nil_append]
  dsimp only
  rw [if_pos (Nat.le_trans (filterMap_len h ds) hz)]
theorem endF_nx {m : List Bool} {s : S} : endF m (.ok (.nx s)) = match ioOut m 0 0 s with
    | some ios => .ret (.val .none) ios
    | none => .bad := rfl
theorem endF_rv {m : List Bool} {s : S} {d : D} : endF m (.ok (.rt (.val d) s)) = match ioOut m 0 0 s with
    | some ios => .ret (.val d) ios
    | none => .bad := rfl
theorem endF_rn {m : List Bool} {s : S} {d : D} : endF m (.ok (.rt (.new d) s)) = match ioOut m 0 0 s with
    | some ios => .ret (.new d) ios
    | none => .bad := rfl
theorem endF_err {m : List Bool} {s : S} {c : Str} {d : D} : endF m (.err c d s) = match ioOut m 0 0 s with
    | some ios => .err c d ios
    | none => .bad := rfl
theorem xPost_ret {s : S} {io bo : List Nat} {r : Rt} {ios : List D} : xPost s io bo (.ret r ios) = match postS s io bo ios (nlR r && ios.all nlI) with
    | some s2 => .ok (r.r, s2)
    | none => .bad := rfl
theorem xPost_err {s : S} {io bo : List Nat} {c : Str} {d : D} {ios : List D} : xPost s io bo (.err c d ios) = match postS s io bo ios (nl d && ios.all nlI) with
    | some s2 => .err c d s2
    | none => .bad := rfl
abbrev tI (ns : List Int) : D := .tuple (ns.map .int)
abbrev lI (ns : List Int) : D := .list (ns.map .int)
theorem nls_ints : ∀ ns : List Int, nls (ns.map .int) = true
  | [] => rfl
  | n :: r => by
    show (nl (.int n) && nls (r.map .int)) = true
    rw [nls_ints r]; rfl
theorem hEq_int {i j : Int} : hEq (.int i) (.int j) = some (.val (.bool (decide (i = j)))) := by
  have e : (i == j) = decide (i = j) := by
    by_cases h : i = j
    · rw [decide_eq_true h, h]; simp
    · rw [decide_eq_false h]; simpa using h
  show some (RD.val (.bool (i == j))) = _
  rw [e]
theorem hNe_int {i j : Int} : hNe (.int i) (.int j) = some (.val (.bool (!decide (i = j)))) := by
  have e : (i == j) = decide (i = j) := by
    by_cases h : i = j
    · rw [decide_eq_true h, h]; simp
    · rw [decide_eq_false h]; simpa using h
  show some (RD.val (.bool (!(i == j)))) = _
  rw [e]
/-! ### outcomes that are one -/
def Ok {α : Type} (o : Out α) (P : α → Prop) : Prop := ∃ a, o = .ok a ∧ P a
def OkG (o : Option S) (P : S → Prop) : Prop := ∃ a, o = some a ∧ P a
theorem Ok_ok {α : Type} (a : α) (P : α → Prop) : Ok (.ok a) P = P a := propext ⟨fun ⟨_, e, h⟩ => by cases e; exact h, fun h => ⟨a, rfl, h⟩⟩
theorem OkG_some (a : S) (P : S → Prop) : OkG (some a) P = P a := propext ⟨fun ⟨_, e, h⟩ => by cases e; exact h, fun h => ⟨a, rfl, h⟩⟩
theorem Ok.bind {α β : Type} {o : Out α} {f : α → Out β} [u : Dum f] {P : β → Prop} (h : Ok o fun a => Ok (f a) P) : Ok (@Out.bind α β o f u) P := by
  obtain ⟨a, rfl, h⟩ := h
  exact h
theorem Ok.mono {α : Type} {o : Out α} {P Q : α → Prop} (h : Ok o P) (f : ∀ a, P a → Q a) : Ok o Q := by
  obtain ⟨a, e, h⟩ := h
  exact ⟨a, e, f a h⟩
theorem Ok.of {α : Type} {o : Out α} {a : α} {P : α → Prop} (e : o = .ok a) (h : P a) : Ok o P := ⟨a, e, h⟩
def Ret (o : FOut) (P : Rt → List D → Prop) : Prop := ∃ r ios, o = .ret r ios ∧ P r ios
def EndP (m : List Bool) (P : Rt → List D → Prop) (fl : Fl) : Prop := ∃ r ios, endF m (.ok fl) = .ret r ios ∧ P r ios
theorem Ret.run {m : List Bool} {n : Nat} {fb : XS} {ds : List D} {P : Rt → List D → Prop} (h : Ok (fb (initS m 0 ds ++ List.replicate (n - ds.length) none)) (EndP m P)) : Ret (runF m n fb ds) P := by
  obtain ⟨fl, e, r, ios, h1, h2⟩ := h
  refine ⟨r, ios, ?_, h2⟩
  unfold runF
  rw [e]
  exact h1
theorem Ret.eq {o : FOut} {r : Rt} {ios : List D} (h : Ret o fun r' ios' => r' = r ∧ ios' = ios) : o = .ret r ios := by
  obtain ⟨_, _, e, rfl, rfl⟩ := h
  exact e
def EndQ (o : Option (List D)) (P : List D → Prop) : Prop := ∃ ios, o = some ios ∧ P ios
theorem EndQ_some (a : List D) (P : List D → Prop) : EndQ (some a) P = P a := propext ⟨fun ⟨_, e, h⟩ => by cases e; exact h, fun h => ⟨a, rfl, h⟩⟩
theorem EndP_nx' {m : List Bool} {P : Rt → List D → Prop} {s : S} : EndP m P (.nx s) = EndQ (ioOut m 0 0 s) (P (.val .none)) := by
  apply propext
  unfold EndP EndQ
  rw [endF_nx]
  cases ioOut m 0 0 s with
  | none => simp
  | some ios => exact ⟨fun ⟨r, i2, h1, h2⟩ => by cases h1; exact ⟨_, rfl, h2⟩, fun ⟨_, h1, h2⟩ => by cases h1; exact ⟨_, _, rfl, h2⟩⟩
theorem EndP_rv' {m : List Bool} {P : Rt → List D → Prop} {s : S} {d : D} : EndP m P (.rt (.val d) s) = EndQ (ioOut m 0 0 s) (P (.val d)) := by
  apply propext
  unfold EndP EndQ
  rw [endF_rv]
  cases ioOut m 0 0 s with
  | none => simp
  | some ios => exact ⟨fun ⟨r, i2, h1, h2⟩ => by cases h1; exact ⟨_, rfl, h2⟩, fun ⟨_, h1, h2⟩ => by cases h1; exact ⟨_, _, rfl, h2⟩⟩
theorem EndP_rn' {m : List Bool} {P : Rt → List D → Prop} {s : S} {d : D} : EndP m P (.rt (.new d) s) = EndQ (ioOut m 0 0 s) (P (.new d)) := by
  apply propext
  unfold EndP EndQ
  rw [endF_rn]
  cases ioOut m 0 0 s with
  | none => simp
  | some ios => exact ⟨fun ⟨r, i2, h1, h2⟩ => by cases h1; exact ⟨_, rfl, h2⟩, fun ⟨_, h1, h2⟩ => by cases h1; exact ⟨_, _, rfl, h2⟩⟩
def LoopP (Inv : S → Prop) (Q : Fl → Prop) : Fl → Prop
  | .nx s => Inv s
  | .ct s => Inv s
  | .bk s => Q (.nx s)
  | .rt r s => Q (.rt r s)
theorem LoopP_nx {Inv : S → Prop} {Q : Fl → Prop} {s : S} : LoopP Inv Q (.nx s) = Inv s := rfl
theorem LoopP_ct {Inv : S → Prop} {Q : Fl → Prop} {s : S} : LoopP Inv Q (.ct s) = Inv s := rfl
theorem LoopP_bk {Inv : S → Prop} {Q : Fl → Prop} {s : S} : LoopP Inv Q (.bk s) = Q (.nx s) := rfl
theorem LoopP_rt {Inv : S → Prop} {Q : Fl → Prop} {s : S} {r : R} : LoopP Inv Q (.rt r s) = Q (.rt r s) := rfl
theorem forD_ok {g : XG} {body : XS} {ds : List D} {Q : Fl → Prop} (Inv : Nat → S → Prop) (step : ∀ i d s, ds[i]? = some d → Inv i s → OkG (g d s) fun s1 => Ok (body s1) (LoopP (Inv (i + 1)) Q)) (hQ : ∀ s, Inv ds.length s → Q (.nx s)) :
    ∀ {k i : Nat} {s : S}, ds.length - i = k → i ≤ ds.length → Inv i s → Ok (forD g body (ds.drop i) s) Q := by
  intro k
  induction k with
  | zero =>
    intro i s hk hi p
    have : i = ds.length := by omega
    subst this
    rw [List.drop_length]
    exact ⟨_, rfl, hQ s p⟩
  | succ k ih =>
    intro i s hk hi p
    have hlt : i < ds.length := by omega
    obtain ⟨s1, h1, fl, h2, h3⟩ := step i ds[i] s (List.getElem?_eq_getElem hlt) p
    rw [List.drop_eq_getElem_cons hlt]
    show Ok (match g ds[i] s with
      | none => Out.bad
      | some s1 => (body s1).bind fun fl => match fl with
        | .nx s2 => forD g body (ds.drop (i + 1)) s2
        | .ct s2 => forD g body (ds.drop (i + 1)) s2
        | .bk s2 => .ok (.nx s2)
        | .rt r s2 => .ok (.rt r s2)) Q
    rw [h1]
    dsimp only
    rw [h2]
    show Ok (match fl with
        | .nx s2 => forD g body (ds.drop (i + 1)) s2
        | .ct s2 => forD g body (ds.drop (i + 1)) s2
        | .bk s2 => .ok (.nx s2)
        | .rt r s2 => .ok (.rt r s2)) Q
    cases fl with
    | nx s2 => exact ih (by omega) hlt h3
    | ct s2 => exact ih (by omega) hlt h3
    | bk s2 => exact ⟨_, rfl, h3⟩
    | rt r s2 => exact ⟨_, rfl, h3⟩
theorem Ok.for {fi : XI} {g : XG} {body : XS} [u : Dum (fi, g, body)] {s s1 : S} {Q : Fl → Prop} (ds : List D) (Inv : Nat → S → Prop) (hi : fi s = .ok (ds, s1)) (h0 : Inv 0 s1)
    (step : ∀ i d s, ds[i]? = some d → Inv i s → OkG (g d s) fun s1 => Ok (body s1) (LoopP (Inv (i + 1)) Q)) (hQ : ∀ s, Inv ds.length s → Q (.nx s)) : Ok (@sFor fi g body u s) Q := by
  obtain ⟨fl, h1, h2⟩ := forD_ok Inv step hQ rfl (Nat.zero_le _) h0
  refine ⟨fl, ?_, h2⟩
  unfold sFor
  rw [hi, bind_ok']
  exact h1
/-- over a range -/
theorem Ok.forR {fi : XI} {g : XG} {body : XS} [u : Dum (fi, g, body)] {s s1 : S} {Q : Fl → Prop} (lo : Int) (n : Nat) (Inv : Nat → S → Prop) (hi : fi s = .ok (rgD lo 1 n, s1)) (h0 : Inv 0 s1)
    (step : ∀ i, i < n → ∀ s, Inv i s → OkG (g (.int (lo + (i : Int))) s) fun s1 => Ok (body s1) (LoopP (Inv (i + 1)) Q)) (hQ : ∀ s, Inv n s → Q (.nx s)) : Ok (@sFor fi g body u s) Q :=
  Ok.for (rgD lo 1 n) Inv hi h0 (fun i d s hd p => by
    obtain ⟨h, rfl⟩ := rgD_get hd
    have := step i h s p
    rw [Int.mul_one]
    exact this) (by rw [rgD_len]; exact hQ)
theorem whileN_ok {fc : XT} {fb : XS} {Q : Fl → Prop} (Inv : Nat → S → Prop) (step : ∀ n s, Inv n s → Ok (fc s) fun x => if x.1 = true then Ok (fb x.2) (LoopP (fun s2 => ∃ m, m < n ∧ Inv m s2) Q) else Q (.nx x.2)) :
    ∀ n s, Inv n s → Ok (sWhile fc fb s) Q := by
  intro n
  induction n using Nat.strongRecOn with
  | _ n ih =>
    intro s h
    rw [sWhile_eq]
    obtain ⟨⟨b, s1⟩, h1, h2⟩ := step n s h
    rw [h1]
    show Ok (if b = true then _ else _) Q
    cases b with
    | false => exact ⟨_, rfl, by simpa using h2⟩
    | true =>
      simp only [if_true] at h2 ⊢
      obtain ⟨fl, h3, h4⟩ := h2
      rw [h3]
      cases fl with
      | nx s2 => obtain ⟨m, hm, hI⟩ := h4; exact ih m hm s2 hI
      | ct s2 => obtain ⟨m, hm, hI⟩ := h4; exact ih m hm s2 hI
      | bk s2 => exact ⟨_, rfl, h4⟩
      | rt r s2 => exact ⟨_, rfl, h4⟩
theorem Ok.while {fc : XT} {fb : XS} [u : Dum (fc, fb)] {s : S} {Q : Fl → Prop} (Inv : Nat → S → Prop) (n : Nat) (h0 : Inv n s) (step : ∀ n s, Inv n s → Ok (fc s) fun x => if x.1 = true then Ok (fb x.2) (LoopP (fun s2 => ∃ m, m < n ∧ Inv m s2) Q) else Q (.nx x.2)) : Ok (@sWhile fc fb u s) Q :=
  whileN_ok Inv step n s h0
/-! comprehensions, as they stand in a goal -/
theorem lc_ite (b : Bool) (acc : List D) (x : D) (s : S) : (if b = true then (Out.ok (acc ++ [x], s) : Out (List D × S)) else .ok (acc, s)) = .ok (acc ++ (if b = true then [x] else []), s) := by cases b <;> simp
theorem lcF1 {α : Type} {vs : List Nat} {fi : XI} {g : XG} {ft : XT} {fe : XE} [u : Dum (vs, fi, g, ft, fe)] {s : S} (s1 : S) (L : List α) (enc : α → D) (p : α → Bool) (f : α → D) (hi : fi s = .ok (L.map enc, s1)) (hz : L.length ≤ line)
    (st : ∀ a ∈ L, ∀ acc, lcStep vs g ft fe acc (enc a) (DL.forget vs s1) = .ok (acc ++ (if p a = true then [f a] else []), DL.forget vs s1)) :
    @xLc vs fi g ft fe u s = .ok (.new (.list ((L.filter p).map f)), back s1 vs (DL.forget vs s1)) := by
  have key : ∀ (L : List α) (acc : List D), (∀ a ∈ L, ∀ acc, lcStep vs g ft fe acc (enc a) (DL.forget vs s1) = .ok (acc ++ (if p a = true then [f a] else []), DL.forget vs s1)) → lcD vs g ft fe (L.map enc) acc (DL.forget vs s1) = .ok (acc ++ (L.filter p).map f, DL.forget vs s1) := by
    intro L
    induction L with
    | nil => intro acc _; simp [lcD]
    | cons a L ih =>
      intro acc h
      rw [List.map_cons, lcD_cons, h a List.mem_cons_self acc, bind_ok']
      show lcD vs g ft fe (L.map enc) (acc ++ if p a = true then [f a] else []) _ = _
      rw [ih _ fun b hb => h b (List.mem_cons_of_mem _ hb)]
      by_cases hp : p a = true
      · rw [if_pos hp, List.filter_cons_of_pos hp]; simp
      · rw [if_neg hp, List.filter_cons_of_neg hp]; simp
  unfold xLc
  rw [hi, bind_ok']
  dsimp only
  rw [key L [] st, bind_ok', List.nil_append]
  dsimp only
  rw [if_pos (by rw [List.length_map]; exact Nat.le_trans (List.length_filter_le _ _) hz)]
theorem lcA1 {α : Type} {vs : List Nat} {fi : XI} {g : XG} {ft : XT} {fe : XE} [u : Dum (vs, fi, g, ft, fe)] {s : S} (s1 : S) (L : List α) (enc : α → D) (f : α → D) (hi : fi s = .ok (L.map enc, s1)) (hz : L.length ≤ line)
    (st : ∀ a ∈ L, ∀ acc, lcStep vs g ft fe acc (enc a) (DL.forget vs s1) = .ok (acc ++ [f a], DL.forget vs s1)) :
    @xLc vs fi g ft fe u s = .ok (.new (.list (L.map f)), back s1 vs (DL.forget vs s1)) := by
  have := lcF1 (u := u) s1 L enc (fun _ => true) f hi hz (fun a ha acc => by rw [st a ha acc]; rfl)
  rw [List.filter_eq_self.mpr (fun _ _ => rfl)] at this
  exact this
theorem lcA {α : Type} {vs : List Nat} {fi : XI} {g : XG} {ft : XT} {fe : XE} [u : Dum (vs, fi, g, ft, fe)] {s : S} (L : List α) (enc : α → D) (f : α → D) (hi : fi s = .ok (L.map enc, s)) (hz : L.length ≤ line)
    (st : ∀ a ∈ L, ∀ acc, lcStep vs g ft fe acc (enc a) (DL.forget vs s) = .ok (acc ++ [f a], DL.forget vs s)) :
    @xLc vs fi g ft fe u s = .ok (.new (.list (L.map f)), back s vs (DL.forget vs s)) := lcA1 s L enc f hi hz st
theorem rgD_map (lo : Int) (n : Nat) : rgD lo 1 n = (List.range n).map fun i : Nat => .int (lo + (i : Int)) := by
  unfold rgD
  apply List.map_congr_left
  intro i _
  rw [Int.mul_one]
/-! ### decks -/
structure Deck where
  a : Int
  b : Int
  h : 0 ≤ a
abbrev dkD (x : Deck) : D := .list [.int x.a, .int x.b]
theorem nlI_dk (x : Deck) : nlI (dkD x) = true := rfl
def Deck.tk (x : Deck) (m : Int) : Int := if 0 < x.a then x.a % m else (x.b * 6364136223846793005 + 1442695040888963407) % 18446744073709551616 / 8589934592 % m
def Deck.nx (x : Deck) (m : Int) : Deck := if 0 < x.a then ⟨((x.a / m).toNat : Int), x.b, Int.natCast_nonneg _⟩ else ⟨x.a, (x.b * 6364136223846793005 + 1442695040888963407) % 18446744073709551616, x.h⟩
theorem hMul_l {i j : Int} (h : i.natAbs < two64) : hMul (.int i) (.int j) = some (.val (.int (i * j))) := by
  show (if mulOk i j then _ else _) = _
  rw [if_pos (by unfold mulOk; rw [decide_eq_true h]; rfl)]
theorem hMul_r {i j : Int} (h : j.natAbs < two64) : hMul (.int i) (.int j) = some (.val (.int (i * j))) := by
  show (if mulOk i j then _ else _) = _
  rw [if_pos (by unfold mulOk; rw [decide_eq_true h, Bool.or_true])]
theorem hMod_p {i j : Int} (h : 0 < j) : hMod (.int i) (.int j) = some (.val (.int (i % j))) := by
  show (if 0 < j then _ else _) = _
  rw [if_pos h]
theorem hPow_p {i j : Int} (h : 0 ≤ j ∧ j ≤ 1000000 ∧ i.natAbs < two64) : hPow (.int i) (.int j) = some (.val (.int (i ^ j.toNat))) := by
  show (if 0 ≤ j ∧ j ≤ 1000000 ∧ i.natAbs < two64 then _ else _) = _
  rw [if_pos h]
theorem pow18 : hPow (.int 10) (.int 18) = some (.val (.int 1000000000000000000)) := hPow_p ⟨by decide, by decide, by decide⟩
theorem pow64 : hPow (.int 2) (.int 64) = some (.val (.int 18446744073709551616)) := hPow_p ⟨by decide, by decide, by decide⟩
theorem hDiv_g {i j : Int} (h : 0 < j) (h2 : j.natAbs.log2 < 9000) : hDiv (.int i) (.int j) = some (.val (.int (i / j))) := by
  show (if 0 < j ∧ j.natAbs.log2 < 9000 then _ else _) = _
  rw [if_pos ⟨h, h2⟩]
theorem atI_nat' {α : Type} (xs : List α) (k : Nat) : atI xs (k : Int) = xs[k]? := by
  unfold atI ixN
  rw [if_pos (by omega)]
  by_cases h : k < xs.length
  · rw [if_pos (by omega)]
    rfl
  · rw [if_neg (by omega), List.getElem?_eq_none (by omega)]
    rfl
theorem atI_0 {α : Type} (x : α) (xs : List α) : atI (x :: xs) 0 = some x := atI_nat' (x :: xs) 0
theorem atI_1 {α : Type} (x y : α) (xs : List α) : atI (x :: y :: xs) 1 = some y := atI_nat' (x :: y :: xs) 1
theorem ixN_0 (n : Nat) : ixN (n + 1) 0 = some 0 := by
  unfold ixN
  rw [if_pos (by omega), if_pos (by omega)]
  rfl
theorem ixN_1 (n : Nat) : ixN (n + 1 + 1) 1 = some 1 := by
  unfold ixN
  rw [if_pos (by omega), if_pos (by omega)]
  rfl
/-! ### loops -/
/-! ### orders -/
def rng (n : Nat) : List Int := (List.range n).map fun i : Nat => (i : Int) + 1
def IsOrd (ns : List Int) : Prop := ns.Perm (rng ns.length)
theorem rng_succ (n : Nat) : rng (n + 1) = rng n ++ [(n : Int) + 1] := by
  unfold rng
  rw [List.range_succ, List.map_append]
  rfl
theorem mem_rng {n : Nat} {a : Int} : a ∈ rng n ↔ 1 ≤ a ∧ a ≤ n := by
  unfold rng
  rw [List.mem_map]
  constructor
  · rintro ⟨i, hi, rfl⟩
    rw [List.mem_range] at hi
    omega
  · rintro ⟨h1, h2⟩
    exact ⟨(a - 1).toNat, List.mem_range.mpr (by omega), by omega⟩
theorem rng_pw (n : Nat) : (rng n).Pairwise (· ≤ ·) := by
  induction n with
  | zero => exact .nil
  | succ n ih =>
    rw [rng_succ, List.pairwise_append]
    refine ⟨ih, by simp, fun a ha b hb => ?_⟩
    rw [mem_rng] at ha
    simp at hb
    omega
theorem rng_nodup (n : Nat) : (rng n).Nodup := by
  induction n with
  | zero => exact .nil
  | succ n ih =>
    rw [rng_succ, List.nodup_append]
    refine ⟨ih, by simp, fun a ha b hb => ?_⟩
    rw [mem_rng] at ha
    simp at hb
    omega
theorem IsOrd.mem {ns : List Int} (h : IsOrd ns) {a : Int} : a ∈ ns ↔ 1 ≤ a ∧ a ≤ ns.length := by rw [h.mem_iff, mem_rng]
theorem IsOrd.nodup {ns : List Int} (h : IsOrd ns) : ns.Nodup := h.nodup_iff.mpr (rng_nodup _)
theorem IsOrd.srt {ns : List Int} (h : IsOrd ns) : DL.srt ns = rng ns.length := (srt_eq h.symm (rng_pw _)).symm
def szs (rows : List (List Int)) (j : Nat) : Nat := (rows.getD j []).length
def lessN (row : List Int) (rows : List (List Int)) (k : Nat) : Nat := (((List.range row.length).filter fun j => decide (row.getD j 0 < row.getD k 0)).map (szs rows)).sum
def blk (row : List Int) (rows : List (List Int)) (k : Nat) : List Int := (rows.getD k []).map fun x => (lessN row rows k : Int) + x
def fill (row : List Int) (rows : List (List Int)) : List Int := (List.range row.length).flatMap (blk row rows)
/-! ### functions on ints, as on data -/
def fI (p : Int → Bool) (f : Int → Int) : D → Option D
  | .int x => if p x then some (.int (f x)) else none
  | _ => none
theorem fI_int {p : Int → Bool} {f : Int → Int} {n : Int} : fI p f (.int n) = if p n then some (.int (f n)) else none := rfl
theorem fI_map {p : Int → Bool} {f : Int → Int} : ∀ ns : List Int, (ns.map PyData.int).filterMap (fI p f) = ((ns.filter p).map f).map .int
  | [] => rfl
  | n :: r => by
    rw [List.map_cons, List.filterMap_cons]
    by_cases h : p n = true
    · have e : fI p f (.int n) = some (.int (f n)) := by rw [fI_int, if_pos h]
      rw [e, List.filter_cons_of_pos h, List.map_cons, List.map_cons]
      exact congrArg _ (fI_map r)
    · have e : fI p f (.int n) = none := by rw [fI_int, if_neg h]
      rw [e, List.filter_cons_of_neg h]
      exact fI_map r
/-- [f x for x in ints if p x] -/
theorem lcI {vs : List Nat} {fi : XI} {g : XG} {ft : XT} {fe : XE} {s s1 : S} {ns : List Int} (p : Int → Bool) (f : Int → Int) (hi : fi s = .ok (ns.map .int, s1)) (hz : ns.length ≤ line)
    (st : ∀ n ∈ ns, ∀ acc, lcStep vs g ft fe acc (.int n) (DL.forget vs s1) = .ok (acc ++ (if p n then [.int (f n)] else []), DL.forget vs s1)) :
    xLc vs fi g ft fe s = .ok (.new (lI ((ns.filter p).map f)), back s1 vs (DL.forget vs s1)) := by
  rw [xLc_fm (fI p f) hi (by simpa using hz) fun d hd acc => ?_, fI_map]
  obtain ⟨n, hn, rfl⟩ := List.mem_map.mp hd
  rw [st n hn acc, fI_int]
  by_cases h : p n = true
  · rw [if_pos h, if_pos h]; rfl
  · rw [if_neg h, if_neg h]; rfl
theorem rgD_ints (lo : Int) (n : Nat) : rgD lo 1 n = ((List.range n).map fun i : Nat => lo + (i : Int)).map .int := by
  unfold rgD
  rw [List.map_map]
  apply List.map_congr_left
  intro i _
  show PyData.int (lo + (i : Int) * 1) = PyData.int (lo + (i : Int))
  rw [Int.mul_one]
theorem rg1Ok_of {n : Nat} (h : n ≤ 16000000) : rg1Ok (n : Int) = true := by unfold rg1Ok; simp only [Bool.and_eq_true, decide_eq_true_eq]; omega
mutual
theorem eqv_refl : ∀ (n : Nat) (d : D), fl n d = true → PyData.eqv d d = true
  | _, .none, _ => rfl
  | _, .bool b, _ => by simp [PyData.eqv]
  | _, .int i, _ => by simp [PyData.eqv]
  | _, .str x, _ => by simp [PyData.eqv]
  | 0, .list _, h => by cases h
  | n + 1, .list ds, h => eqv_reflAll n ds h
  | 0, .tuple _, h => by cases h
  | n + 1, .tuple ds, h => eqv_reflAll n ds h
  | _, .dict _, h => by simp [fl] at h
theorem eqv_reflAll : ∀ (n : Nat) (ds : List D), flAll n ds = true → PyData.eqvAll ds ds = true
  | _, [], _ => rfl
  | n, d :: ds, h => by
    unfold flAll at h
    obtain ⟨h1, h2⟩ := Bool.and_eq_true_iff.mp h
    show (PyData.eqv d d && PyData.eqvAll ds ds) = true
    rw [eqv_refl n d h1, eqv_reflAll n ds h2]
    rfl
end
theorem hEq_self {d : D} (h : fl 60 d = true) : hEq d d = some (.val (.bool true)) := by
  show (if fl 60 d && fl 60 d then _ else _) = _
  rw [h, eqv_refl 60 d h]
  rfl
/-- data that is compared with itself -/
def pl : Nat → D → Prop
  | 0, .list _ => False
  | 0, .tuple _ => False
  | n + 1, .list ds => ds.length ≤ 16000000 ∧ ∀ d ∈ ds, pl n d
  | n + 1, .tuple ds => ds.length ≤ 16000000 ∧ ∀ d ∈ ds, pl n d
  | _, .str x => PyData.strOk x = true
  | _, .dict _ => False
  | _, _ => True
end DL

namespace DL
open Evl (Ex)
open PySem PySem.Spec PyProof.Rows L2 PySem.W
/-! ### numbers dealt to two lists in a tuple (one def, by hand) -/
section
variable {K : PySem.W.Frag} {E : WX} {X : Cx} {G : En} {F F' : Hp} {T T' : List (Addr × D)} {s s' : S} {σ σ' : L2.St} {H H' : Hp} {v : V} {d : D} {ds : List D} {i : Nat} {r : R} {Q : VK}
theorem SR.later {H1 : Hp} {σ1 : L2.St} (h : SR K G F [] s σ H) (e : Ex H H1) (hl : s'.length = σ1.length) (hs : ∀ i y, getS s' i = some y → ∃ d, y = .val d ∧ getS s i = some y ∧ σ1[i]? = σ[i]?) : SR K G F [] s' σ1 H1 :=
  ⟨h.fh.trans e, h.fe, h.gr, fun a o q m => e _ _ (h.kp a o q m), (fun a ha => by
    cases q : H a with
    | none => exact absurd q (h.ioh a ha)
    | some u => rw [e _ _ q]; simp), (fun i d q => by
    obtain ⟨d', e1, e2, e3⟩ := hs i _ q
    obtain ⟨v, a, b⟩ := h.sl i d e2
    exact ⟨v, by rw [e3]; exact a, b⟩), (fun i k d q => by
    obtain ⟨d', e1, e2, e3⟩ := hs i _ q
    cases e1), (fun i j k l d e p q1 q2 r1 r2 => by
    obtain ⟨d', e1, e2, e3⟩ := hs i _ q1
    cases e1), .nil, (fun p hp => nomatch hp), hl⟩
/-- where the loop stands -/
structure QI (K : PySem.W.Frag) (H0 : Hp) (a t p1 p2 : Addr) (st : List Int × List Int) (σ : L2.St) (H : Hp) : Prop where
  len : σ.length = 5
  s0 : σ[0]? = some (some (.ref a))
  s1 : σ[1]? = some (some (.ref t))
  ex : Ex H0 H
  ht : ∃ o : Obj, o.dict = none ∧ H t = some (.frz o (.tup [.ref p1, .ref p2]))
  h1 : H p1 = some (.lst (st.1.map V.int))
  h2 : H p2 = some (.lst (st.2.map V.int))
theorem QI.set {H0 : Hp} {a t p1 p2 : Addr} {st : List Int × List Int} (q : QI K H0 a t p1 p2 st σ H) (e : Ex H H') {j : Nat} {x : Option V} (hj : j ≠ 0) (hj1 : j ≠ 1) : QI K H0 a t p1 p2 st (σ.set j x) H' := by
  obtain ⟨o, d0, ht⟩ := q.ht
  exact ⟨by rw [List.length_set]; exact q.len, by rw [List.getElem?_set_ne hj]; exact q.s0, by rw [List.getElem?_set_ne hj1]; exact q.s1, q.ex.trans e, ⟨o, d0, e _ _ ht⟩, e _ _ q.h1, e _ _ q.h2⟩
theorem QI.sq {H0 : Hp} {a t p1 p2 : Addr} {st : List Int × List Int} (q : QI K H0 a t p1 p2 st σ H) : SqT K H t [.ref p1, .ref p2] := by
  obtain ⟨o, d0, ht⟩ := q.ht
  exact (TpD.of d0 ht).sq
theorem QI.mono {H0 : Hp} {a t p1 p2 : Addr} {st : List Int × List Int} (q : QI K H0 a t p1 p2 st σ H) (e : Ex H H') : QI K H0 a t p1 p2 st σ H' := by
  obtain ⟨o, d0, ht⟩ := q.ht
  exact ⟨q.len, q.s0, q.s1, q.ex.trans e, ⟨o, d0, e _ _ ht⟩, e _ _ q.h1, e _ _ q.h2⟩
theorem QI.upd {H0 : Hp} {a t p1 p2 Dd : Addr} {o : HO} {st : List Int × List Int} (q : QI K H0 a t p1 p2 st σ H) (n0 : H0 Dd = none) (h1 : p1 ≠ Dd) (h2 : p2 ≠ Dd) (h3 : t ≠ Dd) : QI K H0 a t p1 p2 st σ (L2.upd H Dd o) := by
  obtain ⟨ob, d0, ht⟩ := q.ht
  refine ⟨q.len, q.s0, q.s1, fun b u z => ?_, ⟨ob, d0, by rw [upd_ne h3]; exact ht⟩, by rw [upd_ne h1]; exact q.h1, by rw [upd_ne h2]; exact q.h2⟩
  have : b ≠ Dd := fun e => by subst e; rw [n0] at z; cases z
  rw [upd_ne this]
  exact q.ex _ _ z
theorem QI.put {H0 : Hp} {a t p1 p2 p : Addr} {x : Int} {st : List Int × List Int} (q : QI K H0 a t p1 p2 st σ H) (z1 : H0 p1 = none) (z2 : H0 p2 = none) (n12 : p1 ≠ p2) (n1 : t ≠ p1) (n2 : t ≠ p2) :
    QI K H0 a t p1 p2 (st.1 ++ [x], st.2) σ (L2.upd H p1 (.lst (st.1.map V.int ++ [.int x]))) ∧ QI K H0 a t p1 p2 (st.1, st.2 ++ [x]) σ (L2.upd H p2 (.lst (st.2.map V.int ++ [.int x]))) := by
  obtain ⟨ob, d0, ht⟩ := q.ht
  constructor
  · refine ⟨q.len, q.s0, q.s1, fun b u z => ?_, ⟨ob, d0, by rw [upd_ne n1]; exact ht⟩, by rw [upd_same]; simp, by rw [upd_ne n12.symm]; exact q.h2⟩
    have : b ≠ p1 := fun e => by subst e; rw [z1] at z; cases z
    rw [upd_ne this]
    exact q.ex _ _ z
  · refine ⟨q.len, q.s0, q.s1, fun b u z => ?_, ⟨ob, d0, by rw [upd_ne n2]; exact ht⟩, by rw [upd_ne n12]; exact q.h1, by rw [upd_same]; simp⟩
    have : b ≠ p2 := fun e => by subst e; rw [z2] at z; cases z
    rw [upd_ne this]
    exact q.ex _ _ z
/-! ### powers of great numbers -/
end
end DL

namespace DL
open Evl (Ex)
open PySem PySem.Spec PyProof.Rows L2 PySem.W
/-! t[::1] of a tuple -/
section
variable {prog : Program} {w : World} {A : Around} {E : Value → Shared → Prop} {s : Shared}
end
section
variable {K : PySem.W.Frag} {E : WX} {X : Cx} {G : En} {F F' : Hp} {T T' : List (Addr × D)} {s s' : S} {σ σ' : L2.St} {H H' : Hp} {v : V} {d : D} {ds : List D} {i : Nat} {r : R} {Q : VK}
end
end DL

/-! itertools.permutations of a range, made a list -/
namespace DL
open Evl (Ex)
open PySem PySem.Spec PyProof.Rows L2
open Sem (wp)
end DL

namespace DL
open Evl (Ex)
open PySem PySem.Spec PyProof.Rows L2
open Sem (wp)
section
variable {prog : Program} {w : World} {A : Around} {E : Value → Shared → Prop} {s : Shared}
abbrev tupO (vs : List Value) : Obj := { cls := .type "tuple", data := .seq vs.toArray }
end
end DL

namespace DL
open Evl (Ex)
open PySem PySem.Spec PyProof.Rows L2
open Sem (wp)
section
variable {prog : Program} {w : World} {A : Around} {E : Value → Shared → Prop} {s : Shared}
end
end DL

namespace DL
open Evl (Ex)
open PySem PySem.Spec PyProof.Rows L2
open Sem (wp)
section
variable {prog : Program} {w : World} {A : Around} {E : Value → Shared → Prop} {s : Shared}
end
end DL

namespace DL
open Evl (Ex)
open PySem PySem.Spec PyProof.Rows L2
open Sem (wp)
def TupsAt (h : Heap) : List Addr → List (List Value) → Prop
  | [], [] => True
  | t :: ts, l :: ls => h.get? t = some (tupO l) ∧ TupsAt h ts ls
  | _, _ => False
theorem TupsAt.mono {h h' : Heap} : ∀ {ts : List Addr} {ls : List (List Value)}, TupsAt h ts ls → (∀ t ∈ ts, ∀ o, h.get? t = some o → h'.get? t = some o) → TupsAt h' ts ls
  | [], [], _, _ => trivial
  | [], _ :: _, x, _ => x.elim
  | _ :: _, [], x, _ => x.elim
  | t :: ts, l :: ls, x, k => ⟨k t (List.mem_cons_self ..) _ x.1, TupsAt.mono x.2 fun u hu => k u (List.mem_cons_of_mem _ hu)⟩
section
variable {prog : Program} {w : World} {A : Around} {E : Value → Shared → Prop} {s : Shared}
end
end DL

namespace DL
open Evl (Ex)
open PySem PySem.Spec PyProof.Rows L2
open Sem (wp)
section
variable {prog : Program} {w : World} {A : Around} {E : Value → Shared → Prop} {s : Shared}
end
end DL

namespace DL
open Evl (Ex)
open PySem PySem.Spec PyProof.Rows L2
open Sem (wp)
section
variable {P : Program} {w : World}
end
section
variable {X : Cx} {E : WX} {e : Expr} {te : TRg} {fi : XI} {p p2 pos pos2 : Pos} {f : Str}
end
end DL

namespace DL
open Evl (Ex)
open PySem PySem.Spec PyProof.Rows L2
open Evl (Ex)
section
variable {K : PySem.W.Frag} {G : En} {F : Hp} {T : List (Addr × D)} {s : S} {σ : L2.St} {H : Hp}
end
section
variable {X : Cx} {E : WX} {e : Expr} {te : TRg} {fi : XI} {p p2 pos pos2 : Pos} {f : Str}
end
end DL

namespace DL
open Evl (Ex)
open PySem PySem.Spec PyProof.Rows L2 PySem.W
/-! ### the module's names of types of the library -/
section
variable {K : PySem.W.Frag}
abbrev TyD : Type := Str × String
abbrev AlT : Type := AlK × Bool
def tysB (ty : List TyD) (K : PySem.W.Frag) : Bool := ty.all fun t => He.eqO (PySem.W.nsIn K mainGlobals t.1) (some (some (.type t.2)))
def obsT (ty : List TyD) (fa : List He.Fa) (fn : List He.DefD) (cs : List (Str × D)) (ts : List TabD) (K : PySem.W.Frag) : AlT := (obsK fa fn cs ts K, tysB ty K)
def valT (fn : List He.DefD) (ts : List TabD) (w : World) : AlT := (valK fn ts w, true)
def SaysT (ty : List TyD) (fa : List He.Fa) (fn : List He.DefD) (cs : List (Str × D)) (ts : List TabD) (w : World) (K : PySem.W.Frag) : Prop := obsT ty fa fn cs ts K = valT fn ts w
variable {tyl : List TyD} {fa : List He.Fa} {fn : List He.DefD} {cs : List (Str × D)} {ts : List TabD} {w : World} {h : Heap} {mg : Str → Option Value}
theorem SaysT.k (c : SaysT tyl fa fn cs ts w K) : SaysK fa fn cs ts w K := congrArg (fun z : AlT => z.1) c
end
end DL

namespace DL
open Evl (Ex)
open PySem PySem.Spec PyProof.Rows L2
/-! ### l[::c], c from 2 on -/
section
variable {K : PySem.W.Frag} {E : WX} {X : Cx} {G : En} {F F' : Hp} {T T' : List (Addr × D)} {s s' : S} {σ σ' : L2.St} {H H' : Hp} {v : V} {d : D} {ds : List D} {i : Nat} {r : R} {Q : VK}
end
end DL

/-! ### the head of an open law of a program with imports -/
namespace DL
open Evl (Ex)
open PySem PySem.W PySem.Calls PyProof.Rows HandSHeadRun
section
variable {r : OpenRow} {q : Program} {H : Hook} {ob : SharedT → H.α} {M : Nat} {loose : List PySem.Str}
end
end DL

namespace DL
open Evl (Ex)
open PySem PySem.Spec PyProof.Rows L2
/-! ### {k: True for ..}, the keys nested tuples -/
section
variable {X : Cx}
end
end DL

namespace DL
open Evl (Ex)
open PySem PySem.Spec PyProof.Rows L2 PySem.W
section
variable {prog : Program} {w : World} {A : Around} {E : Value → Shared → Prop} {s : Shared} {T : String} {r d : Addr} {n : Nat} {P : Nat → Value → Prop} {OK : Heap → Prop}
end
section
variable {X : Cx}
end
end DL

namespace DL
open Evl (Ex)
open PySem PySem.Spec PyProof.Rows L2 PySem.W
def DicSorted (ds out : List D) : Prop := ∃ ks M : List NK, ds = ks.map NestedKey.data ∧ (∀ k ∈ ks, goodK k) ∧ M.Nodup ∧ (∀ k, k ∈ M ↔ k ∈ ks) ∧ M.length + 1 ≤ 1000 ∧ (sortOk (M.map NestedKey.data) = true ∨ M.length ≤ 1) ∧ ∀ M' : List NK, M'.Perm M → (M'.map NestedKey.data).mergeSort leD = out
theorem DicSorted.one {ds a b : List D} (h : DicSorted ds a) (h' : DicSorted ds b) : a = b := by
  obtain ⟨ks, M, e1, _, n1, m1, _, _, s1⟩ := h
  obtain ⟨js, N, e2, _, n2, m2, _, _, s2⟩ := h'
  have e : ks = js := map_data_inj (e1.symm.trans e2)
  subst e
  have pm : M.Perm N := (List.perm_ext_iff_of_nodup n1 n2).mpr fun k => (m1 k).trans (m2 k).symm
  exact (s1 M (.refl _)).symm.trans (s2 M pm)
section
variable {K : PySem.W.Frag} {E : WX} {X : Cx} {G : En} {F F' : Hp} {T T' : List (Addr × D)} {s s' : S} {σ σ' : L2.St} {H H' : Hp} {v : V} {d : D} {ds : List D} {i : Nat} {r : R} {Q : VK}
/-- what the set holds, what was put in -/
structure HoldsD (K : PySem.W.Frag) (F : Hp) (L : List (NK × Addr)) (acc : List D) : Prop where
  rp : ∀ p ∈ L, Rp K F (.ref p.2) p.1.data
  sub : ∀ p ∈ L, p.1.data ∈ acc
  all : ∀ d ∈ acc, ∃ p ∈ L, p.1.data = d
  nd : (L.map (·.1)).Nodup
theorem HoldsD.ex {L : List (NK × Addr)} {acc : List D} (h : HoldsD K F L acc) (e : Ex F F') : HoldsD K F' L acc := ⟨fun p hp => Rp.mono e (h.rp p hp), h.sub, h.all, h.nd⟩
theorem HoldsD.len {L : List (NK × Addr)} {acc : List D} {M : List NK} {ks : List NK} (h : HoldsD K F L acc) (hm : ∀ d ∈ acc, d ∈ ks.map NestedKey.data) (m : ∀ k, k ∈ M ↔ k ∈ ks) : L.length ≤ M.length := by
  have sub : ∀ k ∈ L.map (·.1), k ∈ M := fun k hk => by
    obtain ⟨p, hp, rfl⟩ := List.mem_map.mp hk
    obtain ⟨j, hj, e⟩ := List.mem_map.mp (hm _ (h.sub p hp))
    rw [← data_inj _ _ e]
    exact (m j).mpr hj
  have q := nk_nodup_len _ _ h.nd sub
  rwa [List.length_map] at q
end
end DL

namespace DL
open Evl (Ex)
open PySem PySem.Spec PyProof.Rows L2 PySem.W
/-! ### a dict of one's own whose keys are tuples: {}, {k: True}, {k: True for ..}, d[k] = True, k in d, sorted(d) -/
section
variable {K : PySem.W.Frag} {E : WX} {X : Cx} {G : En} {F F' : Hp} {T T' : List (Addr × D)} {s s' : S} {σ σ' : L2.St} {H H' : Hp} {v : V} {d : D} {ds : List D} {i : Nat} {r : R} {Q : VK} {p : Addr}
/-! {} -/
/-! {k: True} -/
/-! d[k] = True -/
/-! k in d, k not in d -/
section
variable {kr : Nat} {a : Expr} {ta : TE} {fa : XE} {x : Str} {px pos : Pos}
end
/-! sorted(d) -/
end
end DL

namespace DL
open Evl (Ex)
open PySem PySem.Spec PyProof.Rows L2 PySem.W
/-! ### {k: True for ..} as a dict of one's own -/
section
variable {K : PySem.W.Frag} {E : WX} {X : Cx} {G : En} {F F' : Hp} {T T' : List (Addr × D)} {s s' : S} {σ σ' : L2.St} {H H' : Hp} {v : V} {d : D} {ds : List D} {i : Nat} {r : R} {Q : VK} {p : Addr}
variable {kr kk : Nat} {elt tg iter : Expr} {ifs : List Expr} {scope : Scope} {own : List (PySem.Str × Nat)} {gs : List Nat} {pos vpos spos py : Pos} {y : PySem.Str} {wi : TI} {fi : XI} {xg : XG} {ft : XT} {fe : XE}
end
end DL

namespace DL
open Evl (Ex)
open PySem PySem.Spec PyProof.Rows L2 PySem.W
/-! ### a list of one's own, walked without being given away -/
section
variable {K : PySem.W.Frag} {E : WX} {X : Cx} {G : En} {F F' : Hp} {T T' : List (Addr × D)} {s s' : S} {σ σ' : L2.St} {H H' : Hp} {v : V} {d : D} {ds : List D} {i : Nat} {r : R} {Q : VK} {p : Addr}
end
end DL

/-! itertools.combinations, as what a loop walks -/
namespace DL
open Evl (Ex)
open PySem PySem.Spec PyProof.Rows L2
open Sem (wp)
end DL

namespace DL
open Evl (Ex)
open PySem PySem.Spec PyProof.Rows L2
open Sem (wp)
section
variable {prog : Program} {w : World} {A : Around} {E : Value → Shared → Prop} {s : Shared}
end
end DL

namespace DL
open Evl (Ex)
open PySem PySem.Spec PyProof.Rows L2
open Sem (wp)
section
variable {prog : Program} {w : World} {A : Around} {E : Value → Shared → Prop} {s : Shared}
end
end DL

namespace DL
open Evl (Ex)
open PySem PySem.Spec PyProof.Rows L2
open Sem (wp)
end DL

namespace DL
open Evl (Ex)
open PySem PySem.Spec PyProof.Rows L2
open Sem (wp)
section
variable {K : PySem.W.Frag} {E : WX} {X : Cx} {F : Hp} {ds : List D} {xs : List V}
end
end DL

/-! defs that may raise -/
namespace DL
open Evl (Ex)
open PySem PySem.Spec PyProof.Rows L2 PySem.W
/-- a def that may let an error out -/
theorem fn_okX {P : Program} {w : World} {K : PySem.W.Frag} {m : List Bool} {mg : Str → Option Value} {base : Heap} {x qual : Str} {params : Arguments} {body : List Stmt} {scope : Scope} {f : Addr} {fd : FuncData} {N ps : List Str} {k : Nat} {fb : XS} (Fd : FunD K x qual params body scope [] [] f fd) (S : FnScope N ps scope) (hm : m.length = ps.length) (hN : m.length ≤ N.length)
    (hb : ∀ (cdv : Value) (A : Around) (outer : List Env) (s : Shared) (H : Hp) (E : XK), Room k (A.deeper (envOfC qual scope s.heap.objs.size f cdv)) → Takes (cxOf (L2.CX P w) P w K mg base N qual scope f cdv A outer s H E) (fun c d _ H => E c d H) →
      PassesOwn (model P w) (cxOf (L2.CX P w) P w K mg base N qual scope f cdv A outer s H E).A (cxOf (L2.CX P w) P w K mg base N qual scope f cdv A outer s H E).env (cxOf (L2.CX P w) P w K mg base N qual scope f cdv A outer s H E).xe →
      ∃ t, DSs (cxOf (L2.CX P w) P w K mg base N qual scope f cdv A outer s H E) (fun c d _ H => E c d H) body t fb) :
    FnOk P w K mg base (L2.CX P w) (k + 1) f fd ps (spD K m (runF m N.length fb)) :=
  Fd.ok S (fun vs H Q E ⟨F, ds, _, h, _⟩ => h.len.1.trans hm) fun cdv A outer s H vs Q E hr hsp => by
    obtain ⟨t, h⟩ := hb cdv A outer s H E hr (takes_of rfl rfl rfl rfl) (passes_of rfl)
    exact ⟨t, h.ps, body_ok h.sd hN hsp⟩
/-- what a def may let out is taken -/
theorem passX {X : Cx} {E : WX} (tk : Takes X E) : PassS (L2.CX X.prog X.w) X E := passAt tk
/-! C(e): the program's errors -/
/-- __init__(self, value): ValueError.__init__(self, value); self.value = value -/
def spInit (K : PySem.W.Frag) : Sp := fun vs H Q _ => ∃ (a C : Addr) (v : V), vs = [.ref a, v] ∧ OexC K C ∧ PySem.W.findIn K (.ref C) "value" = some none ∧ H a = some (exo a C none) ∧
  ∀ dx, H dx = none → dx ≠ a → Q .non (upd (upd H dx (exd dx [("value", v)])) a (exo a C (some dx)))
theorem initT {K : PySem.W.Frag} {vs : List V} {H : Hp} {Q : VK} {E : XK} (h : spInit K vs H Q E) : tSeq (tDrop (tVeI K (tCons (tVar 0) (tCons (tVar 1) tNil)))) (tSeq (tOst K "value" (tVar 0) (tVar 1)) tNext) { nx := fun _ H' => Q .non H', rt := Q } (start ["self", "value"] vs) H := by
  obtain ⟨a, C, v, rfl, T, hno, ha, q⟩ := h
  refine ⟨.ref a, rfl, v, rfl, a, C, [v], rfl, by simp, T, ha, ?_⟩
  refine ⟨v, rfl, .ref a, rfl, a, C, rfl, T, hno, .inl ⟨ha, fun dx hd hne => ?_⟩⟩
  exact q dx hd hne
end DL

/-! raise C(e) -/
namespace DL
open Evl (Ex)
open PySem PySem.Spec PyProof.Rows L2 PySem.W
section
variable {K : PySem.W.Frag} {E : WX} {X : Cx} {G : En} {F F' : Hp} {s s' : S} {σ : L2.St} {H H' : Hp}
def sRaise (c : Str) (fe : XE) : XS := fun s => (fe s).bind fun (r, s1) => match frz s1 r with
  | some (d, s2) => .err c d s2
  | none => .bad
theorem raise_heap {H1 : Hp} {a dx C : Addr} {fs : List (Str × V)} (ha : H1 a = none) (hne : dx ≠ a) :
    upd (del (upd (upd (upd H1 a (exo a C none)) dx (exd dx fs)) a (exo a C (some dx))) a) dx (.xd fs) = upd H1 dx (.xd fs) := by
  funext b
  by_cases hb : b = dx
  · rw [hb, upd_same, upd_same]
  · rw [upd_ne hb, upd_ne hb]
    by_cases hba : b = a
    · rw [hba, del_same, ha]
    · rw [del_ne hba, upd_ne hba, upd_ne hb, upd_ne hba]
theorem snd_raise {c : Str} {te : TE} {fe : XE} (T : OexC K (He.ga K c)) (hno : PySem.W.findIn K (.ref (He.ga K c)) "value" = some none) (he : Snd K E te fe) :
    SndS K E (fun _ σ H => tMkO (He.ga K c) (spInit K) [] (tCons te tNil) σ H fun cls d H' => E cls d σ H') (sRaise c fe) := fun G F s σ H Dn sr w => by
  refine he G F [] s σ H _ sr (w.bind.mono (Evl.Ex.refl F) fun ⟨r, s1⟩ w1 F1 T1 H1 v1 e1 sr1 rv1 => ?_)
  dsimp only at w1 sr1 rv1
  split at w1
  · rename_i d s2 q
    obtain ⟨F2, e2, sr2, hd⟩ := sr1.frz rv1 (Evl.Ex.refl _) q
    refine ⟨by simp, fun a ha => ⟨a, _, v1, rfl, T, hno, upd_same, fun dx hd1 hne => ⟨rfl, dx, [("value", v1)], upd_same, ?_, ?_, ?_⟩⟩⟩
    · rw [upd_ne hne, upd_same]
    · rw [upd_ne hne] at hd1; exact hd1
    · rw [upd_ne hne] at hd1
      rw [raise_heap ha hne]
      exact w1 dx F2 _ σ _ v1 (e1.trans e2) (sr2.grow (o := .xd [("value", v1)]) hd1) upd_same hd (sr2.he hd1)
  · exact w1.elim
theorem ds_raise {CX : CXT} {k : Nat} {fI : Addr} {fd : FuncData} {c : Str} {e : Expr} {te : TE} {fe : XE} {p pos pos' : Pos} (hc : X.calm = true) (tk : Takes X E) (T : OexC X.K (He.ga X.K c)) (hno : PySem.W.findIn X.K (.ref (He.ga X.K c)) "value" = some none)
    (iC : PySem.W.findIn X.K (.ref (He.ga X.K c)) "__init__" = some (some (.ref fI))) (tI : PySem.W.typeIn X.K (.ref fI) = some (.type "function"))
    (F1 : FnOk X.prog X.w X.K X.mg X.base CX k fI fd ["self", "value"] (spInit X.K)) (hr : Room (k + 1) X.A) (hb : Binds X.K fd ["self", "value"] []) (hx : Passes CX X (fun _ _ _ => False)) (hg : Gl X c) (hm : X.mg c = some (.ref (He.ga X.K c))) (ha : DE X E e te fe)
    (hdb : (c == ("__debug__" : Str)) = false := by decide) (hs : starEach [e] X.env = (false, eval e X.env) :: starEach [] X.env := by rfl) :
    DS X E (.Raise (some (.Call (.Name c p) [e] [] pos)) none pos') (fun _ σ H => tMkO (He.ga X.K c) (spInit X.K) [] (tCons te tNil) σ H fun cls d H' => E cls d σ H') (sRaise c fe) :=
  ⟨ps_raise hc tk (pmk_oex T iC tI F1 hr hb .nil hx hg hm (pa_cons ha.pe pa_nil hs) hdb hs), snd_raise T hno ha.sd⟩
end
end DL

/-! try: .. except C as e: .. -/
namespace DL
open Evl (Ex)
open PySem PySem.Spec PyProof.Rows L2 PySem.W
section
variable {K : PySem.W.Frag} {E : WX} {X : Cx} {G : En} {F F' : Hp} {s s' : S} {σ : L2.St} {H H' : Hp}
/-- all that a suite's meaning lets -/
def canS (K : PySem.W.Frag) (E : WX) (f : XS) : TS := fun D σ H => ∃ G F s, SR K G F [] s σ H ∧ Want K G E F (f s) (FP K G F D)
theorem canS_ps {body : List Stmt} {t : TS} {f : XS} (d : DSs X E body t f) : PSs X body (canS X.K E f) := ⟨fun pins s σ H D I ⟨G, F, z, sr, w⟩ => d.ps.run pins s σ H D I (d.sd G F z σ H D sr w)⟩
theorem getS_gone {i : Nat} : getS (s.set i none) i = none := by
  cases q : getS (s.set i none) i with
  | none => rfl
  | some y =>
    rcases getS_set q with ⟨_, e1⟩ | ⟨n, e1⟩
    · cases e1
    · exact absurd rfl n
end
end DL

/-! e.value in an except suite -/
namespace DL
open Evl (Ex)
open PySem PySem.Spec PyProof.Rows L2 PySem.W
section
variable {X : Cx} {exm : Str → Option Bool} {i j : Nat} {a : Addr} {oe : Obj} {cls : Value} {d : Option Addr} {pn : List (Addr × Obj)} {n m : Str} {q1 q2 q3 q4 pos : Pos}
end
end DL

/-! __init__(self, value) of the program's errors; several clauses -/
namespace DL
open Evl (Ex)
open PySem PySem.Spec PyProof.Rows L2 PySem.W
theorem spInit_len {K : PySem.W.Frag} : ∀ vs H Q E, spInit K vs H Q E → vs.length = (["self", "value"] : List Str).length := fun vs H Q E ⟨a, C, v, e, _⟩ => by rw [e]; rfl
theorem fn_init {P : Program} {w : World} {K : PySem.W.Frag} {mg : Str → Option Value} {base : Heap} {CX : CXT} {k : Nat} {x qual : Str} {params : Arguments} {scope : Scope} {f : Addr} {fd : FuncData} {p1 p2 p3 p4 p5 p6 p7 p8 p9 p10 : Pos}
    (Fd : FunD K x qual params [.Expr (.Call (.Attribute (.Name "ValueError" p1) "__init__" p2) [.Name "self" p3, .Name "value" p4] [] p5) p6, .Assign [.Attribute (.Name "self" p7) "value" p8] (.Name "value" p9) p10] scope [] [] f fd)
    (S : FnScope ["self", "value"] ["self", "value"] scope) (gV : mg "ValueError" = none) (vV : PySem.W.findCls K (.type "ValueError") (.type "type") "__init__" = some (.val (.builtin "ValueError.__init__")))
    (hg : ∀ cdv a, ∃ pl, eval (.Call (.Attribute (.Name "ValueError" p1) "__init__" p2) [.Name "self" p3, .Name "value" p4] [] p5) (envOfC qual scope a f cdv) = (do
      let ov ← eval (.Name "ValueError" p1) (envOfC qual scope a f cdv)
      standAt p2.atName
      let (g, first) ← holding [ov] (getMethod ov "__init__" pl)
      callWith p5 g first (backTo p5 (starEach [.Name "self" p3, .Name "value" p4] (envOfC qual scope a f cdv))) (backToKw p5 (keywordEach [] (envOfC qual scope a f cdv)))))
    (hG : ∀ cdv A outer s H E, Gl (cxOf CX P w K mg base ["self", "value"] qual scope f cdv A outer s H E) "ValueError") (l0 : Vis scope "self") (l1 : Vis scope "value")
    (hs1 : ∀ cdv a, swapsWith (.Call (.Attribute (.Name "ValueError" p1) "__init__" p2) [.Name "self" p3, .Name "value" p4] [] p5) none p6.line (envOfC qual scope a f cdv) = pure false)
    (hs2 : ∀ cdv a, swapsWith (.Name "value" p9) (some (.Attribute (.Name "self" p7) "value" p8)) p10.line (envOfC qual scope a f cdv) = pure false)
    (hpl : ∀ cdv a, (backTo p5 (starEach [.Name "value" p4] (envOfC qual scope a f cdv))).any (·.1) = false)
    (he : ∀ cdv a, starEach [.Name "self" p3, .Name "value" p4] (envOfC qual scope a f cdv) = (false, eval (.Name "self" p3) (envOfC qual scope a f cdv)) :: starEach [.Name "value" p4] (envOfC qual scope a f cdv))
    (he2 : ∀ cdv a, starEach [.Name "value" p4] (envOfC qual scope a f cdv) = (false, eval (.Name "value" p4) (envOfC qual scope a f cdv)) :: starEach [] (envOfC qual scope a f cdv)) :
    FnOk P w K mg base CX (k + 1) f fd ["self", "value"] (spInit K) :=
  Fd.ok S spInit_len fun cdv A outer s H vs Q E hr hsp => by
    obtain ⟨pl, hcall⟩ := hg cdv s.heap.objs.size
    refine ⟨_, pss_cons (ps_expr (pe_veinit (pl := pl) (hG cdv A outer s H E) gV vV (pa_cons (pe_var (i := 0) rfl l0) (pa_cons (pe_var (i := 1) rfl l1) pa_nil (he2 cdv _)) (he cdv _)) hcall (he cdv _) (hpl cdv _)) (hs1 cdv _)) (pss_cons (ps_ost (f := "value") (pe_var (i := 0) rfl l0) (pe_var (i := 1) rfl l1) (hs2 cdv _)) pss_nil), initT hsp⟩
end DL

/-! an error that is kept: laid where it landed -/
namespace DL
open Evl (Ex)
open PySem PySem.Spec PyProof.Rows L2 PySem.W
theorem er_ok {P : Program} {w : World} {H : Hp} {h : Heap} {a C x : Addr} {o : Obj} {vs : Array Value} (e : h.get? a = some o) (h1 : o.cls = .ref C) (h2 : o.dict = some x) (h3 : o.data = .fields vs) : ObjOk P w H h a (erH a C x) :=
  ⟨⟨o, vs, e, h1, h2, h3⟩, ⟨o, e⟩, fun _ _ ⟨o', vs', e', a1, a2, a3⟩ k => ⟨o', vs', k _ e', a1, a2, a3⟩⟩
end DL

/-! texts: str(n), join, split, partition, find, startswith, text * n -/
namespace DL
open Evl (Ex)
open PySem PySem.Spec PyProof.Rows L2 PySem.W
section
variable {K : PySem.W.Frag} {E : WX} {X : Cx} {G : En} {F F' : Hp} {T T' : List (Addr × D)} {s s' : S} {σ : L2.St} {H H' : Hp} {v : V} {d : D} {ds : List D} {i : Nat} {r : R} {Q : VK}
/-! join -/
/-! split -/
/-! partition -/
/-! startswith, find -/
section
variable {o e : Expr} {to te : TE} {fo fa : XE} {apos pos : Pos}
end
/-! str(n), int(text) -/
/-! text * 0, text * 1 -/
end
end DL

/-! sorted(set(a list of keys)) -/
namespace DL
open Evl (Ex)
open PySem PySem.Spec PyProof.Rows L2 PySem.W
structure GotN (ks : List Ky) (i : Nat) (L : List Ky) : Prop where
  sub : ∀ p ∈ L, p ∈ ks.take i
  all : ∀ p ∈ ks.take i, p.2 ∈ L.map (·.2)
theorem GotN.zero (ks : List Ky) : GotN ks 0 [] := ⟨fun p h => (by cases h), fun p h => (by simp at h)⟩
theorem GotN.same {ks L : List Ky} {i : Nat} {x : Ky} (g : GotN ks i L) (h : ks[i]? = some x) (hm : x.2 ∈ L.map (·.2)) : GotN ks (i + 1) L := by
  refine ⟨fun p hp => ?_, fun p hp => ?_⟩
  · rw [take_next h]
    exact List.mem_append_left _ (g.sub p hp)
  · rw [take_next h] at hp
    rcases List.mem_append.mp hp with z | z
    · exact g.all p z
    · rw [List.mem_singleton.mp z]; exact hm
theorem GotN.more {ks L L' : List Ky} {i : Nat} {x : Ky} (g : GotN ks i L) (h : ks[i]? = some x) (pm : L'.Perm (x :: L)) : GotN ks (i + 1) L' := by
  refine ⟨fun p hp => ?_, fun p hp => ?_⟩
  · rw [take_next h]
    rcases List.mem_cons.mp (pm.mem_iff.mp hp) with e | z
    · rw [e]; exact List.mem_append_right _ (List.mem_singleton.mpr rfl)
    · exact List.mem_append_left _ (g.sub p z)
  · rw [(pm.map (·.2)).mem_iff, List.map_cons]
    rw [take_next h] at hp
    rcases List.mem_append.mp hp with z | z
    · exact List.mem_cons_of_mem _ (g.all p z)
    · rw [List.mem_singleton.mp z]; exact List.mem_cons_self
section
variable {P : Program} {w : World} {A : Around} {E : Value → Shared → Prop} {s : Shared}
theorem Mem.keep {h h' : Heap} {k : NK} {b : Addr} (x : Mem h k b) (hk : ∀ c o, h.get? c = some o → h'.get? c = some o) : Mem h' k b := x.kept fun c o _ _ e _ => hk c o e
theorem SetN.keep {h h' : Heap} {a : Addr} {L : List Ky} {es : Array (Int × Value)} {ep : Nat} {t : SetTable} (R : SetN w h a L es ep t) (ha : ∀ o, h.get? a = some o → h'.get? a = some o) : SetN w h' a L es ep t := by
  obtain ⟨o, ho, r⟩ := R.ob
  exact ⟨⟨o, ha o ho, r⟩, R.en, R.tb, R.nd, R.pl, R.ld, R.rm, R.fw⟩
end
end DL

namespace DL
open Evl (Ex)
open PySem PySem.Spec PyProof.Rows L2 PySem.W
section
variable {P : Program} {w : World} {A : Around} {E : Value → Shared → Prop} {s : Shared}
end
end DL

namespace DL
open Evl (Ex)
open PySem PySem.Spec PyProof.Rows L2 PySem.W
section
variable {X : Cx}
end
/-! sorted(set(e)) -/
section
variable {K : PySem.W.Frag} {E : WX} {X : Cx} {F H : Hp}
end
end DL

/-! one sign in a text; methods of texts with two arguments; index; tuples in order; d.get(k, x) of a module's table; (e, *xs) -/
namespace DL
open Evl (Ex)
open PySem PySem.Spec PyProof.Rows L2 PySem.W
section
variable {K : PySem.W.Frag} {E : WX} {X : Cx} {G : En} {F F' : Hp} {T T' : List (Addr × D)} {s s' : S} {σ : L2.St} {H H' : Hp} {v : V} {d : D} {ds : List D} {i : Nat} {r : R} {Q : VK}
/-! methods -/
section
variable {o e : Expr} {es : List Expr} {to : TE} {t : TA} {fo : XE} {fa : XA} {name : Str} {apos cpos : Pos} {id : String} {r : V → List V → Hp → VK → Prop}
end
section
variable {o e : Expr} {es : List Expr} {to : TE} {t : TA} {fo : XE} {fa : XA} {apos cpos : Pos}
end
/-! ints, or tuples of ints, in order -/
/-! d.get(k, x) of a module's table -/
section
variable {kvs : List (Str × D)} {x : Str} {e f : Expr} {te td : TE} {fe fd : XE} {px apos cpos : Pos}
end
/-! (e, *xs) -/
section
variable {e l : Expr} {te tl : TE} {fe fl : XE} {x1 : Nat} {lp pos : Pos}
end
end
end DL

/-! (e, *xs) as data; a def that calls the def it is handed -/
namespace DL
open Evl (Ex)
open PySem PySem.Spec PyProof.Rows L2 PySem.W
section
variable {K : PySem.W.Frag} {E : WX} {X : Cx} {G : En} {F F' : Hp} {T T' : List (Addr × D)} {s s' : S} {σ : L2.St} {H H' : Hp} {v : V} {d : D} {ds : List D} {i : Nat} {r : R} {Q : VK}
/-! ### slot 0 holds the def at f -/
/-! the def itself -/
end
end DL

/-! the body of a def that calls the def it is handed: a target from an expression, a name from the call, the rest -/
namespace DL
open Evl (Ex)
open PySem PySem.Spec PyProof.Rows L2 PySem.W
end DL

/-! {k: v, ..}, keys ints and texts -/
namespace DL
open Evl (Ex)
open PySem PySem.Spec PyProof.Rows L2 PySem.W
section
variable {K : PySem.W.Frag} {E : WX} {X : Cx} {G : En} {F F' : Hp} {T T' : List (Addr × D)} {s s' : S} {σ σ' : L2.St} {H H' : Hp} {v : V} {d : D} {ds : List D} {i : Nat} {r : R} {Q : VK}
end
end DL

/-! l.index(x), l a list of ints -/
namespace DL
open Evl (Ex)
open PySem PySem.Spec PyProof.Rows L2 PySem.W
section
variable {K : PySem.W.Frag} {E : WX} {X : Cx} {G : En} {F F' : Hp} {T T' : List (Addr × D)} {s s' : S} {σ σ' : L2.St} {H H' : Hp} {v : V} {d : D} {ds : List D} {i : Nat} {r : R} {Q : VK}
variable {o e : Expr} {es : List Expr} {to : TE} {t : TA} {fo : XE} {fa : XA} {apos cpos : Pos}
end
end DL

/-! an error that is kept: try: .. except C as n: m = n -/
namespace DL
open Evl (Ex)
open PySem PySem.Spec PyProof.Rows L2 PySem.W
theorem Inv.lay_er2 {X : Cx} {pins : List (Addr × Obj)} {σ : L2.St} {H : Hp} {s : Shared} {a C x : Addr} {o : Obj} {vs : Array Value} (I : Inv X pins σ H s) (e : s.heap.get? a = some o) (h1 : o.cls = .ref C) (h2 : o.dict = some x) (h3 : o.data = .fields vs)
    (na : H a = none) (nL : a ≠ X.env.locals) (n0 : a ∉ X.ex → X.s_0.heap.get? a = none) (np : ∀ p ∈ X.pn ++ pins, p.1 ≠ a) : Inv X pins σ (upd H a (erH a C x)) s := by
  have ne : ∀ {b u}, H b = some u → b ≠ a := fun {b u} q z => by rw [z, na] at q; cases q
  refine ⟨I.ok, I.os, I.bare, ⟨I.base.keep, I.base.slot, fun b ob q n hx => ?_, I.base.there, fun b xs q => ?_, fun b ob u q => ?_, fun b ps q => ?_⟩, I.loc, I.cell, ?_, fun y c q => ?_, fun p hp => ?_, ?_, I.len⟩
  · rw [upd_ne (fun z => by rw [z] at q hx; rw [n0 hx] at q; cases q)]
    exact I.base.free b ob q n hx
  · have := I.base.tups b xs q
    rw [upd_ne (ne this)]
    exact this
  · have := I.base.frzs b ob u q
    rw [upd_ne (ne this)]
    exact this
  · obtain ⟨more, this⟩ := I.base.tbls b ps q
    exact ⟨more, by rw [upd_ne (ne this)]; exact this⟩
  · rw [upd_ne (Ne.symm nL)]; exact I.free
  · rw [upd_ne (fun z => by
      obtain ⟨v, ⟨o', q1, q2⟩⟩ := I.cell y c q
      rw [z, e] at q1
      cases q1
      rw [h3] at q2
      cases q2)]
    exact I.freeC y c q
  · obtain ⟨p1, p2, p3, p4, p5⟩ := I.pin p hp
    exact ⟨p1, by rw [upd_ne (np p hp)]; exact p2, p3, p4, p5⟩
  · exact I.hok.laidN (fun _ _ e => e) na (er_ok e h1 h2 h3)
def wKeep (K : PySem.W.Frag) (cv : Value) (i j : Nat) (Wout : WX) (D : Ends) : WX := fun cls d σ H =>
  ∃ b, PySem.W.exmOne K cls cv = some b ∧ (b = true → ∃ C x, cls = .ref C ∧ d = some x ∧ ∀ a, H a = none → D.nx (((σ.set i (some (.ref a))).set j (some (.ref a))).set i none) (upd H a (erH a C x))) ∧ (b = false → Wout cls d σ H)
section
variable {X : Cx} {x n m : Str} {c : Value} {i j : Nat} {body : List Stmt} {np pos pos' q1 q2 pos2 : Pos} {tb : WX → TS} {Wout : WX}
theorem ps_try_keep (hs : X.stack = X.env :: X.outer) (hf : X.env.frame = some X.env.locals) (hN : X.N.Nodup) (hi : X.N[i]? = some n) (hln : X.env.kindOf n = some .local) (hc : Names X x c) (tk : Takes X Wout)
    (hb : ∀ (W : WX) (pn : List (Addr × Obj)) (xe : Value → Shared → Prop), Takes (X.tr pn xe) W → PassesOwn (model X.prog X.w) X.A X.env xe → PSs (X.tr pn xe) body (tb W))
    (hl : i < X.N.length) (hij : i ≠ j) (hv : Vis X.env.scope n) (hj : X.N[j]? = some m) (hm : Loc X.env.scope m)
    (hs2 : swapsWith (.Name n q1) (some (.Name m q2)) pos2.line X.env = pure false)
    (hd : (n == ("__debug__" : Str)) = false) (hcd : (n == ("__classdict__" : Str)) = false) (hfm : X.fn m = true ∨ X.env.scope.names.lookup m = some .local) :
    PS X (.Try body [.ExceptHandler (some (.Name x np)) (some n) [.Assign [.Name m q2] (.Name n q1) pos2] pos'] [] [] pos) (fun D σ H => tb (wKeep X.K c i j Wout D) D σ H) := by
  refine ⟨fun pins s σ H D I h => ?_⟩
  have ok := I.ok
  have hfr : X.A.frames = some (X.env :: X.outer) := by rw [ok.frames, hs]
  have hloc : Loc X.env.scope n := .inl hln
  refine wpAny_Try_except ?_
  refine wpAny_mono ((hb (wKeep X.K c i j Wout D) (X.pn ++ pins) (fun e s₁ => wpAny (model X.prog X.w) X.A (noteFrame e X.env) (fun _ s₂ => wpAny (model X.prog X.w) X.A (setFlight e none) (fun _ s₃ =>
    wpAny (model X.prog X.w) X.A (handleBy e X.env [.ExceptHandler (some (.Name x np)) (some n) [.Assign [.Name m q2] (.Name n q1) pos2] pos']) (SP X pins D) X.xe s₃) X.xe s₂) X.xe s₁) (fun u s' xx => ?_) PassesOwn.looking).run [] s σ H D (I.toTry _) h) (fun f s1 hsp => ?_) (fun e s1 he => he)
  · obtain ⟨a, B, sI, pins', σ', H', cls, d, rfl, J', nb, up, sky, na, os, ag, b, hb1, hyes, hno⟩ := xx
    have J : Inv X pins σ' H' sI := J'.ofTry ok
    have sky' : Sky B (X.env :: X.outer) a (Zc cls d) X.env.locals s'.heap := by rw [← hs]; exact sky
    show wpAny (model X.prog X.w) X.A (noteFrame (.ref a) X.env) _ _ _
    refine Sky.land Zc.steady hfr hf sky' fun h3 fl3 up3 => ?_
    have J3 : Inv X pins σ' H' { s' with heap := h3 } := J.landed nb fl3.1 (up.trans up3) os ag
    obtain ⟨oe3, vs3, he3, hz3, hd3⟩ := fl3.there
    have notFr : ∀ {h : Heap} {o : Obj} {vs : Array Value}, h.FunFrames B (X.env :: X.outer) → h.get? a = some o → o.data = .fields vs → a ∉ frs (X.env :: X.outer) := fun {h o vs} ff e dd hm => by
      obtain ⟨_, o', e', hnf⟩ := ff.mem hm
      rw [e] at e'; cases e'
      exact hnf _ dd
    have nfr := notFr fl3.2.2.1 he3 hd3
    have nL : a ≠ X.env.locals := fun z => nfr (List.mem_filterMap.mpr ⟨X.env, List.mem_cons_self, by rw [hf, z]⟩)
    have nF : a ∉ X.fs := fun hm => by
      obtain ⟨e, he, q⟩ := List.mem_filterMap.mp hm
      exact nfr (List.mem_filterMap.mpr ⟨e, List.mem_cons_of_mem _ he, q⟩)
    have nB : B.get? a = none := fl3.2.1
    have nbA : ∀ o, sI.heap.get? a ≠ some o := fun o e => by
      have := nb a o e (by rw [hs]; exact nfr)
      rw [nB] at this
      cases this
    have S3 := J3.suite he3 hd3 na nL nF
    refine wpAny_handleBy_cons (codeAny_handlers_test ?_) (by intro q; cases q)
    have LT : PySem.W.Looks (model X.prog X.w) h3 (typeOf (.ref a)) cls := fun A Q E s k q => wpAny_typeOf_ref (k _ _ he3) (by rw [hz3.1]; exact q)
    have LM := PySem.W.exm_one (M := model X.prog X.w) (J3.kIn) LT hb1
    have test : ∀ {Q : Value → Shared → Prop} {E : Value → Shared → Prop}, Q c { s' with heap := h3 } → wpAny (model X.prog X.w) (X.A.mark (some (.ref a))) (eval (.Name x np) X.env) Q E { s' with heap := h3 } := fun {Q E} q => by
      obtain ⟨hg, hdbg, hm | ⟨hm, hv, hnn⟩⟩ := hc
      · exact ld_glob (X := X.suite a ((a, oe3) :: (X.pn ++ pins))) S3 hg hm q hdbg
      · exact ld_blt (X := X.suite a ((a, oe3) :: (X.pn ++ pins))) S3 hg hm hv q hnn hdbg
    refine test (LM.here ?_)
    cases b with
    | true =>
      refine codeAny_handlers_suite_as ?_
      refine HandSPX.lands_againZ fl3 fun h4 fl4 up4 => ?_
      have J4 : Inv X pins σ' H' { s' with heap := h4 } := J.landed nb fl4.1 ((up.trans up3).trans up4) os ag
      obtain ⟨oe4, vs4, he4, hz4, hd4⟩ := fl4.there
      have S4 := J4.suite he4 hd4 na nL nF
      obtain ⟨C, xd, eC, ed, fin⟩ := hyes rfl
      refine store_ok (X := X.suite a ((a, oe4) :: (X.pn ++ pins))) (v := .ref a) S4 hN hi hloc rfl (fun s5 S5 => ?_) (.inr hln)
      have hls : i < σ'.length := by rw [J.len]; exact hl
      refine wpAny_mono ((pss_cons (ps_set (X := X.suite a ((a, oe4) :: (X.pn ++ pins))) hN hj hm (pe_var (X := X.suite a ((a, oe4) :: (X.pn ++ pins))) hi hv hd hcd) hs2 hfm) pss_nil).run [] s5 _ H' { nx := fun σ6 H6 => σ6 = (σ'.set i (some (.ref a))).set j (some (.ref a)) ∧ H6 = H', rt := fun _ _ => False, bk := fun _ _ => False, ct := fun _ _ => False } S5 ⟨.ref a, List.getElem?_set_self hls, rfl, rfl⟩) (fun f s6 hsp => ?_) (fun _ _ z => False.elim z)
      cases f with
      | next =>
        obtain ⟨σ6, H6, S6, rfl, rfl⟩ := hsp
        have J6 : Inv X ((a, oe4) :: pins) ((σ'.set i (some (.ref a))).set j (some (.ref a))) H6 s6 := ⟨ok, S6.os, S6.bare, S6.base, S6.loc, S6.cell, S6.free, S6.freeC, fun p hp => S6.pin p (List.mem_append_left _ (by
          rcases List.mem_append.mp hp with hp | hp
          · exact List.mem_cons_of_mem _ (List.mem_append_left _ hp)
          · rcases List.mem_cons.mp hp with hp | hp
            · rw [hp]; exact List.mem_cons_self
            · exact List.mem_cons_of_mem _ (List.mem_append_right _ hp))), S6.hok, S6.len⟩
        refine gone_ok J6 hN hi hln fun s7 J7 => ?_
        obtain ⟨e7, n7, _, _, _⟩ := J7.pin (a, oe4) (List.mem_append_right _ List.mem_cons_self)
        have J8 : Inv X pins (((σ'.set i (some (.ref a))).set j (some (.ref a))).set i none) H6 s7 := ⟨ok, J7.os, J7.bare, J7.base, J7.loc, J7.cell, J7.free, J7.freeC, fun p hp => J7.pin p (by
          rcases List.mem_append.mp hp with hp | hp
          · exact List.mem_append_left _ hp
          · exact List.mem_append_right _ (List.mem_cons_of_mem _ hp)), J7.hok, J7.len⟩
        refine ⟨_, _, Inv.lay_er2 J8 e7 (hz4.1.trans eC) (hz4.2.trans ed) hd4 n7 nL (fun hx => ?_) (fun p hp e => ?_), fin a na⟩
        · cases q : X.s_0.heap.get? a with
          | none => rfl
          | some o =>
            obtain ⟨o', e'⟩ := J.base.there a o q hx
            exact absurd e' (nbA o')
        · obtain ⟨p1, _⟩ := J.pin p hp
          rw [e] at p1
          exact nbA _ p1
      | brk => obtain ⟨σ6, H6, S6, q6⟩ := hsp; exact q6.elim
      | cont => obtain ⟨σ6, H6, S6, q6⟩ := hsp; exact q6.elim
      | ret u => obtain ⟨v6, σ6, H6, S6, r6, q6⟩ := hsp; exact q6.elim
    | false =>
      show wpAny _ X.A (handleBy (.ref a) X.env []) _ _ _
      refine wpAny_handleBy_nil ?_
      obtain ⟨k1, k2, k3, oe, vs, T, oT, ts', he, hz, hd, h1, hr⟩ := id fl3
      unfold PySem.passOn
      refine wpAny_bind (wpAny_field he hd h1 ?_)
      rw [if_neg (show ¬ ((Value.ref T == Value.none) = true) from by simp)]
      have up : wpAny (model X.prog X.w) X.A (setFlight (.ref a) X.env.frame) (fun _ s4 => wpAny (model X.prog X.w) X.A (throw (.ref a) : Sem Flow) (SP X pins D) X.xe s4) X.xe { s' with heap := h3 } := by
        rw [hf]
        refine HandSPX.setFlight_upZ fl3 fun h4 hh4 up4 => wpAny_throw (tk _ _ ?_)
        exact ⟨a, B, sI, pins, σ', H', cls, d, rfl, J, nb, (up.trans up3).trans up4, .inr (.inr (by rw [hs]; exact hh4)), na, os, ag, hno rfl⟩
      first
        | exact wpAny_bind (wpAny_pure (wpAny_bind up))
        | exact wpAny_bind up
  · cases f with
    | next =>
      obtain ⟨σ', H', J', q⟩ := hsp
      exact wpAny_execs_nil ⟨σ', H', J'.ofTry ok, q⟩
    | brk =>
      obtain ⟨σ', H', J', q⟩ := hsp
      exact ⟨σ', H', J'.ofTry ok, q⟩
    | cont =>
      obtain ⟨σ', H', J', q⟩ := hsp
      exact ⟨σ', H', J'.ofTry ok, q⟩
    | ret u =>
      obtain ⟨v, σ', H', J', r, q⟩ := hsp
      exact ⟨v, σ', H', J'.ofTry ok, r, q⟩
end
end DL

/-! try: .. except C as n: m = n: what it means -/
namespace DL
open Evl (Ex)
open PySem PySem.Spec PyProof.Rows L2 PySem.W
section
variable {K : PySem.W.Frag} {E : WX} {X : Cx} {G : En} {F F' : Hp} {T T' : List (Addr × D)} {s s' : S} {σ : L2.St} {H H' : Hp} {p : Addr} {d : D} {i j : Nat}
theorem OwnAt.notXd {fs : List (Str × V)} (o : OwnAt K F H p d) (h : H p = some (.xd fs)) : False := by
  cases d with
  | list ds =>
    obtain ⟨vs, h1, _⟩ := o
    rw [h] at h1; cases h1
  | dict ds =>
    obtain ⟨L, h1, _⟩ := o
    rw [h] at h1; cases h1
  | tuple ds =>
    obtain ⟨c, d, x, v, _, h1, _⟩ := o
    rw [h] at h1; cases h1
  | none => exact o
  | bool b => exact o
  | int b => exact o
  | str b => exact o
/-- the fields of an error, frozen -/
theorem SR.freezeX {x : Addr} {fs : List (Str × V)} (sr : SR K G F [] s σ H) (hx : H x = some (.xd fs)) (hn : G.He x = none) : ∃ F', Ex F F' ∧ F' x = some (.xd fs) ∧ SR K G F' [] s σ H := by
  cases q : F x with
  | some o =>
    have := sr.fh x o q
    rw [hx] at this
    cases this
    exact ⟨F, Evl.Ex.refl F, q, sr⟩
  | none =>
    obtain ⟨e, sr2⟩ := sr.enter hx q hn (fun i k d' g hv => by
      obtain ⟨p', a, o, _⟩ := sr.ow i k d' g
      rw [a] at hv
      cases hv
      exact o.at_.notXd hx) (fun q hq => nomatch hq)
    exact ⟨_, e, upd_same, sr2⟩
end
end DL

/-! a kept error: its value, its classes, whether it is one -/
namespace DL
open Evl (Ex)
open PySem PySem.Spec PyProof.Rows L2 PySem.W
/-- what the written part says of an error's class -/
structure ErC (K : PySem.W.Frag) (c : Str) : Prop where
  xf : XfC K (He.ga K c)
  no : PySem.W.findIn K (.ref (He.ga K c)) "value" = some none
  ex : ExcC K (He.ga K c)
section
variable {K : PySem.W.Frag} {E : WX} {X : Cx} {G : En} {F F' : Hp} {T T' : List (Addr × D)} {s s' : S} {σ : L2.St} {H H' : Hp} {p : Addr} {d : D} {i j : Nat}
theorem er_at {pins : List (Addr × Obj)} {z : Shared} {a C x : Addr} {fs : List (Str × V)} (I : Inv X pins σ H z) (ha : H a = some (erH a C x)) (hx : H x = some (.xd fs)) :
    ∃ (oe od : Obj) (mA : Str → Option Value), PySem.W.InstAt z.heap a oe C (some od) ∧ (∀ n, PySem.W.lookIn n od = some (mA n)) ∧ ∀ n, RelO (fs.lookup n) (mA n) := by
  have h1 : ObjOk X.prog X.w H z.heap a (erH a C x) := I.hok a _ ha
  obtain ⟨⟨oe, vs, h2, h3, h4, h5⟩, _⟩ := h1
  have h6 : ObjOk X.prog X.w H z.heap x (.xd fs) := I.hok x _ hx
  obtain ⟨mA, hns, hr⟩ := h6
  obtain ⟨od, ho, hl⟩ := lookIn_ns hns
  exact ⟨oe, od, mA, ⟨h2, h3, by unfold PySem.W.notCls; rw [h5] <;> rfl, by rw [h4]; exact ho⟩, hl, hr⟩
/-- e.value -/
def tErVal (K : PySem.W.Frag) (te : TE) : TE := fun σ H Q => te σ H fun y H1 => ∃ (a x : Addr) (c : Str) (v : V), y = .ref a ∧ H1 a = some (erH a (He.ga K c) x) ∧ H1 x = some (.xd [("value", v)]) ∧ ErC K c ∧ Q v H1
theorem pe_erval {e : Expr} {te : TE} {pos : Pos} (he : PE X e te) (hb : attributeBase e "value" X.env (eval e X.env) = eval e X.env := by rfl) : PE X (.Attribute e "value" pos) (tErVal X.K te) := by
  refine ⟨fun pins s σ H Q I h => ?_⟩
  refine attr_of hb (thn (he.run pins s σ H _ I h) fun u s1 hh => ?_)
  obtain ⟨y, H1, I1, rx, a, x, c, v, ey, ha, hx, T, q⟩ := hh
  subst ey
  obtain rfl : u = Value.ref a := rx
  obtain ⟨oe, od, mA, J, hl, hr⟩ := er_at I1 ha hx
  obtain ⟨u, hu, ru⟩ := RelO.some_of (v := v) (o := mA "value") (by have := hr "value"; exact this)
  exact HandSPX.exc_get I1.kIn J T.xf.ga T.xf.gg T.xf.exC (PySem.W.findObj_own T.xf.hdC T.no rfl (by rw [hl, hu])) (handed_of ru) ⟨v, H1, I1.tok _, ru, q⟩
def xErVal (cs : List Str) (i : Nat) : XE := fun s => match getS s i with
  | some (.own _ (.tuple [.str c, d])) => if c ∈ cs then .ok (.val d, s) else .bad
  | _ => .bad
theorem own_er {k : Option Nat} {c : Str} (sr : SR K G F T s σ H) (q : getS s i = some (.own k (.tuple [.str c, d]))) : ∃ (p x : Addr) (v : V), σ[i]? = some (some (.ref p)) ∧ H p = some (erH p (He.ga K c) x) ∧ F x = some (.xd [("value", v)]) ∧ Rp K F v d := by
  obtain ⟨p, a, o, _⟩ := sr.ow i k _ q
  obtain ⟨c', d', x, v, e, h1, h2, h3⟩ := o.at_
  cases e
  exact ⟨p, x, v, a, h1, h2, h3⟩
theorem snd_erval {cs : List Str} (facts : ∀ c ∈ cs, ErC K c) : Snd K E (tErVal K (tVar i)) (xErVal cs i) := fun G F T s σ H Q sr w => by
  unfold xErVal at w
  split at w
  · rename_i k c d q
    by_cases hm : c ∈ cs
    · rw [if_pos hm] at w
      obtain ⟨p, x, v, a, h1, h2, h3⟩ := own_er sr q
      exact ⟨.ref p, a, p, x, c, v, rfl, h1, sr.fh x _ h2, facts c hm, w F T H v (Evl.Ex.refl F) sr ⟨h3, rfl⟩⟩
    · rw [if_neg hm] at w
      exact w.elim
  · exact w.elim
theorem de_erval {cs : List Str} {n : Str} {p1 pos : Pos} (facts : ∀ c ∈ cs, ErC X.K c) (hi : X.N[i]? = some n) (hv : Vis X.env.scope n) (hb : attributeBase (.Name n p1) "value" X.env (eval (.Name n p1) X.env) = eval (.Name n p1) X.env := by rfl)
    (hd : (n == ("__debug__" : Str)) = false := by decide) (hcd : (n == ("__classdict__" : Str)) = false := by decide) : DE X E (.Attribute (.Name n p1) "value" pos) (tErVal X.K (tVar i)) (xErVal cs i) :=
  ⟨pe_erval (pe_var hi hv hd hcd) hb, snd_erval facts⟩
/-- isinstance(e, c) -/
def rIsEr (K : PySem.W.Frag) : List V → Hp → VK → Prop := fun xs H Q => ∃ (a x : Addr) (c : Str) (fs : List (Str × V)) (cw : V) (cv : Value) (b : Bool), xs = [.ref a, cw] ∧ H a = some (erH a (He.ga K c) x) ∧ H x = some (.xd fs) ∧ ErC K c ∧ (∀ u, RelV cw u → u = cv) ∧ PySem.W.kitOne K (.ref (He.ga K c)) cv = some b ∧ Q (.bl b) H
theorem call_isEr {X : Cx} : CallR X (.builtin "isinstance") (rIsEr X.K) := by
  intro pins s σ H xs us Q I r h
  obtain ⟨a, x, c, fs, cw, cv, b, rfl, ha, hx, T, hcv, e, q⟩ := h
  cases r with
  | cons rx rr =>
    cases rr with
    | cons rt rr =>
      cases rr
      cases rx
      have ec := hcv _ rt
      subst ec
      obtain ⟨oe, od, mA, J, _, _⟩ := er_at I ha hx
      obtain ⟨cd, hcd, _⟩ := PySem.W.any_some T.ex.hd
      exact PySem.W.kia_one (PySem.W.kitx_exc (by rw [hcd]; rfl) T.ex.hg T.ex.hk T.ex.hs T.ex.ha T.ex.hn T.ex.ht T.ex.hm) I.kIn J e (fun z => nomatch z) fun tk => ⟨.bl b, H, I.kept (t' := tk) fun _ _ z => z, rfl, q⟩
def xErIs (tab : Str → Option Bool) (i : Nat) : XE := fun s => match getS s i with
  | some (.own _ (.tuple [.str c, _])) => (match tab c with
    | some b => .ok (.val (.bool b), s)
    | none => .bad)
  | _ => .bad
theorem snd_eris {tab : Str → Option Bool} {cw : V} {cv : Value} (facts : ∀ c b, tab c = some b → ErC K c ∧ PySem.W.kitOne K (.ref (He.ga K c)) cv = some b) (hcv : ∀ u, RelV cw u → u = cv) : Snd K E (tCB (rIsEr K) (tCons (tVar i) (tCons (tC cw) tNil))) (xErIs tab i) := fun G F T s σ H Q sr w => by
  unfold xErIs at w
  split at w
  · rename_i k c d q
    split at w
    · rename_i b hb
      obtain ⟨p, x, v, a, h1, h2, h3⟩ := own_er sr q
      obtain ⟨f1, f2⟩ := facts c b hb
      exact ⟨.ref p, a, p, x, c, _, cw, cv, b, rfl, h1, sr.fh x _ h2, f1, hcv, f2, w F T H _ (Evl.Ex.refl F) sr ⟨.bl _, rfl⟩⟩
    · exact w.elim
  · exact w.elim
theorem de_eris {tab : Str → Option Bool} {cw : V} {cv : Value} {n : Str} {e2 : Expr} {p p1 pos : Pos} (facts : ∀ c b, tab c = some b → ErC X.K c ∧ PySem.W.kitOne X.K (.ref (He.ga X.K c)) cv = some b) (hcv : ∀ u, RelV cw u → u = cv) (hg : Gl X "isinstance") (hm : X.mg "isinstance" = none)
    (hi : X.N[i]? = some n) (hv : Vis X.env.scope n) (h2 : PE X e2 (tC cw)) (hd : (n == ("__debug__" : Str)) = false := by decide) (hcd : (n == ("__classdict__" : Str)) = false := by decide)
    (he : starEach [.Name n p1, e2] X.env = (false, eval (.Name n p1) X.env) :: starEach [e2] X.env := by rfl) (he2 : starEach [e2] X.env = (false, eval e2 X.env) :: starEach [] X.env := by rfl) (hpl : (backTo pos (starEach [e2] X.env)).any (·.1) = false := by rfl) :
    DE X E (.Call (.Name "isinstance" p) [.Name n p1, e2] [] pos) (tCB (rIsEr X.K) (tCons (tVar i) (tCons (tC cw) tNil))) (xErIs tab i) :=
  ⟨pe_callB call_isEr hg hm (by decide +kernel) (pa_cons (pe_var hi hv hd hcd) (pa_cons h2 pa_nil he2) he) (he := he) (hpl := hpl), snd_eris facts hcv⟩
/-- e is None, e is not None: an error that may be there -/
def xErNone (neg : Bool) (i : Nat) : XE := fun s => match getS s i with
  | some (.own _ (.tuple [.str _, _])) => .ok (.val (.bool neg), s)
  | some (.val .none) => .ok (.val (.bool (!neg)), s)
  | _ => .bad
theorem snd_ernone {tb : TE} (h0 : tb = tC .non) : Snd K E (tOp (fun x y H Q => y = .non ∧ Q (.bl (decide (x = .non))) H) (tVar i) tb) (xErNone false i) := fun G F T s σ H Q sr w => by
  subst h0
  unfold xErNone at w
  split at w
  · rename_i k c d q
    obtain ⟨p, x, v, a, h1, h2, h3⟩ := own_er sr q
    exact ⟨.ref p, a, rfl, w F T H _ (Evl.Ex.refl F) sr ⟨.bl _, rfl⟩⟩
  · rename_i q
    obtain ⟨v, a, b⟩ := sr.sl i _ q
    cases b
    exact ⟨.non, a, rfl, w F T H _ (Evl.Ex.refl F) sr ⟨.bl _, rfl⟩⟩
  · exact w.elim
end
end DL

/-! C(value=e): an error made by keyword -/
namespace PySem
namespace HandSPX
open Builtin PySem.Calls PyProof.Rows
section
variable {M : Model} {A : Around} {E : Value → Shared → Prop} {h : Heap} {g : Array GenState} {d : Drawn} {t : Nat} {os : OsState}
variable {nm q : Str} {C N : Addr} {bs bm bmB : List Value} {hdct : Bool} {sn : List Str} {sub : List Value} {ab : Bool} {col : Option Bool} {dd : Option Addr} {k0 k1 k2 k3 k5 : Option Value} {B newId initId : String}
theorem check_new_kw (F : ExcBaseFacts B newId initId bmB) (hT : ∀ X : String, bm.contains (.type X) = bmB.contains (.type X)) {kw : List (Str × Value)} {Q : Unit → Shared → Prop}
    (hC : h.get? C = some (excClassObj nm q C N bs bm hdct sn sub ab col dd k0 k1 k2 k3 k5 newId)) (hq : Q () ⟨h, g, d, t, os⟩) : wpAny M A (checkBuiltinCall newId ⟨[.ref C], kw⟩) Q E ⟨h, g, d, t, os⟩ := by
  have hcont : (Value.ref C :: bm).contains (.type B) = true := by rw [List.contains_cons, hT, F.hasB, Bool.or_true]
  have hstar := F.noStar
  simp only [checkBuiltinCall, F.newKind, F.newSplit, F.newRow]
  repeat (first | refine wpAny_loadPart_at hC ?_ | (refine wpAny_isSubtype_exc hC ?_; rw [hcont]) | refine wpAny_staticBase_exc hC ?_ | refine wpAny_madeBy_exc hC ?_ | simp only [bne_self_eq_false, Bool.false_eq_true, if_false] | wp_step)
  exact hq
end
section
variable {prog : Program} {w : World} {A : Around} {E : Value → Shared → Prop} {R : Result → Shared → Prop} {h : Heap} {g : Array GenState} {d : Drawn} {t : Nat} {os : OsState}
variable {nm q : Str} {C N : Addr} {bs bm bmB : List Value} {hdct : Bool} {sn : List Str} {sub : List Value} {ab : Bool} {col : Option Bool} {dd : Option Addr} {k0 k1 k2 k3 k5 : Option Value} {B newId initId : String}
theorem new_kw (F : ExcBaseFacts B newId initId bmB) (hT : ∀ X : String, bm.contains (.type X) = bmB.contains (.type X)) {kw : List (Str × Value)}
    (hC : h.get? C = some (excClassObj nm q C N bs bm hdct sn sub ab col dd k0 k1 k2 k3 k5 newId))
    (hq : R (.ok (.ret (.ref (h.objs.size + 1)))) ⟨(h.push { cls := .type "tuple", data := .seq ([] : List Value).toArray }).push
      { cls := .ref C, data := .fields #[.ref h.objs.size, .none, .none, .none, .bool false, .none] }, g, d, t, os⟩) :
    codeAny (model prog w) A (.builtin newId ⟨[.ref C], kw⟩) R ⟨h, g, d, t, os⟩ := by
  have hends := F.ends
  have hrest : ([] : List Value).length ≤ sizeLine := Nat.zero_le _
  have hcB : (Value.ref C :: bm).contains (.type B) = true := by rw [List.contains_cons, hT, F.hasB, Bool.or_true]
  have hcA : (Value.ref C :: bm).contains (.type "AttributeError") = false := by rw [List.contains_cons, hT, F.noAttr]; rfl
  have hcN : (Value.ref C :: bm).contains (.type "NameError") = false := by rw [List.contains_cons, hT, F.noName]; rfl
  refine codeAny_builtinAt F.entry ?_
  unfold Builtin.«BaseException.__new__»
  refine wpAt_bind ?_
  show wpAt _ _ _ (stack >>= _) _ _ _
  refine wpAt_bind (wpAt_stack fun p below => wpAt_of_wpAny ?_)
  wp_walk
  refine wpAt_of_wpAny ?_
  rw [F.owner]
  repeat (first | with_reducible refine wpAny_madeHere_exc F.canon hC ?_ | with_reducible refine wpAny_loadPart_at hC ?_ | (with_reducible refine wpAny_isSubtype_exc hC ?_; first | rw [hcB] | rw [hcA] | rw [hcN]) | wp_step)
  show R _ _
  rw [Heap.size_push]
  exact hq
theorem type_call_kw (F : ExcBaseFacts B newId initId bmB) (hT : ∀ X : String, bm.contains (.type X) = bmB.contains (.type X)) {kw : List (Str × Value)} {fI : Addr} {Q : Fin → Shared → Prop}
    (hC : h.get? C = some (excClassObj nm q C N bs bm hdct sn sub ab col dd k0 k1 k2 k3 k5 newId))
    (hi : W.Looks (model prog w) h (typeLookup (.ref C) "__init__") (some (.ref fI))) (hb : ∀ self, W.Looks (model prog w) h (bindSpecial (.ref fI) self) (.ref fI, [self]))
    (hq : codeAny (model prog w) A (.call (.ref fI) ⟨[.ref (h.objs.size + 1)], kw⟩)
      (fun r s' => match r with | .ok (.ret v) => v = .none ∧ Q (.done (.ret (.ref (h.objs.size + 1)))) s' | .ok _ => False | .error e => E e s')
      ⟨(h.push (W.kdv_tup [])).push (excO C h.objs.size), g, d, t, os⟩) :
    wpAny (model prog w) A (Builtin.«type.__call__» ⟨[.ref C], kw⟩) Q E ⟨h, g, d, t, os⟩ := by
  repeat (first | with_reducible refine wpAny_loadPart_at hC ?_ | with_reducible refine wpAny_madeBy_exc hC ?_ | wp_step)
  refine codeAny_call_builtin_code (Code.quiet_builtin _ F.quiet) (check_new_kw F hT hC ?_)
  refine new_kw F hT hC ?_
  show wpAny _ _ _ _ _ _
  have k : ∀ b o, h.get? b = some o → ((h.push (W.kdv_tup [])).push (excO C h.objs.size)).get? b = some o := fun b o e => Heap.get?_push_of_some _ (Heap.get?_push_of_some _ e)
  have hC₁ := k _ _ hC
  have hget : ((h.push (W.kdv_tup [])).push (excO C h.objs.size)).get? (h.objs.size + 1) = some (excO C h.objs.size) := by heap_get
  have hcC : (Value.ref C :: bm).contains (.ref C) = true := by simp
  have i1 := hi.keeps k
  have b1 := (hb (.ref (h.objs.size + 1))).keeps k
  unfold isInstance
  repeat (first | with_reducible refine wpAny_loadPart_at hget ?_ | (with_reducible refine wpAny_isSubtype_exc hC₁ ?_; rw [hcC]) | wp_step)
  show wpAny _ _ (typeLookup (.ref C) _) _ _ _
  refine i1.at ?_
  refine wpAny_holding (wpAny_bind (b1.at ?_))
  refine wpAny_bind (wpAny_call (codeAny_mono hq fun r s' z => ?_))
  rcases r with e | (v | _ | _ | _) <;> first | exact z | exact z.elim | skip
  obtain ⟨rfl, z⟩ := z
  first
    | exact wpAny_pure (wpAny_pure z)
    | (wp_walk; exact z)
theorem call_kw (F : ExcBaseFacts B newId initId bmB) (hT : ∀ X : String, bm.contains (.type X) = bmB.contains (.type X)) {kw : List (Str × Value)} {fI : Addr}
    (hC : h.get? C = some (excClassObj nm q C N bs bm hdct sn sub ab col dd k0 k1 k2 k3 k5 newId))
    (hi : W.Looks (model prog w) h (typeLookup (.ref C) "__init__") (some (.ref fI))) (hb : ∀ self, W.Looks (model prog w) h (bindSpecial (.ref fI) self) (.ref fI, [self]))
    (hq : codeAny (model prog w) (A.under (.builtin "type.__call__" ⟨[.ref C], kw⟩)) (.call (.ref fI) ⟨[.ref (h.objs.size + 1)], kw⟩) (W.InitBack (h.objs.size + 1) R)
      ⟨(h.push (W.kdv_tup [])).push (excO C h.objs.size), g, d, t, os⟩) :
    codeAny (model prog w) A (.call (.ref C) ⟨[], kw⟩) R ⟨h, g, d, t, os⟩ := by
  have f1 := tc_lookup
  have f2 := tc_bind (.ref C)
  have hTy : (⟨h, g, d, t, os⟩ : Shared).TypeIs (.ref C) "type" := ⟨_, hC, rfl⟩
  refine codeAny_of_tree ?_
  show wpAny _ _ (callAny (.ref C) _) _ _ _
  repeat (any_goals (first | assumption | with_reducible refine wpAny_loadPart_at hC ?_ | wp_step))
  refine ⟨rfl, ?_⟩
  refine codeAny_call_builtin_at (Code.quiet_builtin _ (by decide +kernel)) entry_typeCall (wpAny_check_type_call_sub hC (type_call_kw F hT hC hi hb ?_))
  refine codeAny_mono hq fun r s' z => ?_
  rcases r with e | (v | _ | _ | _) <;> exact z
end
end HandSPX
end PySem
namespace DL
open Evl (Ex)
open PySem PySem.Spec PyProof.Rows L2 PySem.W
def KBI (fd : FuncData) : Prop := ∀ (s : Shared) (a u : Value), BindsTo s fd ⟨[a], [("value", u)]⟩ ((["self", "value"] : List Str).zip [a, u])
section
variable {X : Cx} {E : WX}
theorem pmk_oexK {CX : CXT} {x : Str} {C fI : Addr} {k : Nat} {fd : FuncData} {sp : Sp} {kws : List Keyword} {tk : TA} {p pos : Pos} (T : OexC X.K C) (iC : PySem.W.findIn X.K (.ref C) "__init__" = some (some (.ref fI))) (tI : PySem.W.typeIn X.K (.ref fI) = some (.type "function"))
    (F1 : FnOk X.prog X.w X.K X.mg X.base CX k fI fd ["self", "value"] sp) (hr : Room (k + 1) X.A) (hb : KBI fd) (hx : Passes CX X (fun _ _ _ => False)) (hg : Gl X x) (hm : X.mg x = some (.ref C)) (hkw : PK X kws tk)
    (hall : (backToKw pos (keywordEach kws X.env)).all (·.1.isSome) = true) (hks : (backToKw pos (keywordEach kws X.env)).filterMap (·.1) = (["value"] : List Str)) (hdb : (x == ("__debug__" : Str)) = false)
    (hpl : ((backTo pos (starEach [] X.env)).any (·.1) || (backToKw pos (keywordEach kws X.env)).any (·.1.isNone)) = false) :
    PMk X (.Call (.Name x p) [] kws pos) (tMkO C sp [] tk) := by
  intro pins s σ H Q I h
  obtain ⟨nm, q, N, bs, bm, sn, sub, ab, col, dd, k0, k1, k2, k3, k5, hC, hbm⟩ := T.cls
  refine wpAny_Call_Name_kw (ld_glob I hg hm ?_ hdb)
  refine PySem.W.callWith_KW0 (h₀ := X.base) I.ok.mod.kin T.kC hall (thn (hkw.run pos pins s σ H _ I h) fun us s1 ⟨vs, H1, I1, r1, hz, q1⟩ => ⟨I1.kIn, ?_⟩) hpl
  rw [hks]
  obtain ⟨hp, g, dr, tk, os⟩ := s1
  have hsz : hp.objs.size ≤ hp.objs.size + 1 := Nat.le_succ _
  have hn : H1 (hp.objs.size + 1) = none := I1.hok.fresh hsz
  have hq := q1 (hp.objs.size + 1) hn
  have kk : ∀ b o, hp.get? b = some o → ((hp.push (PySem.W.kdv_tup [])).push (PySem.HandSPX.excO C hp.objs.size)).get? b = some o := fun b o e => Heap.get?_push_of_some _ (Heap.get?_push_of_some _ e)
  have hget : ((hp.push (PySem.W.kdv_tup [])).push (PySem.HandSPX.excO C hp.objs.size)).get? (hp.objs.size + 1) = some (PySem.HandSPX.excO C hp.objs.size) := by heap_get
  have I2 : Inv X pins σ (upd H1 (hp.objs.size + 1) (exo (hp.objs.size + 1) C none)) ⟨(hp.push (PySem.W.kdv_tup [])).push (PySem.HandSPX.excO C hp.objs.size), g, dr, tk, os⟩ :=
    I1.laid (t' := tk) (a := hp.objs.size + 1) (o := exo (hp.objs.size + 1) C none) (h' := (hp.push (PySem.W.kdv_tup [])).push (PySem.HandSPX.excO C hp.objs.size)) kk hsz (exo_ok hget)
  have r2 : Vals (V.ref (hp.objs.size + 1) :: (vs ++ [])) (Value.ref (hp.objs.size + 1) :: us) := .cons rfl (by rw [List.append_nil]; exact r1)
  have hl : (Value.ref (hp.objs.size + 1) :: us).length = 2 := by
    have e := r2.length
    rw [F1.len _ _ _ _ hq] at e
    exact e.symm
  match us, hl with
  | [u], _ =>
  refine wpAny_call (PySem.HandSPX.call_kw F.excBase_ValueError (fun Y => PySem.HandSPX.refsVE_contains Y bm hbm) (I1.kIn _ _ hC) (PySem.W.looks_findIn I1.kIn iC) (fun self => PySem.W.bind_fn I1.kIn self tI)
    (codeAny_mono (F1.run _ X.stack _ _ ⟨[Value.ref (hp.objs.size + 1)], [("value", u)]⟩ [Value.ref (hp.objs.size + 1), u] _ _ (fun _ _ _ => False) (hr.make C [] _) (I2.env0.make C [] _) (hb _ _ _) r2 hq) fun r s' hq' => ?_))
  cases r with
  | error er => exact hx pins σ _ _ er s' I2 hq'
  | ok fl =>
    cases fl with
    | ret u =>
      obtain ⟨v, H2, os2, bare2, un2, hok2, rv, eV, d, fs, ea, ed, hd1, q2⟩ := hq'
      subst eV
      obtain ⟨h2, g2, d2, t2, os'⟩ := s'
      exact ⟨rv, mk_end (raises_own T.exC T.tyC) I1 hsz kk un2 hok2 os2 bare2 ea ed hd1 q2⟩
    | next => exact False.elim hq'
    | brk => exact False.elim hq'
    | cont => exact False.elim hq'
end
end DL

/-! what the run says of the program's error classes -/
namespace DL
open Evl (Ex)
open PySem PySem.Spec PyProof.Rows L2 PySem.W
section
variable {K : PySem.W.Frag}
def oexB (K : PySem.W.Frag) (C : Addr) : Bool := match K.lookup C with
  | some ⟨.type "type", _, .cls cd, sl⟩ => (match cd.mro, sl.toList with
    | .ref C' :: bm, [_, _, _, _, some (.builtin n), _] => C' == C && (n == "ValueError.__new__" && (!cd.hasDel && (cd.hasDict && PySem.HandSPX.refsVE bm)))
    | _, _ => false)
  | _ => false
theorem oexB_ok {C : Addr} (h : oexB K C = true) : ∃ nm q N bs bm sn sub ab col dd k0 k1 k2 k3 k5, K.lookup C = some (excClassObj nm q C N bs bm true sn sub ab col dd k0 k1 k2 k3 k5 "ValueError.__new__") ∧ PySem.HandSPX.refsVE bm = true := by
  unfold oexB at h
  split at h
  · rename_i dd cd sl ho
    split at h
    · rename_i C' bm k0 k1 k2 k3 n k5 hm hs
      simp only [Bool.and_eq_true, beq_iff_eq, Bool.not_eq_true'] at h
      obtain ⟨rfl, rfl, h3, h4, h5⟩ := h
      obtain ⟨nm, bs, mro, N, q, hd, sn, sub, ab, col, hdel⟩ := cd
      dsimp only at hm h3 h4
      subst hm h3 h4
      refine ⟨nm, q, N, bs, bm, sn, sub, ab, col, dd, k0, k1, k2, k3, k5, ?_, h5⟩
      rw [ho]
      have : sl = #[k0, k1, k2, k3, some (.builtin "ValueError.__new__"), k5] := Array.toList_inj.mp hs
      rw [this]
    · cases h
  · cases h
def erB (K : PySem.W.Frag) (fI : Addr) (x : Str) : Bool :=
  oexB K (He.ga K x) && (He.eqO (PySem.W.findIn K (.ref (He.ga K x)) "__setattr__") (some (some (.builtin "object.__setattr__"))) && (decide (PySem.W.typeIn K (.ref (He.ga K x)) = some (.type "type")) && (PySem.W.keepIn K (.ref (He.ga K x)) &&
  (He.eqO (PySem.W.findIn K (.ref (He.ga K x)) "value") (some none) && (xfB K (He.ga K x) && (He.eqO (PySem.W.findIn K (.ref (He.ga K x)) "__class__") (some (some (.builtin "object.__class__"))) &&
  (decide (PySem.W.mroIn K (He.ga K x) (.type "object") = some true) && He.eqO (PySem.W.findIn K (.ref (He.ga K x)) "__init__") (some (some (.ref fI))))))))))
/-- all of a class of errors -/
structure ErW (K : PySem.W.Frag) (fI : Addr) (c : Str) : Prop where
  oex : OexC K (He.ga K c)
  er : ErC K c
  ini : PySem.W.findIn K (.ref (He.ga K c)) "__init__" = some (some (.ref fI))
def clB (K : PySem.W.Frag) : Bool := decide (PySem.W.specialIn K (.builtin "object.__class__") "__get__" = some (some (.builtin "getset_descriptor.__get__"))) && decide (PySem.W.takesIn K (.builtin "object.__class__") = some true)
theorem erB_ok {fI : Addr} {x : Str} (h0 : clB K = true) (h : erB K fI x = true) : ErW K fI x := by
  obtain ⟨a1, a2⟩ := He.ba h0
  obtain ⟨h1, h⟩ := He.ba h
  obtain ⟨h2, h⟩ := He.ba h
  obtain ⟨h3, h⟩ := He.ba h
  obtain ⟨h4, h⟩ := He.ba h
  obtain ⟨h5, h⟩ := He.ba h
  obtain ⟨h6, h⟩ := He.ba h
  obtain ⟨h7, h⟩ := He.ba h
  obtain ⟨h8, h9⟩ := He.ba h
  have xf := xfB_ok h6
  exact ⟨⟨oexB_ok h1, He.eqO_ok h2, xf.exC, of_decide_eq_true h3, h4⟩, ⟨xf, He.eqO_ok h5, ⟨xf.ga, xf.gg, xf.exC, xf.hdC, He.eqO_ok h7, of_decide_eq_true a1, of_decide_eq_true a2, of_decide_eq_true h8⟩⟩, He.eqO_ok h9⟩
/-- an error of the class x is one of the class y -/
def isE (b x y : Str) : Bool := decide (x = y) || decide (y = b)
def erAll (K : PySem.W.Frag) (b : Str) (es : List Str) : Bool :=
  clB K && (decide (PySem.W.typeIn K (.ref (He.ma K (He.ga K b) "__init__")) = some (.type "function")) && (es.all (erB K (He.ma K (He.ga K b) "__init__")) &&
  (es.all fun x => decide (PySem.W.kitOne K (.ref (He.ga K x)) (.type "ValueError") = some true) && es.all fun y => decide (PySem.W.kitOne K (.ref (He.ga K x)) (.ref (He.ga K y)) = some (isE b x y)) && decide (PySem.W.exmOne K (.ref (He.ga K x)) (.ref (He.ga K y)) = some (isE b x y)))))
/-- all of the program's errors -/
structure ErS (K : PySem.W.Frag) (b : Str) (es : List Str) : Prop where
  tI : PySem.W.typeIn K (.ref (He.ma K (He.ga K b) "__init__")) = some (.type "function")
  w : ∀ x ∈ es, ErW K (He.ma K (He.ga K b) "__init__") x
  ve : ∀ x ∈ es, PySem.W.kitOne K (.ref (He.ga K x)) (.type "ValueError") = some true
  kit : ∀ x ∈ es, ∀ y ∈ es, PySem.W.kitOne K (.ref (He.ga K x)) (.ref (He.ga K y)) = some (isE b x y)
  exm : ∀ x ∈ es, ∀ y ∈ es, PySem.W.exmOne K (.ref (He.ga K x)) (.ref (He.ga K y)) = some (isE b x y)
theorem erAll_ok {b : Str} {es : List Str} (h : erAll K b es = true) : ErS K b es := by
  obtain ⟨h0, h⟩ := He.ba h
  obtain ⟨h1, h⟩ := He.ba h
  obtain ⟨h2, h3⟩ := He.ba h
  refine ⟨of_decide_eq_true h1, fun x hx => erB_ok h0 (List.all_eq_true.mp h2 x hx), fun x hx => ?_, fun x hx y hy => ?_, fun x hx y hy => ?_⟩
  · exact of_decide_eq_true (He.ba (List.all_eq_true.mp h3 x hx)).1
  · exact of_decide_eq_true (He.ba (List.all_eq_true.mp (He.ba (List.all_eq_true.mp h3 x hx)).2 y hy)).1
  · exact of_decide_eq_true (He.ba (List.all_eq_true.mp (He.ba (List.all_eq_true.mp h3 x hx)).2 y hy)).2
abbrev AlE : Type := AlK × Bool
def obsE (fa : List He.Fa) (fn : List He.DefD) (cs : List (Str × D)) (ts : List TabD) (b : Str) (es : List Str) (K : PySem.W.Frag) : AlE := (obsK fa fn cs ts K, erAll K b es)
def valE (fn : List He.DefD) (ts : List TabD) (w : World) : AlE := (valK fn ts w, true)
def SaysE (fa : List He.Fa) (fn : List He.DefD) (cs : List (Str × D)) (ts : List TabD) (b : Str) (es : List Str) (w : World) (K : PySem.W.Frag) : Prop := obsE fa fn cs ts b es K = valE fn ts w
def obsEG (n : Nat) (fa : List He.Fa) (fn : List He.DefD) (cs : List (Str × D)) (ts : List TabD) (b : Str) (es : List Str) (g : Addr → Option Obj) : AlE := obsE fa fn cs ts b es (He.frG g (He.asD g n))
def hookE (n : Nat) (fa : List He.Fa) (fn : List He.DefD) (cs : List (Str × D)) (ts : List TabD) (b : Str) (es : List Str) : PySem.W.Hook where
  α := AlE
  obs := fun s => obsEG n fa fn cs ts b es s.heap.get?
  val := fun w => valE fn ts w
  says := fun w h => ∃ K : PySem.W.Frag, K.In h ∧ SaysE fa fn cs ts b es w K
  of := fun _ _ e => ⟨_, He.frG_in, e⟩
  keeps := fun _ _ _ ⟨K, hK, c⟩ k => ⟨K, PySem.W.Frag.In.keeps hK k, c⟩
theorem obsEG_eq {n : Nat} {fa : List He.Fa} {fn : List He.DefD} {cs : List (Str × D)} {ts : List TabD} {b : Str} {es : List Str} {g : Addr → Option Obj} {s : Shared} (h : ∀ a, g a = s.heap.get? a) : obsEG n fa fn cs ts b es g = (hookE n fa fn cs ts b es).obs s := by
  have e : g = s.heap.get? := funext h
  rw [e] <;> rfl
section
variable {fa : List He.Fa} {fn : List He.DefD} {cs : List (Str × D)} {ts : List TabD} {b : Str} {es : List Str} {w : World}
theorem SaysE.k (c : SaysE fa fn cs ts b es w K) : SaysK fa fn cs ts w K := congrArg (fun z : AlE => z.1) c
theorem SaysE.er (c : SaysE fa fn cs ts b es w K) : ErS K b es := erAll_ok (congrArg (fun z : AlE => z.2) c)
end
end
end DL

/-! raise C(value=e); C(e).value -/
namespace DL
open Evl (Ex)
open PySem PySem.Spec PyProof.Rows L2 PySem.W
section
variable {K : PySem.W.Frag} {E : WX} {X : Cx} {G : En} {F F' : Hp} {T T' : List (Addr × D)} {s s' : S} {σ : L2.St} {H H' : Hp} {i j : Nat}
theorem ds_raiseK {CX : CXT} {k : Nat} {fI : Addr} {fd : FuncData} {c : Str} {e : Expr} {te : TE} {fe : XE} {p pos pos' kp : Pos} (hc : X.calm = true) (tk : Takes X E) (T : OexC X.K (He.ga X.K c)) (hno : PySem.W.findIn X.K (.ref (He.ga X.K c)) "value" = some none)
    (iC : PySem.W.findIn X.K (.ref (He.ga X.K c)) "__init__" = some (some (.ref fI))) (tI : PySem.W.typeIn X.K (.ref fI) = some (.type "function"))
    (F1 : FnOk X.prog X.w X.K X.mg X.base CX k fI fd ["self", "value"] (spInit X.K)) (hr : Room (k + 1) X.A) (hb : KBI fd) (hx : Passes CX X (fun _ _ _ => False)) (hg : Gl X c) (hm : X.mg c = some (.ref (He.ga X.K c))) (ha : DE X E e te fe)
    (hdb : (c == ("__debug__" : Str)) = false := by decide) (hall : (backToKw pos (keywordEach [⟨some "value", e, kp⟩] X.env)).all (·.1.isSome) = true := by rfl) (hks : (backToKw pos (keywordEach [⟨some "value", e, kp⟩] X.env)).filterMap (·.1) = (["value"] : List Str) := by rfl)
    (hpl : ((backTo pos (starEach [] X.env)).any (·.1) || (backToKw pos (keywordEach [⟨some "value", e, kp⟩] X.env)).any (·.1.isNone)) = false := by rfl) :
    DS X E (.Raise (some (.Call (.Name c p) [] [⟨some "value", e, kp⟩] pos)) none pos') (fun _ σ H => tMkO (He.ga X.K c) (spInit X.K) [] (tCons te tNil) σ H fun cls d H' => E cls d σ H') (sRaise c fe) :=
  ⟨ps_raise hc tk (pmk_oexK T iC tI F1 hr hb hx hg hm (pk_cons ha.pe pk_nil) hall hks hdb hpl), snd_raise T hno ha.sd⟩
/-- C(e).value -/
def tMkV (K : PySem.W.Frag) (C : Addr) (te : TE) : TE := fun σ H Q => tCons te tNil σ H fun vs H1 => ∃ v, vs = [v] ∧ ∀ a dx, H1 a = none → H1 dx = none → dx ≠ a → Q v (upd (upd (upd H1 a (exo a C none)) dx (exd dx [("value", v)])) a (exo a C (some dx)))
theorem pe_mkv {CX : CXT} {k : Nat} {fI : Addr} {fd : FuncData} {c : Str} {e : Expr} {te : TE} {p pos pos2 : Pos} (S : ErC X.K c) (T : OexC X.K (He.ga X.K c)) (iC : PySem.W.findIn X.K (.ref (He.ga X.K c)) "__init__" = some (some (.ref fI))) (tI : PySem.W.typeIn X.K (.ref fI) = some (.type "function"))
    (F1 : FnOk X.prog X.w X.K X.mg X.base CX k fI fd ["self", "value"] (spInit X.K)) (hr : Room (k + 1) X.A) (hb : Binds X.K fd ["self", "value"] []) (hx : Passes CX X (fun _ _ _ => False)) (hg : Gl X c) (hm : X.mg c = some (.ref (He.ga X.K c))) (ha : PE X e te)
    (hdb : (c == ("__debug__" : Str)) = false := by decide) (he : starEach [e] X.env = (false, eval e X.env) :: starEach [] X.env := by rfl) (hpl : (backTo pos (starEach [] X.env)).any (·.1) = false := by rfl)
    (hba : attributeBase (.Call (.Name c p) [e] [] pos) "value" X.env (eval (.Call (.Name c p) [e] [] pos) X.env) = eval (.Call (.Name c p) [e] [] pos) X.env := by rfl) :
    PE X (.Attribute (.Call (.Name c p) [e] [] pos) "value" pos2) (tMkV X.K (He.ga X.K c) te) := by
  refine ⟨fun pins s σ H Q I h => ?_⟩
  refine attr_of hba ?_
  obtain ⟨nm, q, N, bs, bm, sn, sub, ab, col, dd, k0, k1, k2, k3, k5, hC, hbm⟩ := T.cls
  refine wpAny_Call_Name_kw (ld_glob I hg hm ?_ hdb)
  refine PySem.W.callWith_K (h₀ := X.base) I.ok.mod.kin T.kC (thn ((pa_cons ha pa_nil he).run pos pins s σ H (fun vs H1 => ∃ v, vs = [v] ∧ ∀ a dx, H1 a = none → H1 dx = none → dx ≠ a → Q v (upd (upd (upd H1 a (exo a (He.ga X.K c) none)) dx (exd dx [("value", v)])) a (exo a (He.ga X.K c) (some dx)))) I h) fun us s1 hh => ?_) he hpl
  obtain ⟨vs, H1, I1, r1, v, rfl, hq⟩ := hh
  refine ⟨I1.kIn, ?_⟩
  show wpAny _ _ (call (.ref (He.ga X.K c)) us) _ _ _
  obtain ⟨hp, g, dr, tk, os⟩ := s1
  have hsz : hp.objs.size ≤ hp.objs.size + 1 := Nat.le_succ _
  have hn : H1 (hp.objs.size + 1) = none := I1.hok.fresh hsz
  have kk : ∀ b o, hp.get? b = some o → ((hp.push (PySem.W.kdv_tup us)).push (PySem.HandSPX.excO (He.ga X.K c) hp.objs.size)).get? b = some o := fun b o e => Heap.get?_push_of_some _ (Heap.get?_push_of_some _ e)
  have hget : ((hp.push (PySem.W.kdv_tup us)).push (PySem.HandSPX.excO (He.ga X.K c) hp.objs.size)).get? (hp.objs.size + 1) = some (PySem.HandSPX.excO (He.ga X.K c) hp.objs.size) := by heap_get
  have I2 : Inv X pins σ (upd H1 (hp.objs.size + 1) (exo (hp.objs.size + 1) (He.ga X.K c) none)) ⟨(hp.push (PySem.W.kdv_tup us)).push (PySem.HandSPX.excO (He.ga X.K c) hp.objs.size), g, dr, tk, os⟩ :=
    I1.laid (t' := tk) (a := hp.objs.size + 1) (o := exo (hp.objs.size + 1) (He.ga X.K c) none) (h' := (hp.push (PySem.W.kdv_tup us)).push (PySem.HandSPX.excO (He.ga X.K c) hp.objs.size)) kk hsz (exo_ok hget)
  have r2 : Vals (V.ref (hp.objs.size + 1) :: [v]) (Value.ref (hp.objs.size + 1) :: us) := .cons rfl r1
  have hl : (Value.ref (hp.objs.size + 1) :: us ++ []).length = (["self", "value"] : List Str).length := by rw [List.append_nil]; exact r2.length.symm
  have hus : us.length ≤ sizeLine := by
    rw [← Paired.length r1, sizeLine_eq]
    show 1 ≤ _
    decide
  have hsp : spInit X.K [V.ref (hp.objs.size + 1), v] (upd H1 (hp.objs.size + 1) (exo (hp.objs.size + 1) (He.ga X.K c) none)) (fun w H2 => w = .non ∧ ∃ dx, H1 dx = none ∧ dx ≠ hp.objs.size + 1 ∧ H2 = upd (upd (upd H1 (hp.objs.size + 1) (exo (hp.objs.size + 1) (He.ga X.K c) none)) dx (exd dx [("value", v)])) (hp.objs.size + 1) (exo (hp.objs.size + 1) (He.ga X.K c) (some dx))) (fun _ _ _ => False) :=
    ⟨hp.objs.size + 1, _, v, rfl, T, S.no, upd_same, fun dx hd hne => ⟨rfl, dx, by rw [upd_ne hne] at hd; exact hd, hne, rfl⟩⟩
  refine wpAny_call (PySem.HandSPX.call_own F.excBase_ValueError (fun Y => PySem.HandSPX.refsVE_contains Y bm hbm) (I1.kIn _ _ hC) (PySem.W.looks_findIn I1.kIn iC) (fun self => PySem.W.bind_fn I1.kIn self tI) hus
    (codeAny_mono (F1.run _ X.stack _ _ ⟨Value.ref (hp.objs.size + 1) :: us, []⟩ (Value.ref (hp.objs.size + 1) :: us ++ []) _ _ (fun _ _ _ => False) (hr.make (He.ga X.K c) us []) (I2.env0.make (He.ga X.K c) us []) (hb _ (Value.ref (hp.objs.size + 1) :: us) I2.kIn hl) (by rw [List.append_nil]; exact r2) hsp) fun r s' hq' => ?_))
  cases r with
  | error er => exact hx pins σ _ _ er s' I2 hq'
  | ok fl =>
    cases fl with
    | ret u =>
      obtain ⟨v2, H2, os2, bare2, un2, hok2, rv, eV, dx, hd1, hne, eH⟩ := hq'
      subst eV
      refine ⟨rv, ?_⟩
      have A2 : L2.EP X pins σ (fun w H3 => w = V.non ∧ H3 = H2) u s' := I2.after ⟨.non, H2, os2, bare2, un2, hok2, rv, rfl, rfl⟩
      obtain ⟨_, _, I3, _, rfl, rfl⟩ := A2
      subst eH
      obtain ⟨t1, ha3⟩ := exo_at (e := hp.objs.size + 1) I3.hok upd_same
      obtain ⟨mA, hns, hr3⟩ := exd_at (dx := dx) I3.hok (by rw [upd_ne hne, upd_same])
      obtain ⟨od, ho, hlk⟩ := lookIn_ns hns
      obtain ⟨u3, hu, ru⟩ := RelO.some_of (v := v) (o := mA "value") (by have := hr3 "value"; exact this)
      have J : PySem.W.InstAt s'.heap (hp.objs.size + 1) _ (He.ga X.K c) (some od) := ⟨ha3, rfl, rfl, ho⟩
      exact HandSPX.exc_get I3.kIn J S.xf.ga S.xf.gg S.xf.exC (PySem.W.findObj_own S.xf.hdC S.no rfl (by rw [hlk, hu])) (handed_of ru) ⟨v, _, I3.tok _, ru, hq _ dx hn hd1 hne⟩
    | next => exact False.elim hq'
    | brk => exact False.elim hq'
    | cont => exact False.elim hq'
def xMkV (fe : XE) : XE := fun s => (fe s).bind fun (r, s1) => match r with
  | .val d => .ok (.val d, s1)
  | _ => .bad
theorem mkv_heap {H1 : Hp} {a dx : Addr} {o1 o2 o3 : HO} (hne : dx ≠ a) : upd (upd (upd H1 a o1) dx o2) a o3 = upd (upd H1 dx o2) a o3 := by
  funext b
  by_cases hb : b = a
  · rw [hb, upd_same, upd_same]
  · rw [upd_ne hb, upd_ne hb]
    by_cases hbd : b = dx
    · rw [hbd, upd_same, upd_same]
    · rw [upd_ne hbd, upd_ne hbd, upd_ne hb]
theorem snd_mkv {C : Addr} {te : TE} {fe : XE} (he : Snd K E te fe) : Snd K E (tMkV K C te) (xMkV fe) := fun G F T s σ H Q sr w => by
  refine he G F T s σ H _ sr (w.bind.mono (Evl.Ex.refl F) fun ⟨r, s1⟩ w1 F1 T1 H1 v1 e1 sr1 rv1 => ?_)
  dsimp only at w1 sr1 rv1
  cases r with
  | val d =>
    obtain ⟨hd, et⟩ := rv1
    rw [et] at sr1
    refine ⟨v1, rfl, fun a dx ha hdx hne => ?_⟩
    rw [mkv_heap hne]
    exact w1 F1 T _ v1 e1 ((sr1.grow hdx).grow (by rw [upd_ne (Ne.symm hne)]; exact ha)) ⟨hd, rfl⟩
  | new d => exact w1.elim
  | slot i => exact w1.elim
theorem de_mkv {CX : CXT} {k : Nat} {fI : Addr} {fd : FuncData} {c : Str} {e : Expr} {te : TE} {fe : XE} {p pos pos2 : Pos} (S : ErC X.K c) (T : OexC X.K (He.ga X.K c)) (iC : PySem.W.findIn X.K (.ref (He.ga X.K c)) "__init__" = some (some (.ref fI))) (tI : PySem.W.typeIn X.K (.ref fI) = some (.type "function"))
    (F1 : FnOk X.prog X.w X.K X.mg X.base CX k fI fd ["self", "value"] (spInit X.K)) (hr : Room (k + 1) X.A) (hb : Binds X.K fd ["self", "value"] []) (hx : Passes CX X (fun _ _ _ => False)) (hg : Gl X c) (hm : X.mg c = some (.ref (He.ga X.K c))) (ha : DE X E e te fe)
    (hdb : (c == ("__debug__" : Str)) = false := by decide) (he : starEach [e] X.env = (false, eval e X.env) :: starEach [] X.env := by rfl) (hpl : (backTo pos (starEach [] X.env)).any (·.1) = false := by rfl)
    (hba : attributeBase (.Call (.Name c p) [e] [] pos) "value" X.env (eval (.Call (.Name c p) [e] [] pos) X.env) = eval (.Call (.Name c p) [e] [] pos) X.env := by rfl) :
    DE X E (.Attribute (.Call (.Name c p) [e] [] pos) "value" pos2) (tMkV X.K (He.ga X.K c) te) (xMkV fe) := ⟨pe_mkv S T iC tI F1 hr hb hx hg hm ha.pe hdb he hpl hba, snd_mkv ha.sd⟩
/-! rules with all of the program's errors -/
variable {b : Str} {es : List Str}
def exmT (b : Str) (es : List Str) (y : Str) (c : Str) : Option Bool := if c ∈ es then some (isE b c y) else none
theorem exmT_ok (S : ErS K b es) {y : Str} (hy : y ∈ es) : ∀ c r, exmT b es y c = some r → PySem.W.exmOne K (.ref (He.ga K c)) (.ref (He.ga K y)) = some r := fun c r h => by
  unfold exmT at h
  split at h
  · rename_i hc
    cases h
    exact S.exm c hc y hy
  · cases h
theorem kitT_ok (S : ErS K b es) {y : Str} (hy : y ∈ es) : ∀ c r, exmT b es y c = some r → ErC K c ∧ PySem.W.kitOne K (.ref (He.ga K c)) (.ref (He.ga K y)) = some r := fun c r h => by
  unfold exmT at h
  split at h
  · rename_i hc
    cases h
    exact ⟨(S.w c hc).er, S.kit c hc y hy⟩
  · cases h
def veT (es : List Str) (c : Str) : Option Bool := if c ∈ es then some true else none
theorem veT_ok (S : ErS K b es) : ∀ c r, veT es c = some r → ErC K c ∧ PySem.W.kitOne K (.ref (He.ga K c)) (.type "ValueError") = some r := fun c r h => by
  unfold veT at h
  split at h
  · rename_i hc
    cases h
    exact ⟨(S.w c hc).er, S.ve c hc⟩
  · cases h
/-- isinstance(e, C), C one of the program's errors -/
theorem de_erisC (S : ErS X.K b es) {y : Str} (hy : y ∈ es) {n : Str} {p p1 p2 pos : Pos} (hg : Gl X "isinstance") (hm : X.mg "isinstance" = none) (hi : X.N[i]? = some n) (hv : Vis X.env.scope n) (hg2 : Gl X y) (hm2 : X.mg y = some (.ref (He.ga X.K y)))
    (hd : (n == ("__debug__" : Str)) = false := by decide) (hcd : (n == ("__classdict__" : Str)) = false := by decide) (hdy : (y == ("__debug__" : Str)) = false := by decide)
    (he : starEach [.Name n p1, .Name y p2] X.env = (false, eval (.Name n p1) X.env) :: starEach [.Name y p2] X.env := by rfl) (he2 : starEach [.Name y p2] X.env = (false, eval (.Name y p2) X.env) :: starEach [] X.env := by rfl) (hpl : (backTo pos (starEach [.Name y p2] X.env)).any (·.1) = false := by rfl) :
    DE X E (.Call (.Name "isinstance" p) [.Name n p1, .Name y p2] [] pos) (tCB (rIsEr X.K) (tCons (tVar i) (tCons (tC (.ref (He.ga X.K y))) tNil))) (xErIs (exmT b es y) i) :=
  de_eris (kitT_ok S hy) (fun _ r => r) hg hm hi hv (pe_glob hg2 hm2 rfl hdy) hd hcd he he2 hpl
/-- isinstance(e, ValueError) -/
theorem de_erisV (S : ErS X.K b es) {n : Str} {p p1 p2 pos : Pos} (hg : Gl X "isinstance") (hm : X.mg "isinstance" = none) (hi : X.N[i]? = some n) (hv : Vis X.env.scope n) (hg2 : Gl X "ValueError") (hm2 : X.mg "ValueError" = none)
    (hd : (n == ("__debug__" : Str)) = false := by decide) (hcd : (n == ("__classdict__" : Str)) = false := by decide)
    (he : starEach [.Name n p1, .Name "ValueError" p2] X.env = (false, eval (.Name n p1) X.env) :: starEach [.Name "ValueError" p2] X.env := by rfl) (he2 : starEach [.Name "ValueError" p2] X.env = (false, eval (.Name "ValueError" p2) X.env) :: starEach [] X.env := by rfl) (hpl : (backTo pos (starEach [.Name "ValueError" p2] X.env)).any (·.1) = false := by rfl) :
    DE X E (.Call (.Name "isinstance" p) [.Name n p1, .Name "ValueError" p2] [] pos) (tCB (rIsEr X.K) (tCons (tVar i) (tCons (tC (.ty "ValueError")) tNil))) (xErIs (veT es) i) :=
  de_eris (veT_ok S) (fun u r => r) hg hm hi hv (pe_bltn hg2 hm2 (by decide +kernel) rfl) hd hcd he he2 hpl
end
end DL

/-! errors in defs that let none out -/
namespace DL
open Evl (Ex)
open PySem PySem.Spec PyProof.Rows L2 PySem.W
section
variable {K : PySem.W.Frag} {E : WX} {X : Cx} {G : En} {F F' : Hp} {T T' : List (Addr × D)} {s s' : S} {σ : L2.St} {H H' : Hp} {i j : Nat}
def sTryK0 (exm : Str → Option Bool) (i j : Nat) (fb : XS) : XS := fun s => match fb s with
  | .ok fl => .ok fl
  | .bad => .bad
  | .err c d s1 => match exm c with
    | some true => if i < s1.length then .ok (.nx (((s1.set i none).set j (some (.own none (erD c d)))).set i none)) else .bad
    | _ => .bad
theorem snd_tryK0 {exm : Str → Option Bool} {fb : XS} {cv : Value} (hij : i ≠ j) (hx : ∀ c b, exm c = some b → PySem.W.exmOne K (.ref (He.ga K c)) cv = some b) :
    SndS K E (fun D σ H => canS K (wKeep K cv i j (fun _ _ _ _ => False) D) fb D σ H) (sTryK0 exm i j fb) := fun G F s σ H Dn sr w => by
  refine ⟨G, F, s, sr, ?_⟩
  unfold sTryK0 at w
  have h3 : Want K G (wKeep K cv i j (fun _ _ _ _ => False) Dn) F (fb s) (FP K G F Dn) := by
    cases q : fb s with
    | ok fl =>
      rw [q] at w
      exact w
    | bad => rw [q] at w; exact w
    | err c d s1 =>
      intro x F' T' σ' H' v e sr' hx' hv hn
      rw [q] at w
      dsimp only at w
      cases qe : exm c with
      | none => rw [qe] at w; exact w.elim
      | some b =>
        rw [qe] at w
        cases b with
        | false => exact w.elim
        | true =>
          dsimp only at w
          by_cases hi : i < s1.length
          · rw [if_pos hi] at w
            refine ⟨true, hx c true qe, fun _ => ⟨_, x, rfl, rfl, fun a ha => ?_⟩, fun z => absurd z (by decide)⟩
            have sr1 : SR K G F' [] s1 σ' H' := SR.dropApp (T := []) (T' := T') (by rw [List.append_nil]; exact sr')
            obtain ⟨F2, e2, hx2, sr2⟩ := sr1.freezeX hx' hn
            have sr3 := (sr2.forget (i := i)).over (x := some (V.ref a)) getS_gone
            have sr4 := sr3.grow (o := erH a (He.ga K c) x) ha
            have nsl : ∀ k l d', getS (s1.set i none) k = some (.own l d') → (σ'.set i (some (V.ref a)))[k]? ≠ some (some (.ref a)) := fun k l d' g hv2 => by
              obtain ⟨p', a1, o, _⟩ := sr3.ow k l d' g
              rw [a1] at hv2
              cases hv2
              obtain ⟨ob, ho⟩ := o.at_.there
              rw [ha] at ho
              cases ho
            have sr5 := sr4.addTemp (p := a) (d := erD c d) ⟨c, d, x, v, rfl, upd_same, hx2, Rp.mono e2 hv⟩ (sr2.nofz ha) (sr2.he ha) nsl (fun q hq => nomatch hq)
            have sr6 := sr5.setNew (i := j)
            have sr7 := (sr6.forget (i := i)).over (x := none) getS_gone
            exact w F2 _ _ (e.trans e2) sr7
          · rw [if_neg hi] at w
            exact w.elim
  exact h3
theorem ds_tryK0 {n m x : Str} {cv : Value} {body : List Stmt} {np pos pos' q1 q2 pos2 : Pos} {exm : Str → Option Bool} {fb : XS}
    (hs : X.stack = X.env :: X.outer) (hf : X.env.frame = some X.env.locals) (hN : X.N.Nodup) (hi : X.N[i]? = some n) (hln : X.env.kindOf n = some .local) (hc : Names X x cv)
    (hb : ∀ (W : WX) (pn : List (Addr × Obj)) (xe : Value → Shared → Prop), Takes (X.tr pn xe) W → PassesOwn (model X.prog X.w) X.A X.env xe → ∃ t, DSs (X.tr pn xe) W body t fb)
    (hij : i ≠ j) (hv : Vis X.env.scope n) (hj : X.N[j]? = some m) (hm : Loc X.env.scope m) (hx : ∀ c b, exm c = some b → PySem.W.exmOne X.K (.ref (He.ga X.K c)) cv = some b)
    (hs2 : swapsWith (.Name n q1) (some (.Name m q2)) pos2.line X.env = pure false := by rfl)
    (hd : (n == ("__debug__" : Str)) = false := by decide) (hcd : (n == ("__classdict__" : Str)) = false := by decide) (hfm : X.fn m = true ∨ X.env.scope.names.lookup m = some .local := by first | exact .inl rfl | exact .inr rfl) :
    DS X E (.Try body [.ExceptHandler (some (.Name x np)) (some n) [.Assign [.Name m q2] (.Name n q1) pos2] pos'] [] [] pos) (fun D σ H => canS X.K (wKeep X.K cv i j (fun _ _ _ _ => False) D) fb D σ H) (sTryK0 exm i j fb) :=
  ⟨ps_try_keep (tb := fun W => canS X.K W fb) hs hf hN hi hln hc takes0 (fun W pn xe t h => let ⟨_, d⟩ := hb W pn xe t h; canS_ps d) (List.getElem?_eq_some_iff.mp hi).1 hij hv hj hm hs2 hd hcd hfm, snd_tryK0 hij hx⟩
end
end DL

/-! words for the printed texts of laws with errors -/
namespace DL
open Evl (Ex)
open PySem PySem.Spec PyProof.Rows L2 PySem.W
/-- the program's errors -/
abbrev errsL : List Str := ["OrderError", "InvalidOrder", "InvalidPattern", "InvalidList", "InvalidForm", "InvalidLetter", "InvalidWord", "InvalidKind", "InvalidNumber", "InvalidPair", "InvalidMachine", "NoMachine", "InvalidTape", "InvalidSorter", "InvalidSaying", "InvalidName", "NotLet", "UnknownName", "NothingToUndo", "Unreadable", "Unorderly"]
def clsBodyE : Stmt → List Stmt
  | .ClassDef (body := b) .. => b
  | _ => []
/-- a statement of a class -/
def clsStmt (st : Stmt) (i : Nat) : Stmt := (clsBodyE st).getD i (.Pass ⟨0, 0, 0, 0⟩)
/-- nothing is let out -/
theorem passI {X : Cx} : Passes CX0 X (fun _ _ _ => False) := fun _ _ _ _ _ _ _ z => z.elim
theorem kbi_of {K : PySem.W.Frag} {x qual : Str} {params : Arguments} {body : List Stmt} {scope : Scope} {f : Addr} {fd : FuncData} (Fd : FunD K x qual params body scope [] [] f fd)
    (h : ∀ (kV doc pm : Value) (an : Option Addr) (cdv ct : Value) (a u : Value), bindArgs (PySem.W.fnOf x qual params body scope .none kV doc pm an cdv ct) ⟨[a], [("value", u)]⟩ = pure ((["self", "value"] : List Str).zip [a, u])) : KBI fd := fun s a u => by
  obtain ⟨oc, od, dV, kV, doc, pm, an, cdv, ct, osl, rfl, lk, hcd, hD, hK⟩ := Fd.ex
  rcases hD with ⟨_, rfl⟩ | ⟨e, _⟩
  · exact .of_eq (h kV doc pm an cdv ct a u)
  · exact absurd rfl e
section
variable {X : Cx} {E : WX} {i : Nat}
theorem dt_ernone {n : Str} {p1 p2 pos : Pos} {k : Nat} (hi : X.N[i]? = some n) (hv : Vis X.env.scope n) (hd : (n == ("__debug__" : Str)) = false := by decide) (hcd : (n == ("__classdict__" : Str)) = false := by decide)
    (hm : behindInMarks .Is (.Constant .none k p2) = false := by first | exact nomark _ | rfl) :
    DT X E (.Compare (.Name n p1) [.Is] [.Constant .none k p2] pos) (tTest (tOp (fun x y H Q => y = .non ∧ Q (.bl (decide (x = .non))) H) (tVar i) (tC .non))) (tOf (xErNone false i)) := ⟨pt_cmpR op_isN (pe_var hi hv hd hcd) pe_non hm, sndT_of (snd_ernone rfl)⟩
end
end DL

namespace DLL
open Evl (Ex)
open PySem PySem.Spec PyProof.Rows L2 DL
def top (i : Nat) : Stmt := PySem.Challenge.pw_bannedorders_k00_errors.main.body.getD i (.Pass ⟨0, 0, 0, 0⟩)
abbrev st__law_deck : Stmt := top 23
abbrev st__law_take : Stmt := top 24
abbrev st__law_same : Stmt := top 25
abbrev st__law_raise_first : Stmt := top 26
abbrev st__law_raise_second : Stmt := top 27
abbrev st__law_raise_named_first : Stmt := top 28
abbrev st__law_raise_named_second : Stmt := top 29
abbrev st__law_raised : Stmt := top 30
abbrev st__law_given : Stmt := top 32
abbrev st__law_kinds : Stmt := top 31
abbrev st__law_right : Stmt := top 33
abbrev st__law_base_right : Stmt := top 34
abbrev st_law : Stmt := top 35
abbrev st_init : Stmt := clsStmt (top 1) 0
def ddi : He.DefD := ⟨("OrderError", some "__init__"), "__init__", "OrderError.__init__", defArgs st_init, defBody st_init, defScope st_init, [], []⟩
def dd0 : He.DefD := ⟨("_law_deck", none), "_law_deck", "_law_deck", defArgs st__law_deck, defBody st__law_deck, defScope st__law_deck, [], []⟩
def dd1 : He.DefD := ⟨("_law_take", none), "_law_take", "_law_take", defArgs st__law_take, defBody st__law_take, defScope st__law_take, [], []⟩
def dd2 : He.DefD := ⟨("_law_same", none), "_law_same", "_law_same", defArgs st__law_same, defBody st__law_same, defScope st__law_same, [], []⟩
def dd3 : He.DefD := ⟨("_law_raise_first", none), "_law_raise_first", "_law_raise_first", defArgs st__law_raise_first, defBody st__law_raise_first, defScope st__law_raise_first, [], []⟩
def dd4 : He.DefD := ⟨("_law_raise_second", none), "_law_raise_second", "_law_raise_second", defArgs st__law_raise_second, defBody st__law_raise_second, defScope st__law_raise_second, [], []⟩
def dd5 : He.DefD := ⟨("_law_raise_named_first", none), "_law_raise_named_first", "_law_raise_named_first", defArgs st__law_raise_named_first, defBody st__law_raise_named_first, defScope st__law_raise_named_first, [], []⟩
def dd6 : He.DefD := ⟨("_law_raise_named_second", none), "_law_raise_named_second", "_law_raise_named_second", defArgs st__law_raise_named_second, defBody st__law_raise_named_second, defScope st__law_raise_named_second, [], []⟩
def dd7 : He.DefD := ⟨("_law_raised", none), "_law_raised", "_law_raised", defArgs st__law_raised, defBody st__law_raised, defScope st__law_raised, [], []⟩
def dd8 : He.DefD := ⟨("_law_given", none), "_law_given", "_law_given", defArgs st__law_given, defBody st__law_given, defScope st__law_given, [], []⟩
def dd9 : He.DefD := ⟨("_law_kinds", none), "_law_kinds", "_law_kinds", defArgs st__law_kinds, defBody st__law_kinds, defScope st__law_kinds, [], []⟩
def dd10 : He.DefD := ⟨("_law_right", none), "_law_right", "_law_right", defArgs st__law_right, defBody st__law_right, defScope st__law_right, [], []⟩
def dd11 : He.DefD := ⟨("_law_base_right", none), "_law_base_right", "_law_base_right", defArgs st__law_base_right, defBody st__law_base_right, defScope st__law_base_right, [], []⟩
def dd12 : He.DefD := ⟨("law", none), "law", "law", defArgs st_law, defBody st_law, defScope st_law, [], []⟩
def fn : List He.DefD := ([dd0, dd1, dd2, dd3, dd4, dd5, dd6, dd7, dd8, dd9, dd10, dd11, dd12, ddi] : List He.DefD)
def fa : List He.Fa := ([.glo "_law_deck", .glo "_law_take", .glo "_law_same", .glo "_law_raise_first", .glo "_law_raise_second", .glo "_law_raise_named_first", .glo "_law_raise_named_second", .glo "_law_raised", .glo "_law_given", .glo "_law_kinds", .glo "_law_right", .glo "_law_base_right", .glo "law", .free "ValueError", .free "bool", .free "int", .free "isinstance", .free "len", .free "list", .free "max", .free "min", .free "range", .free "str", .free "tuple", .glo "OrderError", .glo "InvalidOrder", .glo "InvalidPattern", .glo "InvalidList", .glo "InvalidForm", .glo "InvalidLetter"] : List He.Fa) ++ ([.glo "InvalidWord", .glo "InvalidKind", .glo "InvalidNumber", .glo "InvalidPair", .glo "InvalidMachine", .glo "NoMachine", .glo "InvalidTape", .glo "InvalidSorter", .glo "InvalidSaying", .glo "InvalidName", .glo "NotLet", .glo "UnknownName", .glo "NothingToUndo", .glo "Unreadable", .glo "Unorderly"] : List He.Fa)
def loose : List PySem.Str := (["__name__", "OrderError", "InvalidOrder", "InvalidPattern", "InvalidList", "InvalidForm", "InvalidLetter", "InvalidWord", "InvalidKind", "InvalidNumber", "InvalidPair", "InvalidMachine", "NoMachine", "InvalidTape", "InvalidSorter", "InvalidSaying", "InvalidName", "NotLet", "UnknownName", "NothingToUndo", "Unreadable", "Unorderly", "_law_deck", "_law_take", "_law_same", "_law_raise_first", "_law_raise_second", "_law_raise_named_first", "_law_raise_named_second", "_law_raised"] : List PySem.Str) ++ (["_law_kinds", "_law_given", "_law_right", "_law_base_right"] : List PySem.Str)
abbrev R : PySem.W.OpenRow := PySem.W.OpenLaw.row PySem.Challenge.rw_bannedorders_k00_errors
def cs : List (PySem.Str × PySem.PyData) := []
def ts : List DL.TabD := []
abbrev hk : PySem.W.Hook := DL.hookE 4 fa fn cs ts "OrderError" errsL
def ob (s : PySem.W.SharedT) : DL.AlE := DL.obsEG 4 fa fn cs ts "OrderError" errsL (HandSHeadRun.getT s)
theorem ob_eq (s : PySem.W.SharedT) : ob s = hk.obs s.abs := DL.obsEG_eq (HandSHeadRun.getT_eq s)
theorem run (w : World) : HandSHeadRun.RunEq R (PySem.W.view R.prog [35]) hk ob 20000 loose w := by
  intro os
  kernel_rfl

end DLL

namespace DLS
open Evl (Ex)
open PySem PySem.Spec PyProof.Rows L2 DL
-- _law_deck(script, at) slots 0 script, 1 at, 2 cell, 3 stir
abbrev fb_law_deck : XS := sSeq (sSet 2 (xVal (.int 0))) (sSeq (sIf (tOf (xOp2 hLt (xVar 1) (xCB hLen (aCons (xVar 0) (aNil))))) (sSet 2 (xOp2 hIx (xVar 0) (xVar 1))) (sNil)) (sSeq (sSet 3 (xOp2 hMod (xCB hInt (aCons (xOp2 hAdd (xOp2 hAdd (xVar 2) (xOp2 hMul (xVal (.int 7919)) (xVar 1))) (xVal (.int 104729))) (aNil))) (xVal (.int 2305843009213693951)))) (sSeq (sSet 3 (xOp2 hMod (xCB hInt (aCons (xOp2 hAdd (xOp2 hAdd (xOp2 hMul (xOp2 hMul (xVar 3) (xVar 3)) (xVar 3)) (xOp2 hMul (xVal (.int 31)) (xVar 1))) (xVal (.int 7))) (aNil))) (xVal (.int 2305843009213693951)))) (sSeq (sIf (tOf (xOp2 hLt (xVar 2) (xOp2 hPow (xVal (.int 10)) (xVal (.int 18))))) (sRet (xLst (aCons (xVal (.int 0)) (aCons (xVar 3) (aNil))))) (sNil)) (sRet (xLst (aCons (xOp2 hSub (xVar 2) (xOp2 hPow (xVal (.int 10)) (xVal (.int 18)))) (aCons (xVar 3) (aNil)))))))))
def den_law_deck : List D → FOut := runF [false, false] 4 fb_law_deck
-- neighbours(pattern) slots 0 pattern, 1 found, 2 at, 3 number, 4 lesser, 5 greater, 6 below, 7 above, 8 other
-- placed(order, pattern) slots 0 order, 1 pattern, 2 found, 3 at, 4 longer, 5 places, 6 below, 7 above, 8 least, 9 most, 10 start, 11 stop, 12 place
-- is_integer(value) slots 0 value
-- are_integers(value) slots 0 value, 1 a
-- is_order_of(told) slots 0 told
-- check_order(order) slots 0 order
-- is_pattern(told) slots 0 told
-- check_pattern(pattern) slots 0 pattern
-- places(order, pattern) slots 0 order, 1 pattern
-- turned_of(order) slots 0 order
-- turned(order) slots 0 order
-- mirrored_of(order) slots 0 order, 1 number
-- mirrored(order) slots 0 order
-- inverse_of(order) slots 0 order, 1 number
-- inverse(order) slots 0 order
-- _law_take(deck, many) slots 0 deck, 1 many, 2 taken
-- _law_same(found, due) slots 0 found, 1 due, 2 at
abbrev fb_law_same (den : List D → FOut) : XS := sSeq (sIf (tOf (xIsi (fun d => isTy .tup d || isTy .lst d) (xVar 1))) (sSeq (sIf (tOrs (tOf (xOp2 hNe (xIsi (isTy .tup) (xVar 0)) (xIsi (isTy .tup) (xVar 1)))) (tOf (xOp2 hNe (xIsi (isTy .lst) (xVar 0)) (xIsi (isTy .lst) (xVar 1))))) (sRet (xVal (.bool false))) (sNil)) (sSeq (sIf (tOf (xOp2 hNe (xCB hLen (aCons (xVar 0) (aNil))) (xCB hLen (aCons (xVar 1) (aNil))))) (sRet (xVal (.bool false))) (sNil)) (sRet (xOp2 hEq (xLc [2] (xRng1 (xCB hLen (aCons (xVar 1) (aNil)))) (gN 2) (tNots (tOf (xCall [false, false] den (aCons (xOp2 hIx (xVar 0) (xVar 2)) (aCons (xOp2 hIx (xVar 1) (xVar 2)) (aNil)))))) (xVar 2)) (xLst (aNil)))))) (sNil)) (sSeq (sIf (tOf (xOp2 hIs (xVar 1) (xVal .none))) (sRet (xOp2 hIs (xVar 0) (xVal .none))) (sNil)) (sSeq (sIf (tOf (xIsi (isTy .str) (xVar 1))) (sRet (xAnd (xIsi (isTy .str) (xVar 0)) (xOp2 hEq (xVar 0) (xVar 1)))) (sNil)) (sSeq (sIf (tOrs (tOf (xIsi (isTy .bool) (xVar 1))) (tOf (xIsi (isTy .bool) (xVar 0)))) (sRet (xAnd (xIsi (isTy .bool) (xVar 1)) (xAnd (xIsi (isTy .bool) (xVar 0)) (xOp2 hEq (xVar 0) (xVar 1))))) (sNil)) (sRet (xAnd (xIsi (isTy .int) (xVar 0)) (xOp2 hEq (xVar 0) (xVar 1)))))))
def denN_law_same : Nat → List D → FOut
  | 0 => fun _ => .bad
  | n + 1 => runF [false, false] 3 (fb_law_same (denN_law_same n))
abbrev den_law_same : List D → FOut := denN_law_same 12
-- _law_drawn(deck, many) slots 0 deck, 1 many, 2 found, 3 j
-- _law_like(cells) slots 0 cells, 1 y, 2 x
-- _law_filled(row, rows) slots 0 row, 1 rows, 2 found, 3 at, 4 less, 5 j, 6 x
-- _law_row(deck, most) slots 0 deck, 1 most, 2 base, 3 at, 4 way, 5 many, 6 straight, 7 rest, 8 rows, 9 more
-- _law_ways(row) slots 0 row, 1 at, 2 many, 3 goal, 4 x
-- _law_right(deck) slots 0 deck, 1 row, 2 little, 3 around, 4 back, 5 across, 6 found, 7 due, 8 small, 9 picks, 10 many, 11 pick, 12 at
-- law(script) slots 0 script, 1 at
end DLS

namespace DLS
open Evl (Ex)
open PySem PySem.Spec PyProof.Rows L2 DL
-- _law_little(deck, row) slots 0 deck, 1 row, 2 size, 3 picks, 4 cells, 5 at, 6 j
-- is_order(told) slots 0 told
-- _law_bent(deck, row) slots 0 deck, 1 row, 2 at, 3 way, 4 x
-- _law_is_row(row) slots 0 row, 1 x
-- is_shown(order, pattern) slots 0 order, 1 pattern
-- shows(order, pattern) slots 0 order, 1 pattern
-- how_many(order, pattern) slots 0 order, 1 pattern
-- _law_picks(many, size) slots 0 many, 1 size, 2 found, 3 turn, 4 longer, 5 pick, 6 start, 7 at
-- _law_places(row, little) slots 0 row, 1 little, 2 pick, 3 at
-- _law_shown_right(row, little) slots 0 row, 1 little, 2 due, 3 found, 4 told_all
end DLS

namespace DLS
open Evl (Ex)
open PySem PySem.Spec PyProof.Rows L2 DL
-- check_filled(order) slots 0 order
-- lifted(order, by) slots 0 order, 1 by, 2 number
-- put_together_of(order, orders) slots 0 order, 1 orders, 2 below, 3 number, 4 found, 5 own, 6 by, 7 other
-- put_together(order, orders) slots 0 order, 1 orders, 2 own
-- _law_blocks(row) slots 0 row, 1 found, 2 start, 3 stop, 4 cells
-- _law_is_simple(row) slots 0 row, 1 block
-- _law_simple(deck) slots 0 deck, 1 some, 2 turn, 3 row
-- blocks_of(order) slots 0 order, 1 found, 2 begin, 3 end, 4 numbers
-- blocks(order) slots 0 order
-- is_simple_of(order) slots 0 order
-- is_simple(order) slots 0 order
-- _law_blocks_right(row) slots 0 row, 1 found, 2 due, 3 simple
-- _law_rows(deck, many, rest) slots 0 deck, 1 many, 2 rest, 3 found, 4 at, 5 more
-- _law_together_right(row, rows, told_row) slots 0 row, 1 rows, 2 told_row, 3 one_row, 4 ends, 5 firsts, 6 cells
-- law(script) slots 0 script, 1 at, 2 deck, 3 row, 4 rows, 5 found, 6 one_row
end DLS

namespace DLS
open Evl (Ex)
open PySem PySem.Spec PyProof.Rows L2 DL
-- is_list(told) slots 0 told, 1 pattern
-- check_list(forbidden) slots 0 forbidden
-- lets_of(forbidden, order) slots 0 forbidden, 1 order, 2 pattern
-- lets(forbidden, order) slots 0 forbidden, 1 order
-- check_number(n) slots 0 n
-- is_pair(value) slots 0 value
-- check_kind(kind) slots 0 kind, 1 way
-- alternation_of(kind, n) slots 0 kind, 1 n, 2 found, 3 lesser, 4 greater, 5 low, 6 high
-- alternation(kind, n) slots 0 kind, 1 n
-- stopping(forbidden, kind) slots 0 forbidden, 1 kind, 2 pattern
-- stops(forbidden, kind) slots 0 forbidden, 1 kind
-- stopped(forbidden) slots 0 forbidden, 1 kind
-- endless_of(forbidden) slots 0 forbidden, 1 kind
-- endless(forbidden) slots 0 forbidden
-- _law_take(pot, many) slots 0 pot, 1 many, 2 cell, 3 told, 4 mixed
-- _law_same(told, due) slots 0 told, 1 due, 2 kinds, 3 k
-- _law_order(pot, n) slots 0 pot, 1 n, 2 order, 3 k, 4 p
-- _law_pattern(pot, most) slots 0 pot, 1 most, 2 sizes
-- _law_list(pot, most, many) slots 0 pot, 1 most, 2 many, 3 rows, 4 k
-- _law_kinds() slots 
-- _law_alternation(kind, n) slots 0 kind, 1 n, 2 rows, 3 numbers, 4 k
-- _law_places(order, pattern) slots 0 order, 1 pattern, 2 rows, 3 k, 4 longer, 5 row, 6 p, 7 j
-- _law_stopped(forbidden) slots 0 forbidden, 1 rows, 2 kind, 3 some, 4 pattern
-- _law_alternating(pot) slots 0 pot, 1 rows, 2 turn, 3 n, 4 order, 5 some, 6 a
-- law(script) slots 0 script, 1 pot, 2 kind, 3 turn, 4 n, 5 due, 6 forbidden, 7 dues, 8 open_kinds, 9 first, 10 longest, 11 pattern
end DLS

namespace DLS
open Evl (Ex)
open PySem PySem.Spec PyProof.Rows L2 DL
-- is_form(told) slots 0 told, 1 at, 2 number
-- check_form(form) slots 0 form
-- slots_of(form) slots 0 form
-- slots(form) slots 0 form
-- letters_of(form) slots 0 form, 1 slot, 2 way
-- letters(form) slots 0 form
-- is_letter(told) slots 0 told
-- put_of(form, letter) slots 0 form, 1 letter, 2 at, 3 number, 4 filled, 5 slot, 6 way, 7 place
-- put(form, letter) slots 0 form, 1 letter
-- led_of(word) slots 0 word, 1 form, 2 letter
-- led(word) slots 0 word, 1 found
-- _law_put(form, letter) slots 0 form, 1 letter, 2 at, 3 s, 4 way, 5 number, 6 k
-- _law_letters(form) slots 0 form, 1 rows, 2 s, 3 way, 4 a
-- _law_led(word) slots 0 word, 1 form, 2 letter
-- _law_drawn_form(pot, numbers, most) slots 0 pot, 1 numbers, 2 most, 3 k, 4 form, 5 word, 6 rows, 7 letter, 8 longer
-- _law_made_form(pot) slots 0 pot, 1 number, 2 rows, 3 numbers
-- _law_odd_form(pot, form) slots 0 pot, 1 form, 2 odd
-- law(script) slots 0 script, 1 pot, 2 turn, 3 told, 4 here, 5 form, 6 word, 7 letter, 8 many, 9 rows, 10 due
end DLS

namespace DLS
open Evl (Ex)
open PySem PySem.Spec PyProof.Rows L2 DL
-- lengthened(order) slots 0 order, 1 many, 2 at
-- let_orders(forbidden, n) slots 0 forbidden, 1 n, 2 found, 3 _turn, 4 shorter, 5 order
-- let_of(forbidden, n) slots 0 forbidden, 1 n
-- is_finite(forbidden) slots 0 forbidden, 1 rising, 2 falling, 3 pattern
-- _law_lets(forbidden, order) slots 0 forbidden, 1 order, 2 pattern
-- _law_longer(orders_now) slots 0 orders_now, 1 rows, 2 order, 3 p
-- _law_let_orders(forbidden, n) slots 0 forbidden, 1 n, 2 lots, 3 size, 4 order
-- _law_sorted(patterns) slots 0 patterns, 1 rows, 2 k, 3 pattern
-- _law_least(patterns) slots 0 patterns, 1 rows, 2 pattern
-- _law_ends(pot) slots 0 pot, 1 rows, 2 rising, 3 falling
-- _law_is_finite(forbidden) slots 0 forbidden, 1 rising, 2 falling, 3 pattern
-- law(script) slots 0 script, 1 pot, 2 turn, 3 forbidden, 4 lots, 5 due, 6 told, 7 n, 8 most
end DLS

namespace DLS
open Evl (Ex)
open PySem PySem.Spec PyProof.Rows L2 DL
-- sorted_patterns(patterns) slots 0 patterns, 1 size, 2 pattern
-- least_of(patterns) slots 0 patterns, 1 found, 2 pattern
-- least(forbidden) slots 0 forbidden
-- _law_odd_list(pot) slots 0 pot, 1 odd
-- law(script) slots 0 script, 1 pot, 2 turn, 3 forbidden, 4 due, 5 told, 6 look, 7 order, 8 due_one
end DLS

namespace DLS
open Evl (Ex)
open PySem PySem.Spec PyProof.Rows L2 DL
-- turned_list(forbidden) slots 0 forbidden, 1 pattern
-- mirrored_list(forbidden) slots 0 forbidden, 1 pattern
-- inverse_list(forbidden) slots 0 forbidden, 1 pattern
-- _law_turned(order, way) slots 0 order, 1 way, 2 a
-- law(script) slots 0 script, 1 pot, 2 turn, 3 forbidden, 4 dues, 5 told, 6 back, 7 way, 8 order, 9 pattern
end DLS

namespace DLS
open Evl (Ex)
open PySem PySem.Spec PyProof.Rows L2 DL
-- is_within(one, other) slots 0 one, 1 other, 2 pattern
-- lies_within(one, other) slots 0 one, 1 other
-- same(one, other) slots 0 one, 1 other
-- parting(one, other) slots 0 one, 1 other, 2 pattern
-- _law_second(pot, forbidden) slots 0 pot, 1 forbidden, 2 way, 3 at, 4 pattern, 5 p, 6 longer
-- _law_orders(most) slots 0 most, 1 size, 2 lots, 3 rows
-- law(script) slots 0 script, 1 pot, 2 turn, 3 one, 4 other, 5 most, 6 lists, 7 order, 8 told, 9 first, 10 firsts, 11 here, 12 pattern
end DLS

namespace DLS
open Evl (Ex)
open PySem PySem.Spec PyProof.Rows L2 DL
-- is_sum(order) slots 0 order, 1 at
-- is_summed(forbidden) slots 0 forbidden, 1 pattern
-- is_skew_summed(forbidden) slots 0 forbidden, 1 pattern
-- _law_sum(one, other, skew) slots 0 one, 1 other, 2 skew, 3 a
-- _law_whole_list(pot) slots 0 pot, 1 turn, 2 rows, 3 skew, 4 pattern, 5 ends, 6 some, 7 k
-- _law_is_summed(lots, least_one, most, skew) slots 0 lots, 1 least_one, 2 most, 3 skew, 4 size, 5 one, 6 total, 7 other
-- law(script) slots 0 script, 1 pot, 2 turn, 3 forbidden, 4 least_one, 5 most, 6 lots, 7 due, 8 told, 9 skew, 10 rows, 11 one, 12 other, 13 pattern
end DLS

namespace DLS
open Evl (Ex)
open PySem PySem.Spec PyProof.Rows L2 DL
-- compared(numbers) slots 0 numbers, 1 rank, 2 at, 3 number
-- pattern_of(numbers) slots 0 numbers, 1 number
-- _law_judged(deck, row) slots 0 deck, 1 row, 2 bent, 3 due, 4 found, 5 j, 6 cells, 7 far
-- law(script) slots 0 script, 1 at, 2 deck, 3 row, 4 turn
end DLS

namespace DLS
open Evl (Ex)
open PySem PySem.Spec PyProof.Rows L2 DL
-- begun(form, many) slots 0 form, 1 many, 2 found, 3 left, 4 number
-- with_numbers(form, numbers) slots 0 form, 1 numbers, 2 number, 3 found, 4 at
-- filling_of(forbidden, form) slots 0 forbidden, 1 form, 2 rows, 3 count, 4 many, 5 least, 6 row, 7 part, 8 longer, 9 number
-- check_form_of_list(forbidden, form) slots 0 forbidden, 1 form
-- filling(forbidden, form) slots 0 forbidden, 1 form
-- is_open(forbidden, form) slots 0 forbidden, 1 form
-- _law_filled(form, row, part) slots 0 form, 1 row, 2 part, 3 a, 4 numbers, 5 k
-- _law_filling(forbidden, form) slots 0 forbidden, 1 form, 2 rows, 3 k, 4 row, 5 low, 6 many, 7 longer, 8 order, 9 a
-- _law_word(order) slots 0 order, 1 rows, 2 number, 3 k, 4 s, 5 left, 6 right, 7 way, 8 p, 9 starts
-- _law_let_form(pot, forbidden) slots 0 pot, 1 forbidden, 2 order, 3 k, 4 word, 5 rows, 6 one
-- _law_end(pot, form) slots 0 pot, 1 form, 2 k, 3 rows, 4 s, 5 way
-- _law_shut(pot) slots 0 pot, 1 a, 2 rows, 3 pattern, 4 form, 5 b, 6 order, 7 one
-- law(script) slots 0 script, 1 turn, 2 pot, 3 asked, 4 forbidden, 5 look, 6 form, 7 due, 8 told
end DLS

namespace DLS
open Evl (Ex)
open PySem PySem.Spec PyProof.Rows L2 DL
-- check_filled_order(order) slots 0 order
-- word_found(order) slots 0 order, 1 found, 2 number, 3 at, 4 to_come, 5 begins, 6 has_left, 7 has_right, 8 own, 9 place
-- word_of(order) slots 0 order
-- order_found(word) slots 0 word, 1 form
-- order_of(word) slots 0 word, 1 found
-- widest(order) slots 0 order, 1 word, 2 at
-- _law_whole_words(n) slots 0 n, 1 k, 2 rows, 3 ends, 4 longer, 5 word, 6 form, 7 letter, 8 there
-- law(script) slots 0 script, 1 pot, 2 turn, 3 rows, 4 order, 5 word, 6 told, 7 most, 8 n, 9 seen, 10 form, 11 k
end DLS

namespace DLS
open Evl (Ex)
open PySem PySem.Spec PyProof.Rows L2 DL
-- is_sorter(told) slots 0 told
-- check_sorter(sorter) slots 0 sorter
-- check_order(order) slots 0 order
-- by_stack(order) slots 0 order, 1 number, 2 left, 3 stack
-- by_popper(order) slots 0 order, 1 number, 2 left, 3 stack
-- merged(one, other) slots 0 one, 1 other, 2 left, 3 i, 4 j
-- by_queues(order) slots 0 order, 1 rows, 2 number, 3 free, 4 row
-- by_bubble(order) slots 0 order, 1 left, 2 number
-- made_by(sorter, order) slots 0 sorter, 1 order
-- made(sorter, order) slots 0 sorter, 1 order
-- _law_well(script, place) slots 0 script, 1 place, 2 cell
-- _law_dip(well, many) slots 0 well, 1 many, 2 mixed, 3 figure
-- _law_same(told, due) slots 0 told, 1 due, 2 kind, 3 spot
-- _law_stack(order) slots 0 order, 1 number, 2 found, 3 stack
-- _law_popper(order) slots 0 order, 1 number, 2 found, 3 stack
-- _law_queues(order) slots 0 order, 1 number, 2 one, 3 other, 4 found
-- _law_bubble(order) slots 0 order, 1 number, 2 held, 3 found
-- _law_made(sorter, order) slots 0 sorter, 1 order
-- _law_order(well, n) slots 0 well, 1 n, 2 left, 3 found
-- _law_near(well) slots 0 well, 1 n, 2 order, 3 turn, 4 kept, 5 at, 6 other
-- risen(n) slots 0 n
-- does_sort(sorter, order) slots 0 sorter, 1 order
-- sorts(sorter, order) slots 0 sorter, 1 order
-- _law_right(sorter, order, named) slots 0 sorter, 1 order, 2 named, 3 due, 4 told, 5 found
-- law(script) slots 0 script, 1 asked, 2 spot, 3 well, 4 turn, 5 sorter, 6 order, 7 again
end DLS

namespace DLS
open Evl (Ex)
open PySem PySem.Spec PyProof.Rows L2 DL
-- list_of(sorter) slots 0 sorter
-- _law_orders(n) slots 0 n, 1 found, 2 turn, 3 further, 4 row, 5 number
-- _law_lists() slots 0 found
-- _law_shows(order, pattern) slots 0 order, 1 pattern, 2 rows, 3 row, 4 at, 5 place, 6 k
-- _law_lets(forbidden, order) slots 0 forbidden, 1 order, 2 pattern
-- _law_let(well, forbidden, n) slots 0 well, 1 forbidden, 2 n, 3 order, 4 size, 5 found, 6 turn, 7 places, 8 first, 9 at, 10 height, 11 row, 12 number
-- _law_exchanged(order, at, other) slots 0 order, 1 at, 2 other, 3 things
-- _law_right(sorter, forbidden, order) slots 0 sorter, 1 forbidden, 2 order, 3 due
-- law(script) slots 0 script, 1 spot, 2 sorter, 3 forbidden, 4 n, 5 well, 6 order, 7 at, 8 other
end DLS

namespace DLS
open Evl (Ex)
open PySem PySem.Spec PyProof.Rows L2 DL
-- _law_forbidden(well, most, size) slots 0 well, 1 most, 2 size, 3 found, 4 turn
-- _law_deep(saying) slots 0 saying, 1 deep, 2 rows, 3 one, 4 further
-- _law_leaf(well, most, size) slots 0 well, 1 most, 2 size, 3 saying, 4 turn
-- _law_within(well) slots 0 well, 1 some, 2 pair, 3 part, 4 more
-- _law_saying(well) slots 0 well, 1 way, 2 other, 3 saying, 4 most, 5 parts, 6 side, 7 part, 8 pattern
-- _law_near(well) slots 0 well, 1 n, 2 order, 3 turn, 4 number
-- is_told(told) slots 0 told, 1 word, 2 parts
-- check_saying(saying) slots 0 saying
-- changed(word, order) slots 0 word, 1 order
-- means(saying, order) slots 0 saying, 1 order, 2 word, 3 first
-- is_meant(saying, order) slots 0 saying, 1 order
-- _law_turned(word, order) slots 0 word, 1 order, 2 number
-- _law_means(saying, order) slots 0 saying, 1 order, 2 word, 3 part
-- _law_right(saying, order, named) slots 0 saying, 1 order, 2 named, 3 due, 4 word
-- law(script) slots 0 script, 1 asked, 2 spot, 3 well, 4 turn, 5 saying, 6 order, 7 most
end DLS

namespace DLS
open Evl (Ex)
open PySem PySem.Spec PyProof.Rows L2 DL
-- orders_of(n) slots 0 n
-- orders(n) slots 0 n
-- lot_told(saying, n) slots 0 saying, 1 n, 2 word, 3 first, 4 other, 5 known, 6 order
-- lot_of(saying, n) slots 0 saying, 1 n
-- _law_right(saying, n) slots 0 saying, 1 n, 2 some, 3 order, 4 due, 5 told
-- law(script) slots 0 script, 1 spot, 2 well, 3 turn, 4 n, 5 saying, 6 most
end DLS

namespace DLS
open Evl (Ex)
open PySem PySem.Spec PyProof.Rows L2 DL
-- passes(sorter, order) slots 0 sorter, 1 order, 2 n
-- least_unsorted(sorter, n) slots 0 sorter, 1 n, 2 found, 3 many, 4 some, 5 order, 6 pattern
-- _law_passes(sorter, order) slots 0 sorter, 1 order, 2 risen_v, 3 turn
-- _law_less(order, at) slots 0 order, 1 at, 2 gone, 3 number
-- _law_unsorted(sorter, n) slots 0 sorter, 1 n, 2 size, 3 good, 4 found, 5 order, 6 risen_v, 7 clean, 8 at
-- law(script) slots 0 script, 1 spot, 2 well, 3 sorter, 4 n, 5 turn, 6 due, 7 told, 8 order
end DLS

namespace DLS
open Evl (Ex)
open PySem PySem.Spec PyProof.Rows L2 DL
-- met(one, other) slots 0 one, 1 other
-- joined_of(one, other) slots 0 one, 1 other, 2 most, 3 found, 4 size, 5 order, 6 pattern
-- joined(one, other) slots 0 one, 1 other
-- changed_list(word, forbidden) slots 0 word, 1 forbidden
-- meaning_of(saying) slots 0 saying, 1 word, 2 first, 3 other
-- meaning(saying) slots 0 saying
-- _law_least(saying, most) slots 0 saying, 1 most, 2 size, 3 good, 4 found, 5 order, 6 at
-- _law_alike(saying) slots 0 saying, 1 found, 2 word
-- _law_pairs(one, other) slots 0 one, 1 other, 2 found, 3 word
-- law(script) slots 0 script, 1 spot, 2 well, 3 one, 4 due, 5 saying, 6 turn, 7 n, 8 other, 9 first, 10 second, 11 both, 12 order, 13 row
end DLS

namespace DLS
open Evl (Ex)
open PySem PySem.Spec PyProof.Rows L2 DL
-- _law_all(many) slots 0 many, 1 found, 2 j, 3 longer, 4 row, 5 at
-- shown_of(order, n) slots 0 order, 1 n, 2 numbers
-- parts_of(order, n) slots 0 order, 1 n
-- _law_parts(row, size) slots 0 row, 1 size, 2 found, 3 pick, 4 at
-- _law_parts_right(deck) slots 0 deck, 1 due, 2 found, 3 turn, 4 row, 5 size, 6 little, 7 less, 8 least
-- law(script) slots 0 script, 1 at, 2 deck, 3 many, 4 due, 5 found
end DLS

namespace DLS
open Evl (Ex)
open PySem PySem.Spec PyProof.Rows L2 DL
-- _law_well(_law_script, _law_place) slots 0 _law_script, 1 _law_place, 2 _law_cell
-- _law_draw(_law_well_here, _law_many) slots 0 _law_well_here, 1 _law_many, 2 _law_mixed, 3 _law_found
-- _law_same(_law_told, _law_due) slots 0 _law_told, 1 _law_due, 2 _law_k
-- _law_order(_law_well_here, _law_many) slots 0 _law_well_here, 1 _law_many, 2 _law_turn, 3 _law_left, 4 _law_found
-- _law_list(_law_well_here, _law_most, _law_things) slots 0 _law_well_here, 1 _law_most, 2 _law_things, 3 _law_found, 4 _law_turn
-- _law_letters(_law_well_here, _law_many) slots 0 _law_well_here, 1 _law_many, 2 _law_found, 3 _law_turn, 4 _law_slot
-- _law_machine(_law_well_here, _law_most) slots 0 _law_well_here, 1 _law_most, 2 _law_state, 3 _law_ends, 4 _law_many, 5 _law_rows, 6 _law_letters_here, 7 _law_letter
-- _law_saying(_law_well_here, _law_deep) slots 0 _law_well_here, 1 _law_deep, 2 _law_way, 3 _law_parts, 4 _law_turned
-- _law_listed(_law_words, _law_between) slots 0 _law_words, 1 _law_between
-- _law_said_order(_law_order_here) slots 0 _law_order_here, 1 _law_number_here
-- _law_said_list(_law_patterns) slots 0 _law_patterns, 1 _law_pattern
-- _law_said_letter(_law_letter) slots 0 _law_letter
-- _law_said_word(_law_word) slots 0 _law_word, 1 _law_letter
-- _law_said_machine(_law_machine_here) slots 0 _law_machine_here, 1 _law_lines, 2 _law_state, 3 _law_steps, 4 _law_name, 5 _law_letter, 6 _law_goal
-- _law_said_saying(_law_saying_here) slots 0 _law_saying_here, 1 _law_part
-- _law_thing(_law_well_here, _law_door) slots 0 _law_well_here, 1 _law_door, 2 _law_thing_here
-- _law_lowest(_law_top, _law_bottom) slots 0 _law_top, 1 _law_bottom, 2 _law_one, 3 _law_two
-- _law_power(_law_many) slots 0 _law_many, 1 _law_found, 2 _law_turn
-- _law_number(_law_well_here) slots 0 _law_well_here, 1 _law_great, 2 _law_top, 3 _law_bottom
-- show_number(a) slots 0 a, 1 top, 2 bottom
-- listed(words, between) slots 0 words, 1 between
-- show_order(order) slots 0 order, 1 number
-- show_list(forbidden) slots 0 forbidden, 1 pattern
-- show_letter(letter) slots 0 letter, 1 slot, 2 way
-- show_word(word) slots 0 word, 1 letter
-- show_machine(machine) slots 0 machine, 1 lines, 2 rows, 3 ends, 4 index, 5 row, 6 name, 7 letter, 8 state
-- show_saying(saying) slots 0 saying, 1 part
-- _law_shown(_law_door, _law_thing_here, _law_named) slots 0 _law_door, 1 _law_thing_here, 2 _law_named
-- law(_law_script) slots 0 _law_script, 1 _law_rows, 2 _law_place, 3 _law_well_here, 4 _law_a, 5 _law_door, 6 _law_thing_here, 7 _law_said
end DLS

namespace DLS
open Evl (Ex)
open PySem PySem.Spec PyProof.Rows L2 DL
-- _law_same(told, due) slots 0 told, 1 due, 2 k
-- _law_letters(well, many) slots 0 well, 1 many, 2 found, 3 turn, 4 slot
-- _law_machine(well, most) slots 0 well, 1 most, 2 state, 3 ends, 4 many, 5 rows, 6 letters, 7 letter
-- _law_thing(well, door) slots 0 well, 1 door, 2 thing
-- integer_of(text) slots 0 text, 1 sign
-- whole(parts) slots 0 parts, 1 part
-- pattern_of(text) slots 0 text, 1 found, 2 word
-- order_of(line) slots 0 line
-- only(told, text) slots 0 told, 1 text, 2 found, 3 line, 4 gap, 5 rest
-- read_order(text) slots 0 text
-- list_of(text) slots 0 text, 1 part
-- read_list(text) slots 0 text
-- letter_of(text) slots 0 text, 1 slot
-- word_of(line) slots 0 line, 1 text
-- read_word(text) slots 0 text
-- is_ascending(row) slots 0 row, 1 at
-- is_index(told, many) slots 0 told, 1 many
-- is_letter(told) slots 0 told
-- is_row(told, many) slots 0 told, 1 many, 2 letter, 3 state, 4 step
-- is_machine(told) slots 0 told, 1 many, 2 row, 3 state
-- step_of(text) slots 0 text, 1 letter, 2 gap, 3 state
-- state_of(line, index) slots 0 line, 1 index, 2 row, 3 name, 4 colon, 5 rest, 6 text
-- read_machine(text) slots 0 text, 1 machine, 2 rows, 3 ends, 4 index, 5 line, 6 found
-- is_saying(told) slots 0 told
-- made_of(text, at, word) slots 0 text, 1 at, 2 word, 3 parts, 4 turn, 5 found
-- bracketed(text, at) slots 0 text, 1 at, 2 head, 3 word, 4 end, 5 found
-- saying_of(line) slots 0 line, 1 found
-- read_saying(text) slots 0 text
-- _law_read(door, said, named) slots 0 door, 1 said, 2 named
-- _law_shown(door, thing) slots 0 door, 1 thing
-- law(script) slots 0 script, 1 rows, 2 place, 3 well, 4 door, 5 thing, 6 said, 7 told
end DLS

namespace DLS
open Evl (Ex)
open PySem PySem.Spec PyProof.Rows L2 DL
-- _law_shows(order, pattern) slots 0 order, 1 pattern, 2 rows, 3 turn, 4 row, 5 longer, 6 numbers, 7 at, 8 number
-- _law_least(patterns) slots 0 patterns, 1 found, 2 size, 3 pattern, 4 one
-- _law_made(way, pattern) slots 0 way, 1 pattern, 2 many, 3 number
-- _law_told(way, patterns, named) slots 0 way, 1 patterns, 2 named
-- _law_list_right(told, due, named) slots 0 told, 1 due, 2 named, 3 said
-- _law_word(order) slots 0 order, 1 number, 2 found, 3 many, 4 place, 5 at, 6 slot, 7 left, 8 right
-- _law_order_right(order, named) slots 0 order, 1 named, 2 due, 3 back, 4 told, 5 said, 6 word, 7 text
-- law(script) slots 0 script, 1 rows, 2 place, 3 lists, 4 sorter, 5 well, 6 turn, 7 patterns, 8 told, 9 due, 10 one, 11 two, 12 three, 13 order, 14 way, 15 named, 16 pattern
end DLS

namespace DLS
open Evl (Ex)
open PySem PySem.Spec PyProof.Rows L2 DL
-- _law_take(deck, many) slots 0 deck, 1 many, 2 taken
noncomputable abbrev fb_law_take_3 : XS := sSeq (sIf (tOf (xOp2 hGt (xOp2 hIx (xVar 0) (xVal (.int 0))) (xVal (.int 0)))) (sSeq (sSet 2 (xOp2 hMod (xCB hInt (aCons (xOp2 hIx (xVar 0) (xVal (.int 0))) (aNil))) (xVar 1))) (sSeq (sSub 0 (xOp2 hDiv (xOp2 hIx (xVar 0) (xVal (.int 0))) (xVar 1)) (xVal (.int 0))) (sRet (xVar 2)))) (sNil)) (sSeq (sSub 0 (xOp2 hMod (xCB hInt (aCons (xOp2 hAdd (xOp2 hMul (xOp2 hIx (xVar 0) (xVal (.int 1))) (xVal (.int 6364136223846793005))) (xVal (.int 1442695040888963407))) (aNil))) (xOp2 hPow (xVal (.int 2)) (xVal (.int 64)))) (xVal (.int 1))) (sRet (xOp2 hMod (xOp2 hDiv (xOp2 hIx (xVar 0) (xVal (.int 1))) (xOp2 hPow (xVal (.int 2)) (xVal (.int 20)))) (xVar 1))))
noncomputable def den_law_take_3 : List D → FOut := runF [true, false] 3 fb_law_take_3
-- _law_raise_first(which, given) slots 0 which, 1 given
noncomputable abbrev fb_law_raise_first : XS := sSeq (sIf (tOf (xOp2 hEq (xVar 0) (xVal (.int 0)))) (sRaise "InvalidOrder" (xVar 1)) (sNil)) (sSeq (sIf (tOf (xOp2 hEq (xVar 0) (xVal (.int 1)))) (sRaise "InvalidPattern" (xVar 1)) (sNil)) (sSeq (sIf (tOf (xOp2 hEq (xVar 0) (xVal (.int 2)))) (sRaise "InvalidList" (xVar 1)) (sNil)) (sSeq (sIf (tOf (xOp2 hEq (xVar 0) (xVal (.int 3)))) (sRaise "InvalidForm" (xVar 1)) (sNil)) (sSeq (sIf (tOf (xOp2 hEq (xVar 0) (xVal (.int 4)))) (sRaise "InvalidLetter" (xVar 1)) (sNil)) (sSeq (sIf (tOf (xOp2 hEq (xVar 0) (xVal (.int 5)))) (sRaise "InvalidWord" (xVar 1)) (sNil)) (sSeq (sIf (tOf (xOp2 hEq (xVar 0) (xVal (.int 6)))) (sRaise "InvalidKind" (xVar 1)) (sNil)) (sSeq (sIf (tOf (xOp2 hEq (xVar 0) (xVal (.int 7)))) (sRaise "InvalidNumber" (xVar 1)) (sNil)) (sSeq (sIf (tOf (xOp2 hEq (xVar 0) (xVal (.int 8)))) (sRaise "InvalidPair" (xVar 1)) (sNil)) (sRaise "InvalidMachine" (xVar 1))))))))))
noncomputable def den_law_raise_first : List D → FOut := runF [false, false] 2 fb_law_raise_first
-- _law_raise_second(which, given) slots 0 which, 1 given
noncomputable abbrev fb_law_raise_second : XS := sSeq (sIf (tOf (xOp2 hEq (xVar 0) (xVal (.int 10)))) (sRaise "NoMachine" (xVar 1)) (sNil)) (sSeq (sIf (tOf (xOp2 hEq (xVar 0) (xVal (.int 11)))) (sRaise "InvalidTape" (xVar 1)) (sNil)) (sSeq (sIf (tOf (xOp2 hEq (xVar 0) (xVal (.int 12)))) (sRaise "InvalidSorter" (xVar 1)) (sNil)) (sSeq (sIf (tOf (xOp2 hEq (xVar 0) (xVal (.int 13)))) (sRaise "InvalidSaying" (xVar 1)) (sNil)) (sSeq (sIf (tOf (xOp2 hEq (xVar 0) (xVal (.int 14)))) (sRaise "InvalidName" (xVar 1)) (sNil)) (sSeq (sIf (tOf (xOp2 hEq (xVar 0) (xVal (.int 15)))) (sRaise "NotLet" (xVar 1)) (sNil)) (sSeq (sIf (tOf (xOp2 hEq (xVar 0) (xVal (.int 16)))) (sRaise "UnknownName" (xVar 1)) (sNil)) (sSeq (sIf (tOf (xOp2 hEq (xVar 0) (xVal (.int 17)))) (sRaise "NothingToUndo" (xVar 1)) (sNil)) (sSeq (sIf (tOf (xOp2 hEq (xVar 0) (xVal (.int 18)))) (sRaise "Unreadable" (xVar 1)) (sNil)) (sRaise "Unorderly" (xVar 1))))))))))
noncomputable def den_law_raise_second : List D → FOut := runF [false, false] 2 fb_law_raise_second
-- _law_raise_named_first(which, given) slots 0 which, 1 given
noncomputable abbrev fb_law_raise_named_first : XS := sSeq (sIf (tOf (xOp2 hEq (xVar 0) (xVal (.int 0)))) (sRaise "InvalidOrder" (xVar 1)) (sNil)) (sSeq (sIf (tOf (xOp2 hEq (xVar 0) (xVal (.int 1)))) (sRaise "InvalidPattern" (xVar 1)) (sNil)) (sSeq (sIf (tOf (xOp2 hEq (xVar 0) (xVal (.int 2)))) (sRaise "InvalidList" (xVar 1)) (sNil)) (sSeq (sIf (tOf (xOp2 hEq (xVar 0) (xVal (.int 3)))) (sRaise "InvalidForm" (xVar 1)) (sNil)) (sSeq (sIf (tOf (xOp2 hEq (xVar 0) (xVal (.int 4)))) (sRaise "InvalidLetter" (xVar 1)) (sNil)) (sSeq (sIf (tOf (xOp2 hEq (xVar 0) (xVal (.int 5)))) (sRaise "InvalidWord" (xVar 1)) (sNil)) (sSeq (sIf (tOf (xOp2 hEq (xVar 0) (xVal (.int 6)))) (sRaise "InvalidKind" (xVar 1)) (sNil)) (sSeq (sIf (tOf (xOp2 hEq (xVar 0) (xVal (.int 7)))) (sRaise "InvalidNumber" (xVar 1)) (sNil)) (sSeq (sIf (tOf (xOp2 hEq (xVar 0) (xVal (.int 8)))) (sRaise "InvalidPair" (xVar 1)) (sNil)) (sRaise "InvalidMachine" (xVar 1))))))))))
noncomputable def den_law_raise_named_first : List D → FOut := runF [false, false] 2 fb_law_raise_named_first
-- _law_raise_named_second(which, given) slots 0 which, 1 given
noncomputable abbrev fb_law_raise_named_second : XS := sSeq (sIf (tOf (xOp2 hEq (xVar 0) (xVal (.int 10)))) (sRaise "NoMachine" (xVar 1)) (sNil)) (sSeq (sIf (tOf (xOp2 hEq (xVar 0) (xVal (.int 11)))) (sRaise "InvalidTape" (xVar 1)) (sNil)) (sSeq (sIf (tOf (xOp2 hEq (xVar 0) (xVal (.int 12)))) (sRaise "InvalidSorter" (xVar 1)) (sNil)) (sSeq (sIf (tOf (xOp2 hEq (xVar 0) (xVal (.int 13)))) (sRaise "InvalidSaying" (xVar 1)) (sNil)) (sSeq (sIf (tOf (xOp2 hEq (xVar 0) (xVal (.int 14)))) (sRaise "InvalidName" (xVar 1)) (sNil)) (sSeq (sIf (tOf (xOp2 hEq (xVar 0) (xVal (.int 15)))) (sRaise "NotLet" (xVar 1)) (sNil)) (sSeq (sIf (tOf (xOp2 hEq (xVar 0) (xVal (.int 16)))) (sRaise "UnknownName" (xVar 1)) (sNil)) (sSeq (sIf (tOf (xOp2 hEq (xVar 0) (xVal (.int 17)))) (sRaise "NothingToUndo" (xVar 1)) (sNil)) (sSeq (sIf (tOf (xOp2 hEq (xVar 0) (xVal (.int 18)))) (sRaise "Unreadable" (xVar 1)) (sNil)) (sRaise "Unorderly" (xVar 1))))))))))
noncomputable def den_law_raise_named_second : List D → FOut := runF [false, false] 2 fb_law_raise_named_second
-- _law_raised(which, given, named) slots 0 which, 1 given, 2 named
noncomputable abbrev fb_law_raised : XS := sIf (tAnds (tOf (xOp2 hLt (xVar 0) (xVal (.int 10)))) (tOf (xVar 2))) (sExpr (xCall [false, false] den_law_raise_named_first (aCons (xVar 0) (aCons (xVar 1) (aNil))))) (sIf (tOf (xOp2 hLt (xVar 0) (xVal (.int 10)))) (sExpr (xCall [false, false] den_law_raise_first (aCons (xVar 0) (aCons (xVar 1) (aNil))))) (sIf (tOf (xVar 2)) (sExpr (xCall [false, false] den_law_raise_named_second (aCons (xVar 0) (aCons (xVar 1) (aNil))))) (sExpr (xCall [false, false] den_law_raise_second (aCons (xVar 0) (aCons (xVar 1) (aNil)))))))
noncomputable def den_law_raised : List D → FOut := runF [false, false, false] 3 fb_law_raised
-- _law_given(deck) slots 0 deck, 1 far, 2 some
noncomputable abbrev fb_law_given : XS := sSeq (sSet 1 (xOp2 hSub (xCall [true, false] den_law_take_3 (aCons (xVar 0) (aCons (xOp2 hPow (xVal (.int 10)) (xVal (.int 30))) (aNil)))) (xOp2 hPow (xVal (.int 10)) (xVal (.int 29))))) (sSeq (sSet 2 (xLst (aCons (xVar 1) (aCons (xCall [true, false] den_law_take_3 (aCons (xVar 0) (aCons (xVal (.int 9)) (aNil)))) (aCons (xVal (.str "")) (aCons (xVal (.str "a b")) (aCons (xVal .none) (aCons (xVal (.bool true)) (aCons (xVal (.bool false)) (aCons (xTup (aNil)) (aCons (xTup (aCons (xVar 1) (aCons (xVal (.int 1)) (aNil)))) (aCons (xLst (aCons (xVar 1) (aCons (xVal (.str "x")) (aNil)))) (aCons (xTup (aCons (xTup (aCons (xVal (.int 1)) (aCons (xVal (.int 2)) (aNil)))) (aCons (xTup (aCons (xVal (.str "a")) (aCons (xTup (aNil)) (aNil)))) (aNil)))) (aCons (xLst (aNil)) (aCons (xOp1 hNeg (xVal (.int 1))) (aCons (xVal (.int 0)) (aNil))))))))))))))))) (sRet (xOp2 hIx (xVar 2) (xCall [true, false] den_law_take_3 (aCons (xVar 0) (aCons (xVal (.int 14)) (aNil)))))))
noncomputable def den_law_given : List D → FOut := runF [true] 3 fb_law_given
-- _law_kinds(e) slots 0 e, 1 found
noncomputable abbrev fb_law_kinds_2 : XS := sSeq (sSet 1 (xLst (aCons (xErIs (exmT "OrderError" errsL "InvalidOrder") 0) (aCons (xErIs (exmT "OrderError" errsL "InvalidPattern") 0) (aCons (xErIs (exmT "OrderError" errsL "InvalidList") 0) (aNil)))))) (sSeq (sSet 1 (xOp2 hAdd (xVar 1) (xLst (aCons (xErIs (exmT "OrderError" errsL "InvalidForm") 0) (aCons (xErIs (exmT "OrderError" errsL "InvalidLetter") 0) (aCons (xErIs (exmT "OrderError" errsL "InvalidWord") 0) (aNil))))))) (sSeq (sSet 1 (xOp2 hAdd (xVar 1) (xLst (aCons (xErIs (exmT "OrderError" errsL "InvalidKind") 0) (aCons (xErIs (exmT "OrderError" errsL "InvalidNumber") 0) (aCons (xErIs (exmT "OrderError" errsL "InvalidPair") 0) (aNil))))))) (sSeq (sSet 1 (xOp2 hAdd (xVar 1) (xLst (aCons (xErIs (exmT "OrderError" errsL "InvalidMachine") 0) (aCons (xErIs (exmT "OrderError" errsL "NoMachine") 0) (aCons (xErIs (exmT "OrderError" errsL "InvalidTape") 0) (aNil))))))) (sSeq (sSet 1 (xOp2 hAdd (xVar 1) (xLst (aCons (xErIs (exmT "OrderError" errsL "InvalidSorter") 0) (aCons (xErIs (exmT "OrderError" errsL "InvalidSaying") 0) (aCons (xErIs (exmT "OrderError" errsL "InvalidName") 0) (aNil))))))) (sSeq (sSet 1 (xOp2 hAdd (xVar 1) (xLst (aCons (xErIs (exmT "OrderError" errsL "NotLet") 0) (aCons (xErIs (exmT "OrderError" errsL "UnknownName") 0) (aCons (xErIs (exmT "OrderError" errsL "NothingToUndo") 0) (aNil))))))) (sRet (xOp2 hAdd (xVar 1) (xLst (aCons (xErIs (exmT "OrderError" errsL "Unreadable") 0) (aCons (xErIs (exmT "OrderError" errsL "Unorderly") 0) (aNil)))))))))))
noncomputable def den_law_kinds_2 : List D → FOut := runF [true] 2 fb_law_kinds_2
-- _law_right(which, given, named) slots 0 which, 1 given, 2 named, 3 caught, 4 e, 5 k
noncomputable abbrev fb_law_right_6 : XS := sSeq (sSet 3 (xVal .none)) (sSeq (sTryK0 (exmT "OrderError" errsL "OrderError") 4 3 (sExpr (xCall [false, false, false] den_law_raised (aCons (xVar 0) (aCons (xVar 1) (aCons (xVar 2) (aNil))))))) (sSeq (sIf (tOrs (tOf (xErNone false 3)) (tNots (tOf (xErIs (veT errsL) 3)))) (sRet (xVal (.bool false))) (sNil)) (sRet (xAnd (xOp2 hEq (xCall [true] den_law_kinds_2 (aCons (xVar 3) (aNil))) (xLc [5] (xRng1 (xVal (.int 20))) (gN 5) (tTrue) (xOp2 hEq (xVar 5) (xVar 0)))) (xCall [false, false] den_law_same (aCons (xErVal errsL 3) (aCons (xVar 1) (aNil))))))))
noncomputable def den_law_right_6 : List D → FOut := runF [false, false, false] 6 fb_law_right_6
-- _law_base_right(given) slots 0 given, 1 caught, 2 e
noncomputable abbrev fb_law_base_right : XS := sSeq (sSet 1 (xVal .none)) (sSeq (sTryK0 (exmT "OrderError" errsL "OrderError") 2 1 (sRaise "OrderError" (xVar 0))) (sSeq (sIf (tOrs (tNots (tOf (xErIs (veT errsL) 1))) (tOf (xOp2 hIn (xVal (.bool true)) (xCall [true] den_law_kinds_2 (aCons (xVar 1) (aNil)))))) (sRet (xVal (.bool false))) (sNil)) (sRet (xAnd (xCall [false, false] den_law_same (aCons (xErVal errsL 1) (aCons (xVar 0) (aNil)))) (xCall [false, false] den_law_same (aCons (xMkV (xVar 0)) (aCons (xVar 0) (aNil))))))))
noncomputable def den_law_base_right : List D → FOut := runF [false] 3 fb_law_base_right
-- law(script) slots 0 script, 1 k, 2 which, 3 first, 4 second, 5 deck, 6 e, 7 named, 8 given, 9 other
noncomputable abbrev fb_law_k00 : XS := sSeq (sPar [3, 4] (aCons (xVal .none) (aCons (xVal .none) (aNil)))) (sSeq (sFor (xRng1 (xCB hMax2 (aCons (xVal (.int 1)) (aCons (xCB hMin2 (aCons (xCB hLen (aCons (xVar 0) (aNil))) (aCons (xVal (.int 40)) (aNil)))) (aNil))))) (gN 1) (sSeq (sSet 5 (xCall [false, false] den_law_deck (aCons (xVar 0) (aCons (xVar 1) (aNil))))) (sSeq (sPar [2, 7] (aCons (xCall [true, false] den_law_take_3 (aCons (xVar 5) (aCons (xVal (.int 20)) (aNil)))) (aCons (xOp2 hEq (xCall [true, false] den_law_take_3 (aCons (xVar 5) (aCons (xVal (.int 2)) (aNil)))) (xVal (.int 1))) (aNil)))) (sSeq (sPar [8, 9] (aCons (xCall [true] den_law_given (aCons (xVar 5) (aNil))) (aCons (xCall [true] den_law_given (aCons (xVar 5) (aNil))) (aNil)))) (sSeq (sIf (tOrs (tNots (tOf (xCall [false, false, false] den_law_right_6 (aCons (xVar 2) (aCons (xVar 8) (aCons (xVar 7) (aNil))))))) (tOrs (tNots (tOf (xCall [false, false, false] den_law_right_6 (aCons (xVar 2) (aCons (xVar 9) (aCons (xNot (xVar 7)) (aNil))))))) (tNots (tOf (xCall [false] den_law_base_right (aCons (xVar 9) (aNil))))))) (sRet (xVal (.bool false))) (sNil)) (sSeq (sTryK0 (exmT "OrderError" errsL "OrderError") 6 3 (sExpr (xCall [false, false, false] den_law_raised (aCons (xVar 2) (aCons (xVar 8) (aCons (xVar 7) (aNil))))))) (sSeq (sTryK0 (exmT "OrderError" errsL "OrderError") 6 4 (sExpr (xCall [false, false, false] den_law_raised (aCons (xVar 2) (aCons (xVar 9) (aCons (xVar 7) (aNil))))))) (sIf (tOrs (tNots (tOf (xCall [false, false] den_law_same (aCons (xErVal errsL 3) (aCons (xVar 8) (aNil)))))) (tNots (tOf (xCall [false, false] den_law_same (aCons (xErVal errsL 4) (aCons (xVar 9) (aNil))))))) (sRet (xVal (.bool false))) (sNil))))))))) (sSeq (sFor (xRng1 (xVal (.int 20))) (gN 2) (sIf (tOrs (tNots (tOf (xCall [false, false, false] den_law_right_6 (aCons (xVar 2) (aCons (xVar 2) (aCons (xVal (.bool false)) (aNil))))))) (tNots (tOf (xCall [false, false, false] den_law_right_6 (aCons (xVar 2) (aCons (xVal (.str "a")) (aCons (xVal (.bool true)) (aNil)))))))) (sRet (xVal (.bool false))) (sNil))) (sRet (xVal (.bool true)))))
noncomputable def den_law_k00 : List D → FOut := runF [false] 10 fb_law_k00
end DLS

namespace DL
open Evl (Ex)
open PySem PySem.Spec PyProof.Rows L2
/-! ### orders and their parts -/
/-- the first m things are an order -/
def good (r : List Int) (m : Nat) : Bool := decide (srt (r.take m) = rng m)
/-! ### the greatest so far -/
/-! ### a beginning, a rest, both ways -/
end DL

namespace DLS
open Evl (Ex)
open PySem PySem.Spec PyProof.Rows L2 DL
theorem deck_eq (ns : List Int) (k : Nat) : ∃ x : Deck, den_law_deck [scrD ns, .int k] = .ret (.new (dkD x)) [] := by
  unfold den_law_deck
  have hl : ∀ a : Int, hMul (.int 7919) (.int a) = some (.val (.int (7919 * a))) := fun a => hMul_l (by decide)
  have hl2 : ∀ a : Int, hMul (.int 31) (.int a) = some (.val (.int (31 * a))) := fun a => hMul_l (by decide)
  have hm : ∀ a : Int, hMod (.int a) (.int 2305843009213693951) = some (.val (.int (a % 2305843009213693951))) := fun a => hMod_p (by decide)
  have sq : ∀ a b : Int, hMul (.int a) (.int (b % 2305843009213693951)) = some (.val (.int (a * (b % 2305843009213693951)))) := fun a b => hMul_r (by
    have h1 : 0 ≤ b % 2305843009213693951 := Int.emod_nonneg _ (by decide)
    have h2 : b % 2305843009213693951 < 2305843009213693951 := Int.emod_lt_of_pos _ (by decide)
    unfold two64
    omega)
  by_cases hlt : k < ns.length
  · have hat : atI (ns.map PyData.int) (k : Int) = some (.int ns[k]) := by rw [atI_nat']; simp [hlt]
    have hd : decide ((k : Int) < (ns.length : Int)) = true := decide_eq_true (by omega)
    by_cases hc : ns[k] < 1000000000000000000
    · refine ⟨⟨0, ?d1, by omega⟩, ?_⟩
      rotate_left 1
      · (simp -implicitDefEqProofs -dsimp only [runF,endF_nx,endF_rv,endF_rn,endF_err,initS,ioOut,sSeq,sNil,sPass,sBreak,sCont,sBad,sExpr,sRet,sRetN,sIf,sSet,putR,frz,frzs,xVal,xVar,getS_0,getS_s,getR,ownD,getRs,xOp1,xOp2,fin,RD.r,aNil,aCons,xCB,xTup,xLst,truth,tOf,tAnds,tOrs,tNots,xIf,xAnd,xOr,xNot,xIsi,isTy,hAdd,hSub,hNeg,hLt,hLe,hGt,hGe,hIs,hIsNot,hIx,hLen,hInt,hAbs,hMax2,hMin2,h1L,hList,hListS,xMethL,hCountL,lcStep2,lcTurn2,lcAdd2,hTuple,vi,vb,xCall,xCallN,argsD,argD,ioIx,boIx,isOwn,nodupB,disB,xPost_ret,xPost_err,postS,putIo,frzIx,nlR,nlI,nl,nls,Rt.r,permL,tTrue,lcStep,lcTurn,lcAdd,gN,gT,gsNil,gsCons,DL.forget,back,xSeq,seqOf,xEnum,xRng1,xRng2,xRng3,xLstI,xTupI,sPar,noSlot,putRs,sTup,xMut,ownL,mApp,mIns,mPop,mPopAt,mExt,mRev,sSub,sAug,oNone,oSome,xSl,hSl,hStep,xChain,bind_ok',bind_err,bind_bad,List.set_cons_zero,List.set_cons_succ,List.foldl_cons,List.foldl_nil,List.cons_append,List.nil_append,List.replicate_succ,List.replicate_zero,List.append_nil,List.all_cons,List.all_nil,List.map_cons,List.map_nil,List.length_cons,List.length_nil,List.zip_cons_cons,List.filterMap_cons,List.filterMap_nil,List.getElem?_cons_zero,List.getElem?_cons_succ,List.contains_nil,List.contains_cons,Bool.and_true,Bool.true_and,Bool.and_false,Bool.false_and,Bool.not_true,Bool.not_false,Bool.or_true,Bool.true_or,Bool.or_false,Bool.false_or,if_true,if_false,reduceIte,reduceCtorEq,Nat.reduceSub,Nat.reduceAdd,Nat.reduceEqDiff,Option.map_some,Option.map_none,decide_true,decide_false,↓reduceIte,Bool.false_eq_true,Nat.sub_zero,Nat.sub_self,and_self,and_true,true_and,List.length_map,nls_ints,hEq_int,hNe_int,Ok_ok,OkG_some,EndQ_some,EndP_nx',EndP_rv',EndP_rn',LoopP_nx,LoopP_ct,LoopP_bk,LoopP_rt,lc_ite,xMeth,xZip,sAugS,stIx,sSub2,itemsOf,nlI_dk,sMove,ite_self,scrD, List.length_map, hd, hat, hl, hl2, hm, sq, pow18, decide_eq_true hc])
        rfl
    · refine ⟨⟨ns[k] - 1000000000000000000, ?d2, by omega⟩, ?_⟩
      rotate_left 1
      · (simp -implicitDefEqProofs -dsimp only [runF,endF_nx,endF_rv,endF_rn,endF_err,initS,ioOut,sSeq,sNil,sPass,sBreak,sCont,sBad,sExpr,sRet,sRetN,sIf,sSet,putR,frz,frzs,xVal,xVar,getS_0,getS_s,getR,ownD,getRs,xOp1,xOp2,fin,RD.r,aNil,aCons,xCB,xTup,xLst,truth,tOf,tAnds,tOrs,tNots,xIf,xAnd,xOr,xNot,xIsi,isTy,hAdd,hSub,hNeg,hLt,hLe,hGt,hGe,hIs,hIsNot,hIx,hLen,hInt,hAbs,hMax2,hMin2,h1L,hList,hListS,xMethL,hCountL,lcStep2,lcTurn2,lcAdd2,hTuple,vi,vb,xCall,xCallN,argsD,argD,ioIx,boIx,isOwn,nodupB,disB,xPost_ret,xPost_err,postS,putIo,frzIx,nlR,nlI,nl,nls,Rt.r,permL,tTrue,lcStep,lcTurn,lcAdd,gN,gT,gsNil,gsCons,DL.forget,back,xSeq,seqOf,xEnum,xRng1,xRng2,xRng3,xLstI,xTupI,sPar,noSlot,putRs,sTup,xMut,ownL,mApp,mIns,mPop,mPopAt,mExt,mRev,sSub,sAug,oNone,oSome,xSl,hSl,hStep,xChain,bind_ok',bind_err,bind_bad,List.set_cons_zero,List.set_cons_succ,List.foldl_cons,List.foldl_nil,List.cons_append,List.nil_append,List.replicate_succ,List.replicate_zero,List.append_nil,List.all_cons,List.all_nil,List.map_cons,List.map_nil,List.length_cons,List.length_nil,List.zip_cons_cons,List.filterMap_cons,List.filterMap_nil,List.getElem?_cons_zero,List.getElem?_cons_succ,List.contains_nil,List.contains_cons,Bool.and_true,Bool.true_and,Bool.and_false,Bool.false_and,Bool.not_true,Bool.not_false,Bool.or_true,Bool.true_or,Bool.or_false,Bool.false_or,if_true,if_false,reduceIte,reduceCtorEq,Nat.reduceSub,Nat.reduceAdd,Nat.reduceEqDiff,Option.map_some,Option.map_none,decide_true,decide_false,↓reduceIte,Bool.false_eq_true,Nat.sub_zero,Nat.sub_self,and_self,and_true,true_and,List.length_map,nls_ints,hEq_int,hNe_int,Ok_ok,OkG_some,EndQ_some,EndP_nx',EndP_rv',EndP_rn',LoopP_nx,LoopP_ct,LoopP_bk,LoopP_rt,lc_ite,xMeth,xZip,sAugS,stIx,sSub2,itemsOf,nlI_dk,sMove,ite_self,scrD, List.length_map, hd, hat, hl, hl2, hm, sq, pow18, decide_eq_false hc])
        rfl
  · have hd : decide ((k : Int) < (ns.length : Int)) = false := decide_eq_false (by omega)
    have hc : decide ((0 : Int) < 1000000000000000000) = true := by decide
    refine ⟨⟨0, ?d3, by omega⟩, ?_⟩
    rotate_left 1
    · (simp -implicitDefEqProofs -dsimp only [runF,endF_nx,endF_rv,endF_rn,endF_err,initS,ioOut,sSeq,sNil,sPass,sBreak,sCont,sBad,sExpr,sRet,sRetN,sIf,sSet,putR,frz,frzs,xVal,xVar,getS_0,getS_s,getR,ownD,getRs,xOp1,xOp2,fin,RD.r,aNil,aCons,xCB,xTup,xLst,truth,tOf,tAnds,tOrs,tNots,xIf,xAnd,xOr,xNot,xIsi,isTy,hAdd,hSub,hNeg,hLt,hLe,hGt,hGe,hIs,hIsNot,hIx,hLen,hInt,hAbs,hMax2,hMin2,h1L,hList,hListS,xMethL,hCountL,lcStep2,lcTurn2,lcAdd2,hTuple,vi,vb,xCall,xCallN,argsD,argD,ioIx,boIx,isOwn,nodupB,disB,xPost_ret,xPost_err,postS,putIo,frzIx,nlR,nlI,nl,nls,Rt.r,permL,tTrue,lcStep,lcTurn,lcAdd,gN,gT,gsNil,gsCons,DL.forget,back,xSeq,seqOf,xEnum,xRng1,xRng2,xRng3,xLstI,xTupI,sPar,noSlot,putRs,sTup,xMut,ownL,mApp,mIns,mPop,mPopAt,mExt,mRev,sSub,sAug,oNone,oSome,xSl,hSl,hStep,xChain,bind_ok',bind_err,bind_bad,List.set_cons_zero,List.set_cons_succ,List.foldl_cons,List.foldl_nil,List.cons_append,List.nil_append,List.replicate_succ,List.replicate_zero,List.append_nil,List.all_cons,List.all_nil,List.map_cons,List.map_nil,List.length_cons,List.length_nil,List.zip_cons_cons,List.filterMap_cons,List.filterMap_nil,List.getElem?_cons_zero,List.getElem?_cons_succ,List.contains_nil,List.contains_cons,Bool.and_true,Bool.true_and,Bool.and_false,Bool.false_and,Bool.not_true,Bool.not_false,Bool.or_true,Bool.true_or,Bool.or_false,Bool.false_or,if_true,if_false,reduceIte,reduceCtorEq,Nat.reduceSub,Nat.reduceAdd,Nat.reduceEqDiff,Option.map_some,Option.map_none,decide_true,decide_false,↓reduceIte,Bool.false_eq_true,Nat.sub_zero,Nat.sub_self,and_self,and_true,true_and,List.length_map,nls_ints,hEq_int,hNe_int,Ok_ok,OkG_some,EndQ_some,EndP_nx',EndP_rv',EndP_rn',LoopP_nx,LoopP_ct,LoopP_bk,LoopP_rt,lc_ite,xMeth,xZip,sAugS,stIx,sSub2,itemsOf,nlI_dk,sMove,ite_self,scrD, List.length_map, hd, hl, hl2, hm, sq, pow18, hc])
      rfl
theorem same_eq : ∀ (n : Nat) (d : D), pl n d → denN_law_same (n + 1) [d, d] = .ret (.val (.bool true)) [] := by
  intro n
  induction n with
  | zero =>
    intro d h
    unfold denN_law_same
    cases d with
    | list ds => exact h.elim
    | tuple ds => exact h.elim
    | dict ds => exact h.elim
    | none => (simp -implicitDefEqProofs -dsimp only [runF,endF_nx,endF_rv,endF_rn,endF_err,initS,ioOut,sSeq,sNil,sPass,sBreak,sCont,sBad,sExpr,sRet,sRetN,sIf,sSet,putR,frz,frzs,xVal,xVar,getS_0,getS_s,getR,ownD,getRs,xOp1,xOp2,fin,RD.r,aNil,aCons,xCB,xTup,xLst,truth,tOf,tAnds,tOrs,tNots,xIf,xAnd,xOr,xNot,xIsi,isTy,hAdd,hSub,hNeg,hLt,hLe,hGt,hGe,hIs,hIsNot,hIx,hLen,hInt,hAbs,hMax2,hMin2,h1L,hList,hListS,xMethL,hCountL,lcStep2,lcTurn2,lcAdd2,hTuple,vi,vb,xCall,xCallN,argsD,argD,ioIx,boIx,isOwn,nodupB,disB,xPost_ret,xPost_err,postS,putIo,frzIx,nlR,nlI,nl,nls,Rt.r,permL,tTrue,lcStep,lcTurn,lcAdd,gN,gT,gsNil,gsCons,DL.forget,back,xSeq,seqOf,xEnum,xRng1,xRng2,xRng3,xLstI,xTupI,sPar,noSlot,putRs,sTup,xMut,ownL,mApp,mIns,mPop,mPopAt,mExt,mRev,sSub,sAug,oNone,oSome,xSl,hSl,hStep,xChain,bind_ok',bind_err,bind_bad,List.set_cons_zero,List.set_cons_succ,List.foldl_cons,List.foldl_nil,List.cons_append,List.nil_append,List.replicate_succ,List.replicate_zero,List.append_nil,List.all_cons,List.all_nil,List.map_cons,List.map_nil,List.length_cons,List.length_nil,List.zip_cons_cons,List.filterMap_cons,List.filterMap_nil,List.getElem?_cons_zero,List.getElem?_cons_succ,List.contains_nil,List.contains_cons,Bool.and_true,Bool.true_and,Bool.and_false,Bool.false_and,Bool.not_true,Bool.not_false,Bool.or_true,Bool.true_or,Bool.or_false,Bool.false_or,if_true,if_false,reduceIte,reduceCtorEq,Nat.reduceSub,Nat.reduceAdd,Nat.reduceEqDiff,Option.map_some,Option.map_none,decide_true,decide_false,↓reduceIte,Bool.false_eq_true,Nat.sub_zero,Nat.sub_self,and_self,and_true,true_and,List.length_map,nls_ints,hEq_int,hNe_int,Ok_ok,OkG_some,EndQ_some,EndP_nx',EndP_rv',EndP_rn',LoopP_nx,LoopP_ct,LoopP_bk,LoopP_rt,lc_ite,xMeth,xZip,sAugS,stIx,sSub2,itemsOf,nlI_dk,sMove,ite_self])
    | bool b =>
      have he := hEq_self (d := .bool b) (by unfold fl; rfl)
      (simp -implicitDefEqProofs -dsimp only [runF,endF_nx,endF_rv,endF_rn,endF_err,initS,ioOut,sSeq,sNil,sPass,sBreak,sCont,sBad,sExpr,sRet,sRetN,sIf,sSet,putR,frz,frzs,xVal,xVar,getS_0,getS_s,getR,ownD,getRs,xOp1,xOp2,fin,RD.r,aNil,aCons,xCB,xTup,xLst,truth,tOf,tAnds,tOrs,tNots,xIf,xAnd,xOr,xNot,xIsi,isTy,hAdd,hSub,hNeg,hLt,hLe,hGt,hGe,hIs,hIsNot,hIx,hLen,hInt,hAbs,hMax2,hMin2,h1L,hList,hListS,xMethL,hCountL,lcStep2,lcTurn2,lcAdd2,hTuple,vi,vb,xCall,xCallN,argsD,argD,ioIx,boIx,isOwn,nodupB,disB,xPost_ret,xPost_err,postS,putIo,frzIx,nlR,nlI,nl,nls,Rt.r,permL,tTrue,lcStep,lcTurn,lcAdd,gN,gT,gsNil,gsCons,DL.forget,back,xSeq,seqOf,xEnum,xRng1,xRng2,xRng3,xLstI,xTupI,sPar,noSlot,putRs,sTup,xMut,ownL,mApp,mIns,mPop,mPopAt,mExt,mRev,sSub,sAug,oNone,oSome,xSl,hSl,hStep,xChain,bind_ok',bind_err,bind_bad,List.set_cons_zero,List.set_cons_succ,List.foldl_cons,List.foldl_nil,List.cons_append,List.nil_append,List.replicate_succ,List.replicate_zero,List.append_nil,List.all_cons,List.all_nil,List.map_cons,List.map_nil,List.length_cons,List.length_nil,List.zip_cons_cons,List.filterMap_cons,List.filterMap_nil,List.getElem?_cons_zero,List.getElem?_cons_succ,List.contains_nil,List.contains_cons,Bool.and_true,Bool.true_and,Bool.and_false,Bool.false_and,Bool.not_true,Bool.not_false,Bool.or_true,Bool.true_or,Bool.or_false,Bool.false_or,if_true,if_false,reduceIte,reduceCtorEq,Nat.reduceSub,Nat.reduceAdd,Nat.reduceEqDiff,Option.map_some,Option.map_none,decide_true,decide_false,↓reduceIte,Bool.false_eq_true,Nat.sub_zero,Nat.sub_self,and_self,and_true,true_and,List.length_map,nls_ints,hEq_int,hNe_int,Ok_ok,OkG_some,EndQ_some,EndP_nx',EndP_rv',EndP_rn',LoopP_nx,LoopP_ct,LoopP_bk,LoopP_rt,lc_ite,xMeth,xZip,sAugS,stIx,sSub2,itemsOf,nlI_dk,sMove,ite_self,he])
    | int i => (simp -implicitDefEqProofs -dsimp only [runF,endF_nx,endF_rv,endF_rn,endF_err,initS,ioOut,sSeq,sNil,sPass,sBreak,sCont,sBad,sExpr,sRet,sRetN,sIf,sSet,putR,frz,frzs,xVal,xVar,getS_0,getS_s,getR,ownD,getRs,xOp1,xOp2,fin,RD.r,aNil,aCons,xCB,xTup,xLst,truth,tOf,tAnds,tOrs,tNots,xIf,xAnd,xOr,xNot,xIsi,isTy,hAdd,hSub,hNeg,hLt,hLe,hGt,hGe,hIs,hIsNot,hIx,hLen,hInt,hAbs,hMax2,hMin2,h1L,hList,hListS,xMethL,hCountL,lcStep2,lcTurn2,lcAdd2,hTuple,vi,vb,xCall,xCallN,argsD,argD,ioIx,boIx,isOwn,nodupB,disB,xPost_ret,xPost_err,postS,putIo,frzIx,nlR,nlI,nl,nls,Rt.r,permL,tTrue,lcStep,lcTurn,lcAdd,gN,gT,gsNil,gsCons,DL.forget,back,xSeq,seqOf,xEnum,xRng1,xRng2,xRng3,xLstI,xTupI,sPar,noSlot,putRs,sTup,xMut,ownL,mApp,mIns,mPop,mPopAt,mExt,mRev,sSub,sAug,oNone,oSome,xSl,hSl,hStep,xChain,bind_ok',bind_err,bind_bad,List.set_cons_zero,List.set_cons_succ,List.foldl_cons,List.foldl_nil,List.cons_append,List.nil_append,List.replicate_succ,List.replicate_zero,List.append_nil,List.all_cons,List.all_nil,List.map_cons,List.map_nil,List.length_cons,List.length_nil,List.zip_cons_cons,List.filterMap_cons,List.filterMap_nil,List.getElem?_cons_zero,List.getElem?_cons_succ,List.contains_nil,List.contains_cons,Bool.and_true,Bool.true_and,Bool.and_false,Bool.false_and,Bool.not_true,Bool.not_false,Bool.or_true,Bool.true_or,Bool.or_false,Bool.false_or,if_true,if_false,reduceIte,reduceCtorEq,Nat.reduceSub,Nat.reduceAdd,Nat.reduceEqDiff,Option.map_some,Option.map_none,decide_true,decide_false,↓reduceIte,Bool.false_eq_true,Nat.sub_zero,Nat.sub_self,and_self,and_true,true_and,List.length_map,nls_ints,hEq_int,hNe_int,Ok_ok,OkG_some,EndQ_some,EndP_nx',EndP_rv',EndP_rn',LoopP_nx,LoopP_ct,LoopP_bk,LoopP_rt,lc_ite,xMeth,xZip,sAugS,stIx,sSub2,itemsOf,nlI_dk,sMove,ite_self])
    | str x =>
      have he := hEq_self (d := .str x) (by unfold fl; exact h)
      (simp -implicitDefEqProofs -dsimp only [runF,endF_nx,endF_rv,endF_rn,endF_err,initS,ioOut,sSeq,sNil,sPass,sBreak,sCont,sBad,sExpr,sRet,sRetN,sIf,sSet,putR,frz,frzs,xVal,xVar,getS_0,getS_s,getR,ownD,getRs,xOp1,xOp2,fin,RD.r,aNil,aCons,xCB,xTup,xLst,truth,tOf,tAnds,tOrs,tNots,xIf,xAnd,xOr,xNot,xIsi,isTy,hAdd,hSub,hNeg,hLt,hLe,hGt,hGe,hIs,hIsNot,hIx,hLen,hInt,hAbs,hMax2,hMin2,h1L,hList,hListS,xMethL,hCountL,lcStep2,lcTurn2,lcAdd2,hTuple,vi,vb,xCall,xCallN,argsD,argD,ioIx,boIx,isOwn,nodupB,disB,xPost_ret,xPost_err,postS,putIo,frzIx,nlR,nlI,nl,nls,Rt.r,permL,tTrue,lcStep,lcTurn,lcAdd,gN,gT,gsNil,gsCons,DL.forget,back,xSeq,seqOf,xEnum,xRng1,xRng2,xRng3,xLstI,xTupI,sPar,noSlot,putRs,sTup,xMut,ownL,mApp,mIns,mPop,mPopAt,mExt,mRev,sSub,sAug,oNone,oSome,xSl,hSl,hStep,xChain,bind_ok',bind_err,bind_bad,List.set_cons_zero,List.set_cons_succ,List.foldl_cons,List.foldl_nil,List.cons_append,List.nil_append,List.replicate_succ,List.replicate_zero,List.append_nil,List.all_cons,List.all_nil,List.map_cons,List.map_nil,List.length_cons,List.length_nil,List.zip_cons_cons,List.filterMap_cons,List.filterMap_nil,List.getElem?_cons_zero,List.getElem?_cons_succ,List.contains_nil,List.contains_cons,Bool.and_true,Bool.true_and,Bool.and_false,Bool.false_and,Bool.not_true,Bool.not_false,Bool.or_true,Bool.true_or,Bool.or_false,Bool.false_or,if_true,if_false,reduceIte,reduceCtorEq,Nat.reduceSub,Nat.reduceAdd,Nat.reduceEqDiff,Option.map_some,Option.map_none,decide_true,decide_false,↓reduceIte,Bool.false_eq_true,Nat.sub_zero,Nat.sub_self,and_self,and_true,true_and,List.length_map,nls_ints,hEq_int,hNe_int,Ok_ok,OkG_some,EndQ_some,EndP_nx',EndP_rv',EndP_rn',LoopP_nx,LoopP_ct,LoopP_bk,LoopP_rt,lc_ite,xMeth,xZip,sAugS,stIx,sSub2,itemsOf,nlI_dk,sMove,ite_self,he])
  | succ n ih =>
    intro d h
    have tail : ∀ (mk : List D → D) (ds : List D), (∀ ds, mk ds = .list ds) ∨ (∀ ds, mk ds = .tuple ds) → ds.length ≤ 16000000 → (∀ d ∈ ds, pl n d) → xLc [2] (xRng1 (xCB hLen (aCons (xVar 1) (aNil)))) (gN 2) (tNots (tOf (xCall [false, false] (denN_law_same (n + 1)) (aCons (xOp2 hIx (xVar 0) (xVar 2)) (aCons (xOp2 hIx (xVar 1) (xVar 2)) (aNil)))))) (xVar 2) [some (.val (mk ds)), some (.val (mk ds)), none] = .ok (.new (.list []), [some (.val (mk ds)), some (.val (mk ds)), none]) := fun mk ds hmk hz hp => by
      have hh := lcI (vs := [2]) (fi := xRng1 (xCB hLen (aCons (xVar 1) (aNil)))) (g := gN 2) (ft := tNots (tOf (xCall [false, false] (denN_law_same (n + 1)) (aCons (xOp2 hIx (xVar 0) (xVar 2)) (aCons (xOp2 hIx (xVar 1) (xVar 2)) (aNil)))))) (fe := xVar 2) (s := [some (.val (mk ds)), some (.val (mk ds)), none]) (s1 := [some (.val (mk ds)), some (.val (mk ds)), none]) (ns := (List.range ds.length).map fun i : Nat => (0 : Int) + (i : Int)) (fun _ => false) (fun x => x)
        (by rcases hmk with hmk | hmk <;> (rw [hmk]; (simp -implicitDefEqProofs -dsimp only [runF,endF_nx,endF_rv,endF_rn,endF_err,initS,ioOut,sSeq,sNil,sPass,sBreak,sCont,sBad,sExpr,sRet,sRetN,sIf,sSet,putR,frz,frzs,xVal,xVar,getS_0,getS_s,getR,ownD,getRs,xOp1,xOp2,fin,RD.r,aNil,aCons,xCB,xTup,xLst,truth,tOf,tAnds,tOrs,tNots,xIf,xAnd,xOr,xNot,xIsi,isTy,hAdd,hSub,hNeg,hLt,hLe,hGt,hGe,hIs,hIsNot,hIx,hLen,hInt,hAbs,hMax2,hMin2,h1L,hList,hListS,xMethL,hCountL,lcStep2,lcTurn2,lcAdd2,hTuple,vi,vb,xCall,xCallN,argsD,argD,ioIx,boIx,isOwn,nodupB,disB,xPost_ret,xPost_err,postS,putIo,frzIx,nlR,nlI,nl,nls,Rt.r,permL,tTrue,lcStep,lcTurn,lcAdd,gN,gT,gsNil,gsCons,DL.forget,back,xSeq,seqOf,xEnum,xRng1,xRng2,xRng3,xLstI,xTupI,sPar,noSlot,putRs,sTup,xMut,ownL,mApp,mIns,mPop,mPopAt,mExt,mRev,sSub,sAug,oNone,oSome,xSl,hSl,hStep,xChain,bind_ok',bind_err,bind_bad,List.set_cons_zero,List.set_cons_succ,List.foldl_cons,List.foldl_nil,List.cons_append,List.nil_append,List.replicate_succ,List.replicate_zero,List.append_nil,List.all_cons,List.all_nil,List.map_cons,List.map_nil,List.length_cons,List.length_nil,List.zip_cons_cons,List.filterMap_cons,List.filterMap_nil,List.getElem?_cons_zero,List.getElem?_cons_succ,List.contains_nil,List.contains_cons,Bool.and_true,Bool.true_and,Bool.and_false,Bool.false_and,Bool.not_true,Bool.not_false,Bool.or_true,Bool.true_or,Bool.or_false,Bool.false_or,if_true,if_false,reduceIte,reduceCtorEq,Nat.reduceSub,Nat.reduceAdd,Nat.reduceEqDiff,Option.map_some,Option.map_none,decide_true,decide_false,↓reduceIte,Bool.false_eq_true,Nat.sub_zero,Nat.sub_self,and_self,and_true,true_and,List.length_map,nls_ints,hEq_int,hNe_int,Ok_ok,OkG_some,EndQ_some,EndP_nx',EndP_rv',EndP_rn',LoopP_nx,LoopP_ct,LoopP_bk,LoopP_rt,lc_ite,xMeth,xZip,sAugS,stIx,sSub2,itemsOf,nlI_dk,sMove,ite_self,rg1Ok_of (Nat.le_trans hz (by decide)), Int.toNat_natCast, rgD_ints]))) (by simp; unfold line; omega) (fun m hm acc => by
          obtain ⟨j, hj, rfl⟩ := List.mem_map.mp hm
          rw [List.mem_range] at hj
          have e0 : (0 : Int) + (j : Int) = (j : Int) := by omega
          have e1 : atI ds (j : Int) = some ds[j] := by rw [atI_nat', List.getElem?_eq_getElem hj]
          have e2 := ih ds[j] (hp _ (List.getElem_mem hj))
          rcases hmk with hmk | hmk
          · rw [hmk]
            (simp -implicitDefEqProofs -dsimp only [runF,endF_nx,endF_rv,endF_rn,endF_err,initS,ioOut,sSeq,sNil,sPass,sBreak,sCont,sBad,sExpr,sRet,sRetN,sIf,sSet,putR,frz,frzs,xVal,xVar,getS_0,getS_s,getR,ownD,getRs,xOp1,xOp2,fin,RD.r,aNil,aCons,xCB,xTup,xLst,truth,tOf,tAnds,tOrs,tNots,xIf,xAnd,xOr,xNot,xIsi,isTy,hAdd,hSub,hNeg,hLt,hLe,hGt,hGe,hIs,hIsNot,hIx,hLen,hInt,hAbs,hMax2,hMin2,h1L,hList,hListS,xMethL,hCountL,lcStep2,lcTurn2,lcAdd2,hTuple,vi,vb,xCall,xCallN,argsD,argD,ioIx,boIx,isOwn,nodupB,disB,xPost_ret,xPost_err,postS,putIo,frzIx,nlR,nlI,nl,nls,Rt.r,permL,tTrue,lcStep,lcTurn,lcAdd,gN,gT,gsNil,gsCons,DL.forget,back,xSeq,seqOf,xEnum,xRng1,xRng2,xRng3,xLstI,xTupI,sPar,noSlot,putRs,sTup,xMut,ownL,mApp,mIns,mPop,mPopAt,mExt,mRev,sSub,sAug,oNone,oSome,xSl,hSl,hStep,xChain,bind_ok',bind_err,bind_bad,List.set_cons_zero,List.set_cons_succ,List.foldl_cons,List.foldl_nil,List.cons_append,List.nil_append,List.replicate_succ,List.replicate_zero,List.append_nil,List.all_cons,List.all_nil,List.map_cons,List.map_nil,List.length_cons,List.length_nil,List.zip_cons_cons,List.filterMap_cons,List.filterMap_nil,List.getElem?_cons_zero,List.getElem?_cons_succ,List.contains_nil,List.contains_cons,Bool.and_true,Bool.true_and,Bool.and_false,Bool.false_and,Bool.not_true,Bool.not_false,Bool.or_true,Bool.true_or,Bool.or_false,Bool.false_or,if_true,if_false,reduceIte,reduceCtorEq,Nat.reduceSub,Nat.reduceAdd,Nat.reduceEqDiff,Option.map_some,Option.map_none,decide_true,decide_false,↓reduceIte,Bool.false_eq_true,Nat.sub_zero,Nat.sub_self,and_self,and_true,true_and,List.length_map,nls_ints,hEq_int,hNe_int,Ok_ok,OkG_some,EndQ_some,EndP_nx',EndP_rv',EndP_rn',LoopP_nx,LoopP_ct,LoopP_bk,LoopP_rt,lc_ite,xMeth,xZip,sAugS,stIx,sSub2,itemsOf,nlI_dk,sMove,ite_self,e0, e1, e2])
          · rw [hmk]
            (simp -implicitDefEqProofs -dsimp only [runF,endF_nx,endF_rv,endF_rn,endF_err,initS,ioOut,sSeq,sNil,sPass,sBreak,sCont,sBad,sExpr,sRet,sRetN,sIf,sSet,putR,frz,frzs,xVal,xVar,getS_0,getS_s,getR,ownD,getRs,xOp1,xOp2,fin,RD.r,aNil,aCons,xCB,xTup,xLst,truth,tOf,tAnds,tOrs,tNots,xIf,xAnd,xOr,xNot,xIsi,isTy,hAdd,hSub,hNeg,hLt,hLe,hGt,hGe,hIs,hIsNot,hIx,hLen,hInt,hAbs,hMax2,hMin2,h1L,hList,hListS,xMethL,hCountL,lcStep2,lcTurn2,lcAdd2,hTuple,vi,vb,xCall,xCallN,argsD,argD,ioIx,boIx,isOwn,nodupB,disB,xPost_ret,xPost_err,postS,putIo,frzIx,nlR,nlI,nl,nls,Rt.r,permL,tTrue,lcStep,lcTurn,lcAdd,gN,gT,gsNil,gsCons,DL.forget,back,xSeq,seqOf,xEnum,xRng1,xRng2,xRng3,xLstI,xTupI,sPar,noSlot,putRs,sTup,xMut,ownL,mApp,mIns,mPop,mPopAt,mExt,mRev,sSub,sAug,oNone,oSome,xSl,hSl,hStep,xChain,bind_ok',bind_err,bind_bad,List.set_cons_zero,List.set_cons_succ,List.foldl_cons,List.foldl_nil,List.cons_append,List.nil_append,List.replicate_succ,List.replicate_zero,List.append_nil,List.all_cons,List.all_nil,List.map_cons,List.map_nil,List.length_cons,List.length_nil,List.zip_cons_cons,List.filterMap_cons,List.filterMap_nil,List.getElem?_cons_zero,List.getElem?_cons_succ,List.contains_nil,List.contains_cons,Bool.and_true,Bool.true_and,Bool.and_false,Bool.false_and,Bool.not_true,Bool.not_false,Bool.or_true,Bool.true_or,Bool.or_false,Bool.false_or,if_true,if_false,reduceIte,reduceCtorEq,Nat.reduceSub,Nat.reduceAdd,Nat.reduceEqDiff,Option.map_some,Option.map_none,decide_true,decide_false,↓reduceIte,Bool.false_eq_true,Nat.sub_zero,Nat.sub_self,and_self,and_true,true_and,List.length_map,nls_ints,hEq_int,hNe_int,Ok_ok,OkG_some,EndQ_some,EndP_nx',EndP_rv',EndP_rn',LoopP_nx,LoopP_ct,LoopP_bk,LoopP_rt,lc_ite,xMeth,xZip,sAugS,stIx,sSub2,itemsOf,nlI_dk,sMove,ite_self,e0, e1, e2]))
      rw [hh]
      have hf : (((List.range ds.length).map fun i : Nat => (0 : Int) + (i : Int)).filter fun _ => false) = [] := List.filter_eq_nil_iff.mpr (fun _ _ => by simp)
      rw [hf]
      ((simp -implicitDefEqProofs -dsimp only [runF,endF_nx,endF_rv,endF_rn,endF_err,initS,ioOut,sSeq,sNil,sPass,sBreak,sCont,sBad,sExpr,sRet,sRetN,sIf,sSet,putR,frz,frzs,xVal,xVar,getS_0,getS_s,getR,ownD,getRs,xOp1,xOp2,fin,RD.r,aNil,aCons,xCB,xTup,xLst,truth,tOf,tAnds,tOrs,tNots,xIf,xAnd,xOr,xNot,xIsi,isTy,hAdd,hSub,hNeg,hLt,hLe,hGt,hGe,hIs,hIsNot,hIx,hLen,hInt,hAbs,hMax2,hMin2,h1L,hList,hListS,xMethL,hCountL,lcStep2,lcTurn2,lcAdd2,hTuple,vi,vb,xCall,xCallN,argsD,argD,ioIx,boIx,isOwn,nodupB,disB,xPost_ret,xPost_err,postS,putIo,frzIx,nlR,nlI,nl,nls,Rt.r,permL,tTrue,lcStep,lcTurn,lcAdd,gN,gT,gsNil,gsCons,DL.forget,back,xSeq,seqOf,xEnum,xRng1,xRng2,xRng3,xLstI,xTupI,sPar,noSlot,putRs,sTup,xMut,ownL,mApp,mIns,mPop,mPopAt,mExt,mRev,sSub,sAug,oNone,oSome,xSl,hSl,hStep,xChain,bind_ok',bind_err,bind_bad,List.set_cons_zero,List.set_cons_succ,List.foldl_cons,List.foldl_nil,List.cons_append,List.nil_append,List.replicate_succ,List.replicate_zero,List.append_nil,List.all_cons,List.all_nil,List.map_cons,List.map_nil,List.length_cons,List.length_nil,List.zip_cons_cons,List.filterMap_cons,List.filterMap_nil,List.getElem?_cons_zero,List.getElem?_cons_succ,List.contains_nil,List.contains_cons,Bool.and_true,Bool.true_and,Bool.and_false,Bool.false_and,Bool.not_true,Bool.not_false,Bool.or_true,Bool.true_or,Bool.or_false,Bool.false_or,if_true,if_false,reduceIte,reduceCtorEq,Nat.reduceSub,Nat.reduceAdd,Nat.reduceEqDiff,Option.map_some,Option.map_none,decide_true,decide_false,↓reduceIte,Bool.false_eq_true,Nat.sub_zero,Nat.sub_self,and_self,and_true,true_and,List.length_map,nls_ints,hEq_int,hNe_int,Ok_ok,OkG_some,EndQ_some,EndP_nx',EndP_rv',EndP_rn',LoopP_nx,LoopP_ct,LoopP_bk,LoopP_rt,lc_ite,xMeth,xZip,sAugS,stIx,sSub2,itemsOf,nlI_dk,sMove,ite_self]) <;> rfl)
    have he := hEq_self (d := .list []) (by unfold fl flAll; rfl)
    have hn : ∀ b : Bool, hNe (.bool b) (.bool b) = some (.val (.bool false)) := fun b => by cases b <;> rfl
    cases d with
    | list ds =>
      have t := tail .list ds (.inl fun _ => rfl) h.1 h.2
      have e : denN_law_same (n + 1 + 1) = runF [false, false] 3 (fb_law_same (denN_law_same (n + 1))) := rfl
      rw [e]
      (simp -implicitDefEqProofs -dsimp only [runF,endF_nx,endF_rv,endF_rn,endF_err,initS,ioOut,sSeq,sNil,sPass,sBreak,sCont,sBad,sExpr,sRet,sRetN,sIf,sSet,putR,frz,frzs,xVal,xVar,getS_0,getS_s,getR,ownD,getRs,xOp1,xOp2,fin,RD.r,aNil,aCons,xCB,xTup,xLst,truth,tOf,tAnds,tOrs,tNots,xIf,xAnd,xOr,xNot,xIsi,isTy,hAdd,hSub,hNeg,hLt,hLe,hGt,hGe,hIs,hIsNot,hIx,hLen,hInt,hAbs,hMax2,hMin2,h1L,hList,hListS,xMethL,hCountL,lcStep2,lcTurn2,lcAdd2,hTuple,vi,vb,xCall,xCallN,argsD,argD,ioIx,boIx,isOwn,nodupB,disB,xPost_ret,xPost_err,postS,putIo,frzIx,nlR,nlI,nl,nls,Rt.r,permL,tTrue,lcStep,lcTurn,lcAdd,gN,gT,gsNil,gsCons,DL.forget,back,xSeq,seqOf,xEnum,xRng1,xRng2,xRng3,xLstI,xTupI,sPar,noSlot,putRs,sTup,xMut,ownL,mApp,mIns,mPop,mPopAt,mExt,mRev,sSub,sAug,oNone,oSome,xSl,hSl,hStep,xChain,bind_ok',bind_err,bind_bad,List.set_cons_zero,List.set_cons_succ,List.foldl_cons,List.foldl_nil,List.cons_append,List.nil_append,List.replicate_succ,List.replicate_zero,List.append_nil,List.all_cons,List.all_nil,List.map_cons,List.map_nil,List.length_cons,List.length_nil,List.zip_cons_cons,List.filterMap_cons,List.filterMap_nil,List.getElem?_cons_zero,List.getElem?_cons_succ,List.contains_nil,List.contains_cons,Bool.and_true,Bool.true_and,Bool.and_false,Bool.false_and,Bool.not_true,Bool.not_false,Bool.or_true,Bool.true_or,Bool.or_false,Bool.false_or,if_true,if_false,reduceIte,reduceCtorEq,Nat.reduceSub,Nat.reduceAdd,Nat.reduceEqDiff,Option.map_some,Option.map_none,decide_true,decide_false,↓reduceIte,Bool.false_eq_true,Nat.sub_zero,Nat.sub_self,and_self,and_true,true_and,List.length_map,nls_ints,hEq_int,hNe_int,Ok_ok,OkG_some,EndQ_some,EndP_nx',EndP_rv',EndP_rn',LoopP_nx,LoopP_ct,LoopP_bk,LoopP_rt,lc_ite,xMeth,xZip,sAugS,stIx,sSub2,itemsOf,nlI_dk,sMove,ite_self,t, he, hn, decide_true])
    | tuple ds =>
      have t := tail .tuple ds (.inr fun _ => rfl) h.1 h.2
      have e : denN_law_same (n + 1 + 1) = runF [false, false] 3 (fb_law_same (denN_law_same (n + 1))) := rfl
      rw [e]
      (simp -implicitDefEqProofs -dsimp only [runF,endF_nx,endF_rv,endF_rn,endF_err,initS,ioOut,sSeq,sNil,sPass,sBreak,sCont,sBad,sExpr,sRet,sRetN,sIf,sSet,putR,frz,frzs,xVal,xVar,getS_0,getS_s,getR,ownD,getRs,xOp1,xOp2,fin,RD.r,aNil,aCons,xCB,xTup,xLst,truth,tOf,tAnds,tOrs,tNots,xIf,xAnd,xOr,xNot,xIsi,isTy,hAdd,hSub,hNeg,hLt,hLe,hGt,hGe,hIs,hIsNot,hIx,hLen,hInt,hAbs,hMax2,hMin2,h1L,hList,hListS,xMethL,hCountL,lcStep2,lcTurn2,lcAdd2,hTuple,vi,vb,xCall,xCallN,argsD,argD,ioIx,boIx,isOwn,nodupB,disB,xPost_ret,xPost_err,postS,putIo,frzIx,nlR,nlI,nl,nls,Rt.r,permL,tTrue,lcStep,lcTurn,lcAdd,gN,gT,gsNil,gsCons,DL.forget,back,xSeq,seqOf,xEnum,xRng1,xRng2,xRng3,xLstI,xTupI,sPar,noSlot,putRs,sTup,xMut,ownL,mApp,mIns,mPop,mPopAt,mExt,mRev,sSub,sAug,oNone,oSome,xSl,hSl,hStep,xChain,bind_ok',bind_err,bind_bad,List.set_cons_zero,List.set_cons_succ,List.foldl_cons,List.foldl_nil,List.cons_append,List.nil_append,List.replicate_succ,List.replicate_zero,List.append_nil,List.all_cons,List.all_nil,List.map_cons,List.map_nil,List.length_cons,List.length_nil,List.zip_cons_cons,List.filterMap_cons,List.filterMap_nil,List.getElem?_cons_zero,List.getElem?_cons_succ,List.contains_nil,List.contains_cons,Bool.and_true,Bool.true_and,Bool.and_false,Bool.false_and,Bool.not_true,Bool.not_false,Bool.or_true,Bool.true_or,Bool.or_false,Bool.false_or,if_true,if_false,reduceIte,reduceCtorEq,Nat.reduceSub,Nat.reduceAdd,Nat.reduceEqDiff,Option.map_some,Option.map_none,decide_true,decide_false,↓reduceIte,Bool.false_eq_true,Nat.sub_zero,Nat.sub_self,and_self,and_true,true_and,List.length_map,nls_ints,hEq_int,hNe_int,Ok_ok,OkG_some,EndQ_some,EndP_nx',EndP_rv',EndP_rn',LoopP_nx,LoopP_ct,LoopP_bk,LoopP_rt,lc_ite,xMeth,xZip,sAugS,stIx,sSub2,itemsOf,nlI_dk,sMove,ite_self,t, he, hn, decide_true])
    | dict ds => exact h.elim
    | none =>
      unfold denN_law_same
      (simp -implicitDefEqProofs -dsimp only [runF,endF_nx,endF_rv,endF_rn,endF_err,initS,ioOut,sSeq,sNil,sPass,sBreak,sCont,sBad,sExpr,sRet,sRetN,sIf,sSet,putR,frz,frzs,xVal,xVar,getS_0,getS_s,getR,ownD,getRs,xOp1,xOp2,fin,RD.r,aNil,aCons,xCB,xTup,xLst,truth,tOf,tAnds,tOrs,tNots,xIf,xAnd,xOr,xNot,xIsi,isTy,hAdd,hSub,hNeg,hLt,hLe,hGt,hGe,hIs,hIsNot,hIx,hLen,hInt,hAbs,hMax2,hMin2,h1L,hList,hListS,xMethL,hCountL,lcStep2,lcTurn2,lcAdd2,hTuple,vi,vb,xCall,xCallN,argsD,argD,ioIx,boIx,isOwn,nodupB,disB,xPost_ret,xPost_err,postS,putIo,frzIx,nlR,nlI,nl,nls,Rt.r,permL,tTrue,lcStep,lcTurn,lcAdd,gN,gT,gsNil,gsCons,DL.forget,back,xSeq,seqOf,xEnum,xRng1,xRng2,xRng3,xLstI,xTupI,sPar,noSlot,putRs,sTup,xMut,ownL,mApp,mIns,mPop,mPopAt,mExt,mRev,sSub,sAug,oNone,oSome,xSl,hSl,hStep,xChain,bind_ok',bind_err,bind_bad,List.set_cons_zero,List.set_cons_succ,List.foldl_cons,List.foldl_nil,List.cons_append,List.nil_append,List.replicate_succ,List.replicate_zero,List.append_nil,List.all_cons,List.all_nil,List.map_cons,List.map_nil,List.length_cons,List.length_nil,List.zip_cons_cons,List.filterMap_cons,List.filterMap_nil,List.getElem?_cons_zero,List.getElem?_cons_succ,List.contains_nil,List.contains_cons,Bool.and_true,Bool.true_and,Bool.and_false,Bool.false_and,Bool.not_true,Bool.not_false,Bool.or_true,Bool.true_or,Bool.or_false,Bool.false_or,if_true,if_false,reduceIte,reduceCtorEq,Nat.reduceSub,Nat.reduceAdd,Nat.reduceEqDiff,Option.map_some,Option.map_none,decide_true,decide_false,↓reduceIte,Bool.false_eq_true,Nat.sub_zero,Nat.sub_self,and_self,and_true,true_and,List.length_map,nls_ints,hEq_int,hNe_int,Ok_ok,OkG_some,EndQ_some,EndP_nx',EndP_rv',EndP_rn',LoopP_nx,LoopP_ct,LoopP_bk,LoopP_rt,lc_ite,xMeth,xZip,sAugS,stIx,sSub2,itemsOf,nlI_dk,sMove,ite_self])
    | bool b =>
      have he := hEq_self (d := .bool b) (by unfold fl; rfl)
      unfold denN_law_same
      (simp -implicitDefEqProofs -dsimp only [runF,endF_nx,endF_rv,endF_rn,endF_err,initS,ioOut,sSeq,sNil,sPass,sBreak,sCont,sBad,sExpr,sRet,sRetN,sIf,sSet,putR,frz,frzs,xVal,xVar,getS_0,getS_s,getR,ownD,getRs,xOp1,xOp2,fin,RD.r,aNil,aCons,xCB,xTup,xLst,truth,tOf,tAnds,tOrs,tNots,xIf,xAnd,xOr,xNot,xIsi,isTy,hAdd,hSub,hNeg,hLt,hLe,hGt,hGe,hIs,hIsNot,hIx,hLen,hInt,hAbs,hMax2,hMin2,h1L,hList,hListS,xMethL,hCountL,lcStep2,lcTurn2,lcAdd2,hTuple,vi,vb,xCall,xCallN,argsD,argD,ioIx,boIx,isOwn,nodupB,disB,xPost_ret,xPost_err,postS,putIo,frzIx,nlR,nlI,nl,nls,Rt.r,permL,tTrue,lcStep,lcTurn,lcAdd,gN,gT,gsNil,gsCons,DL.forget,back,xSeq,seqOf,xEnum,xRng1,xRng2,xRng3,xLstI,xTupI,sPar,noSlot,putRs,sTup,xMut,ownL,mApp,mIns,mPop,mPopAt,mExt,mRev,sSub,sAug,oNone,oSome,xSl,hSl,hStep,xChain,bind_ok',bind_err,bind_bad,List.set_cons_zero,List.set_cons_succ,List.foldl_cons,List.foldl_nil,List.cons_append,List.nil_append,List.replicate_succ,List.replicate_zero,List.append_nil,List.all_cons,List.all_nil,List.map_cons,List.map_nil,List.length_cons,List.length_nil,List.zip_cons_cons,List.filterMap_cons,List.filterMap_nil,List.getElem?_cons_zero,List.getElem?_cons_succ,List.contains_nil,List.contains_cons,Bool.and_true,Bool.true_and,Bool.and_false,Bool.false_and,Bool.not_true,Bool.not_false,Bool.or_true,Bool.true_or,Bool.or_false,Bool.false_or,if_true,if_false,reduceIte,reduceCtorEq,Nat.reduceSub,Nat.reduceAdd,Nat.reduceEqDiff,Option.map_some,Option.map_none,decide_true,decide_false,↓reduceIte,Bool.false_eq_true,Nat.sub_zero,Nat.sub_self,and_self,and_true,true_and,List.length_map,nls_ints,hEq_int,hNe_int,Ok_ok,OkG_some,EndQ_some,EndP_nx',EndP_rv',EndP_rn',LoopP_nx,LoopP_ct,LoopP_bk,LoopP_rt,lc_ite,xMeth,xZip,sAugS,stIx,sSub2,itemsOf,nlI_dk,sMove,ite_self,he])
    | int i =>
      unfold denN_law_same
      (simp -implicitDefEqProofs -dsimp only [runF,endF_nx,endF_rv,endF_rn,endF_err,initS,ioOut,sSeq,sNil,sPass,sBreak,sCont,sBad,sExpr,sRet,sRetN,sIf,sSet,putR,frz,frzs,xVal,xVar,getS_0,getS_s,getR,ownD,getRs,xOp1,xOp2,fin,RD.r,aNil,aCons,xCB,xTup,xLst,truth,tOf,tAnds,tOrs,tNots,xIf,xAnd,xOr,xNot,xIsi,isTy,hAdd,hSub,hNeg,hLt,hLe,hGt,hGe,hIs,hIsNot,hIx,hLen,hInt,hAbs,hMax2,hMin2,h1L,hList,hListS,xMethL,hCountL,lcStep2,lcTurn2,lcAdd2,hTuple,vi,vb,xCall,xCallN,argsD,argD,ioIx,boIx,isOwn,nodupB,disB,xPost_ret,xPost_err,postS,putIo,frzIx,nlR,nlI,nl,nls,Rt.r,permL,tTrue,lcStep,lcTurn,lcAdd,gN,gT,gsNil,gsCons,DL.forget,back,xSeq,seqOf,xEnum,xRng1,xRng2,xRng3,xLstI,xTupI,sPar,noSlot,putRs,sTup,xMut,ownL,mApp,mIns,mPop,mPopAt,mExt,mRev,sSub,sAug,oNone,oSome,xSl,hSl,hStep,xChain,bind_ok',bind_err,bind_bad,List.set_cons_zero,List.set_cons_succ,List.foldl_cons,List.foldl_nil,List.cons_append,List.nil_append,List.replicate_succ,List.replicate_zero,List.append_nil,List.all_cons,List.all_nil,List.map_cons,List.map_nil,List.length_cons,List.length_nil,List.zip_cons_cons,List.filterMap_cons,List.filterMap_nil,List.getElem?_cons_zero,List.getElem?_cons_succ,List.contains_nil,List.contains_cons,Bool.and_true,Bool.true_and,Bool.and_false,Bool.false_and,Bool.not_true,Bool.not_false,Bool.or_true,Bool.true_or,Bool.or_false,Bool.false_or,if_true,if_false,reduceIte,reduceCtorEq,Nat.reduceSub,Nat.reduceAdd,Nat.reduceEqDiff,Option.map_some,Option.map_none,decide_true,decide_false,↓reduceIte,Bool.false_eq_true,Nat.sub_zero,Nat.sub_self,and_self,and_true,true_and,List.length_map,nls_ints,hEq_int,hNe_int,Ok_ok,OkG_some,EndQ_some,EndP_nx',EndP_rv',EndP_rn',LoopP_nx,LoopP_ct,LoopP_bk,LoopP_rt,lc_ite,xMeth,xZip,sAugS,stIx,sSub2,itemsOf,nlI_dk,sMove,ite_self])
    | str x =>
      have he := hEq_self (d := .str x) (by unfold fl; exact h)
      unfold denN_law_same
      (simp -implicitDefEqProofs -dsimp only [runF,endF_nx,endF_rv,endF_rn,endF_err,initS,ioOut,sSeq,sNil,sPass,sBreak,sCont,sBad,sExpr,sRet,sRetN,sIf,sSet,putR,frz,frzs,xVal,xVar,getS_0,getS_s,getR,ownD,getRs,xOp1,xOp2,fin,RD.r,aNil,aCons,xCB,xTup,xLst,truth,tOf,tAnds,tOrs,tNots,xIf,xAnd,xOr,xNot,xIsi,isTy,hAdd,hSub,hNeg,hLt,hLe,hGt,hGe,hIs,hIsNot,hIx,hLen,hInt,hAbs,hMax2,hMin2,h1L,hList,hListS,xMethL,hCountL,lcStep2,lcTurn2,lcAdd2,hTuple,vi,vb,xCall,xCallN,argsD,argD,ioIx,boIx,isOwn,nodupB,disB,xPost_ret,xPost_err,postS,putIo,frzIx,nlR,nlI,nl,nls,Rt.r,permL,tTrue,lcStep,lcTurn,lcAdd,gN,gT,gsNil,gsCons,DL.forget,back,xSeq,seqOf,xEnum,xRng1,xRng2,xRng3,xLstI,xTupI,sPar,noSlot,putRs,sTup,xMut,ownL,mApp,mIns,mPop,mPopAt,mExt,mRev,sSub,sAug,oNone,oSome,xSl,hSl,hStep,xChain,bind_ok',bind_err,bind_bad,List.set_cons_zero,List.set_cons_succ,List.foldl_cons,List.foldl_nil,List.cons_append,List.nil_append,List.replicate_succ,List.replicate_zero,List.append_nil,List.all_cons,List.all_nil,List.map_cons,List.map_nil,List.length_cons,List.length_nil,List.zip_cons_cons,List.filterMap_cons,List.filterMap_nil,List.getElem?_cons_zero,List.getElem?_cons_succ,List.contains_nil,List.contains_cons,Bool.and_true,Bool.true_and,Bool.and_false,Bool.false_and,Bool.not_true,Bool.not_false,Bool.or_true,Bool.true_or,Bool.or_false,Bool.false_or,if_true,if_false,reduceIte,reduceCtorEq,Nat.reduceSub,Nat.reduceAdd,Nat.reduceEqDiff,Option.map_some,Option.map_none,decide_true,decide_false,↓reduceIte,Bool.false_eq_true,Nat.sub_zero,Nat.sub_self,and_self,and_true,true_and,List.length_map,nls_ints,hEq_int,hNe_int,Ok_ok,OkG_some,EndQ_some,EndP_nx',EndP_rv',EndP_rn',LoopP_nx,LoopP_ct,LoopP_bk,LoopP_rt,lc_ite,xMeth,xZip,sAugS,stIx,sSub2,itemsOf,nlI_dk,sMove,ite_self,he])
end DLS

namespace DLS
open Evl (Ex)
open PySem PySem.Spec PyProof.Rows L2 DL
/-! k00: errors raised and kept; the numbered theorems are printed by a program -/
theorem rp0 (d : D) : den_law_raise_first [.int 0, d] = .err "InvalidOrder" d [] := by
  unfold den_law_raise_first
  (simp -implicitDefEqProofs -dsimp only [runF,endF_nx,endF_rv,endF_rn,endF_err,initS,ioOut,sSeq,sNil,sPass,sBreak,sCont,sBad,sExpr,sRet,sRetN,sIf,sSet,putR,frz,frzs,xVal,xVar,getS_0,getS_s,getR,ownD,getRs,xOp1,xOp2,fin,RD.r,aNil,aCons,xCB,xTup,xLst,truth,tOf,tAnds,tOrs,tNots,xIf,xAnd,xOr,xNot,xIsi,isTy,hAdd,hSub,hNeg,hLt,hLe,hGt,hGe,hIs,hIsNot,hIx,hLen,hInt,hAbs,hMax2,hMin2,h1L,hList,hListS,xMethL,hCountL,lcStep2,lcTurn2,lcAdd2,hTuple,vi,vb,xCall,xCallN,argsD,argD,ioIx,boIx,isOwn,nodupB,disB,xPost_ret,xPost_err,postS,putIo,frzIx,nlR,nlI,nl,nls,Rt.r,permL,tTrue,lcStep,lcTurn,lcAdd,gN,gT,gsNil,gsCons,DL.forget,back,xSeq,seqOf,xEnum,xRng1,xRng2,xRng3,xLstI,xTupI,sPar,noSlot,putRs,sTup,xMut,ownL,mApp,mIns,mPop,mPopAt,mExt,mRev,sSub,sAug,oNone,oSome,xSl,hSl,hStep,xChain,bind_ok',bind_err,bind_bad,List.set_cons_zero,List.set_cons_succ,List.foldl_cons,List.foldl_nil,List.cons_append,List.nil_append,List.replicate_succ,List.replicate_zero,List.append_nil,List.all_cons,List.all_nil,List.map_cons,List.map_nil,List.length_cons,List.length_nil,List.zip_cons_cons,List.filterMap_cons,List.filterMap_nil,List.getElem?_cons_zero,List.getElem?_cons_succ,List.contains_nil,List.contains_cons,Bool.and_true,Bool.true_and,Bool.and_false,Bool.false_and,Bool.not_true,Bool.not_false,Bool.or_true,Bool.true_or,Bool.or_false,Bool.false_or,if_true,if_false,reduceIte,reduceCtorEq,Nat.reduceSub,Nat.reduceAdd,Nat.reduceEqDiff,Option.map_some,Option.map_none,decide_true,decide_false,↓reduceIte,Bool.false_eq_true,Nat.sub_zero,Nat.sub_self,and_self,and_true,true_and,List.length_map,nls_ints,hEq_int,hNe_int,Ok_ok,OkG_some,EndQ_some,EndP_nx',EndP_rv',EndP_rn',LoopP_nx,LoopP_ct,LoopP_bk,LoopP_rt,lc_ite,xMeth,xZip,sAugS,stIx,sSub2,itemsOf,nlI_dk,sMove,ite_self,sRaise, Int.reduceEq, decide_true, decide_false])
theorem rn0 (d : D) : den_law_raise_named_first [.int 0, d] = .err "InvalidOrder" d [] := by
  unfold den_law_raise_named_first
  (simp -implicitDefEqProofs -dsimp only [runF,endF_nx,endF_rv,endF_rn,endF_err,initS,ioOut,sSeq,sNil,sPass,sBreak,sCont,sBad,sExpr,sRet,sRetN,sIf,sSet,putR,frz,frzs,xVal,xVar,getS_0,getS_s,getR,ownD,getRs,xOp1,xOp2,fin,RD.r,aNil,aCons,xCB,xTup,xLst,truth,tOf,tAnds,tOrs,tNots,xIf,xAnd,xOr,xNot,xIsi,isTy,hAdd,hSub,hNeg,hLt,hLe,hGt,hGe,hIs,hIsNot,hIx,hLen,hInt,hAbs,hMax2,hMin2,h1L,hList,hListS,xMethL,hCountL,lcStep2,lcTurn2,lcAdd2,hTuple,vi,vb,xCall,xCallN,argsD,argD,ioIx,boIx,isOwn,nodupB,disB,xPost_ret,xPost_err,postS,putIo,frzIx,nlR,nlI,nl,nls,Rt.r,permL,tTrue,lcStep,lcTurn,lcAdd,gN,gT,gsNil,gsCons,DL.forget,back,xSeq,seqOf,xEnum,xRng1,xRng2,xRng3,xLstI,xTupI,sPar,noSlot,putRs,sTup,xMut,ownL,mApp,mIns,mPop,mPopAt,mExt,mRev,sSub,sAug,oNone,oSome,xSl,hSl,hStep,xChain,bind_ok',bind_err,bind_bad,List.set_cons_zero,List.set_cons_succ,List.foldl_cons,List.foldl_nil,List.cons_append,List.nil_append,List.replicate_succ,List.replicate_zero,List.append_nil,List.all_cons,List.all_nil,List.map_cons,List.map_nil,List.length_cons,List.length_nil,List.zip_cons_cons,List.filterMap_cons,List.filterMap_nil,List.getElem?_cons_zero,List.getElem?_cons_succ,List.contains_nil,List.contains_cons,Bool.and_true,Bool.true_and,Bool.and_false,Bool.false_and,Bool.not_true,Bool.not_false,Bool.or_true,Bool.true_or,Bool.or_false,Bool.false_or,if_true,if_false,reduceIte,reduceCtorEq,Nat.reduceSub,Nat.reduceAdd,Nat.reduceEqDiff,Option.map_some,Option.map_none,decide_true,decide_false,↓reduceIte,Bool.false_eq_true,Nat.sub_zero,Nat.sub_self,and_self,and_true,true_and,List.length_map,nls_ints,hEq_int,hNe_int,Ok_ok,OkG_some,EndQ_some,EndP_nx',EndP_rv',EndP_rn',LoopP_nx,LoopP_ct,LoopP_bk,LoopP_rt,lc_ite,xMeth,xZip,sAugS,stIx,sSub2,itemsOf,nlI_dk,sMove,ite_self,sRaise, Int.reduceEq, decide_true, decide_false])
theorem raised_0 (d : D) (b : Bool) : den_law_raised [.int 0, d, .bool b] = .err "InvalidOrder" d [] := by
  unfold den_law_raised
  have e1 := rp0 d
  have e2 := rn0 d
  cases b <;> (simp -implicitDefEqProofs -dsimp only [runF,endF_nx,endF_rv,endF_rn,endF_err,initS,ioOut,sSeq,sNil,sPass,sBreak,sCont,sBad,sExpr,sRet,sRetN,sIf,sSet,putR,frz,frzs,xVal,xVar,getS_0,getS_s,getR,ownD,getRs,xOp1,xOp2,fin,RD.r,aNil,aCons,xCB,xTup,xLst,truth,tOf,tAnds,tOrs,tNots,xIf,xAnd,xOr,xNot,xIsi,isTy,hAdd,hSub,hNeg,hLt,hLe,hGt,hGe,hIs,hIsNot,hIx,hLen,hInt,hAbs,hMax2,hMin2,h1L,hList,hListS,xMethL,hCountL,lcStep2,lcTurn2,lcAdd2,hTuple,vi,vb,xCall,xCallN,argsD,argD,ioIx,boIx,isOwn,nodupB,disB,xPost_ret,xPost_err,postS,putIo,frzIx,nlR,nlI,nl,nls,Rt.r,permL,tTrue,lcStep,lcTurn,lcAdd,gN,gT,gsNil,gsCons,DL.forget,back,xSeq,seqOf,xEnum,xRng1,xRng2,xRng3,xLstI,xTupI,sPar,noSlot,putRs,sTup,xMut,ownL,mApp,mIns,mPop,mPopAt,mExt,mRev,sSub,sAug,oNone,oSome,xSl,hSl,hStep,xChain,bind_ok',bind_err,bind_bad,List.set_cons_zero,List.set_cons_succ,List.foldl_cons,List.foldl_nil,List.cons_append,List.nil_append,List.replicate_succ,List.replicate_zero,List.append_nil,List.all_cons,List.all_nil,List.map_cons,List.map_nil,List.length_cons,List.length_nil,List.zip_cons_cons,List.filterMap_cons,List.filterMap_nil,List.getElem?_cons_zero,List.getElem?_cons_succ,List.contains_nil,List.contains_cons,Bool.and_true,Bool.true_and,Bool.and_false,Bool.false_and,Bool.not_true,Bool.not_false,Bool.or_true,Bool.true_or,Bool.or_false,Bool.false_or,if_true,if_false,reduceIte,reduceCtorEq,Nat.reduceSub,Nat.reduceAdd,Nat.reduceEqDiff,Option.map_some,Option.map_none,decide_true,decide_false,↓reduceIte,Bool.false_eq_true,Nat.sub_zero,Nat.sub_self,and_self,and_true,true_and,List.length_map,nls_ints,hEq_int,hNe_int,Ok_ok,OkG_some,EndQ_some,EndP_nx',EndP_rv',EndP_rn',LoopP_nx,LoopP_ct,LoopP_bk,LoopP_rt,lc_ite,xMeth,xZip,sAugS,stIx,sSub2,itemsOf,nlI_dk,sMove,ite_self,Int.reduceLT, decide_true, decide_false, e1, e2])
theorem rp1 (d : D) : den_law_raise_first [.int 1, d] = .err "InvalidPattern" d [] := by
  unfold den_law_raise_first
  (simp -implicitDefEqProofs -dsimp only [runF,endF_nx,endF_rv,endF_rn,endF_err,initS,ioOut,sSeq,sNil,sPass,sBreak,sCont,sBad,sExpr,sRet,sRetN,sIf,sSet,putR,frz,frzs,xVal,xVar,getS_0,getS_s,getR,ownD,getRs,xOp1,xOp2,fin,RD.r,aNil,aCons,xCB,xTup,xLst,truth,tOf,tAnds,tOrs,tNots,xIf,xAnd,xOr,xNot,xIsi,isTy,hAdd,hSub,hNeg,hLt,hLe,hGt,hGe,hIs,hIsNot,hIx,hLen,hInt,hAbs,hMax2,hMin2,h1L,hList,hListS,xMethL,hCountL,lcStep2,lcTurn2,lcAdd2,hTuple,vi,vb,xCall,xCallN,argsD,argD,ioIx,boIx,isOwn,nodupB,disB,xPost_ret,xPost_err,postS,putIo,frzIx,nlR,nlI,nl,nls,Rt.r,permL,tTrue,lcStep,lcTurn,lcAdd,gN,gT,gsNil,gsCons,DL.forget,back,xSeq,seqOf,xEnum,xRng1,xRng2,xRng3,xLstI,xTupI,sPar,noSlot,putRs,sTup,xMut,ownL,mApp,mIns,mPop,mPopAt,mExt,mRev,sSub,sAug,oNone,oSome,xSl,hSl,hStep,xChain,bind_ok',bind_err,bind_bad,List.set_cons_zero,List.set_cons_succ,List.foldl_cons,List.foldl_nil,List.cons_append,List.nil_append,List.replicate_succ,List.replicate_zero,List.append_nil,List.all_cons,List.all_nil,List.map_cons,List.map_nil,List.length_cons,List.length_nil,List.zip_cons_cons,List.filterMap_cons,List.filterMap_nil,List.getElem?_cons_zero,List.getElem?_cons_succ,List.contains_nil,List.contains_cons,Bool.and_true,Bool.true_and,Bool.and_false,Bool.false_and,Bool.not_true,Bool.not_false,Bool.or_true,Bool.true_or,Bool.or_false,Bool.false_or,if_true,if_false,reduceIte,reduceCtorEq,Nat.reduceSub,Nat.reduceAdd,Nat.reduceEqDiff,Option.map_some,Option.map_none,decide_true,decide_false,↓reduceIte,Bool.false_eq_true,Nat.sub_zero,Nat.sub_self,and_self,and_true,true_and,List.length_map,nls_ints,hEq_int,hNe_int,Ok_ok,OkG_some,EndQ_some,EndP_nx',EndP_rv',EndP_rn',LoopP_nx,LoopP_ct,LoopP_bk,LoopP_rt,lc_ite,xMeth,xZip,sAugS,stIx,sSub2,itemsOf,nlI_dk,sMove,ite_self,sRaise, Int.reduceEq, decide_true, decide_false])
theorem rn1 (d : D) : den_law_raise_named_first [.int 1, d] = .err "InvalidPattern" d [] := by
  unfold den_law_raise_named_first
  (simp -implicitDefEqProofs -dsimp only [runF,endF_nx,endF_rv,endF_rn,endF_err,initS,ioOut,sSeq,sNil,sPass,sBreak,sCont,sBad,sExpr,sRet,sRetN,sIf,sSet,putR,frz,frzs,xVal,xVar,getS_0,getS_s,getR,ownD,getRs,xOp1,xOp2,fin,RD.r,aNil,aCons,xCB,xTup,xLst,truth,tOf,tAnds,tOrs,tNots,xIf,xAnd,xOr,xNot,xIsi,isTy,hAdd,hSub,hNeg,hLt,hLe,hGt,hGe,hIs,hIsNot,hIx,hLen,hInt,hAbs,hMax2,hMin2,h1L,hList,hListS,xMethL,hCountL,lcStep2,lcTurn2,lcAdd2,hTuple,vi,vb,xCall,xCallN,argsD,argD,ioIx,boIx,isOwn,nodupB,disB,xPost_ret,xPost_err,postS,putIo,frzIx,nlR,nlI,nl,nls,Rt.r,permL,tTrue,lcStep,lcTurn,lcAdd,gN,gT,gsNil,gsCons,DL.forget,back,xSeq,seqOf,xEnum,xRng1,xRng2,xRng3,xLstI,xTupI,sPar,noSlot,putRs,sTup,xMut,ownL,mApp,mIns,mPop,mPopAt,mExt,mRev,sSub,sAug,oNone,oSome,xSl,hSl,hStep,xChain,bind_ok',bind_err,bind_bad,List.set_cons_zero,List.set_cons_succ,List.foldl_cons,List.foldl_nil,List.cons_append,List.nil_append,List.replicate_succ,List.replicate_zero,List.append_nil,List.all_cons,List.all_nil,List.map_cons,List.map_nil,List.length_cons,List.length_nil,List.zip_cons_cons,List.filterMap_cons,List.filterMap_nil,List.getElem?_cons_zero,List.getElem?_cons_succ,List.contains_nil,List.contains_cons,Bool.and_true,Bool.true_and,Bool.and_false,Bool.false_and,Bool.not_true,Bool.not_false,Bool.or_true,Bool.true_or,Bool.or_false,Bool.false_or,if_true,if_false,reduceIte,reduceCtorEq,Nat.reduceSub,Nat.reduceAdd,Nat.reduceEqDiff,Option.map_some,Option.map_none,decide_true,decide_false,↓reduceIte,Bool.false_eq_true,Nat.sub_zero,Nat.sub_self,and_self,and_true,true_and,List.length_map,nls_ints,hEq_int,hNe_int,Ok_ok,OkG_some,EndQ_some,EndP_nx',EndP_rv',EndP_rn',LoopP_nx,LoopP_ct,LoopP_bk,LoopP_rt,lc_ite,xMeth,xZip,sAugS,stIx,sSub2,itemsOf,nlI_dk,sMove,ite_self,sRaise, Int.reduceEq, decide_true, decide_false])
theorem raised_1 (d : D) (b : Bool) : den_law_raised [.int 1, d, .bool b] = .err "InvalidPattern" d [] := by
  unfold den_law_raised
  have e1 := rp1 d
  have e2 := rn1 d
  cases b <;> (simp -implicitDefEqProofs -dsimp only [runF,endF_nx,endF_rv,endF_rn,endF_err,initS,ioOut,sSeq,sNil,sPass,sBreak,sCont,sBad,sExpr,sRet,sRetN,sIf,sSet,putR,frz,frzs,xVal,xVar,getS_0,getS_s,getR,ownD,getRs,xOp1,xOp2,fin,RD.r,aNil,aCons,xCB,xTup,xLst,truth,tOf,tAnds,tOrs,tNots,xIf,xAnd,xOr,xNot,xIsi,isTy,hAdd,hSub,hNeg,hLt,hLe,hGt,hGe,hIs,hIsNot,hIx,hLen,hInt,hAbs,hMax2,hMin2,h1L,hList,hListS,xMethL,hCountL,lcStep2,lcTurn2,lcAdd2,hTuple,vi,vb,xCall,xCallN,argsD,argD,ioIx,boIx,isOwn,nodupB,disB,xPost_ret,xPost_err,postS,putIo,frzIx,nlR,nlI,nl,nls,Rt.r,permL,tTrue,lcStep,lcTurn,lcAdd,gN,gT,gsNil,gsCons,DL.forget,back,xSeq,seqOf,xEnum,xRng1,xRng2,xRng3,xLstI,xTupI,sPar,noSlot,putRs,sTup,xMut,ownL,mApp,mIns,mPop,mPopAt,mExt,mRev,sSub,sAug,oNone,oSome,xSl,hSl,hStep,xChain,bind_ok',bind_err,bind_bad,List.set_cons_zero,List.set_cons_succ,List.foldl_cons,List.foldl_nil,List.cons_append,List.nil_append,List.replicate_succ,List.replicate_zero,List.append_nil,List.all_cons,List.all_nil,List.map_cons,List.map_nil,List.length_cons,List.length_nil,List.zip_cons_cons,List.filterMap_cons,List.filterMap_nil,List.getElem?_cons_zero,List.getElem?_cons_succ,List.contains_nil,List.contains_cons,Bool.and_true,Bool.true_and,Bool.and_false,Bool.false_and,Bool.not_true,Bool.not_false,Bool.or_true,Bool.true_or,Bool.or_false,Bool.false_or,if_true,if_false,reduceIte,reduceCtorEq,Nat.reduceSub,Nat.reduceAdd,Nat.reduceEqDiff,Option.map_some,Option.map_none,decide_true,decide_false,↓reduceIte,Bool.false_eq_true,Nat.sub_zero,Nat.sub_self,and_self,and_true,true_and,List.length_map,nls_ints,hEq_int,hNe_int,Ok_ok,OkG_some,EndQ_some,EndP_nx',EndP_rv',EndP_rn',LoopP_nx,LoopP_ct,LoopP_bk,LoopP_rt,lc_ite,xMeth,xZip,sAugS,stIx,sSub2,itemsOf,nlI_dk,sMove,ite_self,Int.reduceLT, decide_true, decide_false, e1, e2])
theorem rp2 (d : D) : den_law_raise_first [.int 2, d] = .err "InvalidList" d [] := by
  unfold den_law_raise_first
  (simp -implicitDefEqProofs -dsimp only [runF,endF_nx,endF_rv,endF_rn,endF_err,initS,ioOut,sSeq,sNil,sPass,sBreak,sCont,sBad,sExpr,sRet,sRetN,sIf,sSet,putR,frz,frzs,xVal,xVar,getS_0,getS_s,getR,ownD,getRs,xOp1,xOp2,fin,RD.r,aNil,aCons,xCB,xTup,xLst,truth,tOf,tAnds,tOrs,tNots,xIf,xAnd,xOr,xNot,xIsi,isTy,hAdd,hSub,hNeg,hLt,hLe,hGt,hGe,hIs,hIsNot,hIx,hLen,hInt,hAbs,hMax2,hMin2,h1L,hList,hListS,xMethL,hCountL,lcStep2,lcTurn2,lcAdd2,hTuple,vi,vb,xCall,xCallN,argsD,argD,ioIx,boIx,isOwn,nodupB,disB,xPost_ret,xPost_err,postS,putIo,frzIx,nlR,nlI,nl,nls,Rt.r,permL,tTrue,lcStep,lcTurn,lcAdd,gN,gT,gsNil,gsCons,DL.forget,back,xSeq,seqOf,xEnum,xRng1,xRng2,xRng3,xLstI,xTupI,sPar,noSlot,putRs,sTup,xMut,ownL,mApp,mIns,mPop,mPopAt,mExt,mRev,sSub,sAug,oNone,oSome,xSl,hSl,hStep,xChain,bind_ok',bind_err,bind_bad,List.set_cons_zero,List.set_cons_succ,List.foldl_cons,List.foldl_nil,List.cons_append,List.nil_append,List.replicate_succ,List.replicate_zero,List.append_nil,List.all_cons,List.all_nil,List.map_cons,List.map_nil,List.length_cons,List.length_nil,List.zip_cons_cons,List.filterMap_cons,List.filterMap_nil,List.getElem?_cons_zero,List.getElem?_cons_succ,List.contains_nil,List.contains_cons,Bool.and_true,Bool.true_and,Bool.and_false,Bool.false_and,Bool.not_true,Bool.not_false,Bool.or_true,Bool.true_or,Bool.or_false,Bool.false_or,if_true,if_false,reduceIte,reduceCtorEq,Nat.reduceSub,Nat.reduceAdd,Nat.reduceEqDiff,Option.map_some,Option.map_none,decide_true,decide_false,↓reduceIte,Bool.false_eq_true,Nat.sub_zero,Nat.sub_self,and_self,and_true,true_and,List.length_map,nls_ints,hEq_int,hNe_int,Ok_ok,OkG_some,EndQ_some,EndP_nx',EndP_rv',EndP_rn',LoopP_nx,LoopP_ct,LoopP_bk,LoopP_rt,lc_ite,xMeth,xZip,sAugS,stIx,sSub2,itemsOf,nlI_dk,sMove,ite_self,sRaise, Int.reduceEq, decide_true, decide_false])
theorem rn2 (d : D) : den_law_raise_named_first [.int 2, d] = .err "InvalidList" d [] := by
  unfold den_law_raise_named_first
  (simp -implicitDefEqProofs -dsimp only [runF,endF_nx,endF_rv,endF_rn,endF_err,initS,ioOut,sSeq,sNil,sPass,sBreak,sCont,sBad,sExpr,sRet,sRetN,sIf,sSet,putR,frz,frzs,xVal,xVar,getS_0,getS_s,getR,ownD,getRs,xOp1,xOp2,fin,RD.r,aNil,aCons,xCB,xTup,xLst,truth,tOf,tAnds,tOrs,tNots,xIf,xAnd,xOr,xNot,xIsi,isTy,hAdd,hSub,hNeg,hLt,hLe,hGt,hGe,hIs,hIsNot,hIx,hLen,hInt,hAbs,hMax2,hMin2,h1L,hList,hListS,xMethL,hCountL,lcStep2,lcTurn2,lcAdd2,hTuple,vi,vb,xCall,xCallN,argsD,argD,ioIx,boIx,isOwn,nodupB,disB,xPost_ret,xPost_err,postS,putIo,frzIx,nlR,nlI,nl,nls,Rt.r,permL,tTrue,lcStep,lcTurn,lcAdd,gN,gT,gsNil,gsCons,DL.forget,back,xSeq,seqOf,xEnum,xRng1,xRng2,xRng3,xLstI,xTupI,sPar,noSlot,putRs,sTup,xMut,ownL,mApp,mIns,mPop,mPopAt,mExt,mRev,sSub,sAug,oNone,oSome,xSl,hSl,hStep,xChain,bind_ok',bind_err,bind_bad,List.set_cons_zero,List.set_cons_succ,List.foldl_cons,List.foldl_nil,List.cons_append,List.nil_append,List.replicate_succ,List.replicate_zero,List.append_nil,List.all_cons,List.all_nil,List.map_cons,List.map_nil,List.length_cons,List.length_nil,List.zip_cons_cons,List.filterMap_cons,List.filterMap_nil,List.getElem?_cons_zero,List.getElem?_cons_succ,List.contains_nil,List.contains_cons,Bool.and_true,Bool.true_and,Bool.and_false,Bool.false_and,Bool.not_true,Bool.not_false,Bool.or_true,Bool.true_or,Bool.or_false,Bool.false_or,if_true,if_false,reduceIte,reduceCtorEq,Nat.reduceSub,Nat.reduceAdd,Nat.reduceEqDiff,Option.map_some,Option.map_none,decide_true,decide_false,↓reduceIte,Bool.false_eq_true,Nat.sub_zero,Nat.sub_self,and_self,and_true,true_and,List.length_map,nls_ints,hEq_int,hNe_int,Ok_ok,OkG_some,EndQ_some,EndP_nx',EndP_rv',EndP_rn',LoopP_nx,LoopP_ct,LoopP_bk,LoopP_rt,lc_ite,xMeth,xZip,sAugS,stIx,sSub2,itemsOf,nlI_dk,sMove,ite_self,sRaise, Int.reduceEq, decide_true, decide_false])
theorem raised_2 (d : D) (b : Bool) : den_law_raised [.int 2, d, .bool b] = .err "InvalidList" d [] := by
  unfold den_law_raised
  have e1 := rp2 d
  have e2 := rn2 d
  cases b <;> (simp -implicitDefEqProofs -dsimp only [runF,endF_nx,endF_rv,endF_rn,endF_err,initS,ioOut,sSeq,sNil,sPass,sBreak,sCont,sBad,sExpr,sRet,sRetN,sIf,sSet,putR,frz,frzs,xVal,xVar,getS_0,getS_s,getR,ownD,getRs,xOp1,xOp2,fin,RD.r,aNil,aCons,xCB,xTup,xLst,truth,tOf,tAnds,tOrs,tNots,xIf,xAnd,xOr,xNot,xIsi,isTy,hAdd,hSub,hNeg,hLt,hLe,hGt,hGe,hIs,hIsNot,hIx,hLen,hInt,hAbs,hMax2,hMin2,h1L,hList,hListS,xMethL,hCountL,lcStep2,lcTurn2,lcAdd2,hTuple,vi,vb,xCall,xCallN,argsD,argD,ioIx,boIx,isOwn,nodupB,disB,xPost_ret,xPost_err,postS,putIo,frzIx,nlR,nlI,nl,nls,Rt.r,permL,tTrue,lcStep,lcTurn,lcAdd,gN,gT,gsNil,gsCons,DL.forget,back,xSeq,seqOf,xEnum,xRng1,xRng2,xRng3,xLstI,xTupI,sPar,noSlot,putRs,sTup,xMut,ownL,mApp,mIns,mPop,mPopAt,mExt,mRev,sSub,sAug,oNone,oSome,xSl,hSl,hStep,xChain,bind_ok',bind_err,bind_bad,List.set_cons_zero,List.set_cons_succ,List.foldl_cons,List.foldl_nil,List.cons_append,List.nil_append,List.replicate_succ,List.replicate_zero,List.append_nil,List.all_cons,List.all_nil,List.map_cons,List.map_nil,List.length_cons,List.length_nil,List.zip_cons_cons,List.filterMap_cons,List.filterMap_nil,List.getElem?_cons_zero,List.getElem?_cons_succ,List.contains_nil,List.contains_cons,Bool.and_true,Bool.true_and,Bool.and_false,Bool.false_and,Bool.not_true,Bool.not_false,Bool.or_true,Bool.true_or,Bool.or_false,Bool.false_or,if_true,if_false,reduceIte,reduceCtorEq,Nat.reduceSub,Nat.reduceAdd,Nat.reduceEqDiff,Option.map_some,Option.map_none,decide_true,decide_false,↓reduceIte,Bool.false_eq_true,Nat.sub_zero,Nat.sub_self,and_self,and_true,true_and,List.length_map,nls_ints,hEq_int,hNe_int,Ok_ok,OkG_some,EndQ_some,EndP_nx',EndP_rv',EndP_rn',LoopP_nx,LoopP_ct,LoopP_bk,LoopP_rt,lc_ite,xMeth,xZip,sAugS,stIx,sSub2,itemsOf,nlI_dk,sMove,ite_self,Int.reduceLT, decide_true, decide_false, e1, e2])
theorem rp3 (d : D) : den_law_raise_first [.int 3, d] = .err "InvalidForm" d [] := by
  unfold den_law_raise_first
  (simp -implicitDefEqProofs -dsimp only [runF,endF_nx,endF_rv,endF_rn,endF_err,initS,ioOut,sSeq,sNil,sPass,sBreak,sCont,sBad,sExpr,sRet,sRetN,sIf,sSet,putR,frz,frzs,xVal,xVar,getS_0,getS_s,getR,ownD,getRs,xOp1,xOp2,fin,RD.r,aNil,aCons,xCB,xTup,xLst,truth,tOf,tAnds,tOrs,tNots,xIf,xAnd,xOr,xNot,xIsi,isTy,hAdd,hSub,hNeg,hLt,hLe,hGt,hGe,hIs,hIsNot,hIx,hLen,hInt,hAbs,hMax2,hMin2,h1L,hList,hListS,xMethL,hCountL,lcStep2,lcTurn2,lcAdd2,hTuple,vi,vb,xCall,xCallN,argsD,argD,ioIx,boIx,isOwn,nodupB,disB,xPost_ret,xPost_err,postS,putIo,frzIx,nlR,nlI,nl,nls,Rt.r,permL,tTrue,lcStep,lcTurn,lcAdd,gN,gT,gsNil,gsCons,DL.forget,back,xSeq,seqOf,xEnum,xRng1,xRng2,xRng3,xLstI,xTupI,sPar,noSlot,putRs,sTup,xMut,ownL,mApp,mIns,mPop,mPopAt,mExt,mRev,sSub,sAug,oNone,oSome,xSl,hSl,hStep,xChain,bind_ok',bind_err,bind_bad,List.set_cons_zero,List.set_cons_succ,List.foldl_cons,List.foldl_nil,List.cons_append,List.nil_append,List.replicate_succ,List.replicate_zero,List.append_nil,List.all_cons,List.all_nil,List.map_cons,List.map_nil,List.length_cons,List.length_nil,List.zip_cons_cons,List.filterMap_cons,List.filterMap_nil,List.getElem?_cons_zero,List.getElem?_cons_succ,List.contains_nil,List.contains_cons,Bool.and_true,Bool.true_and,Bool.and_false,Bool.false_and,Bool.not_true,Bool.not_false,Bool.or_true,Bool.true_or,Bool.or_false,Bool.false_or,if_true,if_false,reduceIte,reduceCtorEq,Nat.reduceSub,Nat.reduceAdd,Nat.reduceEqDiff,Option.map_some,Option.map_none,decide_true,decide_false,↓reduceIte,Bool.false_eq_true,Nat.sub_zero,Nat.sub_self,and_self,and_true,true_and,List.length_map,nls_ints,hEq_int,hNe_int,Ok_ok,OkG_some,EndQ_some,EndP_nx',EndP_rv',EndP_rn',LoopP_nx,LoopP_ct,LoopP_bk,LoopP_rt,lc_ite,xMeth,xZip,sAugS,stIx,sSub2,itemsOf,nlI_dk,sMove,ite_self,sRaise, Int.reduceEq, decide_true, decide_false])
theorem rn3 (d : D) : den_law_raise_named_first [.int 3, d] = .err "InvalidForm" d [] := by
  unfold den_law_raise_named_first
  (simp -implicitDefEqProofs -dsimp only [runF,endF_nx,endF_rv,endF_rn,endF_err,initS,ioOut,sSeq,sNil,sPass,sBreak,sCont,sBad,sExpr,sRet,sRetN,sIf,sSet,putR,frz,frzs,xVal,xVar,getS_0,getS_s,getR,ownD,getRs,xOp1,xOp2,fin,RD.r,aNil,aCons,xCB,xTup,xLst,truth,tOf,tAnds,tOrs,tNots,xIf,xAnd,xOr,xNot,xIsi,isTy,hAdd,hSub,hNeg,hLt,hLe,hGt,hGe,hIs,hIsNot,hIx,hLen,hInt,hAbs,hMax2,hMin2,h1L,hList,hListS,xMethL,hCountL,lcStep2,lcTurn2,lcAdd2,hTuple,vi,vb,xCall,xCallN,argsD,argD,ioIx,boIx,isOwn,nodupB,disB,xPost_ret,xPost_err,postS,putIo,frzIx,nlR,nlI,nl,nls,Rt.r,permL,tTrue,lcStep,lcTurn,lcAdd,gN,gT,gsNil,gsCons,DL.forget,back,xSeq,seqOf,xEnum,xRng1,xRng2,xRng3,xLstI,xTupI,sPar,noSlot,putRs,sTup,xMut,ownL,mApp,mIns,mPop,mPopAt,mExt,mRev,sSub,sAug,oNone,oSome,xSl,hSl,hStep,xChain,bind_ok',bind_err,bind_bad,List.set_cons_zero,List.set_cons_succ,List.foldl_cons,List.foldl_nil,List.cons_append,List.nil_append,List.replicate_succ,List.replicate_zero,List.append_nil,List.all_cons,List.all_nil,List.map_cons,List.map_nil,List.length_cons,List.length_nil,List.zip_cons_cons,List.filterMap_cons,List.filterMap_nil,List.getElem?_cons_zero,List.getElem?_cons_succ,List.contains_nil,List.contains_cons,Bool.and_true,Bool.true_and,Bool.and_false,Bool.false_and,Bool.not_true,Bool.not_false,Bool.or_true,Bool.true_or,Bool.or_false,Bool.false_or,if_true,if_false,reduceIte,reduceCtorEq,Nat.reduceSub,Nat.reduceAdd,Nat.reduceEqDiff,Option.map_some,Option.map_none,decide_true,decide_false,↓reduceIte,Bool.false_eq_true,Nat.sub_zero,Nat.sub_self,and_self,and_true,true_and,List.length_map,nls_ints,hEq_int,hNe_int,Ok_ok,OkG_some,EndQ_some,EndP_nx',EndP_rv',EndP_rn',LoopP_nx,LoopP_ct,LoopP_bk,LoopP_rt,lc_ite,xMeth,xZip,sAugS,stIx,sSub2,itemsOf,nlI_dk,sMove,ite_self,sRaise, Int.reduceEq, decide_true, decide_false])
theorem raised_3 (d : D) (b : Bool) : den_law_raised [.int 3, d, .bool b] = .err "InvalidForm" d [] := by
  unfold den_law_raised
  have e1 := rp3 d
  have e2 := rn3 d
  cases b <;> (simp -implicitDefEqProofs -dsimp only [runF,endF_nx,endF_rv,endF_rn,endF_err,initS,ioOut,sSeq,sNil,sPass,sBreak,sCont,sBad,sExpr,sRet,sRetN,sIf,sSet,putR,frz,frzs,xVal,xVar,getS_0,getS_s,getR,ownD,getRs,xOp1,xOp2,fin,RD.r,aNil,aCons,xCB,xTup,xLst,truth,tOf,tAnds,tOrs,tNots,xIf,xAnd,xOr,xNot,xIsi,isTy,hAdd,hSub,hNeg,hLt,hLe,hGt,hGe,hIs,hIsNot,hIx,hLen,hInt,hAbs,hMax2,hMin2,h1L,hList,hListS,xMethL,hCountL,lcStep2,lcTurn2,lcAdd2,hTuple,vi,vb,xCall,xCallN,argsD,argD,ioIx,boIx,isOwn,nodupB,disB,xPost_ret,xPost_err,postS,putIo,frzIx,nlR,nlI,nl,nls,Rt.r,permL,tTrue,lcStep,lcTurn,lcAdd,gN,gT,gsNil,gsCons,DL.forget,back,xSeq,seqOf,xEnum,xRng1,xRng2,xRng3,xLstI,xTupI,sPar,noSlot,putRs,sTup,xMut,ownL,mApp,mIns,mPop,mPopAt,mExt,mRev,sSub,sAug,oNone,oSome,xSl,hSl,hStep,xChain,bind_ok',bind_err,bind_bad,List.set_cons_zero,List.set_cons_succ,List.foldl_cons,List.foldl_nil,List.cons_append,List.nil_append,List.replicate_succ,List.replicate_zero,List.append_nil,List.all_cons,List.all_nil,List.map_cons,List.map_nil,List.length_cons,List.length_nil,List.zip_cons_cons,List.filterMap_cons,List.filterMap_nil,List.getElem?_cons_zero,List.getElem?_cons_succ,List.contains_nil,List.contains_cons,Bool.and_true,Bool.true_and,Bool.and_false,Bool.false_and,Bool.not_true,Bool.not_false,Bool.or_true,Bool.true_or,Bool.or_false,Bool.false_or,if_true,if_false,reduceIte,reduceCtorEq,Nat.reduceSub,Nat.reduceAdd,Nat.reduceEqDiff,Option.map_some,Option.map_none,decide_true,decide_false,↓reduceIte,Bool.false_eq_true,Nat.sub_zero,Nat.sub_self,and_self,and_true,true_and,List.length_map,nls_ints,hEq_int,hNe_int,Ok_ok,OkG_some,EndQ_some,EndP_nx',EndP_rv',EndP_rn',LoopP_nx,LoopP_ct,LoopP_bk,LoopP_rt,lc_ite,xMeth,xZip,sAugS,stIx,sSub2,itemsOf,nlI_dk,sMove,ite_self,Int.reduceLT, decide_true, decide_false, e1, e2])
theorem rp4 (d : D) : den_law_raise_first [.int 4, d] = .err "InvalidLetter" d [] := by
  unfold den_law_raise_first
  (simp -implicitDefEqProofs -dsimp only [runF,endF_nx,endF_rv,endF_rn,endF_err,initS,ioOut,sSeq,sNil,sPass,sBreak,sCont,sBad,sExpr,sRet,sRetN,sIf,sSet,putR,frz,frzs,xVal,xVar,getS_0,getS_s,getR,ownD,getRs,xOp1,xOp2,fin,RD.r,aNil,aCons,xCB,xTup,xLst,truth,tOf,tAnds,tOrs,tNots,xIf,xAnd,xOr,xNot,xIsi,isTy,hAdd,hSub,hNeg,hLt,hLe,hGt,hGe,hIs,hIsNot,hIx,hLen,hInt,hAbs,hMax2,hMin2,h1L,hList,hListS,xMethL,hCountL,lcStep2,lcTurn2,lcAdd2,hTuple,vi,vb,xCall,xCallN,argsD,argD,ioIx,boIx,isOwn,nodupB,disB,xPost_ret,xPost_err,postS,putIo,frzIx,nlR,nlI,nl,nls,Rt.r,permL,tTrue,lcStep,lcTurn,lcAdd,gN,gT,gsNil,gsCons,DL.forget,back,xSeq,seqOf,xEnum,xRng1,xRng2,xRng3,xLstI,xTupI,sPar,noSlot,putRs,sTup,xMut,ownL,mApp,mIns,mPop,mPopAt,mExt,mRev,sSub,sAug,oNone,oSome,xSl,hSl,hStep,xChain,bind_ok',bind_err,bind_bad,List.set_cons_zero,List.set_cons_succ,List.foldl_cons,List.foldl_nil,List.cons_append,List.nil_append,List.replicate_succ,List.replicate_zero,List.append_nil,List.all_cons,List.all_nil,List.map_cons,List.map_nil,List.length_cons,List.length_nil,List.zip_cons_cons,List.filterMap_cons,List.filterMap_nil,List.getElem?_cons_zero,List.getElem?_cons_succ,List.contains_nil,List.contains_cons,Bool.and_true,Bool.true_and,Bool.and_false,Bool.false_and,Bool.not_true,Bool.not_false,Bool.or_true,Bool.true_or,Bool.or_false,Bool.false_or,if_true,if_false,reduceIte,reduceCtorEq,Nat.reduceSub,Nat.reduceAdd,Nat.reduceEqDiff,Option.map_some,Option.map_none,decide_true,decide_false,↓reduceIte,Bool.false_eq_true,Nat.sub_zero,Nat.sub_self,and_self,and_true,true_and,List.length_map,nls_ints,hEq_int,hNe_int,Ok_ok,OkG_some,EndQ_some,EndP_nx',EndP_rv',EndP_rn',LoopP_nx,LoopP_ct,LoopP_bk,LoopP_rt,lc_ite,xMeth,xZip,sAugS,stIx,sSub2,itemsOf,nlI_dk,sMove,ite_self,sRaise, Int.reduceEq, decide_true, decide_false])
theorem rn4 (d : D) : den_law_raise_named_first [.int 4, d] = .err "InvalidLetter" d [] := by
  unfold den_law_raise_named_first
  (simp -implicitDefEqProofs -dsimp only [runF,endF_nx,endF_rv,endF_rn,endF_err,initS,ioOut,sSeq,sNil,sPass,sBreak,sCont,sBad,sExpr,sRet,sRetN,sIf,sSet,putR,frz,frzs,xVal,xVar,getS_0,getS_s,getR,ownD,getRs,xOp1,xOp2,fin,RD.r,aNil,aCons,xCB,xTup,xLst,truth,tOf,tAnds,tOrs,tNots,xIf,xAnd,xOr,xNot,xIsi,isTy,hAdd,hSub,hNeg,hLt,hLe,hGt,hGe,hIs,hIsNot,hIx,hLen,hInt,hAbs,hMax2,hMin2,h1L,hList,hListS,xMethL,hCountL,lcStep2,lcTurn2,lcAdd2,hTuple,vi,vb,xCall,xCallN,argsD,argD,ioIx,boIx,isOwn,nodupB,disB,xPost_ret,xPost_err,postS,putIo,frzIx,nlR,nlI,nl,nls,Rt.r,permL,tTrue,lcStep,lcTurn,lcAdd,gN,gT,gsNil,gsCons,DL.forget,back,xSeq,seqOf,xEnum,xRng1,xRng2,xRng3,xLstI,xTupI,sPar,noSlot,putRs,sTup,xMut,ownL,mApp,mIns,mPop,mPopAt,mExt,mRev,sSub,sAug,oNone,oSome,xSl,hSl,hStep,xChain,bind_ok',bind_err,bind_bad,List.set_cons_zero,List.set_cons_succ,List.foldl_cons,List.foldl_nil,List.cons_append,List.nil_append,List.replicate_succ,List.replicate_zero,List.append_nil,List.all_cons,List.all_nil,List.map_cons,List.map_nil,List.length_cons,List.length_nil,List.zip_cons_cons,List.filterMap_cons,List.filterMap_nil,List.getElem?_cons_zero,List.getElem?_cons_succ,List.contains_nil,List.contains_cons,Bool.and_true,Bool.true_and,Bool.and_false,Bool.false_and,Bool.not_true,Bool.not_false,Bool.or_true,Bool.true_or,Bool.or_false,Bool.false_or,if_true,if_false,reduceIte,reduceCtorEq,Nat.reduceSub,Nat.reduceAdd,Nat.reduceEqDiff,Option.map_some,Option.map_none,decide_true,decide_false,↓reduceIte,Bool.false_eq_true,Nat.sub_zero,Nat.sub_self,and_self,and_true,true_and,List.length_map,nls_ints,hEq_int,hNe_int,Ok_ok,OkG_some,EndQ_some,EndP_nx',EndP_rv',EndP_rn',LoopP_nx,LoopP_ct,LoopP_bk,LoopP_rt,lc_ite,xMeth,xZip,sAugS,stIx,sSub2,itemsOf,nlI_dk,sMove,ite_self,sRaise, Int.reduceEq, decide_true, decide_false])
theorem raised_4 (d : D) (b : Bool) : den_law_raised [.int 4, d, .bool b] = .err "InvalidLetter" d [] := by
  unfold den_law_raised
  have e1 := rp4 d
  have e2 := rn4 d
  cases b <;> (simp -implicitDefEqProofs -dsimp only [runF,endF_nx,endF_rv,endF_rn,endF_err,initS,ioOut,sSeq,sNil,sPass,sBreak,sCont,sBad,sExpr,sRet,sRetN,sIf,sSet,putR,frz,frzs,xVal,xVar,getS_0,getS_s,getR,ownD,getRs,xOp1,xOp2,fin,RD.r,aNil,aCons,xCB,xTup,xLst,truth,tOf,tAnds,tOrs,tNots,xIf,xAnd,xOr,xNot,xIsi,isTy,hAdd,hSub,hNeg,hLt,hLe,hGt,hGe,hIs,hIsNot,hIx,hLen,hInt,hAbs,hMax2,hMin2,h1L,hList,hListS,xMethL,hCountL,lcStep2,lcTurn2,lcAdd2,hTuple,vi,vb,xCall,xCallN,argsD,argD,ioIx,boIx,isOwn,nodupB,disB,xPost_ret,xPost_err,postS,putIo,frzIx,nlR,nlI,nl,nls,Rt.r,permL,tTrue,lcStep,lcTurn,lcAdd,gN,gT,gsNil,gsCons,DL.forget,back,xSeq,seqOf,xEnum,xRng1,xRng2,xRng3,xLstI,xTupI,sPar,noSlot,putRs,sTup,xMut,ownL,mApp,mIns,mPop,mPopAt,mExt,mRev,sSub,sAug,oNone,oSome,xSl,hSl,hStep,xChain,bind_ok',bind_err,bind_bad,List.set_cons_zero,List.set_cons_succ,List.foldl_cons,List.foldl_nil,List.cons_append,List.nil_append,List.replicate_succ,List.replicate_zero,List.append_nil,List.all_cons,List.all_nil,List.map_cons,List.map_nil,List.length_cons,List.length_nil,List.zip_cons_cons,List.filterMap_cons,List.filterMap_nil,List.getElem?_cons_zero,List.getElem?_cons_succ,List.contains_nil,List.contains_cons,Bool.and_true,Bool.true_and,Bool.and_false,Bool.false_and,Bool.not_true,Bool.not_false,Bool.or_true,Bool.true_or,Bool.or_false,Bool.false_or,if_true,if_false,reduceIte,reduceCtorEq,Nat.reduceSub,Nat.reduceAdd,Nat.reduceEqDiff,Option.map_some,Option.map_none,decide_true,decide_false,↓reduceIte,Bool.false_eq_true,Nat.sub_zero,Nat.sub_self,and_self,and_true,true_and,List.length_map,nls_ints,hEq_int,hNe_int,Ok_ok,OkG_some,EndQ_some,EndP_nx',EndP_rv',EndP_rn',LoopP_nx,LoopP_ct,LoopP_bk,LoopP_rt,lc_ite,xMeth,xZip,sAugS,stIx,sSub2,itemsOf,nlI_dk,sMove,ite_self,Int.reduceLT, decide_true, decide_false, e1, e2])
theorem rp5 (d : D) : den_law_raise_first [.int 5, d] = .err "InvalidWord" d [] := by
  unfold den_law_raise_first
  (simp -implicitDefEqProofs -dsimp only [runF,endF_nx,endF_rv,endF_rn,endF_err,initS,ioOut,sSeq,sNil,sPass,sBreak,sCont,sBad,sExpr,sRet,sRetN,sIf,sSet,putR,frz,frzs,xVal,xVar,getS_0,getS_s,getR,ownD,getRs,xOp1,xOp2,fin,RD.r,aNil,aCons,xCB,xTup,xLst,truth,tOf,tAnds,tOrs,tNots,xIf,xAnd,xOr,xNot,xIsi,isTy,hAdd,hSub,hNeg,hLt,hLe,hGt,hGe,hIs,hIsNot,hIx,hLen,hInt,hAbs,hMax2,hMin2,h1L,hList,hListS,xMethL,hCountL,lcStep2,lcTurn2,lcAdd2,hTuple,vi,vb,xCall,xCallN,argsD,argD,ioIx,boIx,isOwn,nodupB,disB,xPost_ret,xPost_err,postS,putIo,frzIx,nlR,nlI,nl,nls,Rt.r,permL,tTrue,lcStep,lcTurn,lcAdd,gN,gT,gsNil,gsCons,DL.forget,back,xSeq,seqOf,xEnum,xRng1,xRng2,xRng3,xLstI,xTupI,sPar,noSlot,putRs,sTup,xMut,ownL,mApp,mIns,mPop,mPopAt,mExt,mRev,sSub,sAug,oNone,oSome,xSl,hSl,hStep,xChain,bind_ok',bind_err,bind_bad,List.set_cons_zero,List.set_cons_succ,List.foldl_cons,List.foldl_nil,List.cons_append,List.nil_append,List.replicate_succ,List.replicate_zero,List.append_nil,List.all_cons,List.all_nil,List.map_cons,List.map_nil,List.length_cons,List.length_nil,List.zip_cons_cons,List.filterMap_cons,List.filterMap_nil,List.getElem?_cons_zero,List.getElem?_cons_succ,List.contains_nil,List.contains_cons,Bool.and_true,Bool.true_and,Bool.and_false,Bool.false_and,Bool.not_true,Bool.not_false,Bool.or_true,Bool.true_or,Bool.or_false,Bool.false_or,if_true,if_false,reduceIte,reduceCtorEq,Nat.reduceSub,Nat.reduceAdd,Nat.reduceEqDiff,Option.map_some,Option.map_none,decide_true,decide_false,↓reduceIte,Bool.false_eq_true,Nat.sub_zero,Nat.sub_self,and_self,and_true,true_and,List.length_map,nls_ints,hEq_int,hNe_int,Ok_ok,OkG_some,EndQ_some,EndP_nx',EndP_rv',EndP_rn',LoopP_nx,LoopP_ct,LoopP_bk,LoopP_rt,lc_ite,xMeth,xZip,sAugS,stIx,sSub2,itemsOf,nlI_dk,sMove,ite_self,sRaise, Int.reduceEq, decide_true, decide_false])
theorem rn5 (d : D) : den_law_raise_named_first [.int 5, d] = .err "InvalidWord" d [] := by
  unfold den_law_raise_named_first
  (simp -implicitDefEqProofs -dsimp only [runF,endF_nx,endF_rv,endF_rn,endF_err,initS,ioOut,sSeq,sNil,sPass,sBreak,sCont,sBad,sExpr,sRet,sRetN,sIf,sSet,putR,frz,frzs,xVal,xVar,getS_0,getS_s,getR,ownD,getRs,xOp1,xOp2,fin,RD.r,aNil,aCons,xCB,xTup,xLst,truth,tOf,tAnds,tOrs,tNots,xIf,xAnd,xOr,xNot,xIsi,isTy,hAdd,hSub,hNeg,hLt,hLe,hGt,hGe,hIs,hIsNot,hIx,hLen,hInt,hAbs,hMax2,hMin2,h1L,hList,hListS,xMethL,hCountL,lcStep2,lcTurn2,lcAdd2,hTuple,vi,vb,xCall,xCallN,argsD,argD,ioIx,boIx,isOwn,nodupB,disB,xPost_ret,xPost_err,postS,putIo,frzIx,nlR,nlI,nl,nls,Rt.r,permL,tTrue,lcStep,lcTurn,lcAdd,gN,gT,gsNil,gsCons,DL.forget,back,xSeq,seqOf,xEnum,xRng1,xRng2,xRng3,xLstI,xTupI,sPar,noSlot,putRs,sTup,xMut,ownL,mApp,mIns,mPop,mPopAt,mExt,mRev,sSub,sAug,oNone,oSome,xSl,hSl,hStep,xChain,bind_ok',bind_err,bind_bad,List.set_cons_zero,List.set_cons_succ,List.foldl_cons,List.foldl_nil,List.cons_append,List.nil_append,List.replicate_succ,List.replicate_zero,List.append_nil,List.all_cons,List.all_nil,List.map_cons,List.map_nil,List.length_cons,List.length_nil,List.zip_cons_cons,List.filterMap_cons,List.filterMap_nil,List.getElem?_cons_zero,List.getElem?_cons_succ,List.contains_nil,List.contains_cons,Bool.and_true,Bool.true_and,Bool.and_false,Bool.false_and,Bool.not_true,Bool.not_false,Bool.or_true,Bool.true_or,Bool.or_false,Bool.false_or,if_true,if_false,reduceIte,reduceCtorEq,Nat.reduceSub,Nat.reduceAdd,Nat.reduceEqDiff,Option.map_some,Option.map_none,decide_true,decide_false,↓reduceIte,Bool.false_eq_true,Nat.sub_zero,Nat.sub_self,and_self,and_true,true_and,List.length_map,nls_ints,hEq_int,hNe_int,Ok_ok,OkG_some,EndQ_some,EndP_nx',EndP_rv',EndP_rn',LoopP_nx,LoopP_ct,LoopP_bk,LoopP_rt,lc_ite,xMeth,xZip,sAugS,stIx,sSub2,itemsOf,nlI_dk,sMove,ite_self,sRaise, Int.reduceEq, decide_true, decide_false])
theorem raised_5 (d : D) (b : Bool) : den_law_raised [.int 5, d, .bool b] = .err "InvalidWord" d [] := by
  unfold den_law_raised
  have e1 := rp5 d
  have e2 := rn5 d
  cases b <;> (simp -implicitDefEqProofs -dsimp only [runF,endF_nx,endF_rv,endF_rn,endF_err,initS,ioOut,sSeq,sNil,sPass,sBreak,sCont,sBad,sExpr,sRet,sRetN,sIf,sSet,putR,frz,frzs,xVal,xVar,getS_0,getS_s,getR,ownD,getRs,xOp1,xOp2,fin,RD.r,aNil,aCons,xCB,xTup,xLst,truth,tOf,tAnds,tOrs,tNots,xIf,xAnd,xOr,xNot,xIsi,isTy,hAdd,hSub,hNeg,hLt,hLe,hGt,hGe,hIs,hIsNot,hIx,hLen,hInt,hAbs,hMax2,hMin2,h1L,hList,hListS,xMethL,hCountL,lcStep2,lcTurn2,lcAdd2,hTuple,vi,vb,xCall,xCallN,argsD,argD,ioIx,boIx,isOwn,nodupB,disB,xPost_ret,xPost_err,postS,putIo,frzIx,nlR,nlI,nl,nls,Rt.r,permL,tTrue,lcStep,lcTurn,lcAdd,gN,gT,gsNil,gsCons,DL.forget,back,xSeq,seqOf,xEnum,xRng1,xRng2,xRng3,xLstI,xTupI,sPar,noSlot,putRs,sTup,xMut,ownL,mApp,mIns,mPop,mPopAt,mExt,mRev,sSub,sAug,oNone,oSome,xSl,hSl,hStep,xChain,bind_ok',bind_err,bind_bad,List.set_cons_zero,List.set_cons_succ,List.foldl_cons,List.foldl_nil,List.cons_append,List.nil_append,List.replicate_succ,List.replicate_zero,List.append_nil,List.all_cons,List.all_nil,List.map_cons,List.map_nil,List.length_cons,List.length_nil,List.zip_cons_cons,List.filterMap_cons,List.filterMap_nil,List.getElem?_cons_zero,List.getElem?_cons_succ,List.contains_nil,List.contains_cons,Bool.and_true,Bool.true_and,Bool.and_false,Bool.false_and,Bool.not_true,Bool.not_false,Bool.or_true,Bool.true_or,Bool.or_false,Bool.false_or,if_true,if_false,reduceIte,reduceCtorEq,Nat.reduceSub,Nat.reduceAdd,Nat.reduceEqDiff,Option.map_some,Option.map_none,decide_true,decide_false,↓reduceIte,Bool.false_eq_true,Nat.sub_zero,Nat.sub_self,and_self,and_true,true_and,List.length_map,nls_ints,hEq_int,hNe_int,Ok_ok,OkG_some,EndQ_some,EndP_nx',EndP_rv',EndP_rn',LoopP_nx,LoopP_ct,LoopP_bk,LoopP_rt,lc_ite,xMeth,xZip,sAugS,stIx,sSub2,itemsOf,nlI_dk,sMove,ite_self,Int.reduceLT, decide_true, decide_false, e1, e2])
theorem rp6 (d : D) : den_law_raise_first [.int 6, d] = .err "InvalidKind" d [] := by
  unfold den_law_raise_first
  (simp -implicitDefEqProofs -dsimp only [runF,endF_nx,endF_rv,endF_rn,endF_err,initS,ioOut,sSeq,sNil,sPass,sBreak,sCont,sBad,sExpr,sRet,sRetN,sIf,sSet,putR,frz,frzs,xVal,xVar,getS_0,getS_s,getR,ownD,getRs,xOp1,xOp2,fin,RD.r,aNil,aCons,xCB,xTup,xLst,truth,tOf,tAnds,tOrs,tNots,xIf,xAnd,xOr,xNot,xIsi,isTy,hAdd,hSub,hNeg,hLt,hLe,hGt,hGe,hIs,hIsNot,hIx,hLen,hInt,hAbs,hMax2,hMin2,h1L,hList,hListS,xMethL,hCountL,lcStep2,lcTurn2,lcAdd2,hTuple,vi,vb,xCall,xCallN,argsD,argD,ioIx,boIx,isOwn,nodupB,disB,xPost_ret,xPost_err,postS,putIo,frzIx,nlR,nlI,nl,nls,Rt.r,permL,tTrue,lcStep,lcTurn,lcAdd,gN,gT,gsNil,gsCons,DL.forget,back,xSeq,seqOf,xEnum,xRng1,xRng2,xRng3,xLstI,xTupI,sPar,noSlot,putRs,sTup,xMut,ownL,mApp,mIns,mPop,mPopAt,mExt,mRev,sSub,sAug,oNone,oSome,xSl,hSl,hStep,xChain,bind_ok',bind_err,bind_bad,List.set_cons_zero,List.set_cons_succ,List.foldl_cons,List.foldl_nil,List.cons_append,List.nil_append,List.replicate_succ,List.replicate_zero,List.append_nil,List.all_cons,List.all_nil,List.map_cons,List.map_nil,List.length_cons,List.length_nil,List.zip_cons_cons,List.filterMap_cons,List.filterMap_nil,List.getElem?_cons_zero,List.getElem?_cons_succ,List.contains_nil,List.contains_cons,Bool.and_true,Bool.true_and,Bool.and_false,Bool.false_and,Bool.not_true,Bool.not_false,Bool.or_true,Bool.true_or,Bool.or_false,Bool.false_or,if_true,if_false,reduceIte,reduceCtorEq,Nat.reduceSub,Nat.reduceAdd,Nat.reduceEqDiff,Option.map_some,Option.map_none,decide_true,decide_false,↓reduceIte,Bool.false_eq_true,Nat.sub_zero,Nat.sub_self,and_self,and_true,true_and,List.length_map,nls_ints,hEq_int,hNe_int,Ok_ok,OkG_some,EndQ_some,EndP_nx',EndP_rv',EndP_rn',LoopP_nx,LoopP_ct,LoopP_bk,LoopP_rt,lc_ite,xMeth,xZip,sAugS,stIx,sSub2,itemsOf,nlI_dk,sMove,ite_self,sRaise, Int.reduceEq, decide_true, decide_false])
theorem rn6 (d : D) : den_law_raise_named_first [.int 6, d] = .err "InvalidKind" d [] := by
  unfold den_law_raise_named_first
  (simp -implicitDefEqProofs -dsimp only [runF,endF_nx,endF_rv,endF_rn,endF_err,initS,ioOut,sSeq,sNil,sPass,sBreak,sCont,sBad,sExpr,sRet,sRetN,sIf,sSet,putR,frz,frzs,xVal,xVar,getS_0,getS_s,getR,ownD,getRs,xOp1,xOp2,fin,RD.r,aNil,aCons,xCB,xTup,xLst,truth,tOf,tAnds,tOrs,tNots,xIf,xAnd,xOr,xNot,xIsi,isTy,hAdd,hSub,hNeg,hLt,hLe,hGt,hGe,hIs,hIsNot,hIx,hLen,hInt,hAbs,hMax2,hMin2,h1L,hList,hListS,xMethL,hCountL,lcStep2,lcTurn2,lcAdd2,hTuple,vi,vb,xCall,xCallN,argsD,argD,ioIx,boIx,isOwn,nodupB,disB,xPost_ret,xPost_err,postS,putIo,frzIx,nlR,nlI,nl,nls,Rt.r,permL,tTrue,lcStep,lcTurn,lcAdd,gN,gT,gsNil,gsCons,DL.forget,back,xSeq,seqOf,xEnum,xRng1,xRng2,xRng3,xLstI,xTupI,sPar,noSlot,putRs,sTup,xMut,ownL,mApp,mIns,mPop,mPopAt,mExt,mRev,sSub,sAug,oNone,oSome,xSl,hSl,hStep,xChain,bind_ok',bind_err,bind_bad,List.set_cons_zero,List.set_cons_succ,List.foldl_cons,List.foldl_nil,List.cons_append,List.nil_append,List.replicate_succ,List.replicate_zero,List.append_nil,List.all_cons,List.all_nil,List.map_cons,List.map_nil,List.length_cons,List.length_nil,List.zip_cons_cons,List.filterMap_cons,List.filterMap_nil,List.getElem?_cons_zero,List.getElem?_cons_succ,List.contains_nil,List.contains_cons,Bool.and_true,Bool.true_and,Bool.and_false,Bool.false_and,Bool.not_true,Bool.not_false,Bool.or_true,Bool.true_or,Bool.or_false,Bool.false_or,if_true,if_false,reduceIte,reduceCtorEq,Nat.reduceSub,Nat.reduceAdd,Nat.reduceEqDiff,Option.map_some,Option.map_none,decide_true,decide_false,↓reduceIte,Bool.false_eq_true,Nat.sub_zero,Nat.sub_self,and_self,and_true,true_and,List.length_map,nls_ints,hEq_int,hNe_int,Ok_ok,OkG_some,EndQ_some,EndP_nx',EndP_rv',EndP_rn',LoopP_nx,LoopP_ct,LoopP_bk,LoopP_rt,lc_ite,xMeth,xZip,sAugS,stIx,sSub2,itemsOf,nlI_dk,sMove,ite_self,sRaise, Int.reduceEq, decide_true, decide_false])
theorem raised_6 (d : D) (b : Bool) : den_law_raised [.int 6, d, .bool b] = .err "InvalidKind" d [] := by
  unfold den_law_raised
  have e1 := rp6 d
  have e2 := rn6 d
  cases b <;> (simp -implicitDefEqProofs -dsimp only [runF,endF_nx,endF_rv,endF_rn,endF_err,initS,ioOut,sSeq,sNil,sPass,sBreak,sCont,sBad,sExpr,sRet,sRetN,sIf,sSet,putR,frz,frzs,xVal,xVar,getS_0,getS_s,getR,ownD,getRs,xOp1,xOp2,fin,RD.r,aNil,aCons,xCB,xTup,xLst,truth,tOf,tAnds,tOrs,tNots,xIf,xAnd,xOr,xNot,xIsi,isTy,hAdd,hSub,hNeg,hLt,hLe,hGt,hGe,hIs,hIsNot,hIx,hLen,hInt,hAbs,hMax2,hMin2,h1L,hList,hListS,xMethL,hCountL,lcStep2,lcTurn2,lcAdd2,hTuple,vi,vb,xCall,xCallN,argsD,argD,ioIx,boIx,isOwn,nodupB,disB,xPost_ret,xPost_err,postS,putIo,frzIx,nlR,nlI,nl,nls,Rt.r,permL,tTrue,lcStep,lcTurn,lcAdd,gN,gT,gsNil,gsCons,DL.forget,back,xSeq,seqOf,xEnum,xRng1,xRng2,xRng3,xLstI,xTupI,sPar,noSlot,putRs,sTup,xMut,ownL,mApp,mIns,mPop,mPopAt,mExt,mRev,sSub,sAug,oNone,oSome,xSl,hSl,hStep,xChain,bind_ok',bind_err,bind_bad,List.set_cons_zero,List.set_cons_succ,List.foldl_cons,List.foldl_nil,List.cons_append,List.nil_append,List.replicate_succ,List.replicate_zero,List.append_nil,List.all_cons,List.all_nil,List.map_cons,List.map_nil,List.length_cons,List.length_nil,List.zip_cons_cons,List.filterMap_cons,List.filterMap_nil,List.getElem?_cons_zero,List.getElem?_cons_succ,List.contains_nil,List.contains_cons,Bool.and_true,Bool.true_and,Bool.and_false,Bool.false_and,Bool.not_true,Bool.not_false,Bool.or_true,Bool.true_or,Bool.or_false,Bool.false_or,if_true,if_false,reduceIte,reduceCtorEq,Nat.reduceSub,Nat.reduceAdd,Nat.reduceEqDiff,Option.map_some,Option.map_none,decide_true,decide_false,↓reduceIte,Bool.false_eq_true,Nat.sub_zero,Nat.sub_self,and_self,and_true,true_and,List.length_map,nls_ints,hEq_int,hNe_int,Ok_ok,OkG_some,EndQ_some,EndP_nx',EndP_rv',EndP_rn',LoopP_nx,LoopP_ct,LoopP_bk,LoopP_rt,lc_ite,xMeth,xZip,sAugS,stIx,sSub2,itemsOf,nlI_dk,sMove,ite_self,Int.reduceLT, decide_true, decide_false, e1, e2])
theorem rp7 (d : D) : den_law_raise_first [.int 7, d] = .err "InvalidNumber" d [] := by
  unfold den_law_raise_first
  (simp -implicitDefEqProofs -dsimp only [runF,endF_nx,endF_rv,endF_rn,endF_err,initS,ioOut,sSeq,sNil,sPass,sBreak,sCont,sBad,sExpr,sRet,sRetN,sIf,sSet,putR,frz,frzs,xVal,xVar,getS_0,getS_s,getR,ownD,getRs,xOp1,xOp2,fin,RD.r,aNil,aCons,xCB,xTup,xLst,truth,tOf,tAnds,tOrs,tNots,xIf,xAnd,xOr,xNot,xIsi,isTy,hAdd,hSub,hNeg,hLt,hLe,hGt,hGe,hIs,hIsNot,hIx,hLen,hInt,hAbs,hMax2,hMin2,h1L,hList,hListS,xMethL,hCountL,lcStep2,lcTurn2,lcAdd2,hTuple,vi,vb,xCall,xCallN,argsD,argD,ioIx,boIx,isOwn,nodupB,disB,xPost_ret,xPost_err,postS,putIo,frzIx,nlR,nlI,nl,nls,Rt.r,permL,tTrue,lcStep,lcTurn,lcAdd,gN,gT,gsNil,gsCons,DL.forget,back,xSeq,seqOf,xEnum,xRng1,xRng2,xRng3,xLstI,xTupI,sPar,noSlot,putRs,sTup,xMut,ownL,mApp,mIns,mPop,mPopAt,mExt,mRev,sSub,sAug,oNone,oSome,xSl,hSl,hStep,xChain,bind_ok',bind_err,bind_bad,List.set_cons_zero,List.set_cons_succ,List.foldl_cons,List.foldl_nil,List.cons_append,List.nil_append,List.replicate_succ,List.replicate_zero,List.append_nil,List.all_cons,List.all_nil,List.map_cons,List.map_nil,List.length_cons,List.length_nil,List.zip_cons_cons,List.filterMap_cons,List.filterMap_nil,List.getElem?_cons_zero,List.getElem?_cons_succ,List.contains_nil,List.contains_cons,Bool.and_true,Bool.true_and,Bool.and_false,Bool.false_and,Bool.not_true,Bool.not_false,Bool.or_true,Bool.true_or,Bool.or_false,Bool.false_or,if_true,if_false,reduceIte,reduceCtorEq,Nat.reduceSub,Nat.reduceAdd,Nat.reduceEqDiff,Option.map_some,Option.map_none,decide_true,decide_false,↓reduceIte,Bool.false_eq_true,Nat.sub_zero,Nat.sub_self,and_self,and_true,true_and,List.length_map,nls_ints,hEq_int,hNe_int,Ok_ok,OkG_some,EndQ_some,EndP_nx',EndP_rv',EndP_rn',LoopP_nx,LoopP_ct,LoopP_bk,LoopP_rt,lc_ite,xMeth,xZip,sAugS,stIx,sSub2,itemsOf,nlI_dk,sMove,ite_self,sRaise, Int.reduceEq, decide_true, decide_false])
theorem rn7 (d : D) : den_law_raise_named_first [.int 7, d] = .err "InvalidNumber" d [] := by
  unfold den_law_raise_named_first
  (simp -implicitDefEqProofs -dsimp only [runF,endF_nx,endF_rv,endF_rn,endF_err,initS,ioOut,sSeq,sNil,sPass,sBreak,sCont,sBad,sExpr,sRet,sRetN,sIf,sSet,putR,frz,frzs,xVal,xVar,getS_0,getS_s,getR,ownD,getRs,xOp1,xOp2,fin,RD.r,aNil,aCons,xCB,xTup,xLst,truth,tOf,tAnds,tOrs,tNots,xIf,xAnd,xOr,xNot,xIsi,isTy,hAdd,hSub,hNeg,hLt,hLe,hGt,hGe,hIs,hIsNot,hIx,hLen,hInt,hAbs,hMax2,hMin2,h1L,hList,hListS,xMethL,hCountL,lcStep2,lcTurn2,lcAdd2,hTuple,vi,vb,xCall,xCallN,argsD,argD,ioIx,boIx,isOwn,nodupB,disB,xPost_ret,xPost_err,postS,putIo,frzIx,nlR,nlI,nl,nls,Rt.r,permL,tTrue,lcStep,lcTurn,lcAdd,gN,gT,gsNil,gsCons,DL.forget,back,xSeq,seqOf,xEnum,xRng1,xRng2,xRng3,xLstI,xTupI,sPar,noSlot,putRs,sTup,xMut,ownL,mApp,mIns,mPop,mPopAt,mExt,mRev,sSub,sAug,oNone,oSome,xSl,hSl,hStep,xChain,bind_ok',bind_err,bind_bad,List.set_cons_zero,List.set_cons_succ,List.foldl_cons,List.foldl_nil,List.cons_append,List.nil_append,List.replicate_succ,List.replicate_zero,List.append_nil,List.all_cons,List.all_nil,List.map_cons,List.map_nil,List.length_cons,List.length_nil,List.zip_cons_cons,List.filterMap_cons,List.filterMap_nil,List.getElem?_cons_zero,List.getElem?_cons_succ,List.contains_nil,List.contains_cons,Bool.and_true,Bool.true_and,Bool.and_false,Bool.false_and,Bool.not_true,Bool.not_false,Bool.or_true,Bool.true_or,Bool.or_false,Bool.false_or,if_true,if_false,reduceIte,reduceCtorEq,Nat.reduceSub,Nat.reduceAdd,Nat.reduceEqDiff,Option.map_some,Option.map_none,decide_true,decide_false,↓reduceIte,Bool.false_eq_true,Nat.sub_zero,Nat.sub_self,and_self,and_true,true_and,List.length_map,nls_ints,hEq_int,hNe_int,Ok_ok,OkG_some,EndQ_some,EndP_nx',EndP_rv',EndP_rn',LoopP_nx,LoopP_ct,LoopP_bk,LoopP_rt,lc_ite,xMeth,xZip,sAugS,stIx,sSub2,itemsOf,nlI_dk,sMove,ite_self,sRaise, Int.reduceEq, decide_true, decide_false])
theorem raised_7 (d : D) (b : Bool) : den_law_raised [.int 7, d, .bool b] = .err "InvalidNumber" d [] := by
  unfold den_law_raised
  have e1 := rp7 d
  have e2 := rn7 d
  cases b <;> (simp -implicitDefEqProofs -dsimp only [runF,endF_nx,endF_rv,endF_rn,endF_err,initS,ioOut,sSeq,sNil,sPass,sBreak,sCont,sBad,sExpr,sRet,sRetN,sIf,sSet,putR,frz,frzs,xVal,xVar,getS_0,getS_s,getR,ownD,getRs,xOp1,xOp2,fin,RD.r,aNil,aCons,xCB,xTup,xLst,truth,tOf,tAnds,tOrs,tNots,xIf,xAnd,xOr,xNot,xIsi,isTy,hAdd,hSub,hNeg,hLt,hLe,hGt,hGe,hIs,hIsNot,hIx,hLen,hInt,hAbs,hMax2,hMin2,h1L,hList,hListS,xMethL,hCountL,lcStep2,lcTurn2,lcAdd2,hTuple,vi,vb,xCall,xCallN,argsD,argD,ioIx,boIx,isOwn,nodupB,disB,xPost_ret,xPost_err,postS,putIo,frzIx,nlR,nlI,nl,nls,Rt.r,permL,tTrue,lcStep,lcTurn,lcAdd,gN,gT,gsNil,gsCons,DL.forget,back,xSeq,seqOf,xEnum,xRng1,xRng2,xRng3,xLstI,xTupI,sPar,noSlot,putRs,sTup,xMut,ownL,mApp,mIns,mPop,mPopAt,mExt,mRev,sSub,sAug,oNone,oSome,xSl,hSl,hStep,xChain,bind_ok',bind_err,bind_bad,List.set_cons_zero,List.set_cons_succ,List.foldl_cons,List.foldl_nil,List.cons_append,List.nil_append,List.replicate_succ,List.replicate_zero,List.append_nil,List.all_cons,List.all_nil,List.map_cons,List.map_nil,List.length_cons,List.length_nil,List.zip_cons_cons,List.filterMap_cons,List.filterMap_nil,List.getElem?_cons_zero,List.getElem?_cons_succ,List.contains_nil,List.contains_cons,Bool.and_true,Bool.true_and,Bool.and_false,Bool.false_and,Bool.not_true,Bool.not_false,Bool.or_true,Bool.true_or,Bool.or_false,Bool.false_or,if_true,if_false,reduceIte,reduceCtorEq,Nat.reduceSub,Nat.reduceAdd,Nat.reduceEqDiff,Option.map_some,Option.map_none,decide_true,decide_false,↓reduceIte,Bool.false_eq_true,Nat.sub_zero,Nat.sub_self,and_self,and_true,true_and,List.length_map,nls_ints,hEq_int,hNe_int,Ok_ok,OkG_some,EndQ_some,EndP_nx',EndP_rv',EndP_rn',LoopP_nx,LoopP_ct,LoopP_bk,LoopP_rt,lc_ite,xMeth,xZip,sAugS,stIx,sSub2,itemsOf,nlI_dk,sMove,ite_self,Int.reduceLT, decide_true, decide_false, e1, e2])
theorem rp8 (d : D) : den_law_raise_first [.int 8, d] = .err "InvalidPair" d [] := by
  unfold den_law_raise_first
  (simp -implicitDefEqProofs -dsimp only [runF,endF_nx,endF_rv,endF_rn,endF_err,initS,ioOut,sSeq,sNil,sPass,sBreak,sCont,sBad,sExpr,sRet,sRetN,sIf,sSet,putR,frz,frzs,xVal,xVar,getS_0,getS_s,getR,ownD,getRs,xOp1,xOp2,fin,RD.r,aNil,aCons,xCB,xTup,xLst,truth,tOf,tAnds,tOrs,tNots,xIf,xAnd,xOr,xNot,xIsi,isTy,hAdd,hSub,hNeg,hLt,hLe,hGt,hGe,hIs,hIsNot,hIx,hLen,hInt,hAbs,hMax2,hMin2,h1L,hList,hListS,xMethL,hCountL,lcStep2,lcTurn2,lcAdd2,hTuple,vi,vb,xCall,xCallN,argsD,argD,ioIx,boIx,isOwn,nodupB,disB,xPost_ret,xPost_err,postS,putIo,frzIx,nlR,nlI,nl,nls,Rt.r,permL,tTrue,lcStep,lcTurn,lcAdd,gN,gT,gsNil,gsCons,DL.forget,back,xSeq,seqOf,xEnum,xRng1,xRng2,xRng3,xLstI,xTupI,sPar,noSlot,putRs,sTup,xMut,ownL,mApp,mIns,mPop,mPopAt,mExt,mRev,sSub,sAug,oNone,oSome,xSl,hSl,hStep,xChain,bind_ok',bind_err,bind_bad,List.set_cons_zero,List.set_cons_succ,List.foldl_cons,List.foldl_nil,List.cons_append,List.nil_append,List.replicate_succ,List.replicate_zero,List.append_nil,List.all_cons,List.all_nil,List.map_cons,List.map_nil,List.length_cons,List.length_nil,List.zip_cons_cons,List.filterMap_cons,List.filterMap_nil,List.getElem?_cons_zero,List.getElem?_cons_succ,List.contains_nil,List.contains_cons,Bool.and_true,Bool.true_and,Bool.and_false,Bool.false_and,Bool.not_true,Bool.not_false,Bool.or_true,Bool.true_or,Bool.or_false,Bool.false_or,if_true,if_false,reduceIte,reduceCtorEq,Nat.reduceSub,Nat.reduceAdd,Nat.reduceEqDiff,Option.map_some,Option.map_none,decide_true,decide_false,↓reduceIte,Bool.false_eq_true,Nat.sub_zero,Nat.sub_self,and_self,and_true,true_and,List.length_map,nls_ints,hEq_int,hNe_int,Ok_ok,OkG_some,EndQ_some,EndP_nx',EndP_rv',EndP_rn',LoopP_nx,LoopP_ct,LoopP_bk,LoopP_rt,lc_ite,xMeth,xZip,sAugS,stIx,sSub2,itemsOf,nlI_dk,sMove,ite_self,sRaise, Int.reduceEq, decide_true, decide_false])
theorem rn8 (d : D) : den_law_raise_named_first [.int 8, d] = .err "InvalidPair" d [] := by
  unfold den_law_raise_named_first
  (simp -implicitDefEqProofs -dsimp only [runF,endF_nx,endF_rv,endF_rn,endF_err,initS,ioOut,sSeq,sNil,sPass,sBreak,sCont,sBad,sExpr,sRet,sRetN,sIf,sSet,putR,frz,frzs,xVal,xVar,getS_0,getS_s,getR,ownD,getRs,xOp1,xOp2,fin,RD.r,aNil,aCons,xCB,xTup,xLst,truth,tOf,tAnds,tOrs,tNots,xIf,xAnd,xOr,xNot,xIsi,isTy,hAdd,hSub,hNeg,hLt,hLe,hGt,hGe,hIs,hIsNot,hIx,hLen,hInt,hAbs,hMax2,hMin2,h1L,hList,hListS,xMethL,hCountL,lcStep2,lcTurn2,lcAdd2,hTuple,vi,vb,xCall,xCallN,argsD,argD,ioIx,boIx,isOwn,nodupB,disB,xPost_ret,xPost_err,postS,putIo,frzIx,nlR,nlI,nl,nls,Rt.r,permL,tTrue,lcStep,lcTurn,lcAdd,gN,gT,gsNil,gsCons,DL.forget,back,xSeq,seqOf,xEnum,xRng1,xRng2,xRng3,xLstI,xTupI,sPar,noSlot,putRs,sTup,xMut,ownL,mApp,mIns,mPop,mPopAt,mExt,mRev,sSub,sAug,oNone,oSome,xSl,hSl,hStep,xChain,bind_ok',bind_err,bind_bad,List.set_cons_zero,List.set_cons_succ,List.foldl_cons,List.foldl_nil,List.cons_append,List.nil_append,List.replicate_succ,List.replicate_zero,List.append_nil,List.all_cons,List.all_nil,List.map_cons,List.map_nil,List.length_cons,List.length_nil,List.zip_cons_cons,List.filterMap_cons,List.filterMap_nil,List.getElem?_cons_zero,List.getElem?_cons_succ,List.contains_nil,List.contains_cons,Bool.and_true,Bool.true_and,Bool.and_false,Bool.false_and,Bool.not_true,Bool.not_false,Bool.or_true,Bool.true_or,Bool.or_false,Bool.false_or,if_true,if_false,reduceIte,reduceCtorEq,Nat.reduceSub,Nat.reduceAdd,Nat.reduceEqDiff,Option.map_some,Option.map_none,decide_true,decide_false,↓reduceIte,Bool.false_eq_true,Nat.sub_zero,Nat.sub_self,and_self,and_true,true_and,List.length_map,nls_ints,hEq_int,hNe_int,Ok_ok,OkG_some,EndQ_some,EndP_nx',EndP_rv',EndP_rn',LoopP_nx,LoopP_ct,LoopP_bk,LoopP_rt,lc_ite,xMeth,xZip,sAugS,stIx,sSub2,itemsOf,nlI_dk,sMove,ite_self,sRaise, Int.reduceEq, decide_true, decide_false])
theorem raised_8 (d : D) (b : Bool) : den_law_raised [.int 8, d, .bool b] = .err "InvalidPair" d [] := by
  unfold den_law_raised
  have e1 := rp8 d
  have e2 := rn8 d
  cases b <;> (simp -implicitDefEqProofs -dsimp only [runF,endF_nx,endF_rv,endF_rn,endF_err,initS,ioOut,sSeq,sNil,sPass,sBreak,sCont,sBad,sExpr,sRet,sRetN,sIf,sSet,putR,frz,frzs,xVal,xVar,getS_0,getS_s,getR,ownD,getRs,xOp1,xOp2,fin,RD.r,aNil,aCons,xCB,xTup,xLst,truth,tOf,tAnds,tOrs,tNots,xIf,xAnd,xOr,xNot,xIsi,isTy,hAdd,hSub,hNeg,hLt,hLe,hGt,hGe,hIs,hIsNot,hIx,hLen,hInt,hAbs,hMax2,hMin2,h1L,hList,hListS,xMethL,hCountL,lcStep2,lcTurn2,lcAdd2,hTuple,vi,vb,xCall,xCallN,argsD,argD,ioIx,boIx,isOwn,nodupB,disB,xPost_ret,xPost_err,postS,putIo,frzIx,nlR,nlI,nl,nls,Rt.r,permL,tTrue,lcStep,lcTurn,lcAdd,gN,gT,gsNil,gsCons,DL.forget,back,xSeq,seqOf,xEnum,xRng1,xRng2,xRng3,xLstI,xTupI,sPar,noSlot,putRs,sTup,xMut,ownL,mApp,mIns,mPop,mPopAt,mExt,mRev,sSub,sAug,oNone,oSome,xSl,hSl,hStep,xChain,bind_ok',bind_err,bind_bad,List.set_cons_zero,List.set_cons_succ,List.foldl_cons,List.foldl_nil,List.cons_append,List.nil_append,List.replicate_succ,List.replicate_zero,List.append_nil,List.all_cons,List.all_nil,List.map_cons,List.map_nil,List.length_cons,List.length_nil,List.zip_cons_cons,List.filterMap_cons,List.filterMap_nil,List.getElem?_cons_zero,List.getElem?_cons_succ,List.contains_nil,List.contains_cons,Bool.and_true,Bool.true_and,Bool.and_false,Bool.false_and,Bool.not_true,Bool.not_false,Bool.or_true,Bool.true_or,Bool.or_false,Bool.false_or,if_true,if_false,reduceIte,reduceCtorEq,Nat.reduceSub,Nat.reduceAdd,Nat.reduceEqDiff,Option.map_some,Option.map_none,decide_true,decide_false,↓reduceIte,Bool.false_eq_true,Nat.sub_zero,Nat.sub_self,and_self,and_true,true_and,List.length_map,nls_ints,hEq_int,hNe_int,Ok_ok,OkG_some,EndQ_some,EndP_nx',EndP_rv',EndP_rn',LoopP_nx,LoopP_ct,LoopP_bk,LoopP_rt,lc_ite,xMeth,xZip,sAugS,stIx,sSub2,itemsOf,nlI_dk,sMove,ite_self,Int.reduceLT, decide_true, decide_false, e1, e2])
theorem rp9 (d : D) : den_law_raise_first [.int 9, d] = .err "InvalidMachine" d [] := by
  unfold den_law_raise_first
  (simp -implicitDefEqProofs -dsimp only [runF,endF_nx,endF_rv,endF_rn,endF_err,initS,ioOut,sSeq,sNil,sPass,sBreak,sCont,sBad,sExpr,sRet,sRetN,sIf,sSet,putR,frz,frzs,xVal,xVar,getS_0,getS_s,getR,ownD,getRs,xOp1,xOp2,fin,RD.r,aNil,aCons,xCB,xTup,xLst,truth,tOf,tAnds,tOrs,tNots,xIf,xAnd,xOr,xNot,xIsi,isTy,hAdd,hSub,hNeg,hLt,hLe,hGt,hGe,hIs,hIsNot,hIx,hLen,hInt,hAbs,hMax2,hMin2,h1L,hList,hListS,xMethL,hCountL,lcStep2,lcTurn2,lcAdd2,hTuple,vi,vb,xCall,xCallN,argsD,argD,ioIx,boIx,isOwn,nodupB,disB,xPost_ret,xPost_err,postS,putIo,frzIx,nlR,nlI,nl,nls,Rt.r,permL,tTrue,lcStep,lcTurn,lcAdd,gN,gT,gsNil,gsCons,DL.forget,back,xSeq,seqOf,xEnum,xRng1,xRng2,xRng3,xLstI,xTupI,sPar,noSlot,putRs,sTup,xMut,ownL,mApp,mIns,mPop,mPopAt,mExt,mRev,sSub,sAug,oNone,oSome,xSl,hSl,hStep,xChain,bind_ok',bind_err,bind_bad,List.set_cons_zero,List.set_cons_succ,List.foldl_cons,List.foldl_nil,List.cons_append,List.nil_append,List.replicate_succ,List.replicate_zero,List.append_nil,List.all_cons,List.all_nil,List.map_cons,List.map_nil,List.length_cons,List.length_nil,List.zip_cons_cons,List.filterMap_cons,List.filterMap_nil,List.getElem?_cons_zero,List.getElem?_cons_succ,List.contains_nil,List.contains_cons,Bool.and_true,Bool.true_and,Bool.and_false,Bool.false_and,Bool.not_true,Bool.not_false,Bool.or_true,Bool.true_or,Bool.or_false,Bool.false_or,if_true,if_false,reduceIte,reduceCtorEq,Nat.reduceSub,Nat.reduceAdd,Nat.reduceEqDiff,Option.map_some,Option.map_none,decide_true,decide_false,↓reduceIte,Bool.false_eq_true,Nat.sub_zero,Nat.sub_self,and_self,and_true,true_and,List.length_map,nls_ints,hEq_int,hNe_int,Ok_ok,OkG_some,EndQ_some,EndP_nx',EndP_rv',EndP_rn',LoopP_nx,LoopP_ct,LoopP_bk,LoopP_rt,lc_ite,xMeth,xZip,sAugS,stIx,sSub2,itemsOf,nlI_dk,sMove,ite_self,sRaise, Int.reduceEq, decide_true, decide_false])
theorem rn9 (d : D) : den_law_raise_named_first [.int 9, d] = .err "InvalidMachine" d [] := by
  unfold den_law_raise_named_first
  (simp -implicitDefEqProofs -dsimp only [runF,endF_nx,endF_rv,endF_rn,endF_err,initS,ioOut,sSeq,sNil,sPass,sBreak,sCont,sBad,sExpr,sRet,sRetN,sIf,sSet,putR,frz,frzs,xVal,xVar,getS_0,getS_s,getR,ownD,getRs,xOp1,xOp2,fin,RD.r,aNil,aCons,xCB,xTup,xLst,truth,tOf,tAnds,tOrs,tNots,xIf,xAnd,xOr,xNot,xIsi,isTy,hAdd,hSub,hNeg,hLt,hLe,hGt,hGe,hIs,hIsNot,hIx,hLen,hInt,hAbs,hMax2,hMin2,h1L,hList,hListS,xMethL,hCountL,lcStep2,lcTurn2,lcAdd2,hTuple,vi,vb,xCall,xCallN,argsD,argD,ioIx,boIx,isOwn,nodupB,disB,xPost_ret,xPost_err,postS,putIo,frzIx,nlR,nlI,nl,nls,Rt.r,permL,tTrue,lcStep,lcTurn,lcAdd,gN,gT,gsNil,gsCons,DL.forget,back,xSeq,seqOf,xEnum,xRng1,xRng2,xRng3,xLstI,xTupI,sPar,noSlot,putRs,sTup,xMut,ownL,mApp,mIns,mPop,mPopAt,mExt,mRev,sSub,sAug,oNone,oSome,xSl,hSl,hStep,xChain,bind_ok',bind_err,bind_bad,List.set_cons_zero,List.set_cons_succ,List.foldl_cons,List.foldl_nil,List.cons_append,List.nil_append,List.replicate_succ,List.replicate_zero,List.append_nil,List.all_cons,List.all_nil,List.map_cons,List.map_nil,List.length_cons,List.length_nil,List.zip_cons_cons,List.filterMap_cons,List.filterMap_nil,List.getElem?_cons_zero,List.getElem?_cons_succ,List.contains_nil,List.contains_cons,Bool.and_true,Bool.true_and,Bool.and_false,Bool.false_and,Bool.not_true,Bool.not_false,Bool.or_true,Bool.true_or,Bool.or_false,Bool.false_or,if_true,if_false,reduceIte,reduceCtorEq,Nat.reduceSub,Nat.reduceAdd,Nat.reduceEqDiff,Option.map_some,Option.map_none,decide_true,decide_false,↓reduceIte,Bool.false_eq_true,Nat.sub_zero,Nat.sub_self,and_self,and_true,true_and,List.length_map,nls_ints,hEq_int,hNe_int,Ok_ok,OkG_some,EndQ_some,EndP_nx',EndP_rv',EndP_rn',LoopP_nx,LoopP_ct,LoopP_bk,LoopP_rt,lc_ite,xMeth,xZip,sAugS,stIx,sSub2,itemsOf,nlI_dk,sMove,ite_self,sRaise, Int.reduceEq, decide_true, decide_false])
theorem raised_9 (d : D) (b : Bool) : den_law_raised [.int 9, d, .bool b] = .err "InvalidMachine" d [] := by
  unfold den_law_raised
  have e1 := rp9 d
  have e2 := rn9 d
  cases b <;> (simp -implicitDefEqProofs -dsimp only [runF,endF_nx,endF_rv,endF_rn,endF_err,initS,ioOut,sSeq,sNil,sPass,sBreak,sCont,sBad,sExpr,sRet,sRetN,sIf,sSet,putR,frz,frzs,xVal,xVar,getS_0,getS_s,getR,ownD,getRs,xOp1,xOp2,fin,RD.r,aNil,aCons,xCB,xTup,xLst,truth,tOf,tAnds,tOrs,tNots,xIf,xAnd,xOr,xNot,xIsi,isTy,hAdd,hSub,hNeg,hLt,hLe,hGt,hGe,hIs,hIsNot,hIx,hLen,hInt,hAbs,hMax2,hMin2,h1L,hList,hListS,xMethL,hCountL,lcStep2,lcTurn2,lcAdd2,hTuple,vi,vb,xCall,xCallN,argsD,argD,ioIx,boIx,isOwn,nodupB,disB,xPost_ret,xPost_err,postS,putIo,frzIx,nlR,nlI,nl,nls,Rt.r,permL,tTrue,lcStep,lcTurn,lcAdd,gN,gT,gsNil,gsCons,DL.forget,back,xSeq,seqOf,xEnum,xRng1,xRng2,xRng3,xLstI,xTupI,sPar,noSlot,putRs,sTup,xMut,ownL,mApp,mIns,mPop,mPopAt,mExt,mRev,sSub,sAug,oNone,oSome,xSl,hSl,hStep,xChain,bind_ok',bind_err,bind_bad,List.set_cons_zero,List.set_cons_succ,List.foldl_cons,List.foldl_nil,List.cons_append,List.nil_append,List.replicate_succ,List.replicate_zero,List.append_nil,List.all_cons,List.all_nil,List.map_cons,List.map_nil,List.length_cons,List.length_nil,List.zip_cons_cons,List.filterMap_cons,List.filterMap_nil,List.getElem?_cons_zero,List.getElem?_cons_succ,List.contains_nil,List.contains_cons,Bool.and_true,Bool.true_and,Bool.and_false,Bool.false_and,Bool.not_true,Bool.not_false,Bool.or_true,Bool.true_or,Bool.or_false,Bool.false_or,if_true,if_false,reduceIte,reduceCtorEq,Nat.reduceSub,Nat.reduceAdd,Nat.reduceEqDiff,Option.map_some,Option.map_none,decide_true,decide_false,↓reduceIte,Bool.false_eq_true,Nat.sub_zero,Nat.sub_self,and_self,and_true,true_and,List.length_map,nls_ints,hEq_int,hNe_int,Ok_ok,OkG_some,EndQ_some,EndP_nx',EndP_rv',EndP_rn',LoopP_nx,LoopP_ct,LoopP_bk,LoopP_rt,lc_ite,xMeth,xZip,sAugS,stIx,sSub2,itemsOf,nlI_dk,sMove,ite_self,Int.reduceLT, decide_true, decide_false, e1, e2])
theorem rp10 (d : D) : den_law_raise_second [.int 10, d] = .err "NoMachine" d [] := by
  unfold den_law_raise_second
  (simp -implicitDefEqProofs -dsimp only [runF,endF_nx,endF_rv,endF_rn,endF_err,initS,ioOut,sSeq,sNil,sPass,sBreak,sCont,sBad,sExpr,sRet,sRetN,sIf,sSet,putR,frz,frzs,xVal,xVar,getS_0,getS_s,getR,ownD,getRs,xOp1,xOp2,fin,RD.r,aNil,aCons,xCB,xTup,xLst,truth,tOf,tAnds,tOrs,tNots,xIf,xAnd,xOr,xNot,xIsi,isTy,hAdd,hSub,hNeg,hLt,hLe,hGt,hGe,hIs,hIsNot,hIx,hLen,hInt,hAbs,hMax2,hMin2,h1L,hList,hListS,xMethL,hCountL,lcStep2,lcTurn2,lcAdd2,hTuple,vi,vb,xCall,xCallN,argsD,argD,ioIx,boIx,isOwn,nodupB,disB,xPost_ret,xPost_err,postS,putIo,frzIx,nlR,nlI,nl,nls,Rt.r,permL,tTrue,lcStep,lcTurn,lcAdd,gN,gT,gsNil,gsCons,DL.forget,back,xSeq,seqOf,xEnum,xRng1,xRng2,xRng3,xLstI,xTupI,sPar,noSlot,putRs,sTup,xMut,ownL,mApp,mIns,mPop,mPopAt,mExt,mRev,sSub,sAug,oNone,oSome,xSl,hSl,hStep,xChain,bind_ok',bind_err,bind_bad,List.set_cons_zero,List.set_cons_succ,List.foldl_cons,List.foldl_nil,List.cons_append,List.nil_append,List.replicate_succ,List.replicate_zero,List.append_nil,List.all_cons,List.all_nil,List.map_cons,List.map_nil,List.length_cons,List.length_nil,List.zip_cons_cons,List.filterMap_cons,List.filterMap_nil,List.getElem?_cons_zero,List.getElem?_cons_succ,List.contains_nil,List.contains_cons,Bool.and_true,Bool.true_and,Bool.and_false,Bool.false_and,Bool.not_true,Bool.not_false,Bool.or_true,Bool.true_or,Bool.or_false,Bool.false_or,if_true,if_false,reduceIte,reduceCtorEq,Nat.reduceSub,Nat.reduceAdd,Nat.reduceEqDiff,Option.map_some,Option.map_none,decide_true,decide_false,↓reduceIte,Bool.false_eq_true,Nat.sub_zero,Nat.sub_self,and_self,and_true,true_and,List.length_map,nls_ints,hEq_int,hNe_int,Ok_ok,OkG_some,EndQ_some,EndP_nx',EndP_rv',EndP_rn',LoopP_nx,LoopP_ct,LoopP_bk,LoopP_rt,lc_ite,xMeth,xZip,sAugS,stIx,sSub2,itemsOf,nlI_dk,sMove,ite_self,sRaise, Int.reduceEq, decide_true, decide_false])
theorem rn10 (d : D) : den_law_raise_named_second [.int 10, d] = .err "NoMachine" d [] := by
  unfold den_law_raise_named_second
  (simp -implicitDefEqProofs -dsimp only [runF,endF_nx,endF_rv,endF_rn,endF_err,initS,ioOut,sSeq,sNil,sPass,sBreak,sCont,sBad,sExpr,sRet,sRetN,sIf,sSet,putR,frz,frzs,xVal,xVar,getS_0,getS_s,getR,ownD,getRs,xOp1,xOp2,fin,RD.r,aNil,aCons,xCB,xTup,xLst,truth,tOf,tAnds,tOrs,tNots,xIf,xAnd,xOr,xNot,xIsi,isTy,hAdd,hSub,hNeg,hLt,hLe,hGt,hGe,hIs,hIsNot,hIx,hLen,hInt,hAbs,hMax2,hMin2,h1L,hList,hListS,xMethL,hCountL,lcStep2,lcTurn2,lcAdd2,hTuple,vi,vb,xCall,xCallN,argsD,argD,ioIx,boIx,isOwn,nodupB,disB,xPost_ret,xPost_err,postS,putIo,frzIx,nlR,nlI,nl,nls,Rt.r,permL,tTrue,lcStep,lcTurn,lcAdd,gN,gT,gsNil,gsCons,DL.forget,back,xSeq,seqOf,xEnum,xRng1,xRng2,xRng3,xLstI,xTupI,sPar,noSlot,putRs,sTup,xMut,ownL,mApp,mIns,mPop,mPopAt,mExt,mRev,sSub,sAug,oNone,oSome,xSl,hSl,hStep,xChain,bind_ok',bind_err,bind_bad,List.set_cons_zero,List.set_cons_succ,List.foldl_cons,List.foldl_nil,List.cons_append,List.nil_append,List.replicate_succ,List.replicate_zero,List.append_nil,List.all_cons,List.all_nil,List.map_cons,List.map_nil,List.length_cons,List.length_nil,List.zip_cons_cons,List.filterMap_cons,List.filterMap_nil,List.getElem?_cons_zero,List.getElem?_cons_succ,List.contains_nil,List.contains_cons,Bool.and_true,Bool.true_and,Bool.and_false,Bool.false_and,Bool.not_true,Bool.not_false,Bool.or_true,Bool.true_or,Bool.or_false,Bool.false_or,if_true,if_false,reduceIte,reduceCtorEq,Nat.reduceSub,Nat.reduceAdd,Nat.reduceEqDiff,Option.map_some,Option.map_none,decide_true,decide_false,↓reduceIte,Bool.false_eq_true,Nat.sub_zero,Nat.sub_self,and_self,and_true,true_and,List.length_map,nls_ints,hEq_int,hNe_int,Ok_ok,OkG_some,EndQ_some,EndP_nx',EndP_rv',EndP_rn',LoopP_nx,LoopP_ct,LoopP_bk,LoopP_rt,lc_ite,xMeth,xZip,sAugS,stIx,sSub2,itemsOf,nlI_dk,sMove,ite_self,sRaise, Int.reduceEq, decide_true, decide_false])
theorem raised_10 (d : D) (b : Bool) : den_law_raised [.int 10, d, .bool b] = .err "NoMachine" d [] := by
  unfold den_law_raised
  have e1 := rp10 d
  have e2 := rn10 d
  cases b <;> (simp -implicitDefEqProofs -dsimp only [runF,endF_nx,endF_rv,endF_rn,endF_err,initS,ioOut,sSeq,sNil,sPass,sBreak,sCont,sBad,sExpr,sRet,sRetN,sIf,sSet,putR,frz,frzs,xVal,xVar,getS_0,getS_s,getR,ownD,getRs,xOp1,xOp2,fin,RD.r,aNil,aCons,xCB,xTup,xLst,truth,tOf,tAnds,tOrs,tNots,xIf,xAnd,xOr,xNot,xIsi,isTy,hAdd,hSub,hNeg,hLt,hLe,hGt,hGe,hIs,hIsNot,hIx,hLen,hInt,hAbs,hMax2,hMin2,h1L,hList,hListS,xMethL,hCountL,lcStep2,lcTurn2,lcAdd2,hTuple,vi,vb,xCall,xCallN,argsD,argD,ioIx,boIx,isOwn,nodupB,disB,xPost_ret,xPost_err,postS,putIo,frzIx,nlR,nlI,nl,nls,Rt.r,permL,tTrue,lcStep,lcTurn,lcAdd,gN,gT,gsNil,gsCons,DL.forget,back,xSeq,seqOf,xEnum,xRng1,xRng2,xRng3,xLstI,xTupI,sPar,noSlot,putRs,sTup,xMut,ownL,mApp,mIns,mPop,mPopAt,mExt,mRev,sSub,sAug,oNone,oSome,xSl,hSl,hStep,xChain,bind_ok',bind_err,bind_bad,List.set_cons_zero,List.set_cons_succ,List.foldl_cons,List.foldl_nil,List.cons_append,List.nil_append,List.replicate_succ,List.replicate_zero,List.append_nil,List.all_cons,List.all_nil,List.map_cons,List.map_nil,List.length_cons,List.length_nil,List.zip_cons_cons,List.filterMap_cons,List.filterMap_nil,List.getElem?_cons_zero,List.getElem?_cons_succ,List.contains_nil,List.contains_cons,Bool.and_true,Bool.true_and,Bool.and_false,Bool.false_and,Bool.not_true,Bool.not_false,Bool.or_true,Bool.true_or,Bool.or_false,Bool.false_or,if_true,if_false,reduceIte,reduceCtorEq,Nat.reduceSub,Nat.reduceAdd,Nat.reduceEqDiff,Option.map_some,Option.map_none,decide_true,decide_false,↓reduceIte,Bool.false_eq_true,Nat.sub_zero,Nat.sub_self,and_self,and_true,true_and,List.length_map,nls_ints,hEq_int,hNe_int,Ok_ok,OkG_some,EndQ_some,EndP_nx',EndP_rv',EndP_rn',LoopP_nx,LoopP_ct,LoopP_bk,LoopP_rt,lc_ite,xMeth,xZip,sAugS,stIx,sSub2,itemsOf,nlI_dk,sMove,ite_self,Int.reduceLT, decide_true, decide_false, e1, e2])
theorem rp11 (d : D) : den_law_raise_second [.int 11, d] = .err "InvalidTape" d [] := by
  unfold den_law_raise_second
  (simp -implicitDefEqProofs -dsimp only [runF,endF_nx,endF_rv,endF_rn,endF_err,initS,ioOut,sSeq,sNil,sPass,sBreak,sCont,sBad,sExpr,sRet,sRetN,sIf,sSet,putR,frz,frzs,xVal,xVar,getS_0,getS_s,getR,ownD,getRs,xOp1,xOp2,fin,RD.r,aNil,aCons,xCB,xTup,xLst,truth,tOf,tAnds,tOrs,tNots,xIf,xAnd,xOr,xNot,xIsi,isTy,hAdd,hSub,hNeg,hLt,hLe,hGt,hGe,hIs,hIsNot,hIx,hLen,hInt,hAbs,hMax2,hMin2,h1L,hList,hListS,xMethL,hCountL,lcStep2,lcTurn2,lcAdd2,hTuple,vi,vb,xCall,xCallN,argsD,argD,ioIx,boIx,isOwn,nodupB,disB,xPost_ret,xPost_err,postS,putIo,frzIx,nlR,nlI,nl,nls,Rt.r,permL,tTrue,lcStep,lcTurn,lcAdd,gN,gT,gsNil,gsCons,DL.forget,back,xSeq,seqOf,xEnum,xRng1,xRng2,xRng3,xLstI,xTupI,sPar,noSlot,putRs,sTup,xMut,ownL,mApp,mIns,mPop,mPopAt,mExt,mRev,sSub,sAug,oNone,oSome,xSl,hSl,hStep,xChain,bind_ok',bind_err,bind_bad,List.set_cons_zero,List.set_cons_succ,List.foldl_cons,List.foldl_nil,List.cons_append,List.nil_append,List.replicate_succ,List.replicate_zero,List.append_nil,List.all_cons,List.all_nil,List.map_cons,List.map_nil,List.length_cons,List.length_nil,List.zip_cons_cons,List.filterMap_cons,List.filterMap_nil,List.getElem?_cons_zero,List.getElem?_cons_succ,List.contains_nil,List.contains_cons,Bool.and_true,Bool.true_and,Bool.and_false,Bool.false_and,Bool.not_true,Bool.not_false,Bool.or_true,Bool.true_or,Bool.or_false,Bool.false_or,if_true,if_false,reduceIte,reduceCtorEq,Nat.reduceSub,Nat.reduceAdd,Nat.reduceEqDiff,Option.map_some,Option.map_none,decide_true,decide_false,↓reduceIte,Bool.false_eq_true,Nat.sub_zero,Nat.sub_self,and_self,and_true,true_and,List.length_map,nls_ints,hEq_int,hNe_int,Ok_ok,OkG_some,EndQ_some,EndP_nx',EndP_rv',EndP_rn',LoopP_nx,LoopP_ct,LoopP_bk,LoopP_rt,lc_ite,xMeth,xZip,sAugS,stIx,sSub2,itemsOf,nlI_dk,sMove,ite_self,sRaise, Int.reduceEq, decide_true, decide_false])
theorem rn11 (d : D) : den_law_raise_named_second [.int 11, d] = .err "InvalidTape" d [] := by
  unfold den_law_raise_named_second
  (simp -implicitDefEqProofs -dsimp only [runF,endF_nx,endF_rv,endF_rn,endF_err,initS,ioOut,sSeq,sNil,sPass,sBreak,sCont,sBad,sExpr,sRet,sRetN,sIf,sSet,putR,frz,frzs,xVal,xVar,getS_0,getS_s,getR,ownD,getRs,xOp1,xOp2,fin,RD.r,aNil,aCons,xCB,xTup,xLst,truth,tOf,tAnds,tOrs,tNots,xIf,xAnd,xOr,xNot,xIsi,isTy,hAdd,hSub,hNeg,hLt,hLe,hGt,hGe,hIs,hIsNot,hIx,hLen,hInt,hAbs,hMax2,hMin2,h1L,hList,hListS,xMethL,hCountL,lcStep2,lcTurn2,lcAdd2,hTuple,vi,vb,xCall,xCallN,argsD,argD,ioIx,boIx,isOwn,nodupB,disB,xPost_ret,xPost_err,postS,putIo,frzIx,nlR,nlI,nl,nls,Rt.r,permL,tTrue,lcStep,lcTurn,lcAdd,gN,gT,gsNil,gsCons,DL.forget,back,xSeq,seqOf,xEnum,xRng1,xRng2,xRng3,xLstI,xTupI,sPar,noSlot,putRs,sTup,xMut,ownL,mApp,mIns,mPop,mPopAt,mExt,mRev,sSub,sAug,oNone,oSome,xSl,hSl,hStep,xChain,bind_ok',bind_err,bind_bad,List.set_cons_zero,List.set_cons_succ,List.foldl_cons,List.foldl_nil,List.cons_append,List.nil_append,List.replicate_succ,List.replicate_zero,List.append_nil,List.all_cons,List.all_nil,List.map_cons,List.map_nil,List.length_cons,List.length_nil,List.zip_cons_cons,List.filterMap_cons,List.filterMap_nil,List.getElem?_cons_zero,List.getElem?_cons_succ,List.contains_nil,List.contains_cons,Bool.and_true,Bool.true_and,Bool.and_false,Bool.false_and,Bool.not_true,Bool.not_false,Bool.or_true,Bool.true_or,Bool.or_false,Bool.false_or,if_true,if_false,reduceIte,reduceCtorEq,Nat.reduceSub,Nat.reduceAdd,Nat.reduceEqDiff,Option.map_some,Option.map_none,decide_true,decide_false,↓reduceIte,Bool.false_eq_true,Nat.sub_zero,Nat.sub_self,and_self,and_true,true_and,List.length_map,nls_ints,hEq_int,hNe_int,Ok_ok,OkG_some,EndQ_some,EndP_nx',EndP_rv',EndP_rn',LoopP_nx,LoopP_ct,LoopP_bk,LoopP_rt,lc_ite,xMeth,xZip,sAugS,stIx,sSub2,itemsOf,nlI_dk,sMove,ite_self,sRaise, Int.reduceEq, decide_true, decide_false])
theorem raised_11 (d : D) (b : Bool) : den_law_raised [.int 11, d, .bool b] = .err "InvalidTape" d [] := by
  unfold den_law_raised
  have e1 := rp11 d
  have e2 := rn11 d
  cases b <;> (simp -implicitDefEqProofs -dsimp only [runF,endF_nx,endF_rv,endF_rn,endF_err,initS,ioOut,sSeq,sNil,sPass,sBreak,sCont,sBad,sExpr,sRet,sRetN,sIf,sSet,putR,frz,frzs,xVal,xVar,getS_0,getS_s,getR,ownD,getRs,xOp1,xOp2,fin,RD.r,aNil,aCons,xCB,xTup,xLst,truth,tOf,tAnds,tOrs,tNots,xIf,xAnd,xOr,xNot,xIsi,isTy,hAdd,hSub,hNeg,hLt,hLe,hGt,hGe,hIs,hIsNot,hIx,hLen,hInt,hAbs,hMax2,hMin2,h1L,hList,hListS,xMethL,hCountL,lcStep2,lcTurn2,lcAdd2,hTuple,vi,vb,xCall,xCallN,argsD,argD,ioIx,boIx,isOwn,nodupB,disB,xPost_ret,xPost_err,postS,putIo,frzIx,nlR,nlI,nl,nls,Rt.r,permL,tTrue,lcStep,lcTurn,lcAdd,gN,gT,gsNil,gsCons,DL.forget,back,xSeq,seqOf,xEnum,xRng1,xRng2,xRng3,xLstI,xTupI,sPar,noSlot,putRs,sTup,xMut,ownL,mApp,mIns,mPop,mPopAt,mExt,mRev,sSub,sAug,oNone,oSome,xSl,hSl,hStep,xChain,bind_ok',bind_err,bind_bad,List.set_cons_zero,List.set_cons_succ,List.foldl_cons,List.foldl_nil,List.cons_append,List.nil_append,List.replicate_succ,List.replicate_zero,List.append_nil,List.all_cons,List.all_nil,List.map_cons,List.map_nil,List.length_cons,List.length_nil,List.zip_cons_cons,List.filterMap_cons,List.filterMap_nil,List.getElem?_cons_zero,List.getElem?_cons_succ,List.contains_nil,List.contains_cons,Bool.and_true,Bool.true_and,Bool.and_false,Bool.false_and,Bool.not_true,Bool.not_false,Bool.or_true,Bool.true_or,Bool.or_false,Bool.false_or,if_true,if_false,reduceIte,reduceCtorEq,Nat.reduceSub,Nat.reduceAdd,Nat.reduceEqDiff,Option.map_some,Option.map_none,decide_true,decide_false,↓reduceIte,Bool.false_eq_true,Nat.sub_zero,Nat.sub_self,and_self,and_true,true_and,List.length_map,nls_ints,hEq_int,hNe_int,Ok_ok,OkG_some,EndQ_some,EndP_nx',EndP_rv',EndP_rn',LoopP_nx,LoopP_ct,LoopP_bk,LoopP_rt,lc_ite,xMeth,xZip,sAugS,stIx,sSub2,itemsOf,nlI_dk,sMove,ite_self,Int.reduceLT, decide_true, decide_false, e1, e2])
theorem rp12 (d : D) : den_law_raise_second [.int 12, d] = .err "InvalidSorter" d [] := by
  unfold den_law_raise_second
  (simp -implicitDefEqProofs -dsimp only [runF,endF_nx,endF_rv,endF_rn,endF_err,initS,ioOut,sSeq,sNil,sPass,sBreak,sCont,sBad,sExpr,sRet,sRetN,sIf,sSet,putR,frz,frzs,xVal,xVar,getS_0,getS_s,getR,ownD,getRs,xOp1,xOp2,fin,RD.r,aNil,aCons,xCB,xTup,xLst,truth,tOf,tAnds,tOrs,tNots,xIf,xAnd,xOr,xNot,xIsi,isTy,hAdd,hSub,hNeg,hLt,hLe,hGt,hGe,hIs,hIsNot,hIx,hLen,hInt,hAbs,hMax2,hMin2,h1L,hList,hListS,xMethL,hCountL,lcStep2,lcTurn2,lcAdd2,hTuple,vi,vb,xCall,xCallN,argsD,argD,ioIx,boIx,isOwn,nodupB,disB,xPost_ret,xPost_err,postS,putIo,frzIx,nlR,nlI,nl,nls,Rt.r,permL,tTrue,lcStep,lcTurn,lcAdd,gN,gT,gsNil,gsCons,DL.forget,back,xSeq,seqOf,xEnum,xRng1,xRng2,xRng3,xLstI,xTupI,sPar,noSlot,putRs,sTup,xMut,ownL,mApp,mIns,mPop,mPopAt,mExt,mRev,sSub,sAug,oNone,oSome,xSl,hSl,hStep,xChain,bind_ok',bind_err,bind_bad,List.set_cons_zero,List.set_cons_succ,List.foldl_cons,List.foldl_nil,List.cons_append,List.nil_append,List.replicate_succ,List.replicate_zero,List.append_nil,List.all_cons,List.all_nil,List.map_cons,List.map_nil,List.length_cons,List.length_nil,List.zip_cons_cons,List.filterMap_cons,List.filterMap_nil,List.getElem?_cons_zero,List.getElem?_cons_succ,List.contains_nil,List.contains_cons,Bool.and_true,Bool.true_and,Bool.and_false,Bool.false_and,Bool.not_true,Bool.not_false,Bool.or_true,Bool.true_or,Bool.or_false,Bool.false_or,if_true,if_false,reduceIte,reduceCtorEq,Nat.reduceSub,Nat.reduceAdd,Nat.reduceEqDiff,Option.map_some,Option.map_none,decide_true,decide_false,↓reduceIte,Bool.false_eq_true,Nat.sub_zero,Nat.sub_self,and_self,and_true,true_and,List.length_map,nls_ints,hEq_int,hNe_int,Ok_ok,OkG_some,EndQ_some,EndP_nx',EndP_rv',EndP_rn',LoopP_nx,LoopP_ct,LoopP_bk,LoopP_rt,lc_ite,xMeth,xZip,sAugS,stIx,sSub2,itemsOf,nlI_dk,sMove,ite_self,sRaise, Int.reduceEq, decide_true, decide_false])
theorem rn12 (d : D) : den_law_raise_named_second [.int 12, d] = .err "InvalidSorter" d [] := by
  unfold den_law_raise_named_second
  (simp -implicitDefEqProofs -dsimp only [runF,endF_nx,endF_rv,endF_rn,endF_err,initS,ioOut,sSeq,sNil,sPass,sBreak,sCont,sBad,sExpr,sRet,sRetN,sIf,sSet,putR,frz,frzs,xVal,xVar,getS_0,getS_s,getR,ownD,getRs,xOp1,xOp2,fin,RD.r,aNil,aCons,xCB,xTup,xLst,truth,tOf,tAnds,tOrs,tNots,xIf,xAnd,xOr,xNot,xIsi,isTy,hAdd,hSub,hNeg,hLt,hLe,hGt,hGe,hIs,hIsNot,hIx,hLen,hInt,hAbs,hMax2,hMin2,h1L,hList,hListS,xMethL,hCountL,lcStep2,lcTurn2,lcAdd2,hTuple,vi,vb,xCall,xCallN,argsD,argD,ioIx,boIx,isOwn,nodupB,disB,xPost_ret,xPost_err,postS,putIo,frzIx,nlR,nlI,nl,nls,Rt.r,permL,tTrue,lcStep,lcTurn,lcAdd,gN,gT,gsNil,gsCons,DL.forget,back,xSeq,seqOf,xEnum,xRng1,xRng2,xRng3,xLstI,xTupI,sPar,noSlot,putRs,sTup,xMut,ownL,mApp,mIns,mPop,mPopAt,mExt,mRev,sSub,sAug,oNone,oSome,xSl,hSl,hStep,xChain,bind_ok',bind_err,bind_bad,List.set_cons_zero,List.set_cons_succ,List.foldl_cons,List.foldl_nil,List.cons_append,List.nil_append,List.replicate_succ,List.replicate_zero,List.append_nil,List.all_cons,List.all_nil,List.map_cons,List.map_nil,List.length_cons,List.length_nil,List.zip_cons_cons,List.filterMap_cons,List.filterMap_nil,List.getElem?_cons_zero,List.getElem?_cons_succ,List.contains_nil,List.contains_cons,Bool.and_true,Bool.true_and,Bool.and_false,Bool.false_and,Bool.not_true,Bool.not_false,Bool.or_true,Bool.true_or,Bool.or_false,Bool.false_or,if_true,if_false,reduceIte,reduceCtorEq,Nat.reduceSub,Nat.reduceAdd,Nat.reduceEqDiff,Option.map_some,Option.map_none,decide_true,decide_false,↓reduceIte,Bool.false_eq_true,Nat.sub_zero,Nat.sub_self,and_self,and_true,true_and,List.length_map,nls_ints,hEq_int,hNe_int,Ok_ok,OkG_some,EndQ_some,EndP_nx',EndP_rv',EndP_rn',LoopP_nx,LoopP_ct,LoopP_bk,LoopP_rt,lc_ite,xMeth,xZip,sAugS,stIx,sSub2,itemsOf,nlI_dk,sMove,ite_self,sRaise, Int.reduceEq, decide_true, decide_false])
theorem raised_12 (d : D) (b : Bool) : den_law_raised [.int 12, d, .bool b] = .err "InvalidSorter" d [] := by
  unfold den_law_raised
  have e1 := rp12 d
  have e2 := rn12 d
  cases b <;> (simp -implicitDefEqProofs -dsimp only [runF,endF_nx,endF_rv,endF_rn,endF_err,initS,ioOut,sSeq,sNil,sPass,sBreak,sCont,sBad,sExpr,sRet,sRetN,sIf,sSet,putR,frz,frzs,xVal,xVar,getS_0,getS_s,getR,ownD,getRs,xOp1,xOp2,fin,RD.r,aNil,aCons,xCB,xTup,xLst,truth,tOf,tAnds,tOrs,tNots,xIf,xAnd,xOr,xNot,xIsi,isTy,hAdd,hSub,hNeg,hLt,hLe,hGt,hGe,hIs,hIsNot,hIx,hLen,hInt,hAbs,hMax2,hMin2,h1L,hList,hListS,xMethL,hCountL,lcStep2,lcTurn2,lcAdd2,hTuple,vi,vb,xCall,xCallN,argsD,argD,ioIx,boIx,isOwn,nodupB,disB,xPost_ret,xPost_err,postS,putIo,frzIx,nlR,nlI,nl,nls,Rt.r,permL,tTrue,lcStep,lcTurn,lcAdd,gN,gT,gsNil,gsCons,DL.forget,back,xSeq,seqOf,xEnum,xRng1,xRng2,xRng3,xLstI,xTupI,sPar,noSlot,putRs,sTup,xMut,ownL,mApp,mIns,mPop,mPopAt,mExt,mRev,sSub,sAug,oNone,oSome,xSl,hSl,hStep,xChain,bind_ok',bind_err,bind_bad,List.set_cons_zero,List.set_cons_succ,List.foldl_cons,List.foldl_nil,List.cons_append,List.nil_append,List.replicate_succ,List.replicate_zero,List.append_nil,List.all_cons,List.all_nil,List.map_cons,List.map_nil,List.length_cons,List.length_nil,List.zip_cons_cons,List.filterMap_cons,List.filterMap_nil,List.getElem?_cons_zero,List.getElem?_cons_succ,List.contains_nil,List.contains_cons,Bool.and_true,Bool.true_and,Bool.and_false,Bool.false_and,Bool.not_true,Bool.not_false,Bool.or_true,Bool.true_or,Bool.or_false,Bool.false_or,if_true,if_false,reduceIte,reduceCtorEq,Nat.reduceSub,Nat.reduceAdd,Nat.reduceEqDiff,Option.map_some,Option.map_none,decide_true,decide_false,↓reduceIte,Bool.false_eq_true,Nat.sub_zero,Nat.sub_self,and_self,and_true,true_and,List.length_map,nls_ints,hEq_int,hNe_int,Ok_ok,OkG_some,EndQ_some,EndP_nx',EndP_rv',EndP_rn',LoopP_nx,LoopP_ct,LoopP_bk,LoopP_rt,lc_ite,xMeth,xZip,sAugS,stIx,sSub2,itemsOf,nlI_dk,sMove,ite_self,Int.reduceLT, decide_true, decide_false, e1, e2])
theorem rp13 (d : D) : den_law_raise_second [.int 13, d] = .err "InvalidSaying" d [] := by
  unfold den_law_raise_second
  (simp -implicitDefEqProofs -dsimp only [runF,endF_nx,endF_rv,endF_rn,endF_err,initS,ioOut,sSeq,sNil,sPass,sBreak,sCont,sBad,sExpr,sRet,sRetN,sIf,sSet,putR,frz,frzs,xVal,xVar,getS_0,getS_s,getR,ownD,getRs,xOp1,xOp2,fin,RD.r,aNil,aCons,xCB,xTup,xLst,truth,tOf,tAnds,tOrs,tNots,xIf,xAnd,xOr,xNot,xIsi,isTy,hAdd,hSub,hNeg,hLt,hLe,hGt,hGe,hIs,hIsNot,hIx,hLen,hInt,hAbs,hMax2,hMin2,h1L,hList,hListS,xMethL,hCountL,lcStep2,lcTurn2,lcAdd2,hTuple,vi,vb,xCall,xCallN,argsD,argD,ioIx,boIx,isOwn,nodupB,disB,xPost_ret,xPost_err,postS,putIo,frzIx,nlR,nlI,nl,nls,Rt.r,permL,tTrue,lcStep,lcTurn,lcAdd,gN,gT,gsNil,gsCons,DL.forget,back,xSeq,seqOf,xEnum,xRng1,xRng2,xRng3,xLstI,xTupI,sPar,noSlot,putRs,sTup,xMut,ownL,mApp,mIns,mPop,mPopAt,mExt,mRev,sSub,sAug,oNone,oSome,xSl,hSl,hStep,xChain,bind_ok',bind_err,bind_bad,List.set_cons_zero,List.set_cons_succ,List.foldl_cons,List.foldl_nil,List.cons_append,List.nil_append,List.replicate_succ,List.replicate_zero,List.append_nil,List.all_cons,List.all_nil,List.map_cons,List.map_nil,List.length_cons,List.length_nil,List.zip_cons_cons,List.filterMap_cons,List.filterMap_nil,List.getElem?_cons_zero,List.getElem?_cons_succ,List.contains_nil,List.contains_cons,Bool.and_true,Bool.true_and,Bool.and_false,Bool.false_and,Bool.not_true,Bool.not_false,Bool.or_true,Bool.true_or,Bool.or_false,Bool.false_or,if_true,if_false,reduceIte,reduceCtorEq,Nat.reduceSub,Nat.reduceAdd,Nat.reduceEqDiff,Option.map_some,Option.map_none,decide_true,decide_false,↓reduceIte,Bool.false_eq_true,Nat.sub_zero,Nat.sub_self,and_self,and_true,true_and,List.length_map,nls_ints,hEq_int,hNe_int,Ok_ok,OkG_some,EndQ_some,EndP_nx',EndP_rv',EndP_rn',LoopP_nx,LoopP_ct,LoopP_bk,LoopP_rt,lc_ite,xMeth,xZip,sAugS,stIx,sSub2,itemsOf,nlI_dk,sMove,ite_self,sRaise, Int.reduceEq, decide_true, decide_false])
theorem rn13 (d : D) : den_law_raise_named_second [.int 13, d] = .err "InvalidSaying" d [] := by
  unfold den_law_raise_named_second
  (simp -implicitDefEqProofs -dsimp only [runF,endF_nx,endF_rv,endF_rn,endF_err,initS,ioOut,sSeq,sNil,sPass,sBreak,sCont,sBad,sExpr,sRet,sRetN,sIf,sSet,putR,frz,frzs,xVal,xVar,getS_0,getS_s,getR,ownD,getRs,xOp1,xOp2,fin,RD.r,aNil,aCons,xCB,xTup,xLst,truth,tOf,tAnds,tOrs,tNots,xIf,xAnd,xOr,xNot,xIsi,isTy,hAdd,hSub,hNeg,hLt,hLe,hGt,hGe,hIs,hIsNot,hIx,hLen,hInt,hAbs,hMax2,hMin2,h1L,hList,hListS,xMethL,hCountL,lcStep2,lcTurn2,lcAdd2,hTuple,vi,vb,xCall,xCallN,argsD,argD,ioIx,boIx,isOwn,nodupB,disB,xPost_ret,xPost_err,postS,putIo,frzIx,nlR,nlI,nl,nls,Rt.r,permL,tTrue,lcStep,lcTurn,lcAdd,gN,gT,gsNil,gsCons,DL.forget,back,xSeq,seqOf,xEnum,xRng1,xRng2,xRng3,xLstI,xTupI,sPar,noSlot,putRs,sTup,xMut,ownL,mApp,mIns,mPop,mPopAt,mExt,mRev,sSub,sAug,oNone,oSome,xSl,hSl,hStep,xChain,bind_ok',bind_err,bind_bad,List.set_cons_zero,List.set_cons_succ,List.foldl_cons,List.foldl_nil,List.cons_append,List.nil_append,List.replicate_succ,List.replicate_zero,List.append_nil,List.all_cons,List.all_nil,List.map_cons,List.map_nil,List.length_cons,List.length_nil,List.zip_cons_cons,List.filterMap_cons,List.filterMap_nil,List.getElem?_cons_zero,List.getElem?_cons_succ,List.contains_nil,List.contains_cons,Bool.and_true,Bool.true_and,Bool.and_false,Bool.false_and,Bool.not_true,Bool.not_false,Bool.or_true,Bool.true_or,Bool.or_false,Bool.false_or,if_true,if_false,reduceIte,reduceCtorEq,Nat.reduceSub,Nat.reduceAdd,Nat.reduceEqDiff,Option.map_some,Option.map_none,decide_true,decide_false,↓reduceIte,Bool.false_eq_true,Nat.sub_zero,Nat.sub_self,and_self,and_true,true_and,List.length_map,nls_ints,hEq_int,hNe_int,Ok_ok,OkG_some,EndQ_some,EndP_nx',EndP_rv',EndP_rn',LoopP_nx,LoopP_ct,LoopP_bk,LoopP_rt,lc_ite,xMeth,xZip,sAugS,stIx,sSub2,itemsOf,nlI_dk,sMove,ite_self,sRaise, Int.reduceEq, decide_true, decide_false])
theorem raised_13 (d : D) (b : Bool) : den_law_raised [.int 13, d, .bool b] = .err "InvalidSaying" d [] := by
  unfold den_law_raised
  have e1 := rp13 d
  have e2 := rn13 d
  cases b <;> (simp -implicitDefEqProofs -dsimp only [runF,endF_nx,endF_rv,endF_rn,endF_err,initS,ioOut,sSeq,sNil,sPass,sBreak,sCont,sBad,sExpr,sRet,sRetN,sIf,sSet,putR,frz,frzs,xVal,xVar,getS_0,getS_s,getR,ownD,getRs,xOp1,xOp2,fin,RD.r,aNil,aCons,xCB,xTup,xLst,truth,tOf,tAnds,tOrs,tNots,xIf,xAnd,xOr,xNot,xIsi,isTy,hAdd,hSub,hNeg,hLt,hLe,hGt,hGe,hIs,hIsNot,hIx,hLen,hInt,hAbs,hMax2,hMin2,h1L,hList,hListS,xMethL,hCountL,lcStep2,lcTurn2,lcAdd2,hTuple,vi,vb,xCall,xCallN,argsD,argD,ioIx,boIx,isOwn,nodupB,disB,xPost_ret,xPost_err,postS,putIo,frzIx,nlR,nlI,nl,nls,Rt.r,permL,tTrue,lcStep,lcTurn,lcAdd,gN,gT,gsNil,gsCons,DL.forget,back,xSeq,seqOf,xEnum,xRng1,xRng2,xRng3,xLstI,xTupI,sPar,noSlot,putRs,sTup,xMut,ownL,mApp,mIns,mPop,mPopAt,mExt,mRev,sSub,sAug,oNone,oSome,xSl,hSl,hStep,xChain,bind_ok',bind_err,bind_bad,List.set_cons_zero,List.set_cons_succ,List.foldl_cons,List.foldl_nil,List.cons_append,List.nil_append,List.replicate_succ,List.replicate_zero,List.append_nil,List.all_cons,List.all_nil,List.map_cons,List.map_nil,List.length_cons,List.length_nil,List.zip_cons_cons,List.filterMap_cons,List.filterMap_nil,List.getElem?_cons_zero,List.getElem?_cons_succ,List.contains_nil,List.contains_cons,Bool.and_true,Bool.true_and,Bool.and_false,Bool.false_and,Bool.not_true,Bool.not_false,Bool.or_true,Bool.true_or,Bool.or_false,Bool.false_or,if_true,if_false,reduceIte,reduceCtorEq,Nat.reduceSub,Nat.reduceAdd,Nat.reduceEqDiff,Option.map_some,Option.map_none,decide_true,decide_false,↓reduceIte,Bool.false_eq_true,Nat.sub_zero,Nat.sub_self,and_self,and_true,true_and,List.length_map,nls_ints,hEq_int,hNe_int,Ok_ok,OkG_some,EndQ_some,EndP_nx',EndP_rv',EndP_rn',LoopP_nx,LoopP_ct,LoopP_bk,LoopP_rt,lc_ite,xMeth,xZip,sAugS,stIx,sSub2,itemsOf,nlI_dk,sMove,ite_self,Int.reduceLT, decide_true, decide_false, e1, e2])
theorem rp14 (d : D) : den_law_raise_second [.int 14, d] = .err "InvalidName" d [] := by
  unfold den_law_raise_second
  (simp -implicitDefEqProofs -dsimp only [runF,endF_nx,endF_rv,endF_rn,endF_err,initS,ioOut,sSeq,sNil,sPass,sBreak,sCont,sBad,sExpr,sRet,sRetN,sIf,sSet,putR,frz,frzs,xVal,xVar,getS_0,getS_s,getR,ownD,getRs,xOp1,xOp2,fin,RD.r,aNil,aCons,xCB,xTup,xLst,truth,tOf,tAnds,tOrs,tNots,xIf,xAnd,xOr,xNot,xIsi,isTy,hAdd,hSub,hNeg,hLt,hLe,hGt,hGe,hIs,hIsNot,hIx,hLen,hInt,hAbs,hMax2,hMin2,h1L,hList,hListS,xMethL,hCountL,lcStep2,lcTurn2,lcAdd2,hTuple,vi,vb,xCall,xCallN,argsD,argD,ioIx,boIx,isOwn,nodupB,disB,xPost_ret,xPost_err,postS,putIo,frzIx,nlR,nlI,nl,nls,Rt.r,permL,tTrue,lcStep,lcTurn,lcAdd,gN,gT,gsNil,gsCons,DL.forget,back,xSeq,seqOf,xEnum,xRng1,xRng2,xRng3,xLstI,xTupI,sPar,noSlot,putRs,sTup,xMut,ownL,mApp,mIns,mPop,mPopAt,mExt,mRev,sSub,sAug,oNone,oSome,xSl,hSl,hStep,xChain,bind_ok',bind_err,bind_bad,List.set_cons_zero,List.set_cons_succ,List.foldl_cons,List.foldl_nil,List.cons_append,List.nil_append,List.replicate_succ,List.replicate_zero,List.append_nil,List.all_cons,List.all_nil,List.map_cons,List.map_nil,List.length_cons,List.length_nil,List.zip_cons_cons,List.filterMap_cons,List.filterMap_nil,List.getElem?_cons_zero,List.getElem?_cons_succ,List.contains_nil,List.contains_cons,Bool.and_true,Bool.true_and,Bool.and_false,Bool.false_and,Bool.not_true,Bool.not_false,Bool.or_true,Bool.true_or,Bool.or_false,Bool.false_or,if_true,if_false,reduceIte,reduceCtorEq,Nat.reduceSub,Nat.reduceAdd,Nat.reduceEqDiff,Option.map_some,Option.map_none,decide_true,decide_false,↓reduceIte,Bool.false_eq_true,Nat.sub_zero,Nat.sub_self,and_self,and_true,true_and,List.length_map,nls_ints,hEq_int,hNe_int,Ok_ok,OkG_some,EndQ_some,EndP_nx',EndP_rv',EndP_rn',LoopP_nx,LoopP_ct,LoopP_bk,LoopP_rt,lc_ite,xMeth,xZip,sAugS,stIx,sSub2,itemsOf,nlI_dk,sMove,ite_self,sRaise, Int.reduceEq, decide_true, decide_false])
theorem rn14 (d : D) : den_law_raise_named_second [.int 14, d] = .err "InvalidName" d [] := by
  unfold den_law_raise_named_second
  (simp -implicitDefEqProofs -dsimp only [runF,endF_nx,endF_rv,endF_rn,endF_err,initS,ioOut,sSeq,sNil,sPass,sBreak,sCont,sBad,sExpr,sRet,sRetN,sIf,sSet,putR,frz,frzs,xVal,xVar,getS_0,getS_s,getR,ownD,getRs,xOp1,xOp2,fin,RD.r,aNil,aCons,xCB,xTup,xLst,truth,tOf,tAnds,tOrs,tNots,xIf,xAnd,xOr,xNot,xIsi,isTy,hAdd,hSub,hNeg,hLt,hLe,hGt,hGe,hIs,hIsNot,hIx,hLen,hInt,hAbs,hMax2,hMin2,h1L,hList,hListS,xMethL,hCountL,lcStep2,lcTurn2,lcAdd2,hTuple,vi,vb,xCall,xCallN,argsD,argD,ioIx,boIx,isOwn,nodupB,disB,xPost_ret,xPost_err,postS,putIo,frzIx,nlR,nlI,nl,nls,Rt.r,permL,tTrue,lcStep,lcTurn,lcAdd,gN,gT,gsNil,gsCons,DL.forget,back,xSeq,seqOf,xEnum,xRng1,xRng2,xRng3,xLstI,xTupI,sPar,noSlot,putRs,sTup,xMut,ownL,mApp,mIns,mPop,mPopAt,mExt,mRev,sSub,sAug,oNone,oSome,xSl,hSl,hStep,xChain,bind_ok',bind_err,bind_bad,List.set_cons_zero,List.set_cons_succ,List.foldl_cons,List.foldl_nil,List.cons_append,List.nil_append,List.replicate_succ,List.replicate_zero,List.append_nil,List.all_cons,List.all_nil,List.map_cons,List.map_nil,List.length_cons,List.length_nil,List.zip_cons_cons,List.filterMap_cons,List.filterMap_nil,List.getElem?_cons_zero,List.getElem?_cons_succ,List.contains_nil,List.contains_cons,Bool.and_true,Bool.true_and,Bool.and_false,Bool.false_and,Bool.not_true,Bool.not_false,Bool.or_true,Bool.true_or,Bool.or_false,Bool.false_or,if_true,if_false,reduceIte,reduceCtorEq,Nat.reduceSub,Nat.reduceAdd,Nat.reduceEqDiff,Option.map_some,Option.map_none,decide_true,decide_false,↓reduceIte,Bool.false_eq_true,Nat.sub_zero,Nat.sub_self,and_self,and_true,true_and,List.length_map,nls_ints,hEq_int,hNe_int,Ok_ok,OkG_some,EndQ_some,EndP_nx',EndP_rv',EndP_rn',LoopP_nx,LoopP_ct,LoopP_bk,LoopP_rt,lc_ite,xMeth,xZip,sAugS,stIx,sSub2,itemsOf,nlI_dk,sMove,ite_self,sRaise, Int.reduceEq, decide_true, decide_false])
theorem raised_14 (d : D) (b : Bool) : den_law_raised [.int 14, d, .bool b] = .err "InvalidName" d [] := by
  unfold den_law_raised
  have e1 := rp14 d
  have e2 := rn14 d
  cases b <;> (simp -implicitDefEqProofs -dsimp only [runF,endF_nx,endF_rv,endF_rn,endF_err,initS,ioOut,sSeq,sNil,sPass,sBreak,sCont,sBad,sExpr,sRet,sRetN,sIf,sSet,putR,frz,frzs,xVal,xVar,getS_0,getS_s,getR,ownD,getRs,xOp1,xOp2,fin,RD.r,aNil,aCons,xCB,xTup,xLst,truth,tOf,tAnds,tOrs,tNots,xIf,xAnd,xOr,xNot,xIsi,isTy,hAdd,hSub,hNeg,hLt,hLe,hGt,hGe,hIs,hIsNot,hIx,hLen,hInt,hAbs,hMax2,hMin2,h1L,hList,hListS,xMethL,hCountL,lcStep2,lcTurn2,lcAdd2,hTuple,vi,vb,xCall,xCallN,argsD,argD,ioIx,boIx,isOwn,nodupB,disB,xPost_ret,xPost_err,postS,putIo,frzIx,nlR,nlI,nl,nls,Rt.r,permL,tTrue,lcStep,lcTurn,lcAdd,gN,gT,gsNil,gsCons,DL.forget,back,xSeq,seqOf,xEnum,xRng1,xRng2,xRng3,xLstI,xTupI,sPar,noSlot,putRs,sTup,xMut,ownL,mApp,mIns,mPop,mPopAt,mExt,mRev,sSub,sAug,oNone,oSome,xSl,hSl,hStep,xChain,bind_ok',bind_err,bind_bad,List.set_cons_zero,List.set_cons_succ,List.foldl_cons,List.foldl_nil,List.cons_append,List.nil_append,List.replicate_succ,List.replicate_zero,List.append_nil,List.all_cons,List.all_nil,List.map_cons,List.map_nil,List.length_cons,List.length_nil,List.zip_cons_cons,List.filterMap_cons,List.filterMap_nil,List.getElem?_cons_zero,List.getElem?_cons_succ,List.contains_nil,List.contains_cons,Bool.and_true,Bool.true_and,Bool.and_false,Bool.false_and,Bool.not_true,Bool.not_false,Bool.or_true,Bool.true_or,Bool.or_false,Bool.false_or,if_true,if_false,reduceIte,reduceCtorEq,Nat.reduceSub,Nat.reduceAdd,Nat.reduceEqDiff,Option.map_some,Option.map_none,decide_true,decide_false,↓reduceIte,Bool.false_eq_true,Nat.sub_zero,Nat.sub_self,and_self,and_true,true_and,List.length_map,nls_ints,hEq_int,hNe_int,Ok_ok,OkG_some,EndQ_some,EndP_nx',EndP_rv',EndP_rn',LoopP_nx,LoopP_ct,LoopP_bk,LoopP_rt,lc_ite,xMeth,xZip,sAugS,stIx,sSub2,itemsOf,nlI_dk,sMove,ite_self,Int.reduceLT, decide_true, decide_false, e1, e2])
theorem rp15 (d : D) : den_law_raise_second [.int 15, d] = .err "NotLet" d [] := by
  unfold den_law_raise_second
  (simp -implicitDefEqProofs -dsimp only [runF,endF_nx,endF_rv,endF_rn,endF_err,initS,ioOut,sSeq,sNil,sPass,sBreak,sCont,sBad,sExpr,sRet,sRetN,sIf,sSet,putR,frz,frzs,xVal,xVar,getS_0,getS_s,getR,ownD,getRs,xOp1,xOp2,fin,RD.r,aNil,aCons,xCB,xTup,xLst,truth,tOf,tAnds,tOrs,tNots,xIf,xAnd,xOr,xNot,xIsi,isTy,hAdd,hSub,hNeg,hLt,hLe,hGt,hGe,hIs,hIsNot,hIx,hLen,hInt,hAbs,hMax2,hMin2,h1L,hList,hListS,xMethL,hCountL,lcStep2,lcTurn2,lcAdd2,hTuple,vi,vb,xCall,xCallN,argsD,argD,ioIx,boIx,isOwn,nodupB,disB,xPost_ret,xPost_err,postS,putIo,frzIx,nlR,nlI,nl,nls,Rt.r,permL,tTrue,lcStep,lcTurn,lcAdd,gN,gT,gsNil,gsCons,DL.forget,back,xSeq,seqOf,xEnum,xRng1,xRng2,xRng3,xLstI,xTupI,sPar,noSlot,putRs,sTup,xMut,ownL,mApp,mIns,mPop,mPopAt,mExt,mRev,sSub,sAug,oNone,oSome,xSl,hSl,hStep,xChain,bind_ok',bind_err,bind_bad,List.set_cons_zero,List.set_cons_succ,List.foldl_cons,List.foldl_nil,List.cons_append,List.nil_append,List.replicate_succ,List.replicate_zero,List.append_nil,List.all_cons,List.all_nil,List.map_cons,List.map_nil,List.length_cons,List.length_nil,List.zip_cons_cons,List.filterMap_cons,List.filterMap_nil,List.getElem?_cons_zero,List.getElem?_cons_succ,List.contains_nil,List.contains_cons,Bool.and_true,Bool.true_and,Bool.and_false,Bool.false_and,Bool.not_true,Bool.not_false,Bool.or_true,Bool.true_or,Bool.or_false,Bool.false_or,if_true,if_false,reduceIte,reduceCtorEq,Nat.reduceSub,Nat.reduceAdd,Nat.reduceEqDiff,Option.map_some,Option.map_none,decide_true,decide_false,↓reduceIte,Bool.false_eq_true,Nat.sub_zero,Nat.sub_self,and_self,and_true,true_and,List.length_map,nls_ints,hEq_int,hNe_int,Ok_ok,OkG_some,EndQ_some,EndP_nx',EndP_rv',EndP_rn',LoopP_nx,LoopP_ct,LoopP_bk,LoopP_rt,lc_ite,xMeth,xZip,sAugS,stIx,sSub2,itemsOf,nlI_dk,sMove,ite_self,sRaise, Int.reduceEq, decide_true, decide_false])
theorem rn15 (d : D) : den_law_raise_named_second [.int 15, d] = .err "NotLet" d [] := by
  unfold den_law_raise_named_second
  (simp -implicitDefEqProofs -dsimp only [runF,endF_nx,endF_rv,endF_rn,endF_err,initS,ioOut,sSeq,sNil,sPass,sBreak,sCont,sBad,sExpr,sRet,sRetN,sIf,sSet,putR,frz,frzs,xVal,xVar,getS_0,getS_s,getR,ownD,getRs,xOp1,xOp2,fin,RD.r,aNil,aCons,xCB,xTup,xLst,truth,tOf,tAnds,tOrs,tNots,xIf,xAnd,xOr,xNot,xIsi,isTy,hAdd,hSub,hNeg,hLt,hLe,hGt,hGe,hIs,hIsNot,hIx,hLen,hInt,hAbs,hMax2,hMin2,h1L,hList,hListS,xMethL,hCountL,lcStep2,lcTurn2,lcAdd2,hTuple,vi,vb,xCall,xCallN,argsD,argD,ioIx,boIx,isOwn,nodupB,disB,xPost_ret,xPost_err,postS,putIo,frzIx,nlR,nlI,nl,nls,Rt.r,permL,tTrue,lcStep,lcTurn,lcAdd,gN,gT,gsNil,gsCons,DL.forget,back,xSeq,seqOf,xEnum,xRng1,xRng2,xRng3,xLstI,xTupI,sPar,noSlot,putRs,sTup,xMut,ownL,mApp,mIns,mPop,mPopAt,mExt,mRev,sSub,sAug,oNone,oSome,xSl,hSl,hStep,xChain,bind_ok',bind_err,bind_bad,List.set_cons_zero,List.set_cons_succ,List.foldl_cons,List.foldl_nil,List.cons_append,List.nil_append,List.replicate_succ,List.replicate_zero,List.append_nil,List.all_cons,List.all_nil,List.map_cons,List.map_nil,List.length_cons,List.length_nil,List.zip_cons_cons,List.filterMap_cons,List.filterMap_nil,List.getElem?_cons_zero,List.getElem?_cons_succ,List.contains_nil,List.contains_cons,Bool.and_true,Bool.true_and,Bool.and_false,Bool.false_and,Bool.not_true,Bool.not_false,Bool.or_true,Bool.true_or,Bool.or_false,Bool.false_or,if_true,if_false,reduceIte,reduceCtorEq,Nat.reduceSub,Nat.reduceAdd,Nat.reduceEqDiff,Option.map_some,Option.map_none,decide_true,decide_false,↓reduceIte,Bool.false_eq_true,Nat.sub_zero,Nat.sub_self,and_self,and_true,true_and,List.length_map,nls_ints,hEq_int,hNe_int,Ok_ok,OkG_some,EndQ_some,EndP_nx',EndP_rv',EndP_rn',LoopP_nx,LoopP_ct,LoopP_bk,LoopP_rt,lc_ite,xMeth,xZip,sAugS,stIx,sSub2,itemsOf,nlI_dk,sMove,ite_self,sRaise, Int.reduceEq, decide_true, decide_false])
theorem raised_15 (d : D) (b : Bool) : den_law_raised [.int 15, d, .bool b] = .err "NotLet" d [] := by
  unfold den_law_raised
  have e1 := rp15 d
  have e2 := rn15 d
  cases b <;> (simp -implicitDefEqProofs -dsimp only [runF,endF_nx,endF_rv,endF_rn,endF_err,initS,ioOut,sSeq,sNil,sPass,sBreak,sCont,sBad,sExpr,sRet,sRetN,sIf,sSet,putR,frz,frzs,xVal,xVar,getS_0,getS_s,getR,ownD,getRs,xOp1,xOp2,fin,RD.r,aNil,aCons,xCB,xTup,xLst,truth,tOf,tAnds,tOrs,tNots,xIf,xAnd,xOr,xNot,xIsi,isTy,hAdd,hSub,hNeg,hLt,hLe,hGt,hGe,hIs,hIsNot,hIx,hLen,hInt,hAbs,hMax2,hMin2,h1L,hList,hListS,xMethL,hCountL,lcStep2,lcTurn2,lcAdd2,hTuple,vi,vb,xCall,xCallN,argsD,argD,ioIx,boIx,isOwn,nodupB,disB,xPost_ret,xPost_err,postS,putIo,frzIx,nlR,nlI,nl,nls,Rt.r,permL,tTrue,lcStep,lcTurn,lcAdd,gN,gT,gsNil,gsCons,DL.forget,back,xSeq,seqOf,xEnum,xRng1,xRng2,xRng3,xLstI,xTupI,sPar,noSlot,putRs,sTup,xMut,ownL,mApp,mIns,mPop,mPopAt,mExt,mRev,sSub,sAug,oNone,oSome,xSl,hSl,hStep,xChain,bind_ok',bind_err,bind_bad,List.set_cons_zero,List.set_cons_succ,List.foldl_cons,List.foldl_nil,List.cons_append,List.nil_append,List.replicate_succ,List.replicate_zero,List.append_nil,List.all_cons,List.all_nil,List.map_cons,List.map_nil,List.length_cons,List.length_nil,List.zip_cons_cons,List.filterMap_cons,List.filterMap_nil,List.getElem?_cons_zero,List.getElem?_cons_succ,List.contains_nil,List.contains_cons,Bool.and_true,Bool.true_and,Bool.and_false,Bool.false_and,Bool.not_true,Bool.not_false,Bool.or_true,Bool.true_or,Bool.or_false,Bool.false_or,if_true,if_false,reduceIte,reduceCtorEq,Nat.reduceSub,Nat.reduceAdd,Nat.reduceEqDiff,Option.map_some,Option.map_none,decide_true,decide_false,↓reduceIte,Bool.false_eq_true,Nat.sub_zero,Nat.sub_self,and_self,and_true,true_and,List.length_map,nls_ints,hEq_int,hNe_int,Ok_ok,OkG_some,EndQ_some,EndP_nx',EndP_rv',EndP_rn',LoopP_nx,LoopP_ct,LoopP_bk,LoopP_rt,lc_ite,xMeth,xZip,sAugS,stIx,sSub2,itemsOf,nlI_dk,sMove,ite_self,Int.reduceLT, decide_true, decide_false, e1, e2])
theorem rp16 (d : D) : den_law_raise_second [.int 16, d] = .err "UnknownName" d [] := by
  unfold den_law_raise_second
  (simp -implicitDefEqProofs -dsimp only [runF,endF_nx,endF_rv,endF_rn,endF_err,initS,ioOut,sSeq,sNil,sPass,sBreak,sCont,sBad,sExpr,sRet,sRetN,sIf,sSet,putR,frz,frzs,xVal,xVar,getS_0,getS_s,getR,ownD,getRs,xOp1,xOp2,fin,RD.r,aNil,aCons,xCB,xTup,xLst,truth,tOf,tAnds,tOrs,tNots,xIf,xAnd,xOr,xNot,xIsi,isTy,hAdd,hSub,hNeg,hLt,hLe,hGt,hGe,hIs,hIsNot,hIx,hLen,hInt,hAbs,hMax2,hMin2,h1L,hList,hListS,xMethL,hCountL,lcStep2,lcTurn2,lcAdd2,hTuple,vi,vb,xCall,xCallN,argsD,argD,ioIx,boIx,isOwn,nodupB,disB,xPost_ret,xPost_err,postS,putIo,frzIx,nlR,nlI,nl,nls,Rt.r,permL,tTrue,lcStep,lcTurn,lcAdd,gN,gT,gsNil,gsCons,DL.forget,back,xSeq,seqOf,xEnum,xRng1,xRng2,xRng3,xLstI,xTupI,sPar,noSlot,putRs,sTup,xMut,ownL,mApp,mIns,mPop,mPopAt,mExt,mRev,sSub,sAug,oNone,oSome,xSl,hSl,hStep,xChain,bind_ok',bind_err,bind_bad,List.set_cons_zero,List.set_cons_succ,List.foldl_cons,List.foldl_nil,List.cons_append,List.nil_append,List.replicate_succ,List.replicate_zero,List.append_nil,List.all_cons,List.all_nil,List.map_cons,List.map_nil,List.length_cons,List.length_nil,List.zip_cons_cons,List.filterMap_cons,List.filterMap_nil,List.getElem?_cons_zero,List.getElem?_cons_succ,List.contains_nil,List.contains_cons,Bool.and_true,Bool.true_and,Bool.and_false,Bool.false_and,Bool.not_true,Bool.not_false,Bool.or_true,Bool.true_or,Bool.or_false,Bool.false_or,if_true,if_false,reduceIte,reduceCtorEq,Nat.reduceSub,Nat.reduceAdd,Nat.reduceEqDiff,Option.map_some,Option.map_none,decide_true,decide_false,↓reduceIte,Bool.false_eq_true,Nat.sub_zero,Nat.sub_self,and_self,and_true,true_and,List.length_map,nls_ints,hEq_int,hNe_int,Ok_ok,OkG_some,EndQ_some,EndP_nx',EndP_rv',EndP_rn',LoopP_nx,LoopP_ct,LoopP_bk,LoopP_rt,lc_ite,xMeth,xZip,sAugS,stIx,sSub2,itemsOf,nlI_dk,sMove,ite_self,sRaise, Int.reduceEq, decide_true, decide_false])
theorem rn16 (d : D) : den_law_raise_named_second [.int 16, d] = .err "UnknownName" d [] := by
  unfold den_law_raise_named_second
  (simp -implicitDefEqProofs -dsimp only [runF,endF_nx,endF_rv,endF_rn,endF_err,initS,ioOut,sSeq,sNil,sPass,sBreak,sCont,sBad,sExpr,sRet,sRetN,sIf,sSet,putR,frz,frzs,xVal,xVar,getS_0,getS_s,getR,ownD,getRs,xOp1,xOp2,fin,RD.r,aNil,aCons,xCB,xTup,xLst,truth,tOf,tAnds,tOrs,tNots,xIf,xAnd,xOr,xNot,xIsi,isTy,hAdd,hSub,hNeg,hLt,hLe,hGt,hGe,hIs,hIsNot,hIx,hLen,hInt,hAbs,hMax2,hMin2,h1L,hList,hListS,xMethL,hCountL,lcStep2,lcTurn2,lcAdd2,hTuple,vi,vb,xCall,xCallN,argsD,argD,ioIx,boIx,isOwn,nodupB,disB,xPost_ret,xPost_err,postS,putIo,frzIx,nlR,nlI,nl,nls,Rt.r,permL,tTrue,lcStep,lcTurn,lcAdd,gN,gT,gsNil,gsCons,DL.forget,back,xSeq,seqOf,xEnum,xRng1,xRng2,xRng3,xLstI,xTupI,sPar,noSlot,putRs,sTup,xMut,ownL,mApp,mIns,mPop,mPopAt,mExt,mRev,sSub,sAug,oNone,oSome,xSl,hSl,hStep,xChain,bind_ok',bind_err,bind_bad,List.set_cons_zero,List.set_cons_succ,List.foldl_cons,List.foldl_nil,List.cons_append,List.nil_append,List.replicate_succ,List.replicate_zero,List.append_nil,List.all_cons,List.all_nil,List.map_cons,List.map_nil,List.length_cons,List.length_nil,List.zip_cons_cons,List.filterMap_cons,List.filterMap_nil,List.getElem?_cons_zero,List.getElem?_cons_succ,List.contains_nil,List.contains_cons,Bool.and_true,Bool.true_and,Bool.and_false,Bool.false_and,Bool.not_true,Bool.not_false,Bool.or_true,Bool.true_or,Bool.or_false,Bool.false_or,if_true,if_false,reduceIte,reduceCtorEq,Nat.reduceSub,Nat.reduceAdd,Nat.reduceEqDiff,Option.map_some,Option.map_none,decide_true,decide_false,↓reduceIte,Bool.false_eq_true,Nat.sub_zero,Nat.sub_self,and_self,and_true,true_and,List.length_map,nls_ints,hEq_int,hNe_int,Ok_ok,OkG_some,EndQ_some,EndP_nx',EndP_rv',EndP_rn',LoopP_nx,LoopP_ct,LoopP_bk,LoopP_rt,lc_ite,xMeth,xZip,sAugS,stIx,sSub2,itemsOf,nlI_dk,sMove,ite_self,sRaise, Int.reduceEq, decide_true, decide_false])
theorem raised_16 (d : D) (b : Bool) : den_law_raised [.int 16, d, .bool b] = .err "UnknownName" d [] := by
  unfold den_law_raised
  have e1 := rp16 d
  have e2 := rn16 d
  cases b <;> (simp -implicitDefEqProofs -dsimp only [runF,endF_nx,endF_rv,endF_rn,endF_err,initS,ioOut,sSeq,sNil,sPass,sBreak,sCont,sBad,sExpr,sRet,sRetN,sIf,sSet,putR,frz,frzs,xVal,xVar,getS_0,getS_s,getR,ownD,getRs,xOp1,xOp2,fin,RD.r,aNil,aCons,xCB,xTup,xLst,truth,tOf,tAnds,tOrs,tNots,xIf,xAnd,xOr,xNot,xIsi,isTy,hAdd,hSub,hNeg,hLt,hLe,hGt,hGe,hIs,hIsNot,hIx,hLen,hInt,hAbs,hMax2,hMin2,h1L,hList,hListS,xMethL,hCountL,lcStep2,lcTurn2,lcAdd2,hTuple,vi,vb,xCall,xCallN,argsD,argD,ioIx,boIx,isOwn,nodupB,disB,xPost_ret,xPost_err,postS,putIo,frzIx,nlR,nlI,nl,nls,Rt.r,permL,tTrue,lcStep,lcTurn,lcAdd,gN,gT,gsNil,gsCons,DL.forget,back,xSeq,seqOf,xEnum,xRng1,xRng2,xRng3,xLstI,xTupI,sPar,noSlot,putRs,sTup,xMut,ownL,mApp,mIns,mPop,mPopAt,mExt,mRev,sSub,sAug,oNone,oSome,xSl,hSl,hStep,xChain,bind_ok',bind_err,bind_bad,List.set_cons_zero,List.set_cons_succ,List.foldl_cons,List.foldl_nil,List.cons_append,List.nil_append,List.replicate_succ,List.replicate_zero,List.append_nil,List.all_cons,List.all_nil,List.map_cons,List.map_nil,List.length_cons,List.length_nil,List.zip_cons_cons,List.filterMap_cons,List.filterMap_nil,List.getElem?_cons_zero,List.getElem?_cons_succ,List.contains_nil,List.contains_cons,Bool.and_true,Bool.true_and,Bool.and_false,Bool.false_and,Bool.not_true,Bool.not_false,Bool.or_true,Bool.true_or,Bool.or_false,Bool.false_or,if_true,if_false,reduceIte,reduceCtorEq,Nat.reduceSub,Nat.reduceAdd,Nat.reduceEqDiff,Option.map_some,Option.map_none,decide_true,decide_false,↓reduceIte,Bool.false_eq_true,Nat.sub_zero,Nat.sub_self,and_self,and_true,true_and,List.length_map,nls_ints,hEq_int,hNe_int,Ok_ok,OkG_some,EndQ_some,EndP_nx',EndP_rv',EndP_rn',LoopP_nx,LoopP_ct,LoopP_bk,LoopP_rt,lc_ite,xMeth,xZip,sAugS,stIx,sSub2,itemsOf,nlI_dk,sMove,ite_self,Int.reduceLT, decide_true, decide_false, e1, e2])
theorem rp17 (d : D) : den_law_raise_second [.int 17, d] = .err "NothingToUndo" d [] := by
  unfold den_law_raise_second
  (simp -implicitDefEqProofs -dsimp only [runF,endF_nx,endF_rv,endF_rn,endF_err,initS,ioOut,sSeq,sNil,sPass,sBreak,sCont,sBad,sExpr,sRet,sRetN,sIf,sSet,putR,frz,frzs,xVal,xVar,getS_0,getS_s,getR,ownD,getRs,xOp1,xOp2,fin,RD.r,aNil,aCons,xCB,xTup,xLst,truth,tOf,tAnds,tOrs,tNots,xIf,xAnd,xOr,xNot,xIsi,isTy,hAdd,hSub,hNeg,hLt,hLe,hGt,hGe,hIs,hIsNot,hIx,hLen,hInt,hAbs,hMax2,hMin2,h1L,hList,hListS,xMethL,hCountL,lcStep2,lcTurn2,lcAdd2,hTuple,vi,vb,xCall,xCallN,argsD,argD,ioIx,boIx,isOwn,nodupB,disB,xPost_ret,xPost_err,postS,putIo,frzIx,nlR,nlI,nl,nls,Rt.r,permL,tTrue,lcStep,lcTurn,lcAdd,gN,gT,gsNil,gsCons,DL.forget,back,xSeq,seqOf,xEnum,xRng1,xRng2,xRng3,xLstI,xTupI,sPar,noSlot,putRs,sTup,xMut,ownL,mApp,mIns,mPop,mPopAt,mExt,mRev,sSub,sAug,oNone,oSome,xSl,hSl,hStep,xChain,bind_ok',bind_err,bind_bad,List.set_cons_zero,List.set_cons_succ,List.foldl_cons,List.foldl_nil,List.cons_append,List.nil_append,List.replicate_succ,List.replicate_zero,List.append_nil,List.all_cons,List.all_nil,List.map_cons,List.map_nil,List.length_cons,List.length_nil,List.zip_cons_cons,List.filterMap_cons,List.filterMap_nil,List.getElem?_cons_zero,List.getElem?_cons_succ,List.contains_nil,List.contains_cons,Bool.and_true,Bool.true_and,Bool.and_false,Bool.false_and,Bool.not_true,Bool.not_false,Bool.or_true,Bool.true_or,Bool.or_false,Bool.false_or,if_true,if_false,reduceIte,reduceCtorEq,Nat.reduceSub,Nat.reduceAdd,Nat.reduceEqDiff,Option.map_some,Option.map_none,decide_true,decide_false,↓reduceIte,Bool.false_eq_true,Nat.sub_zero,Nat.sub_self,and_self,and_true,true_and,List.length_map,nls_ints,hEq_int,hNe_int,Ok_ok,OkG_some,EndQ_some,EndP_nx',EndP_rv',EndP_rn',LoopP_nx,LoopP_ct,LoopP_bk,LoopP_rt,lc_ite,xMeth,xZip,sAugS,stIx,sSub2,itemsOf,nlI_dk,sMove,ite_self,sRaise, Int.reduceEq, decide_true, decide_false])
theorem rn17 (d : D) : den_law_raise_named_second [.int 17, d] = .err "NothingToUndo" d [] := by
  unfold den_law_raise_named_second
  (simp -implicitDefEqProofs -dsimp only [runF,endF_nx,endF_rv,endF_rn,endF_err,initS,ioOut,sSeq,sNil,sPass,sBreak,sCont,sBad,sExpr,sRet,sRetN,sIf,sSet,putR,frz,frzs,xVal,xVar,getS_0,getS_s,getR,ownD,getRs,xOp1,xOp2,fin,RD.r,aNil,aCons,xCB,xTup,xLst,truth,tOf,tAnds,tOrs,tNots,xIf,xAnd,xOr,xNot,xIsi,isTy,hAdd,hSub,hNeg,hLt,hLe,hGt,hGe,hIs,hIsNot,hIx,hLen,hInt,hAbs,hMax2,hMin2,h1L,hList,hListS,xMethL,hCountL,lcStep2,lcTurn2,lcAdd2,hTuple,vi,vb,xCall,xCallN,argsD,argD,ioIx,boIx,isOwn,nodupB,disB,xPost_ret,xPost_err,postS,putIo,frzIx,nlR,nlI,nl,nls,Rt.r,permL,tTrue,lcStep,lcTurn,lcAdd,gN,gT,gsNil,gsCons,DL.forget,back,xSeq,seqOf,xEnum,xRng1,xRng2,xRng3,xLstI,xTupI,sPar,noSlot,putRs,sTup,xMut,ownL,mApp,mIns,mPop,mPopAt,mExt,mRev,sSub,sAug,oNone,oSome,xSl,hSl,hStep,xChain,bind_ok',bind_err,bind_bad,List.set_cons_zero,List.set_cons_succ,List.foldl_cons,List.foldl_nil,List.cons_append,List.nil_append,List.replicate_succ,List.replicate_zero,List.append_nil,List.all_cons,List.all_nil,List.map_cons,List.map_nil,List.length_cons,List.length_nil,List.zip_cons_cons,List.filterMap_cons,List.filterMap_nil,List.getElem?_cons_zero,List.getElem?_cons_succ,List.contains_nil,List.contains_cons,Bool.and_true,Bool.true_and,Bool.and_false,Bool.false_and,Bool.not_true,Bool.not_false,Bool.or_true,Bool.true_or,Bool.or_false,Bool.false_or,if_true,if_false,reduceIte,reduceCtorEq,Nat.reduceSub,Nat.reduceAdd,Nat.reduceEqDiff,Option.map_some,Option.map_none,decide_true,decide_false,↓reduceIte,Bool.false_eq_true,Nat.sub_zero,Nat.sub_self,and_self,and_true,true_and,List.length_map,nls_ints,hEq_int,hNe_int,Ok_ok,OkG_some,EndQ_some,EndP_nx',EndP_rv',EndP_rn',LoopP_nx,LoopP_ct,LoopP_bk,LoopP_rt,lc_ite,xMeth,xZip,sAugS,stIx,sSub2,itemsOf,nlI_dk,sMove,ite_self,sRaise, Int.reduceEq, decide_true, decide_false])
theorem raised_17 (d : D) (b : Bool) : den_law_raised [.int 17, d, .bool b] = .err "NothingToUndo" d [] := by
  unfold den_law_raised
  have e1 := rp17 d
  have e2 := rn17 d
  cases b <;> (simp -implicitDefEqProofs -dsimp only [runF,endF_nx,endF_rv,endF_rn,endF_err,initS,ioOut,sSeq,sNil,sPass,sBreak,sCont,sBad,sExpr,sRet,sRetN,sIf,sSet,putR,frz,frzs,xVal,xVar,getS_0,getS_s,getR,ownD,getRs,xOp1,xOp2,fin,RD.r,aNil,aCons,xCB,xTup,xLst,truth,tOf,tAnds,tOrs,tNots,xIf,xAnd,xOr,xNot,xIsi,isTy,hAdd,hSub,hNeg,hLt,hLe,hGt,hGe,hIs,hIsNot,hIx,hLen,hInt,hAbs,hMax2,hMin2,h1L,hList,hListS,xMethL,hCountL,lcStep2,lcTurn2,lcAdd2,hTuple,vi,vb,xCall,xCallN,argsD,argD,ioIx,boIx,isOwn,nodupB,disB,xPost_ret,xPost_err,postS,putIo,frzIx,nlR,nlI,nl,nls,Rt.r,permL,tTrue,lcStep,lcTurn,lcAdd,gN,gT,gsNil,gsCons,DL.forget,back,xSeq,seqOf,xEnum,xRng1,xRng2,xRng3,xLstI,xTupI,sPar,noSlot,putRs,sTup,xMut,ownL,mApp,mIns,mPop,mPopAt,mExt,mRev,sSub,sAug,oNone,oSome,xSl,hSl,hStep,xChain,bind_ok',bind_err,bind_bad,List.set_cons_zero,List.set_cons_succ,List.foldl_cons,List.foldl_nil,List.cons_append,List.nil_append,List.replicate_succ,List.replicate_zero,List.append_nil,List.all_cons,List.all_nil,List.map_cons,List.map_nil,List.length_cons,List.length_nil,List.zip_cons_cons,List.filterMap_cons,List.filterMap_nil,List.getElem?_cons_zero,List.getElem?_cons_succ,List.contains_nil,List.contains_cons,Bool.and_true,Bool.true_and,Bool.and_false,Bool.false_and,Bool.not_true,Bool.not_false,Bool.or_true,Bool.true_or,Bool.or_false,Bool.false_or,if_true,if_false,reduceIte,reduceCtorEq,Nat.reduceSub,Nat.reduceAdd,Nat.reduceEqDiff,Option.map_some,Option.map_none,decide_true,decide_false,↓reduceIte,Bool.false_eq_true,Nat.sub_zero,Nat.sub_self,and_self,and_true,true_and,List.length_map,nls_ints,hEq_int,hNe_int,Ok_ok,OkG_some,EndQ_some,EndP_nx',EndP_rv',EndP_rn',LoopP_nx,LoopP_ct,LoopP_bk,LoopP_rt,lc_ite,xMeth,xZip,sAugS,stIx,sSub2,itemsOf,nlI_dk,sMove,ite_self,Int.reduceLT, decide_true, decide_false, e1, e2])
theorem rp18 (d : D) : den_law_raise_second [.int 18, d] = .err "Unreadable" d [] := by
  unfold den_law_raise_second
  (simp -implicitDefEqProofs -dsimp only [runF,endF_nx,endF_rv,endF_rn,endF_err,initS,ioOut,sSeq,sNil,sPass,sBreak,sCont,sBad,sExpr,sRet,sRetN,sIf,sSet,putR,frz,frzs,xVal,xVar,getS_0,getS_s,getR,ownD,getRs,xOp1,xOp2,fin,RD.r,aNil,aCons,xCB,xTup,xLst,truth,tOf,tAnds,tOrs,tNots,xIf,xAnd,xOr,xNot,xIsi,isTy,hAdd,hSub,hNeg,hLt,hLe,hGt,hGe,hIs,hIsNot,hIx,hLen,hInt,hAbs,hMax2,hMin2,h1L,hList,hListS,xMethL,hCountL,lcStep2,lcTurn2,lcAdd2,hTuple,vi,vb,xCall,xCallN,argsD,argD,ioIx,boIx,isOwn,nodupB,disB,xPost_ret,xPost_err,postS,putIo,frzIx,nlR,nlI,nl,nls,Rt.r,permL,tTrue,lcStep,lcTurn,lcAdd,gN,gT,gsNil,gsCons,DL.forget,back,xSeq,seqOf,xEnum,xRng1,xRng2,xRng3,xLstI,xTupI,sPar,noSlot,putRs,sTup,xMut,ownL,mApp,mIns,mPop,mPopAt,mExt,mRev,sSub,sAug,oNone,oSome,xSl,hSl,hStep,xChain,bind_ok',bind_err,bind_bad,List.set_cons_zero,List.set_cons_succ,List.foldl_cons,List.foldl_nil,List.cons_append,List.nil_append,List.replicate_succ,List.replicate_zero,List.append_nil,List.all_cons,List.all_nil,List.map_cons,List.map_nil,List.length_cons,List.length_nil,List.zip_cons_cons,List.filterMap_cons,List.filterMap_nil,List.getElem?_cons_zero,List.getElem?_cons_succ,List.contains_nil,List.contains_cons,Bool.and_true,Bool.true_and,Bool.and_false,Bool.false_and,Bool.not_true,Bool.not_false,Bool.or_true,Bool.true_or,Bool.or_false,Bool.false_or,if_true,if_false,reduceIte,reduceCtorEq,Nat.reduceSub,Nat.reduceAdd,Nat.reduceEqDiff,Option.map_some,Option.map_none,decide_true,decide_false,↓reduceIte,Bool.false_eq_true,Nat.sub_zero,Nat.sub_self,and_self,and_true,true_and,List.length_map,nls_ints,hEq_int,hNe_int,Ok_ok,OkG_some,EndQ_some,EndP_nx',EndP_rv',EndP_rn',LoopP_nx,LoopP_ct,LoopP_bk,LoopP_rt,lc_ite,xMeth,xZip,sAugS,stIx,sSub2,itemsOf,nlI_dk,sMove,ite_self,sRaise, Int.reduceEq, decide_true, decide_false])
theorem rn18 (d : D) : den_law_raise_named_second [.int 18, d] = .err "Unreadable" d [] := by
  unfold den_law_raise_named_second
  (simp -implicitDefEqProofs -dsimp only [runF,endF_nx,endF_rv,endF_rn,endF_err,initS,ioOut,sSeq,sNil,sPass,sBreak,sCont,sBad,sExpr,sRet,sRetN,sIf,sSet,putR,frz,frzs,xVal,xVar,getS_0,getS_s,getR,ownD,getRs,xOp1,xOp2,fin,RD.r,aNil,aCons,xCB,xTup,xLst,truth,tOf,tAnds,tOrs,tNots,xIf,xAnd,xOr,xNot,xIsi,isTy,hAdd,hSub,hNeg,hLt,hLe,hGt,hGe,hIs,hIsNot,hIx,hLen,hInt,hAbs,hMax2,hMin2,h1L,hList,hListS,xMethL,hCountL,lcStep2,lcTurn2,lcAdd2,hTuple,vi,vb,xCall,xCallN,argsD,argD,ioIx,boIx,isOwn,nodupB,disB,xPost_ret,xPost_err,postS,putIo,frzIx,nlR,nlI,nl,nls,Rt.r,permL,tTrue,lcStep,lcTurn,lcAdd,gN,gT,gsNil,gsCons,DL.forget,back,xSeq,seqOf,xEnum,xRng1,xRng2,xRng3,xLstI,xTupI,sPar,noSlot,putRs,sTup,xMut,ownL,mApp,mIns,mPop,mPopAt,mExt,mRev,sSub,sAug,oNone,oSome,xSl,hSl,hStep,xChain,bind_ok',bind_err,bind_bad,List.set_cons_zero,List.set_cons_succ,List.foldl_cons,List.foldl_nil,List.cons_append,List.nil_append,List.replicate_succ,List.replicate_zero,List.append_nil,List.all_cons,List.all_nil,List.map_cons,List.map_nil,List.length_cons,List.length_nil,List.zip_cons_cons,List.filterMap_cons,List.filterMap_nil,List.getElem?_cons_zero,List.getElem?_cons_succ,List.contains_nil,List.contains_cons,Bool.and_true,Bool.true_and,Bool.and_false,Bool.false_and,Bool.not_true,Bool.not_false,Bool.or_true,Bool.true_or,Bool.or_false,Bool.false_or,if_true,if_false,reduceIte,reduceCtorEq,Nat.reduceSub,Nat.reduceAdd,Nat.reduceEqDiff,Option.map_some,Option.map_none,decide_true,decide_false,↓reduceIte,Bool.false_eq_true,Nat.sub_zero,Nat.sub_self,and_self,and_true,true_and,List.length_map,nls_ints,hEq_int,hNe_int,Ok_ok,OkG_some,EndQ_some,EndP_nx',EndP_rv',EndP_rn',LoopP_nx,LoopP_ct,LoopP_bk,LoopP_rt,lc_ite,xMeth,xZip,sAugS,stIx,sSub2,itemsOf,nlI_dk,sMove,ite_self,sRaise, Int.reduceEq, decide_true, decide_false])
theorem raised_18 (d : D) (b : Bool) : den_law_raised [.int 18, d, .bool b] = .err "Unreadable" d [] := by
  unfold den_law_raised
  have e1 := rp18 d
  have e2 := rn18 d
  cases b <;> (simp -implicitDefEqProofs -dsimp only [runF,endF_nx,endF_rv,endF_rn,endF_err,initS,ioOut,sSeq,sNil,sPass,sBreak,sCont,sBad,sExpr,sRet,sRetN,sIf,sSet,putR,frz,frzs,xVal,xVar,getS_0,getS_s,getR,ownD,getRs,xOp1,xOp2,fin,RD.r,aNil,aCons,xCB,xTup,xLst,truth,tOf,tAnds,tOrs,tNots,xIf,xAnd,xOr,xNot,xIsi,isTy,hAdd,hSub,hNeg,hLt,hLe,hGt,hGe,hIs,hIsNot,hIx,hLen,hInt,hAbs,hMax2,hMin2,h1L,hList,hListS,xMethL,hCountL,lcStep2,lcTurn2,lcAdd2,hTuple,vi,vb,xCall,xCallN,argsD,argD,ioIx,boIx,isOwn,nodupB,disB,xPost_ret,xPost_err,postS,putIo,frzIx,nlR,nlI,nl,nls,Rt.r,permL,tTrue,lcStep,lcTurn,lcAdd,gN,gT,gsNil,gsCons,DL.forget,back,xSeq,seqOf,xEnum,xRng1,xRng2,xRng3,xLstI,xTupI,sPar,noSlot,putRs,sTup,xMut,ownL,mApp,mIns,mPop,mPopAt,mExt,mRev,sSub,sAug,oNone,oSome,xSl,hSl,hStep,xChain,bind_ok',bind_err,bind_bad,List.set_cons_zero,List.set_cons_succ,List.foldl_cons,List.foldl_nil,List.cons_append,List.nil_append,List.replicate_succ,List.replicate_zero,List.append_nil,List.all_cons,List.all_nil,List.map_cons,List.map_nil,List.length_cons,List.length_nil,List.zip_cons_cons,List.filterMap_cons,List.filterMap_nil,List.getElem?_cons_zero,List.getElem?_cons_succ,List.contains_nil,List.contains_cons,Bool.and_true,Bool.true_and,Bool.and_false,Bool.false_and,Bool.not_true,Bool.not_false,Bool.or_true,Bool.true_or,Bool.or_false,Bool.false_or,if_true,if_false,reduceIte,reduceCtorEq,Nat.reduceSub,Nat.reduceAdd,Nat.reduceEqDiff,Option.map_some,Option.map_none,decide_true,decide_false,↓reduceIte,Bool.false_eq_true,Nat.sub_zero,Nat.sub_self,and_self,and_true,true_and,List.length_map,nls_ints,hEq_int,hNe_int,Ok_ok,OkG_some,EndQ_some,EndP_nx',EndP_rv',EndP_rn',LoopP_nx,LoopP_ct,LoopP_bk,LoopP_rt,lc_ite,xMeth,xZip,sAugS,stIx,sSub2,itemsOf,nlI_dk,sMove,ite_self,Int.reduceLT, decide_true, decide_false, e1, e2])
theorem rp19 (d : D) : den_law_raise_second [.int 19, d] = .err "Unorderly" d [] := by
  unfold den_law_raise_second
  (simp -implicitDefEqProofs -dsimp only [runF,endF_nx,endF_rv,endF_rn,endF_err,initS,ioOut,sSeq,sNil,sPass,sBreak,sCont,sBad,sExpr,sRet,sRetN,sIf,sSet,putR,frz,frzs,xVal,xVar,getS_0,getS_s,getR,ownD,getRs,xOp1,xOp2,fin,RD.r,aNil,aCons,xCB,xTup,xLst,truth,tOf,tAnds,tOrs,tNots,xIf,xAnd,xOr,xNot,xIsi,isTy,hAdd,hSub,hNeg,hLt,hLe,hGt,hGe,hIs,hIsNot,hIx,hLen,hInt,hAbs,hMax2,hMin2,h1L,hList,hListS,xMethL,hCountL,lcStep2,lcTurn2,lcAdd2,hTuple,vi,vb,xCall,xCallN,argsD,argD,ioIx,boIx,isOwn,nodupB,disB,xPost_ret,xPost_err,postS,putIo,frzIx,nlR,nlI,nl,nls,Rt.r,permL,tTrue,lcStep,lcTurn,lcAdd,gN,gT,gsNil,gsCons,DL.forget,back,xSeq,seqOf,xEnum,xRng1,xRng2,xRng3,xLstI,xTupI,sPar,noSlot,putRs,sTup,xMut,ownL,mApp,mIns,mPop,mPopAt,mExt,mRev,sSub,sAug,oNone,oSome,xSl,hSl,hStep,xChain,bind_ok',bind_err,bind_bad,List.set_cons_zero,List.set_cons_succ,List.foldl_cons,List.foldl_nil,List.cons_append,List.nil_append,List.replicate_succ,List.replicate_zero,List.append_nil,List.all_cons,List.all_nil,List.map_cons,List.map_nil,List.length_cons,List.length_nil,List.zip_cons_cons,List.filterMap_cons,List.filterMap_nil,List.getElem?_cons_zero,List.getElem?_cons_succ,List.contains_nil,List.contains_cons,Bool.and_true,Bool.true_and,Bool.and_false,Bool.false_and,Bool.not_true,Bool.not_false,Bool.or_true,Bool.true_or,Bool.or_false,Bool.false_or,if_true,if_false,reduceIte,reduceCtorEq,Nat.reduceSub,Nat.reduceAdd,Nat.reduceEqDiff,Option.map_some,Option.map_none,decide_true,decide_false,↓reduceIte,Bool.false_eq_true,Nat.sub_zero,Nat.sub_self,and_self,and_true,true_and,List.length_map,nls_ints,hEq_int,hNe_int,Ok_ok,OkG_some,EndQ_some,EndP_nx',EndP_rv',EndP_rn',LoopP_nx,LoopP_ct,LoopP_bk,LoopP_rt,lc_ite,xMeth,xZip,sAugS,stIx,sSub2,itemsOf,nlI_dk,sMove,ite_self,sRaise, Int.reduceEq, decide_true, decide_false])
theorem rn19 (d : D) : den_law_raise_named_second [.int 19, d] = .err "Unorderly" d [] := by
  unfold den_law_raise_named_second
  (simp -implicitDefEqProofs -dsimp only [runF,endF_nx,endF_rv,endF_rn,endF_err,initS,ioOut,sSeq,sNil,sPass,sBreak,sCont,sBad,sExpr,sRet,sRetN,sIf,sSet,putR,frz,frzs,xVal,xVar,getS_0,getS_s,getR,ownD,getRs,xOp1,xOp2,fin,RD.r,aNil,aCons,xCB,xTup,xLst,truth,tOf,tAnds,tOrs,tNots,xIf,xAnd,xOr,xNot,xIsi,isTy,hAdd,hSub,hNeg,hLt,hLe,hGt,hGe,hIs,hIsNot,hIx,hLen,hInt,hAbs,hMax2,hMin2,h1L,hList,hListS,xMethL,hCountL,lcStep2,lcTurn2,lcAdd2,hTuple,vi,vb,xCall,xCallN,argsD,argD,ioIx,boIx,isOwn,nodupB,disB,xPost_ret,xPost_err,postS,putIo,frzIx,nlR,nlI,nl,nls,Rt.r,permL,tTrue,lcStep,lcTurn,lcAdd,gN,gT,gsNil,gsCons,DL.forget,back,xSeq,seqOf,xEnum,xRng1,xRng2,xRng3,xLstI,xTupI,sPar,noSlot,putRs,sTup,xMut,ownL,mApp,mIns,mPop,mPopAt,mExt,mRev,sSub,sAug,oNone,oSome,xSl,hSl,hStep,xChain,bind_ok',bind_err,bind_bad,List.set_cons_zero,List.set_cons_succ,List.foldl_cons,List.foldl_nil,List.cons_append,List.nil_append,List.replicate_succ,List.replicate_zero,List.append_nil,List.all_cons,List.all_nil,List.map_cons,List.map_nil,List.length_cons,List.length_nil,List.zip_cons_cons,List.filterMap_cons,List.filterMap_nil,List.getElem?_cons_zero,List.getElem?_cons_succ,List.contains_nil,List.contains_cons,Bool.and_true,Bool.true_and,Bool.and_false,Bool.false_and,Bool.not_true,Bool.not_false,Bool.or_true,Bool.true_or,Bool.or_false,Bool.false_or,if_true,if_false,reduceIte,reduceCtorEq,Nat.reduceSub,Nat.reduceAdd,Nat.reduceEqDiff,Option.map_some,Option.map_none,decide_true,decide_false,↓reduceIte,Bool.false_eq_true,Nat.sub_zero,Nat.sub_self,and_self,and_true,true_and,List.length_map,nls_ints,hEq_int,hNe_int,Ok_ok,OkG_some,EndQ_some,EndP_nx',EndP_rv',EndP_rn',LoopP_nx,LoopP_ct,LoopP_bk,LoopP_rt,lc_ite,xMeth,xZip,sAugS,stIx,sSub2,itemsOf,nlI_dk,sMove,ite_self,sRaise, Int.reduceEq, decide_true, decide_false])
theorem raised_19 (d : D) (b : Bool) : den_law_raised [.int 19, d, .bool b] = .err "Unorderly" d [] := by
  unfold den_law_raised
  have e1 := rp19 d
  have e2 := rn19 d
  cases b <;> (simp -implicitDefEqProofs -dsimp only [runF,endF_nx,endF_rv,endF_rn,endF_err,initS,ioOut,sSeq,sNil,sPass,sBreak,sCont,sBad,sExpr,sRet,sRetN,sIf,sSet,putR,frz,frzs,xVal,xVar,getS_0,getS_s,getR,ownD,getRs,xOp1,xOp2,fin,RD.r,aNil,aCons,xCB,xTup,xLst,truth,tOf,tAnds,tOrs,tNots,xIf,xAnd,xOr,xNot,xIsi,isTy,hAdd,hSub,hNeg,hLt,hLe,hGt,hGe,hIs,hIsNot,hIx,hLen,hInt,hAbs,hMax2,hMin2,h1L,hList,hListS,xMethL,hCountL,lcStep2,lcTurn2,lcAdd2,hTuple,vi,vb,xCall,xCallN,argsD,argD,ioIx,boIx,isOwn,nodupB,disB,xPost_ret,xPost_err,postS,putIo,frzIx,nlR,nlI,nl,nls,Rt.r,permL,tTrue,lcStep,lcTurn,lcAdd,gN,gT,gsNil,gsCons,DL.forget,back,xSeq,seqOf,xEnum,xRng1,xRng2,xRng3,xLstI,xTupI,sPar,noSlot,putRs,sTup,xMut,ownL,mApp,mIns,mPop,mPopAt,mExt,mRev,sSub,sAug,oNone,oSome,xSl,hSl,hStep,xChain,bind_ok',bind_err,bind_bad,List.set_cons_zero,List.set_cons_succ,List.foldl_cons,List.foldl_nil,List.cons_append,List.nil_append,List.replicate_succ,List.replicate_zero,List.append_nil,List.all_cons,List.all_nil,List.map_cons,List.map_nil,List.length_cons,List.length_nil,List.zip_cons_cons,List.filterMap_cons,List.filterMap_nil,List.getElem?_cons_zero,List.getElem?_cons_succ,List.contains_nil,List.contains_cons,Bool.and_true,Bool.true_and,Bool.and_false,Bool.false_and,Bool.not_true,Bool.not_false,Bool.or_true,Bool.true_or,Bool.or_false,Bool.false_or,if_true,if_false,reduceIte,reduceCtorEq,Nat.reduceSub,Nat.reduceAdd,Nat.reduceEqDiff,Option.map_some,Option.map_none,decide_true,decide_false,↓reduceIte,Bool.false_eq_true,Nat.sub_zero,Nat.sub_self,and_self,and_true,true_and,List.length_map,nls_ints,hEq_int,hNe_int,Ok_ok,OkG_some,EndQ_some,EndP_nx',EndP_rv',EndP_rn',LoopP_nx,LoopP_ct,LoopP_bk,LoopP_rt,lc_ite,xMeth,xZip,sAugS,stIx,sSub2,itemsOf,nlI_dk,sMove,ite_self,Int.reduceLT, decide_true, decide_false, e1, e2])
theorem raised_eq (b : Bool) (d : D) (k : Nat) (hk : k < 20) : den_law_raised [.int (k : Int), d, .bool b] = .err (errsL.getD (k + 1) "") d [] := by
  have hh : k = 0 ∨ k = 1 ∨ k = 2 ∨ k = 3 ∨ k = 4 ∨ k = 5 ∨ k = 6 ∨ k = 7 ∨ k = 8 ∨ k = 9 ∨ k = 10 ∨ k = 11 ∨ k = 12 ∨ k = 13 ∨ k = 14 ∨ k = 15 ∨ k = 16 ∨ k = 17 ∨ k = 18 ∨ k = 19 := by omega
  rcases hh with rfl | rfl | rfl | rfl | rfl | rfl | rfl | rfl | rfl | rfl | rfl | rfl | rfl | rfl | rfl | rfl | rfl | rfl | rfl | rfl
  · exact raised_0 d b
  · exact raised_1 d b
  · exact raised_2 d b
  · exact raised_3 d b
  · exact raised_4 d b
  · exact raised_5 d b
  · exact raised_6 d b
  · exact raised_7 d b
  · exact raised_8 d b
  · exact raised_9 d b
  · exact raised_10 d b
  · exact raised_11 d b
  · exact raised_12 d b
  · exact raised_13 d b
  · exact raised_14 d b
  · exact raised_15 d b
  · exact raised_16 d b
  · exact raised_17 d b
  · exact raised_18 d b
  · exact raised_19 d b
theorem kinds_gen (c : PySem.Str) (d : D) (b0 b1 b2 b3 b4 b5 b6 b7 b8 b9 b10 b11 b12 b13 b14 b15 b16 b17 b18 b19 : Bool) (h0 : exmT "OrderError" errsL "InvalidOrder" c = some b0) (h1 : exmT "OrderError" errsL "InvalidPattern" c = some b1) (h2 : exmT "OrderError" errsL "InvalidList" c = some b2) (h3 : exmT "OrderError" errsL "InvalidForm" c = some b3) (h4 : exmT "OrderError" errsL "InvalidLetter" c = some b4) (h5 : exmT "OrderError" errsL "InvalidWord" c = some b5) (h6 : exmT "OrderError" errsL "InvalidKind" c = some b6) (h7 : exmT "OrderError" errsL "InvalidNumber" c = some b7) (h8 : exmT "OrderError" errsL "InvalidPair" c = some b8) (h9 : exmT "OrderError" errsL "InvalidMachine" c = some b9) (h10 : exmT "OrderError" errsL "NoMachine" c = some b10) (h11 : exmT "OrderError" errsL "InvalidTape" c = some b11) (h12 : exmT "OrderError" errsL "InvalidSorter" c = some b12) (h13 : exmT "OrderError" errsL "InvalidSaying" c = some b13) (h14 : exmT "OrderError" errsL "InvalidName" c = some b14) (h15 : exmT "OrderError" errsL "NotLet" c = some b15) (h16 : exmT "OrderError" errsL "UnknownName" c = some b16) (h17 : exmT "OrderError" errsL "NothingToUndo" c = some b17) (h18 : exmT "OrderError" errsL "Unreadable" c = some b18) (h19 : exmT "OrderError" errsL "Unorderly" c = some b19) : den_law_kinds_2 [erD c d] = .ret (.new (.list [.bool b0, .bool b1, .bool b2, .bool b3, .bool b4, .bool b5, .bool b6, .bool b7, .bool b8, .bool b9, .bool b10, .bool b11, .bool b12, .bool b13, .bool b14, .bool b15, .bool b16, .bool b17, .bool b18, .bool b19])) [erD c d] := by
  apply Ret.eq
  apply Ret.run
  have z6 : 6 ≤ line := by decide
  have z9 : 9 ≤ line := by decide
  have z12 : 12 ≤ line := by decide
  have z15 : 15 ≤ line := by decide
  have z18 : 18 ≤ line := by decide
  have z20 : 20 ≤ line := by decide
  (simp -implicitDefEqProofs -dsimp only [runF,endF_nx,endF_rv,endF_rn,endF_err,initS,ioOut,sSeq,sNil,sPass,sBreak,sCont,sBad,sExpr,sRet,sRetN,sIf,sSet,putR,frz,frzs,xVal,xVar,getS_0,getS_s,getR,ownD,getRs,xOp1,xOp2,fin,RD.r,aNil,aCons,xCB,xTup,xLst,truth,tOf,tAnds,tOrs,tNots,xIf,xAnd,xOr,xNot,xIsi,isTy,hAdd,hSub,hNeg,hLt,hLe,hGt,hGe,hIs,hIsNot,hIx,hLen,hInt,hAbs,hMax2,hMin2,h1L,hList,hListS,xMethL,hCountL,lcStep2,lcTurn2,lcAdd2,hTuple,vi,vb,xCall,xCallN,argsD,argD,ioIx,boIx,isOwn,nodupB,disB,xPost_ret,xPost_err,postS,putIo,frzIx,nlR,nlI,nl,nls,Rt.r,permL,tTrue,lcStep,lcTurn,lcAdd,gN,gT,gsNil,gsCons,DL.forget,back,xSeq,seqOf,xEnum,xRng1,xRng2,xRng3,xLstI,xTupI,sPar,noSlot,putRs,sTup,xMut,ownL,mApp,mIns,mPop,mPopAt,mExt,mRev,sSub,sAug,oNone,oSome,xSl,hSl,hStep,xChain,bind_ok',bind_err,bind_bad,List.set_cons_zero,List.set_cons_succ,List.foldl_cons,List.foldl_nil,List.cons_append,List.nil_append,List.replicate_succ,List.replicate_zero,List.append_nil,List.all_cons,List.all_nil,List.map_cons,List.map_nil,List.length_cons,List.length_nil,List.zip_cons_cons,List.filterMap_cons,List.filterMap_nil,List.getElem?_cons_zero,List.getElem?_cons_succ,List.contains_nil,List.contains_cons,Bool.and_true,Bool.true_and,Bool.and_false,Bool.false_and,Bool.not_true,Bool.not_false,Bool.or_true,Bool.true_or,Bool.or_false,Bool.false_or,if_true,if_false,reduceIte,reduceCtorEq,Nat.reduceSub,Nat.reduceAdd,Nat.reduceEqDiff,Option.map_some,Option.map_none,decide_true,decide_false,↓reduceIte,Bool.false_eq_true,Nat.sub_zero,Nat.sub_self,and_self,and_true,true_and,List.length_map,nls_ints,hEq_int,hNe_int,Ok_ok,OkG_some,EndQ_some,EndP_nx',EndP_rv',EndP_rn',LoopP_nx,LoopP_ct,LoopP_bk,LoopP_rt,lc_ite,xMeth,xZip,sAugS,stIx,sSub2,itemsOf,nlI_dk,sMove,ite_self,z6, z9, z12, z15, z18, z20, xErIs, erD, h0, h1, h2, h3, h4, h5, h6, h7, h8, h9, h10, h11, h12, h13, h14, h15, h16, h17, h18, h19])
theorem exm_all : ∀ i j : Fin 21, exmT "OrderError" errsL (errsL.getD i.val "") (errsL.getD j.val "") = some (decide (i.val = j.val) || decide (i.val = 0)) := by decide +kernel
theorem kinds_0 (d : D) : den_law_kinds_2 [erD "OrderError" d] = .ret (.new (.list [.bool false, .bool false, .bool false, .bool false, .bool false, .bool false, .bool false, .bool false, .bool false, .bool false, .bool false, .bool false, .bool false, .bool false, .bool false, .bool false, .bool false, .bool false, .bool false, .bool false])) [erD "OrderError" d] := kinds_gen _ d false false false false false false false false false false false false false false false false false false false false (exm_all ⟨1, by decide⟩ ⟨0, by decide⟩) (exm_all ⟨2, by decide⟩ ⟨0, by decide⟩) (exm_all ⟨3, by decide⟩ ⟨0, by decide⟩) (exm_all ⟨4, by decide⟩ ⟨0, by decide⟩) (exm_all ⟨5, by decide⟩ ⟨0, by decide⟩) (exm_all ⟨6, by decide⟩ ⟨0, by decide⟩) (exm_all ⟨7, by decide⟩ ⟨0, by decide⟩) (exm_all ⟨8, by decide⟩ ⟨0, by decide⟩) (exm_all ⟨9, by decide⟩ ⟨0, by decide⟩) (exm_all ⟨10, by decide⟩ ⟨0, by decide⟩) (exm_all ⟨11, by decide⟩ ⟨0, by decide⟩) (exm_all ⟨12, by decide⟩ ⟨0, by decide⟩) (exm_all ⟨13, by decide⟩ ⟨0, by decide⟩) (exm_all ⟨14, by decide⟩ ⟨0, by decide⟩) (exm_all ⟨15, by decide⟩ ⟨0, by decide⟩) (exm_all ⟨16, by decide⟩ ⟨0, by decide⟩) (exm_all ⟨17, by decide⟩ ⟨0, by decide⟩) (exm_all ⟨18, by decide⟩ ⟨0, by decide⟩) (exm_all ⟨19, by decide⟩ ⟨0, by decide⟩) (exm_all ⟨20, by decide⟩ ⟨0, by decide⟩)
theorem kinds_1 (d : D) : den_law_kinds_2 [erD "InvalidOrder" d] = .ret (.new (.list [.bool true, .bool false, .bool false, .bool false, .bool false, .bool false, .bool false, .bool false, .bool false, .bool false, .bool false, .bool false, .bool false, .bool false, .bool false, .bool false, .bool false, .bool false, .bool false, .bool false])) [erD "InvalidOrder" d] := kinds_gen _ d true false false false false false false false false false false false false false false false false false false false (exm_all ⟨1, by decide⟩ ⟨1, by decide⟩) (exm_all ⟨2, by decide⟩ ⟨1, by decide⟩) (exm_all ⟨3, by decide⟩ ⟨1, by decide⟩) (exm_all ⟨4, by decide⟩ ⟨1, by decide⟩) (exm_all ⟨5, by decide⟩ ⟨1, by decide⟩) (exm_all ⟨6, by decide⟩ ⟨1, by decide⟩) (exm_all ⟨7, by decide⟩ ⟨1, by decide⟩) (exm_all ⟨8, by decide⟩ ⟨1, by decide⟩) (exm_all ⟨9, by decide⟩ ⟨1, by decide⟩) (exm_all ⟨10, by decide⟩ ⟨1, by decide⟩) (exm_all ⟨11, by decide⟩ ⟨1, by decide⟩) (exm_all ⟨12, by decide⟩ ⟨1, by decide⟩) (exm_all ⟨13, by decide⟩ ⟨1, by decide⟩) (exm_all ⟨14, by decide⟩ ⟨1, by decide⟩) (exm_all ⟨15, by decide⟩ ⟨1, by decide⟩) (exm_all ⟨16, by decide⟩ ⟨1, by decide⟩) (exm_all ⟨17, by decide⟩ ⟨1, by decide⟩) (exm_all ⟨18, by decide⟩ ⟨1, by decide⟩) (exm_all ⟨19, by decide⟩ ⟨1, by decide⟩) (exm_all ⟨20, by decide⟩ ⟨1, by decide⟩)
theorem kinds_2 (d : D) : den_law_kinds_2 [erD "InvalidPattern" d] = .ret (.new (.list [.bool false, .bool true, .bool false, .bool false, .bool false, .bool false, .bool false, .bool false, .bool false, .bool false, .bool false, .bool false, .bool false, .bool false, .bool false, .bool false, .bool false, .bool false, .bool false, .bool false])) [erD "InvalidPattern" d] := kinds_gen _ d false true false false false false false false false false false false false false false false false false false false (exm_all ⟨1, by decide⟩ ⟨2, by decide⟩) (exm_all ⟨2, by decide⟩ ⟨2, by decide⟩) (exm_all ⟨3, by decide⟩ ⟨2, by decide⟩) (exm_all ⟨4, by decide⟩ ⟨2, by decide⟩) (exm_all ⟨5, by decide⟩ ⟨2, by decide⟩) (exm_all ⟨6, by decide⟩ ⟨2, by decide⟩) (exm_all ⟨7, by decide⟩ ⟨2, by decide⟩) (exm_all ⟨8, by decide⟩ ⟨2, by decide⟩) (exm_all ⟨9, by decide⟩ ⟨2, by decide⟩) (exm_all ⟨10, by decide⟩ ⟨2, by decide⟩) (exm_all ⟨11, by decide⟩ ⟨2, by decide⟩) (exm_all ⟨12, by decide⟩ ⟨2, by decide⟩) (exm_all ⟨13, by decide⟩ ⟨2, by decide⟩) (exm_all ⟨14, by decide⟩ ⟨2, by decide⟩) (exm_all ⟨15, by decide⟩ ⟨2, by decide⟩) (exm_all ⟨16, by decide⟩ ⟨2, by decide⟩) (exm_all ⟨17, by decide⟩ ⟨2, by decide⟩) (exm_all ⟨18, by decide⟩ ⟨2, by decide⟩) (exm_all ⟨19, by decide⟩ ⟨2, by decide⟩) (exm_all ⟨20, by decide⟩ ⟨2, by decide⟩)
theorem kinds_3 (d : D) : den_law_kinds_2 [erD "InvalidList" d] = .ret (.new (.list [.bool false, .bool false, .bool true, .bool false, .bool false, .bool false, .bool false, .bool false, .bool false, .bool false, .bool false, .bool false, .bool false, .bool false, .bool false, .bool false, .bool false, .bool false, .bool false, .bool false])) [erD "InvalidList" d] := kinds_gen _ d false false true false false false false false false false false false false false false false false false false false (exm_all ⟨1, by decide⟩ ⟨3, by decide⟩) (exm_all ⟨2, by decide⟩ ⟨3, by decide⟩) (exm_all ⟨3, by decide⟩ ⟨3, by decide⟩) (exm_all ⟨4, by decide⟩ ⟨3, by decide⟩) (exm_all ⟨5, by decide⟩ ⟨3, by decide⟩) (exm_all ⟨6, by decide⟩ ⟨3, by decide⟩) (exm_all ⟨7, by decide⟩ ⟨3, by decide⟩) (exm_all ⟨8, by decide⟩ ⟨3, by decide⟩) (exm_all ⟨9, by decide⟩ ⟨3, by decide⟩) (exm_all ⟨10, by decide⟩ ⟨3, by decide⟩) (exm_all ⟨11, by decide⟩ ⟨3, by decide⟩) (exm_all ⟨12, by decide⟩ ⟨3, by decide⟩) (exm_all ⟨13, by decide⟩ ⟨3, by decide⟩) (exm_all ⟨14, by decide⟩ ⟨3, by decide⟩) (exm_all ⟨15, by decide⟩ ⟨3, by decide⟩) (exm_all ⟨16, by decide⟩ ⟨3, by decide⟩) (exm_all ⟨17, by decide⟩ ⟨3, by decide⟩) (exm_all ⟨18, by decide⟩ ⟨3, by decide⟩) (exm_all ⟨19, by decide⟩ ⟨3, by decide⟩) (exm_all ⟨20, by decide⟩ ⟨3, by decide⟩)
theorem kinds_4 (d : D) : den_law_kinds_2 [erD "InvalidForm" d] = .ret (.new (.list [.bool false, .bool false, .bool false, .bool true, .bool false, .bool false, .bool false, .bool false, .bool false, .bool false, .bool false, .bool false, .bool false, .bool false, .bool false, .bool false, .bool false, .bool false, .bool false, .bool false])) [erD "InvalidForm" d] := kinds_gen _ d false false false true false false false false false false false false false false false false false false false false (exm_all ⟨1, by decide⟩ ⟨4, by decide⟩) (exm_all ⟨2, by decide⟩ ⟨4, by decide⟩) (exm_all ⟨3, by decide⟩ ⟨4, by decide⟩) (exm_all ⟨4, by decide⟩ ⟨4, by decide⟩) (exm_all ⟨5, by decide⟩ ⟨4, by decide⟩) (exm_all ⟨6, by decide⟩ ⟨4, by decide⟩) (exm_all ⟨7, by decide⟩ ⟨4, by decide⟩) (exm_all ⟨8, by decide⟩ ⟨4, by decide⟩) (exm_all ⟨9, by decide⟩ ⟨4, by decide⟩) (exm_all ⟨10, by decide⟩ ⟨4, by decide⟩) (exm_all ⟨11, by decide⟩ ⟨4, by decide⟩) (exm_all ⟨12, by decide⟩ ⟨4, by decide⟩) (exm_all ⟨13, by decide⟩ ⟨4, by decide⟩) (exm_all ⟨14, by decide⟩ ⟨4, by decide⟩) (exm_all ⟨15, by decide⟩ ⟨4, by decide⟩) (exm_all ⟨16, by decide⟩ ⟨4, by decide⟩) (exm_all ⟨17, by decide⟩ ⟨4, by decide⟩) (exm_all ⟨18, by decide⟩ ⟨4, by decide⟩) (exm_all ⟨19, by decide⟩ ⟨4, by decide⟩) (exm_all ⟨20, by decide⟩ ⟨4, by decide⟩)
theorem kinds_5 (d : D) : den_law_kinds_2 [erD "InvalidLetter" d] = .ret (.new (.list [.bool false, .bool false, .bool false, .bool false, .bool true, .bool false, .bool false, .bool false, .bool false, .bool false, .bool false, .bool false, .bool false, .bool false, .bool false, .bool false, .bool false, .bool false, .bool false, .bool false])) [erD "InvalidLetter" d] := kinds_gen _ d false false false false true false false false false false false false false false false false false false false false (exm_all ⟨1, by decide⟩ ⟨5, by decide⟩) (exm_all ⟨2, by decide⟩ ⟨5, by decide⟩) (exm_all ⟨3, by decide⟩ ⟨5, by decide⟩) (exm_all ⟨4, by decide⟩ ⟨5, by decide⟩) (exm_all ⟨5, by decide⟩ ⟨5, by decide⟩) (exm_all ⟨6, by decide⟩ ⟨5, by decide⟩) (exm_all ⟨7, by decide⟩ ⟨5, by decide⟩) (exm_all ⟨8, by decide⟩ ⟨5, by decide⟩) (exm_all ⟨9, by decide⟩ ⟨5, by decide⟩) (exm_all ⟨10, by decide⟩ ⟨5, by decide⟩) (exm_all ⟨11, by decide⟩ ⟨5, by decide⟩) (exm_all ⟨12, by decide⟩ ⟨5, by decide⟩) (exm_all ⟨13, by decide⟩ ⟨5, by decide⟩) (exm_all ⟨14, by decide⟩ ⟨5, by decide⟩) (exm_all ⟨15, by decide⟩ ⟨5, by decide⟩) (exm_all ⟨16, by decide⟩ ⟨5, by decide⟩) (exm_all ⟨17, by decide⟩ ⟨5, by decide⟩) (exm_all ⟨18, by decide⟩ ⟨5, by decide⟩) (exm_all ⟨19, by decide⟩ ⟨5, by decide⟩) (exm_all ⟨20, by decide⟩ ⟨5, by decide⟩)
theorem kinds_6 (d : D) : den_law_kinds_2 [erD "InvalidWord" d] = .ret (.new (.list [.bool false, .bool false, .bool false, .bool false, .bool false, .bool true, .bool false, .bool false, .bool false, .bool false, .bool false, .bool false, .bool false, .bool false, .bool false, .bool false, .bool false, .bool false, .bool false, .bool false])) [erD "InvalidWord" d] := kinds_gen _ d false false false false false true false false false false false false false false false false false false false false (exm_all ⟨1, by decide⟩ ⟨6, by decide⟩) (exm_all ⟨2, by decide⟩ ⟨6, by decide⟩) (exm_all ⟨3, by decide⟩ ⟨6, by decide⟩) (exm_all ⟨4, by decide⟩ ⟨6, by decide⟩) (exm_all ⟨5, by decide⟩ ⟨6, by decide⟩) (exm_all ⟨6, by decide⟩ ⟨6, by decide⟩) (exm_all ⟨7, by decide⟩ ⟨6, by decide⟩) (exm_all ⟨8, by decide⟩ ⟨6, by decide⟩) (exm_all ⟨9, by decide⟩ ⟨6, by decide⟩) (exm_all ⟨10, by decide⟩ ⟨6, by decide⟩) (exm_all ⟨11, by decide⟩ ⟨6, by decide⟩) (exm_all ⟨12, by decide⟩ ⟨6, by decide⟩) (exm_all ⟨13, by decide⟩ ⟨6, by decide⟩) (exm_all ⟨14, by decide⟩ ⟨6, by decide⟩) (exm_all ⟨15, by decide⟩ ⟨6, by decide⟩) (exm_all ⟨16, by decide⟩ ⟨6, by decide⟩) (exm_all ⟨17, by decide⟩ ⟨6, by decide⟩) (exm_all ⟨18, by decide⟩ ⟨6, by decide⟩) (exm_all ⟨19, by decide⟩ ⟨6, by decide⟩) (exm_all ⟨20, by decide⟩ ⟨6, by decide⟩)
theorem kinds_7 (d : D) : den_law_kinds_2 [erD "InvalidKind" d] = .ret (.new (.list [.bool false, .bool false, .bool false, .bool false, .bool false, .bool false, .bool true, .bool false, .bool false, .bool false, .bool false, .bool false, .bool false, .bool false, .bool false, .bool false, .bool false, .bool false, .bool false, .bool false])) [erD "InvalidKind" d] := kinds_gen _ d false false false false false false true false false false false false false false false false false false false false (exm_all ⟨1, by decide⟩ ⟨7, by decide⟩) (exm_all ⟨2, by decide⟩ ⟨7, by decide⟩) (exm_all ⟨3, by decide⟩ ⟨7, by decide⟩) (exm_all ⟨4, by decide⟩ ⟨7, by decide⟩) (exm_all ⟨5, by decide⟩ ⟨7, by decide⟩) (exm_all ⟨6, by decide⟩ ⟨7, by decide⟩) (exm_all ⟨7, by decide⟩ ⟨7, by decide⟩) (exm_all ⟨8, by decide⟩ ⟨7, by decide⟩) (exm_all ⟨9, by decide⟩ ⟨7, by decide⟩) (exm_all ⟨10, by decide⟩ ⟨7, by decide⟩) (exm_all ⟨11, by decide⟩ ⟨7, by decide⟩) (exm_all ⟨12, by decide⟩ ⟨7, by decide⟩) (exm_all ⟨13, by decide⟩ ⟨7, by decide⟩) (exm_all ⟨14, by decide⟩ ⟨7, by decide⟩) (exm_all ⟨15, by decide⟩ ⟨7, by decide⟩) (exm_all ⟨16, by decide⟩ ⟨7, by decide⟩) (exm_all ⟨17, by decide⟩ ⟨7, by decide⟩) (exm_all ⟨18, by decide⟩ ⟨7, by decide⟩) (exm_all ⟨19, by decide⟩ ⟨7, by decide⟩) (exm_all ⟨20, by decide⟩ ⟨7, by decide⟩)
theorem kinds_8 (d : D) : den_law_kinds_2 [erD "InvalidNumber" d] = .ret (.new (.list [.bool false, .bool false, .bool false, .bool false, .bool false, .bool false, .bool false, .bool true, .bool false, .bool false, .bool false, .bool false, .bool false, .bool false, .bool false, .bool false, .bool false, .bool false, .bool false, .bool false])) [erD "InvalidNumber" d] := kinds_gen _ d false false false false false false false true false false false false false false false false false false false false (exm_all ⟨1, by decide⟩ ⟨8, by decide⟩) (exm_all ⟨2, by decide⟩ ⟨8, by decide⟩) (exm_all ⟨3, by decide⟩ ⟨8, by decide⟩) (exm_all ⟨4, by decide⟩ ⟨8, by decide⟩) (exm_all ⟨5, by decide⟩ ⟨8, by decide⟩) (exm_all ⟨6, by decide⟩ ⟨8, by decide⟩) (exm_all ⟨7, by decide⟩ ⟨8, by decide⟩) (exm_all ⟨8, by decide⟩ ⟨8, by decide⟩) (exm_all ⟨9, by decide⟩ ⟨8, by decide⟩) (exm_all ⟨10, by decide⟩ ⟨8, by decide⟩) (exm_all ⟨11, by decide⟩ ⟨8, by decide⟩) (exm_all ⟨12, by decide⟩ ⟨8, by decide⟩) (exm_all ⟨13, by decide⟩ ⟨8, by decide⟩) (exm_all ⟨14, by decide⟩ ⟨8, by decide⟩) (exm_all ⟨15, by decide⟩ ⟨8, by decide⟩) (exm_all ⟨16, by decide⟩ ⟨8, by decide⟩) (exm_all ⟨17, by decide⟩ ⟨8, by decide⟩) (exm_all ⟨18, by decide⟩ ⟨8, by decide⟩) (exm_all ⟨19, by decide⟩ ⟨8, by decide⟩) (exm_all ⟨20, by decide⟩ ⟨8, by decide⟩)
theorem kinds_9 (d : D) : den_law_kinds_2 [erD "InvalidPair" d] = .ret (.new (.list [.bool false, .bool false, .bool false, .bool false, .bool false, .bool false, .bool false, .bool false, .bool true, .bool false, .bool false, .bool false, .bool false, .bool false, .bool false, .bool false, .bool false, .bool false, .bool false, .bool false])) [erD "InvalidPair" d] := kinds_gen _ d false false false false false false false false true false false false false false false false false false false false (exm_all ⟨1, by decide⟩ ⟨9, by decide⟩) (exm_all ⟨2, by decide⟩ ⟨9, by decide⟩) (exm_all ⟨3, by decide⟩ ⟨9, by decide⟩) (exm_all ⟨4, by decide⟩ ⟨9, by decide⟩) (exm_all ⟨5, by decide⟩ ⟨9, by decide⟩) (exm_all ⟨6, by decide⟩ ⟨9, by decide⟩) (exm_all ⟨7, by decide⟩ ⟨9, by decide⟩) (exm_all ⟨8, by decide⟩ ⟨9, by decide⟩) (exm_all ⟨9, by decide⟩ ⟨9, by decide⟩) (exm_all ⟨10, by decide⟩ ⟨9, by decide⟩) (exm_all ⟨11, by decide⟩ ⟨9, by decide⟩) (exm_all ⟨12, by decide⟩ ⟨9, by decide⟩) (exm_all ⟨13, by decide⟩ ⟨9, by decide⟩) (exm_all ⟨14, by decide⟩ ⟨9, by decide⟩) (exm_all ⟨15, by decide⟩ ⟨9, by decide⟩) (exm_all ⟨16, by decide⟩ ⟨9, by decide⟩) (exm_all ⟨17, by decide⟩ ⟨9, by decide⟩) (exm_all ⟨18, by decide⟩ ⟨9, by decide⟩) (exm_all ⟨19, by decide⟩ ⟨9, by decide⟩) (exm_all ⟨20, by decide⟩ ⟨9, by decide⟩)
theorem kinds_10 (d : D) : den_law_kinds_2 [erD "InvalidMachine" d] = .ret (.new (.list [.bool false, .bool false, .bool false, .bool false, .bool false, .bool false, .bool false, .bool false, .bool false, .bool true, .bool false, .bool false, .bool false, .bool false, .bool false, .bool false, .bool false, .bool false, .bool false, .bool false])) [erD "InvalidMachine" d] := kinds_gen _ d false false false false false false false false false true false false false false false false false false false false (exm_all ⟨1, by decide⟩ ⟨10, by decide⟩) (exm_all ⟨2, by decide⟩ ⟨10, by decide⟩) (exm_all ⟨3, by decide⟩ ⟨10, by decide⟩) (exm_all ⟨4, by decide⟩ ⟨10, by decide⟩) (exm_all ⟨5, by decide⟩ ⟨10, by decide⟩) (exm_all ⟨6, by decide⟩ ⟨10, by decide⟩) (exm_all ⟨7, by decide⟩ ⟨10, by decide⟩) (exm_all ⟨8, by decide⟩ ⟨10, by decide⟩) (exm_all ⟨9, by decide⟩ ⟨10, by decide⟩) (exm_all ⟨10, by decide⟩ ⟨10, by decide⟩) (exm_all ⟨11, by decide⟩ ⟨10, by decide⟩) (exm_all ⟨12, by decide⟩ ⟨10, by decide⟩) (exm_all ⟨13, by decide⟩ ⟨10, by decide⟩) (exm_all ⟨14, by decide⟩ ⟨10, by decide⟩) (exm_all ⟨15, by decide⟩ ⟨10, by decide⟩) (exm_all ⟨16, by decide⟩ ⟨10, by decide⟩) (exm_all ⟨17, by decide⟩ ⟨10, by decide⟩) (exm_all ⟨18, by decide⟩ ⟨10, by decide⟩) (exm_all ⟨19, by decide⟩ ⟨10, by decide⟩) (exm_all ⟨20, by decide⟩ ⟨10, by decide⟩)
theorem kinds_11 (d : D) : den_law_kinds_2 [erD "NoMachine" d] = .ret (.new (.list [.bool false, .bool false, .bool false, .bool false, .bool false, .bool false, .bool false, .bool false, .bool false, .bool false, .bool true, .bool false, .bool false, .bool false, .bool false, .bool false, .bool false, .bool false, .bool false, .bool false])) [erD "NoMachine" d] := kinds_gen _ d false false false false false false false false false false true false false false false false false false false false (exm_all ⟨1, by decide⟩ ⟨11, by decide⟩) (exm_all ⟨2, by decide⟩ ⟨11, by decide⟩) (exm_all ⟨3, by decide⟩ ⟨11, by decide⟩) (exm_all ⟨4, by decide⟩ ⟨11, by decide⟩) (exm_all ⟨5, by decide⟩ ⟨11, by decide⟩) (exm_all ⟨6, by decide⟩ ⟨11, by decide⟩) (exm_all ⟨7, by decide⟩ ⟨11, by decide⟩) (exm_all ⟨8, by decide⟩ ⟨11, by decide⟩) (exm_all ⟨9, by decide⟩ ⟨11, by decide⟩) (exm_all ⟨10, by decide⟩ ⟨11, by decide⟩) (exm_all ⟨11, by decide⟩ ⟨11, by decide⟩) (exm_all ⟨12, by decide⟩ ⟨11, by decide⟩) (exm_all ⟨13, by decide⟩ ⟨11, by decide⟩) (exm_all ⟨14, by decide⟩ ⟨11, by decide⟩) (exm_all ⟨15, by decide⟩ ⟨11, by decide⟩) (exm_all ⟨16, by decide⟩ ⟨11, by decide⟩) (exm_all ⟨17, by decide⟩ ⟨11, by decide⟩) (exm_all ⟨18, by decide⟩ ⟨11, by decide⟩) (exm_all ⟨19, by decide⟩ ⟨11, by decide⟩) (exm_all ⟨20, by decide⟩ ⟨11, by decide⟩)
theorem kinds_12 (d : D) : den_law_kinds_2 [erD "InvalidTape" d] = .ret (.new (.list [.bool false, .bool false, .bool false, .bool false, .bool false, .bool false, .bool false, .bool false, .bool false, .bool false, .bool false, .bool true, .bool false, .bool false, .bool false, .bool false, .bool false, .bool false, .bool false, .bool false])) [erD "InvalidTape" d] := kinds_gen _ d false false false false false false false false false false false true false false false false false false false false (exm_all ⟨1, by decide⟩ ⟨12, by decide⟩) (exm_all ⟨2, by decide⟩ ⟨12, by decide⟩) (exm_all ⟨3, by decide⟩ ⟨12, by decide⟩) (exm_all ⟨4, by decide⟩ ⟨12, by decide⟩) (exm_all ⟨5, by decide⟩ ⟨12, by decide⟩) (exm_all ⟨6, by decide⟩ ⟨12, by decide⟩) (exm_all ⟨7, by decide⟩ ⟨12, by decide⟩) (exm_all ⟨8, by decide⟩ ⟨12, by decide⟩) (exm_all ⟨9, by decide⟩ ⟨12, by decide⟩) (exm_all ⟨10, by decide⟩ ⟨12, by decide⟩) (exm_all ⟨11, by decide⟩ ⟨12, by decide⟩) (exm_all ⟨12, by decide⟩ ⟨12, by decide⟩) (exm_all ⟨13, by decide⟩ ⟨12, by decide⟩) (exm_all ⟨14, by decide⟩ ⟨12, by decide⟩) (exm_all ⟨15, by decide⟩ ⟨12, by decide⟩) (exm_all ⟨16, by decide⟩ ⟨12, by decide⟩) (exm_all ⟨17, by decide⟩ ⟨12, by decide⟩) (exm_all ⟨18, by decide⟩ ⟨12, by decide⟩) (exm_all ⟨19, by decide⟩ ⟨12, by decide⟩) (exm_all ⟨20, by decide⟩ ⟨12, by decide⟩)
theorem kinds_13 (d : D) : den_law_kinds_2 [erD "InvalidSorter" d] = .ret (.new (.list [.bool false, .bool false, .bool false, .bool false, .bool false, .bool false, .bool false, .bool false, .bool false, .bool false, .bool false, .bool false, .bool true, .bool false, .bool false, .bool false, .bool false, .bool false, .bool false, .bool false])) [erD "InvalidSorter" d] := kinds_gen _ d false false false false false false false false false false false false true false false false false false false false (exm_all ⟨1, by decide⟩ ⟨13, by decide⟩) (exm_all ⟨2, by decide⟩ ⟨13, by decide⟩) (exm_all ⟨3, by decide⟩ ⟨13, by decide⟩) (exm_all ⟨4, by decide⟩ ⟨13, by decide⟩) (exm_all ⟨5, by decide⟩ ⟨13, by decide⟩) (exm_all ⟨6, by decide⟩ ⟨13, by decide⟩) (exm_all ⟨7, by decide⟩ ⟨13, by decide⟩) (exm_all ⟨8, by decide⟩ ⟨13, by decide⟩) (exm_all ⟨9, by decide⟩ ⟨13, by decide⟩) (exm_all ⟨10, by decide⟩ ⟨13, by decide⟩) (exm_all ⟨11, by decide⟩ ⟨13, by decide⟩) (exm_all ⟨12, by decide⟩ ⟨13, by decide⟩) (exm_all ⟨13, by decide⟩ ⟨13, by decide⟩) (exm_all ⟨14, by decide⟩ ⟨13, by decide⟩) (exm_all ⟨15, by decide⟩ ⟨13, by decide⟩) (exm_all ⟨16, by decide⟩ ⟨13, by decide⟩) (exm_all ⟨17, by decide⟩ ⟨13, by decide⟩) (exm_all ⟨18, by decide⟩ ⟨13, by decide⟩) (exm_all ⟨19, by decide⟩ ⟨13, by decide⟩) (exm_all ⟨20, by decide⟩ ⟨13, by decide⟩)
theorem kinds_14 (d : D) : den_law_kinds_2 [erD "InvalidSaying" d] = .ret (.new (.list [.bool false, .bool false, .bool false, .bool false, .bool false, .bool false, .bool false, .bool false, .bool false, .bool false, .bool false, .bool false, .bool false, .bool true, .bool false, .bool false, .bool false, .bool false, .bool false, .bool false])) [erD "InvalidSaying" d] := kinds_gen _ d false false false false false false false false false false false false false true false false false false false false (exm_all ⟨1, by decide⟩ ⟨14, by decide⟩) (exm_all ⟨2, by decide⟩ ⟨14, by decide⟩) (exm_all ⟨3, by decide⟩ ⟨14, by decide⟩) (exm_all ⟨4, by decide⟩ ⟨14, by decide⟩) (exm_all ⟨5, by decide⟩ ⟨14, by decide⟩) (exm_all ⟨6, by decide⟩ ⟨14, by decide⟩) (exm_all ⟨7, by decide⟩ ⟨14, by decide⟩) (exm_all ⟨8, by decide⟩ ⟨14, by decide⟩) (exm_all ⟨9, by decide⟩ ⟨14, by decide⟩) (exm_all ⟨10, by decide⟩ ⟨14, by decide⟩) (exm_all ⟨11, by decide⟩ ⟨14, by decide⟩) (exm_all ⟨12, by decide⟩ ⟨14, by decide⟩) (exm_all ⟨13, by decide⟩ ⟨14, by decide⟩) (exm_all ⟨14, by decide⟩ ⟨14, by decide⟩) (exm_all ⟨15, by decide⟩ ⟨14, by decide⟩) (exm_all ⟨16, by decide⟩ ⟨14, by decide⟩) (exm_all ⟨17, by decide⟩ ⟨14, by decide⟩) (exm_all ⟨18, by decide⟩ ⟨14, by decide⟩) (exm_all ⟨19, by decide⟩ ⟨14, by decide⟩) (exm_all ⟨20, by decide⟩ ⟨14, by decide⟩)
theorem kinds_15 (d : D) : den_law_kinds_2 [erD "InvalidName" d] = .ret (.new (.list [.bool false, .bool false, .bool false, .bool false, .bool false, .bool false, .bool false, .bool false, .bool false, .bool false, .bool false, .bool false, .bool false, .bool false, .bool true, .bool false, .bool false, .bool false, .bool false, .bool false])) [erD "InvalidName" d] := kinds_gen _ d false false false false false false false false false false false false false false true false false false false false (exm_all ⟨1, by decide⟩ ⟨15, by decide⟩) (exm_all ⟨2, by decide⟩ ⟨15, by decide⟩) (exm_all ⟨3, by decide⟩ ⟨15, by decide⟩) (exm_all ⟨4, by decide⟩ ⟨15, by decide⟩) (exm_all ⟨5, by decide⟩ ⟨15, by decide⟩) (exm_all ⟨6, by decide⟩ ⟨15, by decide⟩) (exm_all ⟨7, by decide⟩ ⟨15, by decide⟩) (exm_all ⟨8, by decide⟩ ⟨15, by decide⟩) (exm_all ⟨9, by decide⟩ ⟨15, by decide⟩) (exm_all ⟨10, by decide⟩ ⟨15, by decide⟩) (exm_all ⟨11, by decide⟩ ⟨15, by decide⟩) (exm_all ⟨12, by decide⟩ ⟨15, by decide⟩) (exm_all ⟨13, by decide⟩ ⟨15, by decide⟩) (exm_all ⟨14, by decide⟩ ⟨15, by decide⟩) (exm_all ⟨15, by decide⟩ ⟨15, by decide⟩) (exm_all ⟨16, by decide⟩ ⟨15, by decide⟩) (exm_all ⟨17, by decide⟩ ⟨15, by decide⟩) (exm_all ⟨18, by decide⟩ ⟨15, by decide⟩) (exm_all ⟨19, by decide⟩ ⟨15, by decide⟩) (exm_all ⟨20, by decide⟩ ⟨15, by decide⟩)
theorem kinds_16 (d : D) : den_law_kinds_2 [erD "NotLet" d] = .ret (.new (.list [.bool false, .bool false, .bool false, .bool false, .bool false, .bool false, .bool false, .bool false, .bool false, .bool false, .bool false, .bool false, .bool false, .bool false, .bool false, .bool true, .bool false, .bool false, .bool false, .bool false])) [erD "NotLet" d] := kinds_gen _ d false false false false false false false false false false false false false false false true false false false false (exm_all ⟨1, by decide⟩ ⟨16, by decide⟩) (exm_all ⟨2, by decide⟩ ⟨16, by decide⟩) (exm_all ⟨3, by decide⟩ ⟨16, by decide⟩) (exm_all ⟨4, by decide⟩ ⟨16, by decide⟩) (exm_all ⟨5, by decide⟩ ⟨16, by decide⟩) (exm_all ⟨6, by decide⟩ ⟨16, by decide⟩) (exm_all ⟨7, by decide⟩ ⟨16, by decide⟩) (exm_all ⟨8, by decide⟩ ⟨16, by decide⟩) (exm_all ⟨9, by decide⟩ ⟨16, by decide⟩) (exm_all ⟨10, by decide⟩ ⟨16, by decide⟩) (exm_all ⟨11, by decide⟩ ⟨16, by decide⟩) (exm_all ⟨12, by decide⟩ ⟨16, by decide⟩) (exm_all ⟨13, by decide⟩ ⟨16, by decide⟩) (exm_all ⟨14, by decide⟩ ⟨16, by decide⟩) (exm_all ⟨15, by decide⟩ ⟨16, by decide⟩) (exm_all ⟨16, by decide⟩ ⟨16, by decide⟩) (exm_all ⟨17, by decide⟩ ⟨16, by decide⟩) (exm_all ⟨18, by decide⟩ ⟨16, by decide⟩) (exm_all ⟨19, by decide⟩ ⟨16, by decide⟩) (exm_all ⟨20, by decide⟩ ⟨16, by decide⟩)
theorem kinds_17 (d : D) : den_law_kinds_2 [erD "UnknownName" d] = .ret (.new (.list [.bool false, .bool false, .bool false, .bool false, .bool false, .bool false, .bool false, .bool false, .bool false, .bool false, .bool false, .bool false, .bool false, .bool false, .bool false, .bool false, .bool true, .bool false, .bool false, .bool false])) [erD "UnknownName" d] := kinds_gen _ d false false false false false false false false false false false false false false false false true false false false (exm_all ⟨1, by decide⟩ ⟨17, by decide⟩) (exm_all ⟨2, by decide⟩ ⟨17, by decide⟩) (exm_all ⟨3, by decide⟩ ⟨17, by decide⟩) (exm_all ⟨4, by decide⟩ ⟨17, by decide⟩) (exm_all ⟨5, by decide⟩ ⟨17, by decide⟩) (exm_all ⟨6, by decide⟩ ⟨17, by decide⟩) (exm_all ⟨7, by decide⟩ ⟨17, by decide⟩) (exm_all ⟨8, by decide⟩ ⟨17, by decide⟩) (exm_all ⟨9, by decide⟩ ⟨17, by decide⟩) (exm_all ⟨10, by decide⟩ ⟨17, by decide⟩) (exm_all ⟨11, by decide⟩ ⟨17, by decide⟩) (exm_all ⟨12, by decide⟩ ⟨17, by decide⟩) (exm_all ⟨13, by decide⟩ ⟨17, by decide⟩) (exm_all ⟨14, by decide⟩ ⟨17, by decide⟩) (exm_all ⟨15, by decide⟩ ⟨17, by decide⟩) (exm_all ⟨16, by decide⟩ ⟨17, by decide⟩) (exm_all ⟨17, by decide⟩ ⟨17, by decide⟩) (exm_all ⟨18, by decide⟩ ⟨17, by decide⟩) (exm_all ⟨19, by decide⟩ ⟨17, by decide⟩) (exm_all ⟨20, by decide⟩ ⟨17, by decide⟩)
theorem kinds_18 (d : D) : den_law_kinds_2 [erD "NothingToUndo" d] = .ret (.new (.list [.bool false, .bool false, .bool false, .bool false, .bool false, .bool false, .bool false, .bool false, .bool false, .bool false, .bool false, .bool false, .bool false, .bool false, .bool false, .bool false, .bool false, .bool true, .bool false, .bool false])) [erD "NothingToUndo" d] := kinds_gen _ d false false false false false false false false false false false false false false false false false true false false (exm_all ⟨1, by decide⟩ ⟨18, by decide⟩) (exm_all ⟨2, by decide⟩ ⟨18, by decide⟩) (exm_all ⟨3, by decide⟩ ⟨18, by decide⟩) (exm_all ⟨4, by decide⟩ ⟨18, by decide⟩) (exm_all ⟨5, by decide⟩ ⟨18, by decide⟩) (exm_all ⟨6, by decide⟩ ⟨18, by decide⟩) (exm_all ⟨7, by decide⟩ ⟨18, by decide⟩) (exm_all ⟨8, by decide⟩ ⟨18, by decide⟩) (exm_all ⟨9, by decide⟩ ⟨18, by decide⟩) (exm_all ⟨10, by decide⟩ ⟨18, by decide⟩) (exm_all ⟨11, by decide⟩ ⟨18, by decide⟩) (exm_all ⟨12, by decide⟩ ⟨18, by decide⟩) (exm_all ⟨13, by decide⟩ ⟨18, by decide⟩) (exm_all ⟨14, by decide⟩ ⟨18, by decide⟩) (exm_all ⟨15, by decide⟩ ⟨18, by decide⟩) (exm_all ⟨16, by decide⟩ ⟨18, by decide⟩) (exm_all ⟨17, by decide⟩ ⟨18, by decide⟩) (exm_all ⟨18, by decide⟩ ⟨18, by decide⟩) (exm_all ⟨19, by decide⟩ ⟨18, by decide⟩) (exm_all ⟨20, by decide⟩ ⟨18, by decide⟩)
theorem kinds_19 (d : D) : den_law_kinds_2 [erD "Unreadable" d] = .ret (.new (.list [.bool false, .bool false, .bool false, .bool false, .bool false, .bool false, .bool false, .bool false, .bool false, .bool false, .bool false, .bool false, .bool false, .bool false, .bool false, .bool false, .bool false, .bool false, .bool true, .bool false])) [erD "Unreadable" d] := kinds_gen _ d false false false false false false false false false false false false false false false false false false true false (exm_all ⟨1, by decide⟩ ⟨19, by decide⟩) (exm_all ⟨2, by decide⟩ ⟨19, by decide⟩) (exm_all ⟨3, by decide⟩ ⟨19, by decide⟩) (exm_all ⟨4, by decide⟩ ⟨19, by decide⟩) (exm_all ⟨5, by decide⟩ ⟨19, by decide⟩) (exm_all ⟨6, by decide⟩ ⟨19, by decide⟩) (exm_all ⟨7, by decide⟩ ⟨19, by decide⟩) (exm_all ⟨8, by decide⟩ ⟨19, by decide⟩) (exm_all ⟨9, by decide⟩ ⟨19, by decide⟩) (exm_all ⟨10, by decide⟩ ⟨19, by decide⟩) (exm_all ⟨11, by decide⟩ ⟨19, by decide⟩) (exm_all ⟨12, by decide⟩ ⟨19, by decide⟩) (exm_all ⟨13, by decide⟩ ⟨19, by decide⟩) (exm_all ⟨14, by decide⟩ ⟨19, by decide⟩) (exm_all ⟨15, by decide⟩ ⟨19, by decide⟩) (exm_all ⟨16, by decide⟩ ⟨19, by decide⟩) (exm_all ⟨17, by decide⟩ ⟨19, by decide⟩) (exm_all ⟨18, by decide⟩ ⟨19, by decide⟩) (exm_all ⟨19, by decide⟩ ⟨19, by decide⟩) (exm_all ⟨20, by decide⟩ ⟨19, by decide⟩)
theorem kinds_20 (d : D) : den_law_kinds_2 [erD "Unorderly" d] = .ret (.new (.list [.bool false, .bool false, .bool false, .bool false, .bool false, .bool false, .bool false, .bool false, .bool false, .bool false, .bool false, .bool false, .bool false, .bool false, .bool false, .bool false, .bool false, .bool false, .bool false, .bool true])) [erD "Unorderly" d] := kinds_gen _ d false false false false false false false false false false false false false false false false false false false true (exm_all ⟨1, by decide⟩ ⟨20, by decide⟩) (exm_all ⟨2, by decide⟩ ⟨20, by decide⟩) (exm_all ⟨3, by decide⟩ ⟨20, by decide⟩) (exm_all ⟨4, by decide⟩ ⟨20, by decide⟩) (exm_all ⟨5, by decide⟩ ⟨20, by decide⟩) (exm_all ⟨6, by decide⟩ ⟨20, by decide⟩) (exm_all ⟨7, by decide⟩ ⟨20, by decide⟩) (exm_all ⟨8, by decide⟩ ⟨20, by decide⟩) (exm_all ⟨9, by decide⟩ ⟨20, by decide⟩) (exm_all ⟨10, by decide⟩ ⟨20, by decide⟩) (exm_all ⟨11, by decide⟩ ⟨20, by decide⟩) (exm_all ⟨12, by decide⟩ ⟨20, by decide⟩) (exm_all ⟨13, by decide⟩ ⟨20, by decide⟩) (exm_all ⟨14, by decide⟩ ⟨20, by decide⟩) (exm_all ⟨15, by decide⟩ ⟨20, by decide⟩) (exm_all ⟨16, by decide⟩ ⟨20, by decide⟩) (exm_all ⟨17, by decide⟩ ⟨20, by decide⟩) (exm_all ⟨18, by decide⟩ ⟨20, by decide⟩) (exm_all ⟨19, by decide⟩ ⟨20, by decide⟩) (exm_all ⟨20, by decide⟩ ⟨20, by decide⟩)
theorem kinds_eq (d : D) (k : Nat) (hk : k < 20) : den_law_kinds_2 [erD (errsL.getD (k + 1) "") d] = .ret (.new (.list ((List.range 20).map fun j => .bool (decide (j = k))))) [erD (errsL.getD (k + 1) "") d] := by
  have hh : k = 0 ∨ k = 1 ∨ k = 2 ∨ k = 3 ∨ k = 4 ∨ k = 5 ∨ k = 6 ∨ k = 7 ∨ k = 8 ∨ k = 9 ∨ k = 10 ∨ k = 11 ∨ k = 12 ∨ k = 13 ∨ k = 14 ∨ k = 15 ∨ k = 16 ∨ k = 17 ∨ k = 18 ∨ k = 19 := by omega
  rcases hh with rfl | rfl | rfl | rfl | rfl | rfl | rfl | rfl | rfl | rfl | rfl | rfl | rfl | rfl | rfl | rfl | rfl | rfl | rfl | rfl
  · exact kinds_1 d
  · exact kinds_2 d
  · exact kinds_3 d
  · exact kinds_4 d
  · exact kinds_5 d
  · exact kinds_6 d
  · exact kinds_7 d
  · exact kinds_8 d
  · exact kinds_9 d
  · exact kinds_10 d
  · exact kinds_11 d
  · exact kinds_12 d
  · exact kinds_13 d
  · exact kinds_14 d
  · exact kinds_15 d
  · exact kinds_16 d
  · exact kinds_17 d
  · exact kinds_18 d
  · exact kinds_19 d
  · exact kinds_20 d
theorem kinds_base (d : D) : den_law_kinds_2 [erD "OrderError" d] = .ret (.new (.list (List.replicate 20 (.bool false)))) [erD "OrderError" d] := kinds_0 d
theorem ex_some : ∀ j : Fin 21, exmT "OrderError" errsL "OrderError" (errsL.getD j.val "") = some true ∧ veT errsL (errsL.getD j.val "") = some true ∧ errsL.getD j.val "" ∈ errsL := by decide +kernel
end DLS

namespace DLS
open Evl (Ex)
open PySem PySem.Spec PyProof.Rows L2 DL
/-! k00: what is drawn, and whether one raised is right -/
theorem take3_eq (x : Deck) (m : Int) (h : 1 ≤ m) (h2 : m.natAbs.log2 < 9000) : ∃ (t : Nat) (y : Deck), (t : Int) < m ∧ den_law_take_3 [dkD x, .int m] = .ret (.val (.int (t : Int))) [dkD y] := by
  have hd : ∀ a : Int, hDiv (.int a) (.int m) = some (.val (.int (a / m))) := fun a => hDiv_g (by omega) h2
  have hmo : ∀ a : Int, hMod (.int a) (.int m) = some (.val (.int (a % m))) := fun a => hMod_p (by omega)
  have hm64 : ∀ a : Int, hMod (.int a) (.int 18446744073709551616) = some (.val (.int (a % 18446744073709551616))) := fun a => hMod_p (by decide)
  have hmul : ∀ a : Int, hMul (.int a) (.int 6364136223846793005) = some (.val (.int (a * 6364136223846793005))) := fun a => hMul_r (by decide)
  have p20 : hPow (.int 2) (.int 20) = some (.val (.int 1048576)) := hPow_p ⟨by decide, by decide, by decide⟩
  have d20 : ∀ a : Int, hDiv (.int a) (.int 1048576) = some (.val (.int (a / 1048576))) := fun a => hDiv_g (by decide) (by decide +kernel)
  by_cases hp : 0 < x.a
  · have n0 := Int.emod_nonneg x.a (show m ≠ 0 by omega)
    have n1 := Int.emod_lt_of_pos x.a (show 0 < m by omega)
    refine ⟨(x.a % m).toNat, ⟨x.a / m, x.b, Int.ediv_nonneg x.h (by omega)⟩, by omega, ?_⟩
    rw [Int.toNat_of_nonneg n0]
    unfold den_law_take_3
    (simp -implicitDefEqProofs -dsimp only [runF,endF_nx,endF_rv,endF_rn,endF_err,initS,ioOut,sSeq,sNil,sPass,sBreak,sCont,sBad,sExpr,sRet,sRetN,sIf,sSet,putR,frz,frzs,xVal,xVar,getS_0,getS_s,getR,ownD,getRs,xOp1,xOp2,fin,RD.r,aNil,aCons,xCB,xTup,xLst,truth,tOf,tAnds,tOrs,tNots,xIf,xAnd,xOr,xNot,xIsi,isTy,hAdd,hSub,hNeg,hLt,hLe,hGt,hGe,hIs,hIsNot,hIx,hLen,hInt,hAbs,hMax2,hMin2,h1L,hList,hListS,xMethL,hCountL,lcStep2,lcTurn2,lcAdd2,hTuple,vi,vb,xCall,xCallN,argsD,argD,ioIx,boIx,isOwn,nodupB,disB,xPost_ret,xPost_err,postS,putIo,frzIx,nlR,nlI,nl,nls,Rt.r,permL,tTrue,lcStep,lcTurn,lcAdd,gN,gT,gsNil,gsCons,DL.forget,back,xSeq,seqOf,xEnum,xRng1,xRng2,xRng3,xLstI,xTupI,sPar,noSlot,putRs,sTup,xMut,ownL,mApp,mIns,mPop,mPopAt,mExt,mRev,sSub,sAug,oNone,oSome,xSl,hSl,hStep,xChain,bind_ok',bind_err,bind_bad,List.set_cons_zero,List.set_cons_succ,List.foldl_cons,List.foldl_nil,List.cons_append,List.nil_append,List.replicate_succ,List.replicate_zero,List.append_nil,List.all_cons,List.all_nil,List.map_cons,List.map_nil,List.length_cons,List.length_nil,List.zip_cons_cons,List.filterMap_cons,List.filterMap_nil,List.getElem?_cons_zero,List.getElem?_cons_succ,List.contains_nil,List.contains_cons,Bool.and_true,Bool.true_and,Bool.and_false,Bool.false_and,Bool.not_true,Bool.not_false,Bool.or_true,Bool.true_or,Bool.or_false,Bool.false_or,if_true,if_false,reduceIte,reduceCtorEq,Nat.reduceSub,Nat.reduceAdd,Nat.reduceEqDiff,Option.map_some,Option.map_none,decide_true,decide_false,↓reduceIte,Bool.false_eq_true,Nat.sub_zero,Nat.sub_self,and_self,and_true,true_and,List.length_map,nls_ints,hEq_int,hNe_int,Ok_ok,OkG_some,EndQ_some,EndP_nx',EndP_rv',EndP_rn',LoopP_nx,LoopP_ct,LoopP_bk,LoopP_rt,lc_ite,xMeth,xZip,sAugS,stIx,sSub2,itemsOf,nlI_dk,sMove,ite_self,dkD, atI_0, atI_1, ixN_0, ixN_1, decide_eq_true hp, hd, hmo, hm64, hmul, pow64])
  · obtain ⟨e, he⟩ : ∃ e, e = (x.b * 6364136223846793005 + 1442695040888963407) % 18446744073709551616 := ⟨_, rfl⟩
    have n0 := Int.emod_nonneg (e / 1048576) (show m ≠ 0 by omega)
    have n1 := Int.emod_lt_of_pos (e / 1048576) (show 0 < m by omega)
    refine ⟨(e / 1048576 % m).toNat, ⟨x.a, e, x.h⟩, by omega, ?_⟩
    rw [Int.toNat_of_nonneg n0, he]
    unfold den_law_take_3
    (simp -implicitDefEqProofs -dsimp only [runF,endF_nx,endF_rv,endF_rn,endF_err,initS,ioOut,sSeq,sNil,sPass,sBreak,sCont,sBad,sExpr,sRet,sRetN,sIf,sSet,putR,frz,frzs,xVal,xVar,getS_0,getS_s,getR,ownD,getRs,xOp1,xOp2,fin,RD.r,aNil,aCons,xCB,xTup,xLst,truth,tOf,tAnds,tOrs,tNots,xIf,xAnd,xOr,xNot,xIsi,isTy,hAdd,hSub,hNeg,hLt,hLe,hGt,hGe,hIs,hIsNot,hIx,hLen,hInt,hAbs,hMax2,hMin2,h1L,hList,hListS,xMethL,hCountL,lcStep2,lcTurn2,lcAdd2,hTuple,vi,vb,xCall,xCallN,argsD,argD,ioIx,boIx,isOwn,nodupB,disB,xPost_ret,xPost_err,postS,putIo,frzIx,nlR,nlI,nl,nls,Rt.r,permL,tTrue,lcStep,lcTurn,lcAdd,gN,gT,gsNil,gsCons,DL.forget,back,xSeq,seqOf,xEnum,xRng1,xRng2,xRng3,xLstI,xTupI,sPar,noSlot,putRs,sTup,xMut,ownL,mApp,mIns,mPop,mPopAt,mExt,mRev,sSub,sAug,oNone,oSome,xSl,hSl,hStep,xChain,bind_ok',bind_err,bind_bad,List.set_cons_zero,List.set_cons_succ,List.foldl_cons,List.foldl_nil,List.cons_append,List.nil_append,List.replicate_succ,List.replicate_zero,List.append_nil,List.all_cons,List.all_nil,List.map_cons,List.map_nil,List.length_cons,List.length_nil,List.zip_cons_cons,List.filterMap_cons,List.filterMap_nil,List.getElem?_cons_zero,List.getElem?_cons_succ,List.contains_nil,List.contains_cons,Bool.and_true,Bool.true_and,Bool.and_false,Bool.false_and,Bool.not_true,Bool.not_false,Bool.or_true,Bool.true_or,Bool.or_false,Bool.false_or,if_true,if_false,reduceIte,reduceCtorEq,Nat.reduceSub,Nat.reduceAdd,Nat.reduceEqDiff,Option.map_some,Option.map_none,decide_true,decide_false,↓reduceIte,Bool.false_eq_true,Nat.sub_zero,Nat.sub_self,and_self,and_true,true_and,List.length_map,nls_ints,hEq_int,hNe_int,Ok_ok,OkG_some,EndQ_some,EndP_nx',EndP_rv',EndP_rn',LoopP_nx,LoopP_ct,LoopP_bk,LoopP_rt,lc_ite,xMeth,xZip,sAugS,stIx,sSub2,itemsOf,nlI_dk,sMove,ite_self,dkD, atI_0, atI_1, ixN_0, ixN_1, decide_eq_false hp, hd, hmo, hm64, hmul, pow64, p20, d20])
theorem given_eq (x : Deck) : ∃ (d : D) (y : Deck), pl 11 d ∧ den_law_given [dkD x] = .ret (.val d) [dkD y] := by
  obtain ⟨t, x1, h1, e1⟩ := take3_eq x 1000000000000000000000000000000 (by decide) (by decide +kernel)
  obtain ⟨u, x2, h2, e2⟩ := take3_eq x1 9 (by decide) (by decide +kernel)
  obtain ⟨v, x3, h3, e3⟩ := take3_eq x2 14 (by decide) (by decide +kernel)
  have p30 : hPow (.int 10) (.int 30) = some (.val (.int 1000000000000000000000000000000)) := hPow_p ⟨by decide, by decide, by decide⟩
  have p29 : hPow (.int 10) (.int 29) = some (.val (.int 100000000000000000000000000000)) := hPow_p ⟨by decide, by decide, by decide⟩
  obtain ⟨far, hf⟩ : ∃ far : Int, far = (t : Int) - 100000000000000000000000000000 := ⟨_, rfl⟩
  obtain ⟨L, hL⟩ : ∃ L : List D, L = [.int far, .int (u : Int), .str "", .str "a b", .none, .bool true, .bool false, .tuple [], .tuple [.int far, .int 1], .list [.int far, .str "x"], .tuple [.tuple [.int 1, .int 2], .tuple [.str "a", .tuple []]], .list [], .int (-1), .int 0] := ⟨_, rfl⟩
  have hpl : ∀ d ∈ L, pl 11 d := fun d hd => by
    rw [hL] at hd
    simp only [List.mem_cons, List.not_mem_nil, or_false] at hd
    rcases hd with rfl | rfl | rfl | rfl | rfl | rfl | rfl | rfl | rfl | rfl | rfl | rfl | rfl | rfl <;> simp [pl] <;> decide +kernel
  have hv : v < L.length := by rw [hL]; simp; omega
  have ha : atI L (v : Int) = some L[v] := by rw [atI_nat', List.getElem?_eq_getElem hv]
  refine ⟨L[v], x3, hpl _ (List.getElem_mem hv), ?_⟩
  generalize L[v] = d at ha
  rw [hL] at ha
  apply Ret.eq
  apply Ret.run
  (simp -implicitDefEqProofs -dsimp only [runF,endF_nx,endF_rv,endF_rn,endF_err,initS,ioOut,sSeq,sNil,sPass,sBreak,sCont,sBad,sExpr,sRet,sRetN,sIf,sSet,putR,frz,frzs,xVal,xVar,getS_0,getS_s,getR,ownD,getRs,xOp1,xOp2,fin,RD.r,aNil,aCons,xCB,xTup,xLst,truth,tOf,tAnds,tOrs,tNots,xIf,xAnd,xOr,xNot,xIsi,isTy,hAdd,hSub,hNeg,hLt,hLe,hGt,hGe,hIs,hIsNot,hIx,hLen,hInt,hAbs,hMax2,hMin2,h1L,hList,hListS,xMethL,hCountL,lcStep2,lcTurn2,lcAdd2,hTuple,vi,vb,xCall,xCallN,argsD,argD,ioIx,boIx,isOwn,nodupB,disB,xPost_ret,xPost_err,postS,putIo,frzIx,nlR,nlI,nl,nls,Rt.r,permL,tTrue,lcStep,lcTurn,lcAdd,gN,gT,gsNil,gsCons,DL.forget,back,xSeq,seqOf,xEnum,xRng1,xRng2,xRng3,xLstI,xTupI,sPar,noSlot,putRs,sTup,xMut,ownL,mApp,mIns,mPop,mPopAt,mExt,mRev,sSub,sAug,oNone,oSome,xSl,hSl,hStep,xChain,bind_ok',bind_err,bind_bad,List.set_cons_zero,List.set_cons_succ,List.foldl_cons,List.foldl_nil,List.cons_append,List.nil_append,List.replicate_succ,List.replicate_zero,List.append_nil,List.all_cons,List.all_nil,List.map_cons,List.map_nil,List.length_cons,List.length_nil,List.zip_cons_cons,List.filterMap_cons,List.filterMap_nil,List.getElem?_cons_zero,List.getElem?_cons_succ,List.contains_nil,List.contains_cons,Bool.and_true,Bool.true_and,Bool.and_false,Bool.false_and,Bool.not_true,Bool.not_false,Bool.or_true,Bool.true_or,Bool.or_false,Bool.false_or,if_true,if_false,reduceIte,reduceCtorEq,Nat.reduceSub,Nat.reduceAdd,Nat.reduceEqDiff,Option.map_some,Option.map_none,decide_true,decide_false,↓reduceIte,Bool.false_eq_true,Nat.sub_zero,Nat.sub_self,and_self,and_true,true_and,List.length_map,nls_ints,hEq_int,hNe_int,Ok_ok,OkG_some,EndQ_some,EndP_nx',EndP_rv',EndP_rn',LoopP_nx,LoopP_ct,LoopP_bk,LoopP_rt,lc_ite,xMeth,xZip,sAugS,stIx,sSub2,itemsOf,nlI_dk,sMove,ite_self,p30, p29, e1, e2, e3, ← hf, ha])
theorem hIn_ofE {a b : D} {ds : List D} {c : Bool} (hi : itemsOf b = some ds) (h1 : (fl 60 a && fl 60 b) = true) (h2 : inD a ds = c) : hIn a b = some (.val (.bool c)) := by
  unfold hIn
  rw [hi]
  show (if (fl 60 a && fl 60 b) = true then some (RD.val (.bool (inD a ds))) else none) = _
  rw [if_pos h1, h2]
theorem fl_bools {α : Type} (n : Nat) (f : α → Bool) : ∀ L : List α, flAll n (L.map fun a => PyData.bool (f a)) = true
  | [] => rfl
  | a :: L => by
    show (fl n (.bool (f a)) && flAll n (L.map fun a => PyData.bool (f a))) = true
    rw [fl_bools n f L]
    cases n <;> rfl
theorem which_lc (k : Nat) (a1 a2 a3 a4 : Option Sl) : xLc [5] (xRng1 (xVal (.int 20))) (gN 5) (tTrue) (xOp2 hEq (xVar 5) (xVar 0)) [some (.val (.int (k : Int))), a1, a2, a3, a4, none] = .ok (.new (.list ((List.range 20).map fun j => .bool (decide (j = k)))), [some (.val (.int (k : Int))), a1, a2, a3, a4, none]) := by
  have hr : rg1Ok 20 = true := by decide
  have h20 : (20 : Int).toNat = 20 := rfl
  rw [lcA (s := [some (.val (.int (k : Int))), a1, a2, a3, a4, none]) (List.range 20) (fun j : Nat => .int (0 + (j : Int))) (fun j => .bool (decide (j = k))) (by (simp -implicitDefEqProofs -dsimp only [runF,endF_nx,endF_rv,endF_rn,endF_err,initS,ioOut,sSeq,sNil,sPass,sBreak,sCont,sBad,sExpr,sRet,sRetN,sIf,sSet,putR,frz,frzs,xVal,xVar,getS_0,getS_s,getR,ownD,getRs,xOp1,xOp2,fin,RD.r,aNil,aCons,xCB,xTup,xLst,truth,tOf,tAnds,tOrs,tNots,xIf,xAnd,xOr,xNot,xIsi,isTy,hAdd,hSub,hNeg,hLt,hLe,hGt,hGe,hIs,hIsNot,hIx,hLen,hInt,hAbs,hMax2,hMin2,h1L,hList,hListS,xMethL,hCountL,lcStep2,lcTurn2,lcAdd2,hTuple,vi,vb,xCall,xCallN,argsD,argD,ioIx,boIx,isOwn,nodupB,disB,xPost_ret,xPost_err,postS,putIo,frzIx,nlR,nlI,nl,nls,Rt.r,permL,tTrue,lcStep,lcTurn,lcAdd,gN,gT,gsNil,gsCons,DL.forget,back,xSeq,seqOf,xEnum,xRng1,xRng2,xRng3,xLstI,xTupI,sPar,noSlot,putRs,sTup,xMut,ownL,mApp,mIns,mPop,mPopAt,mExt,mRev,sSub,sAug,oNone,oSome,xSl,hSl,hStep,xChain,bind_ok',bind_err,bind_bad,List.set_cons_zero,List.set_cons_succ,List.foldl_cons,List.foldl_nil,List.cons_append,List.nil_append,List.replicate_succ,List.replicate_zero,List.append_nil,List.all_cons,List.all_nil,List.map_cons,List.map_nil,List.length_cons,List.length_nil,List.zip_cons_cons,List.filterMap_cons,List.filterMap_nil,List.getElem?_cons_zero,List.getElem?_cons_succ,List.contains_nil,List.contains_cons,Bool.and_true,Bool.true_and,Bool.and_false,Bool.false_and,Bool.not_true,Bool.not_false,Bool.or_true,Bool.true_or,Bool.or_false,Bool.false_or,if_true,if_false,reduceIte,reduceCtorEq,Nat.reduceSub,Nat.reduceAdd,Nat.reduceEqDiff,Option.map_some,Option.map_none,decide_true,decide_false,↓reduceIte,Bool.false_eq_true,Nat.sub_zero,Nat.sub_self,and_self,and_true,true_and,List.length_map,nls_ints,hEq_int,hNe_int,Ok_ok,OkG_some,EndQ_some,EndP_nx',EndP_rv',EndP_rn',LoopP_nx,LoopP_ct,LoopP_bk,LoopP_rt,lc_ite,xMeth,xZip,sAugS,stIx,sSub2,itemsOf,nlI_dk,sMove,ite_self,hr, h20, rgD_map])) (by rw [List.length_range]; decide) (fun j hj acc => by
    have e : decide ((0 : Int) + (j : Int) = (k : Int)) = decide (j = k) := decide_eq_decide.mpr (by omega)
    (simp -implicitDefEqProofs -dsimp only [runF,endF_nx,endF_rv,endF_rn,endF_err,initS,ioOut,sSeq,sNil,sPass,sBreak,sCont,sBad,sExpr,sRet,sRetN,sIf,sSet,putR,frz,frzs,xVal,xVar,getS_0,getS_s,getR,ownD,getRs,xOp1,xOp2,fin,RD.r,aNil,aCons,xCB,xTup,xLst,truth,tOf,tAnds,tOrs,tNots,xIf,xAnd,xOr,xNot,xIsi,isTy,hAdd,hSub,hNeg,hLt,hLe,hGt,hGe,hIs,hIsNot,hIx,hLen,hInt,hAbs,hMax2,hMin2,h1L,hList,hListS,xMethL,hCountL,lcStep2,lcTurn2,lcAdd2,hTuple,vi,vb,xCall,xCallN,argsD,argD,ioIx,boIx,isOwn,nodupB,disB,xPost_ret,xPost_err,postS,putIo,frzIx,nlR,nlI,nl,nls,Rt.r,permL,tTrue,lcStep,lcTurn,lcAdd,gN,gT,gsNil,gsCons,DL.forget,back,xSeq,seqOf,xEnum,xRng1,xRng2,xRng3,xLstI,xTupI,sPar,noSlot,putRs,sTup,xMut,ownL,mApp,mIns,mPop,mPopAt,mExt,mRev,sSub,sAug,oNone,oSome,xSl,hSl,hStep,xChain,bind_ok',bind_err,bind_bad,List.set_cons_zero,List.set_cons_succ,List.foldl_cons,List.foldl_nil,List.cons_append,List.nil_append,List.replicate_succ,List.replicate_zero,List.append_nil,List.all_cons,List.all_nil,List.map_cons,List.map_nil,List.length_cons,List.length_nil,List.zip_cons_cons,List.filterMap_cons,List.filterMap_nil,List.getElem?_cons_zero,List.getElem?_cons_succ,List.contains_nil,List.contains_cons,Bool.and_true,Bool.true_and,Bool.and_false,Bool.false_and,Bool.not_true,Bool.not_false,Bool.or_true,Bool.true_or,Bool.or_false,Bool.false_or,if_true,if_false,reduceIte,reduceCtorEq,Nat.reduceSub,Nat.reduceAdd,Nat.reduceEqDiff,Option.map_some,Option.map_none,decide_true,decide_false,↓reduceIte,Bool.false_eq_true,Nat.sub_zero,Nat.sub_self,and_self,and_true,true_and,List.length_map,nls_ints,hEq_int,hNe_int,Ok_ok,OkG_some,EndQ_some,EndP_nx',EndP_rv',EndP_rn',LoopP_nx,LoopP_ct,LoopP_bk,LoopP_rt,lc_ite,xMeth,xZip,sAugS,stIx,sSub2,itemsOf,nlI_dk,sMove,ite_self,e]))]
  (simp -implicitDefEqProofs -dsimp only [runF,endF_nx,endF_rv,endF_rn,endF_err,initS,ioOut,sSeq,sNil,sPass,sBreak,sCont,sBad,sExpr,sRet,sRetN,sIf,sSet,putR,frz,frzs,xVal,xVar,getS_0,getS_s,getR,ownD,getRs,xOp1,xOp2,fin,RD.r,aNil,aCons,xCB,xTup,xLst,truth,tOf,tAnds,tOrs,tNots,xIf,xAnd,xOr,xNot,xIsi,isTy,hAdd,hSub,hNeg,hLt,hLe,hGt,hGe,hIs,hIsNot,hIx,hLen,hInt,hAbs,hMax2,hMin2,h1L,hList,hListS,xMethL,hCountL,lcStep2,lcTurn2,lcAdd2,hTuple,vi,vb,xCall,xCallN,argsD,argD,ioIx,boIx,isOwn,nodupB,disB,xPost_ret,xPost_err,postS,putIo,frzIx,nlR,nlI,nl,nls,Rt.r,permL,tTrue,lcStep,lcTurn,lcAdd,gN,gT,gsNil,gsCons,DL.forget,back,xSeq,seqOf,xEnum,xRng1,xRng2,xRng3,xLstI,xTupI,sPar,noSlot,putRs,sTup,xMut,ownL,mApp,mIns,mPop,mPopAt,mExt,mRev,sSub,sAug,oNone,oSome,xSl,hSl,hStep,xChain,bind_ok',bind_err,bind_bad,List.set_cons_zero,List.set_cons_succ,List.foldl_cons,List.foldl_nil,List.cons_append,List.nil_append,List.replicate_succ,List.replicate_zero,List.append_nil,List.all_cons,List.all_nil,List.map_cons,List.map_nil,List.length_cons,List.length_nil,List.zip_cons_cons,List.filterMap_cons,List.filterMap_nil,List.getElem?_cons_zero,List.getElem?_cons_succ,List.contains_nil,List.contains_cons,Bool.and_true,Bool.true_and,Bool.and_false,Bool.false_and,Bool.not_true,Bool.not_false,Bool.or_true,Bool.true_or,Bool.or_false,Bool.false_or,if_true,if_false,reduceIte,reduceCtorEq,Nat.reduceSub,Nat.reduceAdd,Nat.reduceEqDiff,Option.map_some,Option.map_none,decide_true,decide_false,↓reduceIte,Bool.false_eq_true,Nat.sub_zero,Nat.sub_self,and_self,and_true,true_and,List.length_map,nls_ints,hEq_int,hNe_int,Ok_ok,OkG_some,EndQ_some,EndP_nx',EndP_rv',EndP_rn',LoopP_nx,LoopP_ct,LoopP_bk,LoopP_rt,lc_ite,xMeth,xZip,sAugS,stIx,sSub2,itemsOf,nlI_dk,sMove,ite_self])
theorem right6_eq (k : Nat) (hk : k < 20) (d : D) (hd : pl 11 d) (b : Bool) : den_law_right_6 [.int (k : Int), d, .bool b] = .ret (.val (.bool true)) [] := by
  have e1 := raised_eq b d k hk
  have e2 := kinds_eq d k hk
  have e3 := ex_some ⟨k + 1, by omega⟩
  have e4 : den_law_same [d, d] = .ret (.val (.bool true)) [] := same_eq 11 d hd
  have e5 := which_lc k
  have e6 : hEq (.list ((List.range 20).map fun j => PyData.bool (decide (j = k)))) (.list ((List.range 20).map fun j => PyData.bool (decide (j = k)))) = some (.val (.bool true)) := hEq_self (by unfold fl; exact fl_bools 59 _ _)
  dsimp only at e3
  obtain ⟨e31, e32, e33⟩ := e3
  obtain ⟨c, hc⟩ : ∃ c, c = errsL.getD (k + 1) "" := ⟨_, rfl⟩
  rw [← hc] at e1 e2 e31 e32 e33
  obtain ⟨bs, hbs⟩ : ∃ bs, bs = (List.range 20).map fun j => PyData.bool (decide (j = k)) := ⟨_, rfl⟩
  rw [← hbs] at e2 e5 e6
  unfold erD at e2
  have z : 4 < 6 := by decide
  apply Ret.eq
  apply Ret.run
  (simp -implicitDefEqProofs -dsimp only [runF,endF_nx,endF_rv,endF_rn,endF_err,initS,ioOut,sSeq,sNil,sPass,sBreak,sCont,sBad,sExpr,sRet,sRetN,sIf,sSet,putR,frz,frzs,xVal,xVar,getS_0,getS_s,getR,ownD,getRs,xOp1,xOp2,fin,RD.r,aNil,aCons,xCB,xTup,xLst,truth,tOf,tAnds,tOrs,tNots,xIf,xAnd,xOr,xNot,xIsi,isTy,hAdd,hSub,hNeg,hLt,hLe,hGt,hGe,hIs,hIsNot,hIx,hLen,hInt,hAbs,hMax2,hMin2,h1L,hList,hListS,xMethL,hCountL,lcStep2,lcTurn2,lcAdd2,hTuple,vi,vb,xCall,xCallN,argsD,argD,ioIx,boIx,isOwn,nodupB,disB,xPost_ret,xPost_err,postS,putIo,frzIx,nlR,nlI,nl,nls,Rt.r,permL,tTrue,lcStep,lcTurn,lcAdd,gN,gT,gsNil,gsCons,DL.forget,back,xSeq,seqOf,xEnum,xRng1,xRng2,xRng3,xLstI,xTupI,sPar,noSlot,putRs,sTup,xMut,ownL,mApp,mIns,mPop,mPopAt,mExt,mRev,sSub,sAug,oNone,oSome,xSl,hSl,hStep,xChain,bind_ok',bind_err,bind_bad,List.set_cons_zero,List.set_cons_succ,List.foldl_cons,List.foldl_nil,List.cons_append,List.nil_append,List.replicate_succ,List.replicate_zero,List.append_nil,List.all_cons,List.all_nil,List.map_cons,List.map_nil,List.length_cons,List.length_nil,List.zip_cons_cons,List.filterMap_cons,List.filterMap_nil,List.getElem?_cons_zero,List.getElem?_cons_succ,List.contains_nil,List.contains_cons,Bool.and_true,Bool.true_and,Bool.and_false,Bool.false_and,Bool.not_true,Bool.not_false,Bool.or_true,Bool.true_or,Bool.or_false,Bool.false_or,if_true,if_false,reduceIte,reduceCtorEq,Nat.reduceSub,Nat.reduceAdd,Nat.reduceEqDiff,Option.map_some,Option.map_none,decide_true,decide_false,↓reduceIte,Bool.false_eq_true,Nat.sub_zero,Nat.sub_self,and_self,and_true,true_and,List.length_map,nls_ints,hEq_int,hNe_int,Ok_ok,OkG_some,EndQ_some,EndP_nx',EndP_rv',EndP_rn',LoopP_nx,LoopP_ct,LoopP_bk,LoopP_rt,lc_ite,xMeth,xZip,sAugS,stIx,sSub2,itemsOf,nlI_dk,sMove,ite_self,sTryK0, e1, e31, z, erD, xErNone, xErIs, xErVal, e32, e33, e2, e5, e6, e4, if_true])
theorem base_right_eq (d : D) (hd : pl 11 d) : den_law_base_right [d] = .ret (.val (.bool true)) [] := by
  have e2 := kinds_base d
  have e3 := ex_some ⟨0, by omega⟩
  have e4 : den_law_same [d, d] = .ret (.val (.bool true)) [] := same_eq 11 d hd
  have e6 : hIn (.bool true) (.list (List.replicate 20 (PyData.bool false))) = some (.val (.bool false)) := hIn_ofE rfl (by decide +kernel) (by decide +kernel)
  have e31 : exmT "OrderError" errsL "OrderError" "OrderError" = some true := e3.1
  have e32 : veT errsL "OrderError" = some true := e3.2.1
  have e33 : ("OrderError" : PySem.Str) ∈ errsL := e3.2.2
  obtain ⟨bs, hbs⟩ : ∃ bs, bs = List.replicate 20 (PyData.bool false) := ⟨_, rfl⟩
  rw [← hbs] at e2 e6
  unfold erD at e2
  have z : 2 < 3 := by decide
  apply Ret.eq
  apply Ret.run
  (simp -implicitDefEqProofs -dsimp only [runF,endF_nx,endF_rv,endF_rn,endF_err,initS,ioOut,sSeq,sNil,sPass,sBreak,sCont,sBad,sExpr,sRet,sRetN,sIf,sSet,putR,frz,frzs,xVal,xVar,getS_0,getS_s,getR,ownD,getRs,xOp1,xOp2,fin,RD.r,aNil,aCons,xCB,xTup,xLst,truth,tOf,tAnds,tOrs,tNots,xIf,xAnd,xOr,xNot,xIsi,isTy,hAdd,hSub,hNeg,hLt,hLe,hGt,hGe,hIs,hIsNot,hIx,hLen,hInt,hAbs,hMax2,hMin2,h1L,hList,hListS,xMethL,hCountL,lcStep2,lcTurn2,lcAdd2,hTuple,vi,vb,xCall,xCallN,argsD,argD,ioIx,boIx,isOwn,nodupB,disB,xPost_ret,xPost_err,postS,putIo,frzIx,nlR,nlI,nl,nls,Rt.r,permL,tTrue,lcStep,lcTurn,lcAdd,gN,gT,gsNil,gsCons,DL.forget,back,xSeq,seqOf,xEnum,xRng1,xRng2,xRng3,xLstI,xTupI,sPar,noSlot,putRs,sTup,xMut,ownL,mApp,mIns,mPop,mPopAt,mExt,mRev,sSub,sAug,oNone,oSome,xSl,hSl,hStep,xChain,bind_ok',bind_err,bind_bad,List.set_cons_zero,List.set_cons_succ,List.foldl_cons,List.foldl_nil,List.cons_append,List.nil_append,List.replicate_succ,List.replicate_zero,List.append_nil,List.all_cons,List.all_nil,List.map_cons,List.map_nil,List.length_cons,List.length_nil,List.zip_cons_cons,List.filterMap_cons,List.filterMap_nil,List.getElem?_cons_zero,List.getElem?_cons_succ,List.contains_nil,List.contains_cons,Bool.and_true,Bool.true_and,Bool.and_false,Bool.false_and,Bool.not_true,Bool.not_false,Bool.or_true,Bool.true_or,Bool.or_false,Bool.false_or,if_true,if_false,reduceIte,reduceCtorEq,Nat.reduceSub,Nat.reduceAdd,Nat.reduceEqDiff,Option.map_some,Option.map_none,decide_true,decide_false,↓reduceIte,Bool.false_eq_true,Nat.sub_zero,Nat.sub_self,and_self,and_true,true_and,List.length_map,nls_ints,hEq_int,hNe_int,Ok_ok,OkG_some,EndQ_some,EndP_nx',EndP_rv',EndP_rn',LoopP_nx,LoopP_ct,LoopP_bk,LoopP_rt,lc_ite,xMeth,xZip,sAugS,stIx,sSub2,itemsOf,nlI_dk,sMove,ite_self,sTryK0, sRaise, e31, z, erD, xErNone, xErIs, xErVal, xMkV, e32, e33, e2, e6, e4, if_true])
end DLS

namespace DLS
open Evl (Ex)
open PySem PySem.Spec PyProof.Rows L2 DL
theorem law_true_k00 (ns : List Int) (hl : ns.length ≤ 63) : den_law_k00 [scrD ns] = .ret (.val (.bool true)) [] := by
  apply Ret.eq
  apply Ret.run
  obtain ⟨m, hm, hmr⟩ : ∃ m : Nat, m ≤ 40 ∧ (if (if 40 < (ns.length : Int) then (40 : Int) else (ns.length : Int)) > 1 then (if 40 < (ns.length : Int) then (40 : Int) else (ns.length : Int)) else 1) = (m : Int) := by
    by_cases h : 40 < (ns.length : Int)
    · rw [if_pos h]
      exact ⟨40, by omega, rfl⟩
    · rw [if_neg h]
      by_cases h2 : (ns.length : Int) > 1
      · exact ⟨ns.length, by omega, by rw [if_pos h2]⟩
      · exact ⟨1, by omega, by rw [if_neg h2]; rfl⟩
  have hr : rg1Ok (m : Int) = true := rg1Ok_of (by omega)
  have hr20 : rg1Ok (20 : Int) = true := by decide
  have h20 : (20 : Int).toNat = 20 := rfl
  (simp -implicitDefEqProofs -dsimp only [runF,endF_nx,endF_rv,endF_rn,endF_err,initS,ioOut,sSeq,sNil,sPass,sBreak,sCont,sBad,sExpr,sRet,sRetN,sIf,sSet,putR,frz,frzs,xVal,xVar,getS_0,getS_s,getR,ownD,getRs,xOp1,xOp2,fin,RD.r,aNil,aCons,xCB,xTup,xLst,truth,tOf,tAnds,tOrs,tNots,xIf,xAnd,xOr,xNot,xIsi,isTy,hAdd,hSub,hNeg,hLt,hLe,hGt,hGe,hIs,hIsNot,hIx,hLen,hInt,hAbs,hMax2,hMin2,h1L,hList,hListS,xMethL,hCountL,lcStep2,lcTurn2,lcAdd2,hTuple,vi,vb,xCall,xCallN,argsD,argD,ioIx,boIx,isOwn,nodupB,disB,xPost_ret,xPost_err,postS,putIo,frzIx,nlR,nlI,nl,nls,Rt.r,permL,tTrue,lcStep,lcTurn,lcAdd,gN,gT,gsNil,gsCons,DL.forget,back,xSeq,seqOf,xEnum,xRng1,xRng2,xRng3,xLstI,xTupI,sPar,noSlot,putRs,sTup,xMut,ownL,mApp,mIns,mPop,mPopAt,mExt,mRev,sSub,sAug,oNone,oSome,xSl,hSl,hStep,xChain,bind_ok',bind_err,bind_bad,List.set_cons_zero,List.set_cons_succ,List.foldl_cons,List.foldl_nil,List.cons_append,List.nil_append,List.replicate_succ,List.replicate_zero,List.append_nil,List.all_cons,List.all_nil,List.map_cons,List.map_nil,List.length_cons,List.length_nil,List.zip_cons_cons,List.filterMap_cons,List.filterMap_nil,List.getElem?_cons_zero,List.getElem?_cons_succ,List.contains_nil,List.contains_cons,Bool.and_true,Bool.true_and,Bool.and_false,Bool.false_and,Bool.not_true,Bool.not_false,Bool.or_true,Bool.true_or,Bool.or_false,Bool.false_or,if_true,if_false,reduceIte,reduceCtorEq,Nat.reduceSub,Nat.reduceAdd,Nat.reduceEqDiff,Option.map_some,Option.map_none,decide_true,decide_false,↓reduceIte,Bool.false_eq_true,Nat.sub_zero,Nat.sub_self,and_self,and_true,true_and,List.length_map,nls_ints,hEq_int,hNe_int,Ok_ok,OkG_some,EndQ_some,EndP_nx',EndP_rv',EndP_rn',LoopP_nx,LoopP_ct,LoopP_bk,LoopP_rt,lc_ite,xMeth,xZip,sAugS,stIx,sSub2,itemsOf,nlI_dk,sMove,ite_self])
  refine Ok.bind (Ok.forR (s1 := [some (.val (scrD ns)), none, none, some (.val .none), some (.val .none), none, none, none, none, none]) 0 m (fun _ s => ∃ (a b c d e g h i : Option Sl), s = [some (.val (scrD ns)), a, b, c, d, e, none, g, h, i]) (by ((simp -implicitDefEqProofs -dsimp only [runF,endF_nx,endF_rv,endF_rn,endF_err,initS,ioOut,sSeq,sNil,sPass,sBreak,sCont,sBad,sExpr,sRet,sRetN,sIf,sSet,putR,frz,frzs,xVal,xVar,getS_0,getS_s,getR,ownD,getRs,xOp1,xOp2,fin,RD.r,aNil,aCons,xCB,xTup,xLst,truth,tOf,tAnds,tOrs,tNots,xIf,xAnd,xOr,xNot,xIsi,isTy,hAdd,hSub,hNeg,hLt,hLe,hGt,hGe,hIs,hIsNot,hIx,hLen,hInt,hAbs,hMax2,hMin2,h1L,hList,hListS,xMethL,hCountL,lcStep2,lcTurn2,lcAdd2,hTuple,vi,vb,xCall,xCallN,argsD,argD,ioIx,boIx,isOwn,nodupB,disB,xPost_ret,xPost_err,postS,putIo,frzIx,nlR,nlI,nl,nls,Rt.r,permL,tTrue,lcStep,lcTurn,lcAdd,gN,gT,gsNil,gsCons,DL.forget,back,xSeq,seqOf,xEnum,xRng1,xRng2,xRng3,xLstI,xTupI,sPar,noSlot,putRs,sTup,xMut,ownL,mApp,mIns,mPop,mPopAt,mExt,mRev,sSub,sAug,oNone,oSome,xSl,hSl,hStep,xChain,bind_ok',bind_err,bind_bad,List.set_cons_zero,List.set_cons_succ,List.foldl_cons,List.foldl_nil,List.cons_append,List.nil_append,List.replicate_succ,List.replicate_zero,List.append_nil,List.all_cons,List.all_nil,List.map_cons,List.map_nil,List.length_cons,List.length_nil,List.zip_cons_cons,List.filterMap_cons,List.filterMap_nil,List.getElem?_cons_zero,List.getElem?_cons_succ,List.contains_nil,List.contains_cons,Bool.and_true,Bool.true_and,Bool.and_false,Bool.false_and,Bool.not_true,Bool.not_false,Bool.or_true,Bool.true_or,Bool.or_false,Bool.false_or,if_true,if_false,reduceIte,reduceCtorEq,Nat.reduceSub,Nat.reduceAdd,Nat.reduceEqDiff,Option.map_some,Option.map_none,decide_true,decide_false,↓reduceIte,Bool.false_eq_true,Nat.sub_zero,Nat.sub_self,and_self,and_true,true_and,List.length_map,nls_ints,hEq_int,hNe_int,Ok_ok,OkG_some,EndQ_some,EndP_nx',EndP_rv',EndP_rn',LoopP_nx,LoopP_ct,LoopP_bk,LoopP_rt,lc_ite,xMeth,xZip,sAugS,stIx,sSub2,itemsOf,nlI_dk,sMove,ite_self,scrD, hmr, hr, Int.toNat_natCast]) <;> rfl)) ⟨_, _, _, _, _, _, _, _, rfl⟩ ?_ ?_)
  · rintro i hi _ ⟨a, b, c, d, e, g, h, o, rfl⟩
    obtain ⟨x0, e0⟩ := deck_eq ns i
    obtain ⟨t, x1, ht, e1⟩ := take3_eq x0 20 (by decide) (by decide +kernel)
    obtain ⟨u, x2, hu, e2⟩ := take3_eq x1 2 (by decide) (by decide +kernel)
    obtain ⟨d1, x3, hd1, e3⟩ := given_eq x2
    obtain ⟨d2, x4, hd2, e4⟩ := given_eq x3
    have hk : t < 20 := by omega
    obtain ⟨bn, hbn⟩ : ∃ bn, decide ((u : Int) = 1) = bn := ⟨_, rfl⟩
    have r1 := right6_eq t hk d1 hd1 bn
    have r2 := right6_eq t hk d2 hd2 (!bn)
    have r3 := base_right_eq d2 hd2
    have q1 := raised_eq bn d1 t hk
    have q2 := raised_eq bn d2 t hk
    have s1 : den_law_same [d1, d1] = .ret (.val (.bool true)) [] := same_eq 11 d1 hd1
    have s2 : den_law_same [d2, d2] = .ret (.val (.bool true)) [] := same_eq 11 d2 hd2
    have e5 := ex_some ⟨t + 1, by omega⟩
    dsimp only at e5
    obtain ⟨e51, e52, e53⟩ := e5
    obtain ⟨cl, hcl⟩ : ∃ cl, cl = errsL.getD (t + 1) "" := ⟨_, rfl⟩
    rw [← hcl] at q1 q2 e51 e52 e53
    have z : 6 < 10 := by decide
    have ez : (0 : Int) + (i : Int) = (i : Int) := by omega
    rw [ez]
    (simp -implicitDefEqProofs -dsimp only [runF,endF_nx,endF_rv,endF_rn,endF_err,initS,ioOut,sSeq,sNil,sPass,sBreak,sCont,sBad,sExpr,sRet,sRetN,sIf,sSet,putR,frz,frzs,xVal,xVar,getS_0,getS_s,getR,ownD,getRs,xOp1,xOp2,fin,RD.r,aNil,aCons,xCB,xTup,xLst,truth,tOf,tAnds,tOrs,tNots,xIf,xAnd,xOr,xNot,xIsi,isTy,hAdd,hSub,hNeg,hLt,hLe,hGt,hGe,hIs,hIsNot,hIx,hLen,hInt,hAbs,hMax2,hMin2,h1L,hList,hListS,xMethL,hCountL,lcStep2,lcTurn2,lcAdd2,hTuple,vi,vb,xCall,xCallN,argsD,argD,ioIx,boIx,isOwn,nodupB,disB,xPost_ret,xPost_err,postS,putIo,frzIx,nlR,nlI,nl,nls,Rt.r,permL,tTrue,lcStep,lcTurn,lcAdd,gN,gT,gsNil,gsCons,DL.forget,back,xSeq,seqOf,xEnum,xRng1,xRng2,xRng3,xLstI,xTupI,sPar,noSlot,putRs,sTup,xMut,ownL,mApp,mIns,mPop,mPopAt,mExt,mRev,sSub,sAug,oNone,oSome,xSl,hSl,hStep,xChain,bind_ok',bind_err,bind_bad,List.set_cons_zero,List.set_cons_succ,List.foldl_cons,List.foldl_nil,List.cons_append,List.nil_append,List.replicate_succ,List.replicate_zero,List.append_nil,List.all_cons,List.all_nil,List.map_cons,List.map_nil,List.length_cons,List.length_nil,List.zip_cons_cons,List.filterMap_cons,List.filterMap_nil,List.getElem?_cons_zero,List.getElem?_cons_succ,List.contains_nil,List.contains_cons,Bool.and_true,Bool.true_and,Bool.and_false,Bool.false_and,Bool.not_true,Bool.not_false,Bool.or_true,Bool.true_or,Bool.or_false,Bool.false_or,if_true,if_false,reduceIte,reduceCtorEq,Nat.reduceSub,Nat.reduceAdd,Nat.reduceEqDiff,Option.map_some,Option.map_none,decide_true,decide_false,↓reduceIte,Bool.false_eq_true,Nat.sub_zero,Nat.sub_self,and_self,and_true,true_and,List.length_map,nls_ints,hEq_int,hNe_int,Ok_ok,OkG_some,EndQ_some,EndP_nx',EndP_rv',EndP_rn',LoopP_nx,LoopP_ct,LoopP_bk,LoopP_rt,lc_ite,xMeth,xZip,sAugS,stIx,sSub2,itemsOf,nlI_dk,sMove,ite_self,e0, e1, e2, e3, e4, hbn, r1, r2, r3, sTryK0, q1, q2, e51, e52, e53, z, erD, xErVal, s1, s2, if_true])
    exact ⟨_, _, _, _, _, _, _, _, rfl⟩
  · rintro _ ⟨a, b, c, d, e, g, h, o, rfl⟩
    dsimp only
    refine Ok.bind (Ok.forR (s1 := [some (.val (scrD ns)), a, b, c, d, e, none, g, h, o]) 0 20 (fun _ s => ∃ (b : Option Sl), s = [some (.val (scrD ns)), a, b, c, d, e, none, g, h, o]) (by ((simp -implicitDefEqProofs -dsimp only [runF,endF_nx,endF_rv,endF_rn,endF_err,initS,ioOut,sSeq,sNil,sPass,sBreak,sCont,sBad,sExpr,sRet,sRetN,sIf,sSet,putR,frz,frzs,xVal,xVar,getS_0,getS_s,getR,ownD,getRs,xOp1,xOp2,fin,RD.r,aNil,aCons,xCB,xTup,xLst,truth,tOf,tAnds,tOrs,tNots,xIf,xAnd,xOr,xNot,xIsi,isTy,hAdd,hSub,hNeg,hLt,hLe,hGt,hGe,hIs,hIsNot,hIx,hLen,hInt,hAbs,hMax2,hMin2,h1L,hList,hListS,xMethL,hCountL,lcStep2,lcTurn2,lcAdd2,hTuple,vi,vb,xCall,xCallN,argsD,argD,ioIx,boIx,isOwn,nodupB,disB,xPost_ret,xPost_err,postS,putIo,frzIx,nlR,nlI,nl,nls,Rt.r,permL,tTrue,lcStep,lcTurn,lcAdd,gN,gT,gsNil,gsCons,DL.forget,back,xSeq,seqOf,xEnum,xRng1,xRng2,xRng3,xLstI,xTupI,sPar,noSlot,putRs,sTup,xMut,ownL,mApp,mIns,mPop,mPopAt,mExt,mRev,sSub,sAug,oNone,oSome,xSl,hSl,hStep,xChain,bind_ok',bind_err,bind_bad,List.set_cons_zero,List.set_cons_succ,List.foldl_cons,List.foldl_nil,List.cons_append,List.nil_append,List.replicate_succ,List.replicate_zero,List.append_nil,List.all_cons,List.all_nil,List.map_cons,List.map_nil,List.length_cons,List.length_nil,List.zip_cons_cons,List.filterMap_cons,List.filterMap_nil,List.getElem?_cons_zero,List.getElem?_cons_succ,List.contains_nil,List.contains_cons,Bool.and_true,Bool.true_and,Bool.and_false,Bool.false_and,Bool.not_true,Bool.not_false,Bool.or_true,Bool.true_or,Bool.or_false,Bool.false_or,if_true,if_false,reduceIte,reduceCtorEq,Nat.reduceSub,Nat.reduceAdd,Nat.reduceEqDiff,Option.map_some,Option.map_none,decide_true,decide_false,↓reduceIte,Bool.false_eq_true,Nat.sub_zero,Nat.sub_self,and_self,and_true,true_and,List.length_map,nls_ints,hEq_int,hNe_int,Ok_ok,OkG_some,EndQ_some,EndP_nx',EndP_rv',EndP_rn',LoopP_nx,LoopP_ct,LoopP_bk,LoopP_rt,lc_ite,xMeth,xZip,sAugS,stIx,sSub2,itemsOf,nlI_dk,sMove,ite_self,hr20, h20]) <;> rfl)) ⟨_, rfl⟩ ?_ ?_)
    · rintro i hi _ ⟨b, rfl⟩
      have r1 := right6_eq i hi (.int (i : Int)) trivial false
      have r2 := right6_eq i hi (.str "a") (by simp [pl]; decide +kernel) true
      have ez : (0 : Int) + (i : Int) = (i : Int) := by omega
      rw [ez]
      (simp -implicitDefEqProofs -dsimp only [runF,endF_nx,endF_rv,endF_rn,endF_err,initS,ioOut,sSeq,sNil,sPass,sBreak,sCont,sBad,sExpr,sRet,sRetN,sIf,sSet,putR,frz,frzs,xVal,xVar,getS_0,getS_s,getR,ownD,getRs,xOp1,xOp2,fin,RD.r,aNil,aCons,xCB,xTup,xLst,truth,tOf,tAnds,tOrs,tNots,xIf,xAnd,xOr,xNot,xIsi,isTy,hAdd,hSub,hNeg,hLt,hLe,hGt,hGe,hIs,hIsNot,hIx,hLen,hInt,hAbs,hMax2,hMin2,h1L,hList,hListS,xMethL,hCountL,lcStep2,lcTurn2,lcAdd2,hTuple,vi,vb,xCall,xCallN,argsD,argD,ioIx,boIx,isOwn,nodupB,disB,xPost_ret,xPost_err,postS,putIo,frzIx,nlR,nlI,nl,nls,Rt.r,permL,tTrue,lcStep,lcTurn,lcAdd,gN,gT,gsNil,gsCons,DL.forget,back,xSeq,seqOf,xEnum,xRng1,xRng2,xRng3,xLstI,xTupI,sPar,noSlot,putRs,sTup,xMut,ownL,mApp,mIns,mPop,mPopAt,mExt,mRev,sSub,sAug,oNone,oSome,xSl,hSl,hStep,xChain,bind_ok',bind_err,bind_bad,List.set_cons_zero,List.set_cons_succ,List.foldl_cons,List.foldl_nil,List.cons_append,List.nil_append,List.replicate_succ,List.replicate_zero,List.append_nil,List.all_cons,List.all_nil,List.map_cons,List.map_nil,List.length_cons,List.length_nil,List.zip_cons_cons,List.filterMap_cons,List.filterMap_nil,List.getElem?_cons_zero,List.getElem?_cons_succ,List.contains_nil,List.contains_cons,Bool.and_true,Bool.true_and,Bool.and_false,Bool.false_and,Bool.not_true,Bool.not_false,Bool.or_true,Bool.true_or,Bool.or_false,Bool.false_or,if_true,if_false,reduceIte,reduceCtorEq,Nat.reduceSub,Nat.reduceAdd,Nat.reduceEqDiff,Option.map_some,Option.map_none,decide_true,decide_false,↓reduceIte,Bool.false_eq_true,Nat.sub_zero,Nat.sub_self,and_self,and_true,true_and,List.length_map,nls_ints,hEq_int,hNe_int,Ok_ok,OkG_some,EndQ_some,EndP_nx',EndP_rv',EndP_rn',LoopP_nx,LoopP_ct,LoopP_bk,LoopP_rt,lc_ite,xMeth,xZip,sAugS,stIx,sSub2,itemsOf,nlI_dk,sMove,ite_self,r1, r2])
      exact ⟨_, rfl⟩
    · rintro _ ⟨b, rfl⟩
      (simp -implicitDefEqProofs -dsimp only [runF,endF_nx,endF_rv,endF_rn,endF_err,initS,ioOut,sSeq,sNil,sPass,sBreak,sCont,sBad,sExpr,sRet,sRetN,sIf,sSet,putR,frz,frzs,xVal,xVar,getS_0,getS_s,getR,ownD,getRs,xOp1,xOp2,fin,RD.r,aNil,aCons,xCB,xTup,xLst,truth,tOf,tAnds,tOrs,tNots,xIf,xAnd,xOr,xNot,xIsi,isTy,hAdd,hSub,hNeg,hLt,hLe,hGt,hGe,hIs,hIsNot,hIx,hLen,hInt,hAbs,hMax2,hMin2,h1L,hList,hListS,xMethL,hCountL,lcStep2,lcTurn2,lcAdd2,hTuple,vi,vb,xCall,xCallN,argsD,argD,ioIx,boIx,isOwn,nodupB,disB,xPost_ret,xPost_err,postS,putIo,frzIx,nlR,nlI,nl,nls,Rt.r,permL,tTrue,lcStep,lcTurn,lcAdd,gN,gT,gsNil,gsCons,DL.forget,back,xSeq,seqOf,xEnum,xRng1,xRng2,xRng3,xLstI,xTupI,sPar,noSlot,putRs,sTup,xMut,ownL,mApp,mIns,mPop,mPopAt,mExt,mRev,sSub,sAug,oNone,oSome,xSl,hSl,hStep,xChain,bind_ok',bind_err,bind_bad,List.set_cons_zero,List.set_cons_succ,List.foldl_cons,List.foldl_nil,List.cons_append,List.nil_append,List.replicate_succ,List.replicate_zero,List.append_nil,List.all_cons,List.all_nil,List.map_cons,List.map_nil,List.length_cons,List.length_nil,List.zip_cons_cons,List.filterMap_cons,List.filterMap_nil,List.getElem?_cons_zero,List.getElem?_cons_succ,List.contains_nil,List.contains_cons,Bool.and_true,Bool.true_and,Bool.and_false,Bool.false_and,Bool.not_true,Bool.not_false,Bool.or_true,Bool.true_or,Bool.or_false,Bool.false_or,if_true,if_false,reduceIte,reduceCtorEq,Nat.reduceSub,Nat.reduceAdd,Nat.reduceEqDiff,Option.map_some,Option.map_none,decide_true,decide_false,↓reduceIte,Bool.false_eq_true,Nat.sub_zero,Nat.sub_self,and_self,and_true,true_and,List.length_map,nls_ints,hEq_int,hNe_int,Ok_ok,OkG_some,EndQ_some,EndP_nx',EndP_rv',EndP_rn',LoopP_nx,LoopP_ct,LoopP_bk,LoopP_rt,lc_ite,xMeth,xZip,sAugS,stIx,sSub2,itemsOf,nlI_dk,sMove,ite_self])
end DLS

namespace DLL
open Evl (Ex)
open PySem PySem.Spec PyProof.Rows L2 DL DLS
structure W (K : PySem.W.Frag) (mg : Str → Option Value) where
  fd__law_deck : FuncData
  F__law_deck : FnP K "_law_deck" st__law_deck (He.ga K "_law_deck") fd__law_deck
  g__law_deck : mg "_law_deck" = some (.ref (He.ga K "_law_deck"))
  fd__law_take : FuncData
  F__law_take : FnP K "_law_take" st__law_take (He.ga K "_law_take") fd__law_take
  g__law_take : mg "_law_take" = some (.ref (He.ga K "_law_take"))
  fd__law_same : FuncData
  F__law_same : FnP K "_law_same" st__law_same (He.ga K "_law_same") fd__law_same
  g__law_same : mg "_law_same" = some (.ref (He.ga K "_law_same"))
  fd__law_raise_first : FuncData
  F__law_raise_first : FnP K "_law_raise_first" st__law_raise_first (He.ga K "_law_raise_first") fd__law_raise_first
  g__law_raise_first : mg "_law_raise_first" = some (.ref (He.ga K "_law_raise_first"))
  fd__law_raise_second : FuncData
  F__law_raise_second : FnP K "_law_raise_second" st__law_raise_second (He.ga K "_law_raise_second") fd__law_raise_second
  g__law_raise_second : mg "_law_raise_second" = some (.ref (He.ga K "_law_raise_second"))
  fd__law_raise_named_first : FuncData
  F__law_raise_named_first : FnP K "_law_raise_named_first" st__law_raise_named_first (He.ga K "_law_raise_named_first") fd__law_raise_named_first
  g__law_raise_named_first : mg "_law_raise_named_first" = some (.ref (He.ga K "_law_raise_named_first"))
  fd__law_raise_named_second : FuncData
  F__law_raise_named_second : FnP K "_law_raise_named_second" st__law_raise_named_second (He.ga K "_law_raise_named_second") fd__law_raise_named_second
  g__law_raise_named_second : mg "_law_raise_named_second" = some (.ref (He.ga K "_law_raise_named_second"))
  fd__law_raised : FuncData
  F__law_raised : FnP K "_law_raised" st__law_raised (He.ga K "_law_raised") fd__law_raised
  g__law_raised : mg "_law_raised" = some (.ref (He.ga K "_law_raised"))
  fd__law_given : FuncData
  F__law_given : FnP K "_law_given" st__law_given (He.ga K "_law_given") fd__law_given
  g__law_given : mg "_law_given" = some (.ref (He.ga K "_law_given"))
  fd__law_kinds : FuncData
  F__law_kinds : FnP K "_law_kinds" st__law_kinds (He.ga K "_law_kinds") fd__law_kinds
  g__law_kinds : mg "_law_kinds" = some (.ref (He.ga K "_law_kinds"))
  fd__law_right : FuncData
  F__law_right : FnP K "_law_right" st__law_right (He.ga K "_law_right") fd__law_right
  g__law_right : mg "_law_right" = some (.ref (He.ga K "_law_right"))
  fd__law_base_right : FuncData
  F__law_base_right : FnP K "_law_base_right" st__law_base_right (He.ga K "_law_base_right") fd__law_base_right
  g__law_base_right : mg "_law_base_right" = some (.ref (He.ga K "_law_base_right"))
  fd_law : FuncData
  F_law : FnP K "law" st_law (He.ga K "law") fd_law
  g_law : mg "law" = some (.ref (He.ga K "law"))
  n_ValueError : mg "ValueError" = none
  n_bool : mg "bool" = none
  n_int : mg "int" = none
  n_isinstance : mg "isinstance" = none
  n_len : mg "len" = none
  n_list : mg "list" = none
  n_max : mg "max" = none
  n_min : mg "min" = none
  n_range : mg "range" = none
  n_str : mg "str" = none
  n_tuple : mg "tuple" = none
  es : ErS K "OrderError" errsL
  gc_OrderError : mg "OrderError" = some (.ref (He.ga K "OrderError"))
  gc_InvalidOrder : mg "InvalidOrder" = some (.ref (He.ga K "InvalidOrder"))
  gc_InvalidPattern : mg "InvalidPattern" = some (.ref (He.ga K "InvalidPattern"))
  gc_InvalidList : mg "InvalidList" = some (.ref (He.ga K "InvalidList"))
  gc_InvalidForm : mg "InvalidForm" = some (.ref (He.ga K "InvalidForm"))
  gc_InvalidLetter : mg "InvalidLetter" = some (.ref (He.ga K "InvalidLetter"))
  gc_InvalidWord : mg "InvalidWord" = some (.ref (He.ga K "InvalidWord"))
  gc_InvalidKind : mg "InvalidKind" = some (.ref (He.ga K "InvalidKind"))
  gc_InvalidNumber : mg "InvalidNumber" = some (.ref (He.ga K "InvalidNumber"))
  gc_InvalidPair : mg "InvalidPair" = some (.ref (He.ga K "InvalidPair"))
  gc_InvalidMachine : mg "InvalidMachine" = some (.ref (He.ga K "InvalidMachine"))
  gc_NoMachine : mg "NoMachine" = some (.ref (He.ga K "NoMachine"))
  gc_InvalidTape : mg "InvalidTape" = some (.ref (He.ga K "InvalidTape"))
  gc_InvalidSorter : mg "InvalidSorter" = some (.ref (He.ga K "InvalidSorter"))
  gc_InvalidSaying : mg "InvalidSaying" = some (.ref (He.ga K "InvalidSaying"))
  gc_InvalidName : mg "InvalidName" = some (.ref (He.ga K "InvalidName"))
  gc_NotLet : mg "NotLet" = some (.ref (He.ga K "NotLet"))
  gc_UnknownName : mg "UnknownName" = some (.ref (He.ga K "UnknownName"))
  gc_NothingToUndo : mg "NothingToUndo" = some (.ref (He.ga K "NothingToUndo"))
  gc_Unreadable : mg "Unreadable" = some (.ref (He.ga K "Unreadable"))
  gc_Unorderly : mg "Unorderly" = some (.ref (He.ga K "Unorderly"))
  fd_init : FuncData
  F_init : FunD K "__init__" "OrderError.__init__" (defArgs st_init) (defBody st_init) (defScope st_init) [] [] (He.ma K (He.ga K "OrderError") "__init__") fd_init
theorem sc_init : FnScope ["self", "value"] ["self", "value"] (defScope st_init) := ⟨rfl, rfl, rfl, by decide +kernel, rfl, by decide +kernel, by decide +kernel⟩
theorem b_init {K : PySem.W.Frag} {mg : Str → Option Value} (w : W K mg) : Binds K w.fd_init ["self", "value"] [] := w.F_init.bindsN fun _ _ _ _ _ _ us hl => match us, hl with | [_, _], _ => rfl
theorem kbi_init {K : PySem.W.Frag} {mg : Str → Option Value} (w : W K mg) : KBI w.fd_init := kbi_of w.F_init fun _ _ _ _ _ _ _ _ => rfl
theorem ok_init {P : Program} {wd : World} {K : PySem.W.Frag} {mg : Str → Option Value} {base : Heap} (w : W K mg) : FnOk P wd K mg base L2.CX0 1 (He.ma K (He.ga K "OrderError") "__init__") w.fd_init ["self", "value"] (spInit K) :=
  fn_init (k := 0) w.F_init sc_init w.n_ValueError rfl (fun cdv a => ⟨_, rfl⟩) (fun _ _ _ _ _ _ => rfl) (Or.inl rfl) (Or.inl rfl) (fun _ _ => rfl) (fun _ _ => rfl) (fun _ _ => rfl) (fun _ _ => rfl) (fun _ _ => rfl)
theorem sc__law_deck : FnScope ["script", "k", "cell", "stir"] ["script", "k"] (defScope st__law_deck) := ⟨rfl, rfl, rfl, by decide +kernel, rfl, by decide +kernel, by decide +kernel⟩
theorem b__law_deck {K : PySem.W.Frag} {mg : Str → Option Value} (w : W K mg) : Binds K w.fd__law_deck ["script", "k"] [] := w.F__law_deck.bindsN fun _ _ _ _ _ _ us hl => match us, hl with | [_, _], _ => rfl
theorem ok__law_deck {P : Program} {wd : World} {K : PySem.W.Frag} {mg : Str → Option Value} {base : Heap} (w : W K mg) : FnOk P wd K mg base L2.CX0 1 (He.ga K "_law_deck") w.fd__law_deck ["script", "k"] (spD K [false, false] den_law_deck) :=
  fn_ok0 (k := 0) w.F__law_deck sc__law_deck rfl (by decide) fun cdv A outer s H E hr => ⟨_, dss_cons (ds_set (i := 2) sc__law_deck.nd rfl (by first | exact Or.inl rfl | exact Or.inr rfl) (de_int)) (dss_cons (ds_if (dt_cmp op_lt o_lt (dv 1) (de_callB call_len opc_len rfl w.n_len (by decide +kernel) (da_cons (dv 0) (da_nil)))) (dss_one (ds_set (i := 2) sc__law_deck.nd rfl (by first | exact Or.inl rfl | exact Or.inr rfl) (de_ix (dv 0) (dv 1)))) (dss_nil)) (dss_cons (ds_set (i := 3) sc__law_deck.nd rfl (by first | exact Or.inl rfl | exact Or.inr rfl) (de_mod (de_callTy call_int1 opc_int rfl w.n_int (by decide +kernel) (da_cons (de_add (de_add (dv 2) (de_mul (de_int) (dv 1))) (de_int)) (da_nil))) (de_int))) (dss_cons (ds_set (i := 3) sc__law_deck.nd rfl (by first | exact Or.inl rfl | exact Or.inr rfl) (de_mod (de_callTy call_int1 opc_int rfl w.n_int (by decide +kernel) (da_cons (de_add (de_add (de_mul (de_mul (dv 3) (dv 3)) (dv 3)) (de_mul (de_int) (dv 1))) (de_int)) (da_nil))) (de_int))) (dss_cons (ds_if (dt_cmp op_lt o_lt (dv 2) (de_pow (de_int) (de_int))) (dss_one (ds_ret (de_lst (n := 2) (da_cons (de_int) (da_cons (dv 3) (da_nil)))))) (dss_nil)) (dss_one (ds_ret (de_lst (n := 2) (da_cons (de_sub (dv 2) (de_pow (de_int) (de_int))) (da_cons (dv 3) (da_nil))))))))))⟩
theorem sc__law_take : FnScope ["deck", "many", "taken"] ["deck", "many"] (defScope st__law_take) := ⟨rfl, rfl, rfl, by decide +kernel, rfl, by decide +kernel, by decide +kernel⟩
theorem b__law_take {K : PySem.W.Frag} {mg : Str → Option Value} (w : W K mg) : Binds K w.fd__law_take ["deck", "many"] [] := w.F__law_take.bindsN fun _ _ _ _ _ _ us hl => match us, hl with | [_, _], _ => rfl
theorem ok__law_take {P : Program} {wd : World} {K : PySem.W.Frag} {mg : Str → Option Value} {base : Heap} (w : W K mg) : FnOk P wd K mg base L2.CX0 1 (He.ga K "_law_take") w.fd__law_take ["deck", "many"] (spD K [true, false] den_law_take_3) :=
  fn_ok0 (k := 0) w.F__law_take sc__law_take rfl (by decide) fun cdv A outer s H E hr => ⟨_, dss_cons (ds_if (dt_cmp op_gt o_gt (de_ix (dv 0) (de_int)) (de_int)) (dss_cons (ds_set (i := 2) sc__law_take.nd rfl (by first | exact Or.inl rfl | exact Or.inr rfl) (de_mod (de_callTy call_int1 opc_int rfl w.n_int (by decide +kernel) (da_cons (de_ix (dv 0) (de_int)) (da_nil))) (dv 1))) (dss_cons (ds_sub (i := 0) (de_div (de_ix (dv 0) (de_int)) (dv 1)) (pv 0) (de_int)) (dss_one (ds_ret (dv 2))))) (dss_nil)) (dss_cons (ds_sub (i := 0) (de_mod (de_callTy call_int1 opc_int rfl w.n_int (by decide +kernel) (da_cons (de_add (de_mul (de_ix (dv 0) (de_int)) (de_int)) (de_int)) (da_nil))) (de_pow (de_int) (de_int))) (pv 0) (de_int)) (dss_one (ds_ret (de_mod (de_div (de_ix (dv 0) (de_int)) (de_pow (de_int) (de_int))) (dv 1)))))⟩
theorem sc__law_same : FnScope ["found", "due", "k"] ["found", "due"] (defScope st__law_same) := ⟨rfl, rfl, rfl, by decide +kernel, rfl, by decide +kernel, by decide +kernel⟩
theorem b__law_same {K : PySem.W.Frag} {mg : Str → Option Value} (w : W K mg) : Binds K w.fd__law_same ["found", "due"] [] := w.F__law_same.bindsN fun _ _ _ _ _ _ us hl => match us, hl with | [_, _], _ => rfl
theorem okN__law_same {P : Program} {wd : World} {K : PySem.W.Frag} {mg : Str → Option Value} {base : Heap} (w : W K mg) : ∀ n : Nat, FnOk P wd K mg base L2.CX0 (0 + n) (He.ga K "_law_same") w.fd__law_same ["found", "due"] (spD K [false, false] (denN_law_same n))
  | 0 => fn_bad
  | n + 1 => by
    have ih := okN__law_same (P := P) (wd := wd) (base := base) w n
    exact fn_ok0 (k := 0 + n) w.F__law_same sc__law_same rfl (by decide) fun cdv A outer s H E hr => ⟨_, dss_cons (ds_if (dt_val (de_isi2 .tup .lst rfl w.n_isinstance (dv 1) rfl w.n_tuple (by decide +kernel) rfl w.n_list (by decide +kernel))) (dss_cons (ds_if (DW.dt (dw_or (dt_cmp (op_neA hr) o_ne (de_isi .tup rfl w.n_isinstance (dv 0) rfl w.n_tuple (by decide +kernel)) (de_isi .tup rfl w.n_isinstance (dv 1) rfl w.n_tuple (by decide +kernel))) (dw_or1 (dt_cmp (op_neA hr) o_ne (de_isi .lst rfl w.n_isinstance (dv 0) rfl w.n_list (by decide +kernel)) (de_isi .lst rfl w.n_isinstance (dv 1) rfl w.n_list (by decide +kernel)))))) (dss_one (ds_ret (de_bl))) (dss_nil)) (dss_cons (ds_if (dt_cmp (op_neA hr) o_ne (de_callB call_len opc_len rfl w.n_len (by decide +kernel) (da_cons (dv 0) (da_nil))) (de_callB call_len opc_len rfl w.n_len (by decide +kernel) (da_cons (dv 1) (da_nil)))) (dss_one (ds_ret (de_bl))) (dss_nil)) (dss_one (ds_ret (de_cmp (op_eqA hr) o_eq (de_lc (own := [("k", 2)]) rfl sc__law_same.nd (di_rng1 rfl w.n_range (de_callB call_len opc_len rfl w.n_len (by decide +kernel) (da_cons (dv 1) (da_nil)))) (blkOk_by (by kernel_rfl)) (fun _ _ _ _ _ => ⟨_, dg_name sc__law_same.nd (i := 2) rfl (by first | exact Or.inl rfl | exact Or.inr rfl)⟩) (fun _ _ _ _ _ => ⟨_, dts_one (dt_not (dt_val (de_call ih hr rfl w.g__law_same w.F__law_same.kp (b__law_same w) pass00 (da_cons (de_ix (dv 0) (dv 2)) (da_cons (de_ix (dv 1) (dv 2)) (da_nil))))))⟩) (fun _ _ _ _ _ => ⟨_, dv 2⟩)) (de_lst (n := 0) (da_nil))))))) (dss_nil)) (dss_cons (ds_if (dt_cmp op_isN o_is (dv 1) (de_non)) (dss_one (ds_ret (de_cmp op_isN o_is (dv 0) (de_non)))) (dss_nil)) (dss_cons (ds_if (dt_val (de_isi .str rfl w.n_isinstance (dv 1) rfl w.n_str (by decide +kernel))) (dss_one (ds_ret (de_and (de_isi .str rfl w.n_isinstance (dv 0) rfl w.n_str (by decide +kernel)) (de_one (de_cmp (op_eqA hr) o_eq (dv 0) (dv 1)))))) (dss_nil)) (dss_cons (ds_if (DW.dt (dw_or (dt_val (de_isi .bool rfl w.n_isinstance (dv 1) rfl w.n_bool (by decide +kernel))) (dw_or1 (dt_val (de_isi .bool rfl w.n_isinstance (dv 0) rfl w.n_bool (by decide +kernel)))))) (dss_one (ds_ret (de_and (de_isi .bool rfl w.n_isinstance (dv 1) rfl w.n_bool (by decide +kernel)) (de_and (de_isi .bool rfl w.n_isinstance (dv 0) rfl w.n_bool (by decide +kernel)) (de_one (de_cmp (op_eqA hr) o_eq (dv 0) (dv 1))))))) (dss_nil)) (dss_one (ds_ret (de_and (de_isi .int rfl w.n_isinstance (dv 0) rfl w.n_int (by decide +kernel)) (de_one (de_cmp (op_eqA hr) o_eq (dv 0) (dv 1)))))))))⟩
theorem ok__law_same {P : Program} {wd : World} {K : PySem.W.Frag} {mg : Str → Option Value} {base : Heap} (w : W K mg) : FnOk P wd K mg base L2.CX0 12 (He.ga K "_law_same") w.fd__law_same ["found", "due"] (spD K [false, false] den_law_same) := okN__law_same w 12
theorem sc__law_raise_first : FnScope ["which", "given"] ["which", "given"] (defScope st__law_raise_first) := ⟨rfl, rfl, rfl, by decide +kernel, rfl, by decide +kernel, by decide +kernel⟩
theorem b__law_raise_first {K : PySem.W.Frag} {mg : Str → Option Value} (w : W K mg) : Binds K w.fd__law_raise_first ["which", "given"] [] := w.F__law_raise_first.bindsN fun _ _ _ _ _ _ us hl => match us, hl with | [_, _], _ => rfl
theorem ok__law_raise_first {P : Program} {wd : World} {K : PySem.W.Frag} {mg : Str → Option Value} {base : Heap} (w : W K mg) : FnOk P wd K mg base (L2.CX P wd) 3 (He.ga K "_law_raise_first") w.fd__law_raise_first ["which", "given"] (spD K [false, false] den_law_raise_first) :=
  fn_okX (k := 2) w.F__law_raise_first sc__law_raise_first rfl (by decide) fun cdv A outer s H E hr tk po => ⟨_, dss_cons (ds_if (dt_cmp (op_eqA hr) o_eq (dv 0) (de_int)) (dss_one (ds_raise rfl tk (w.es.w "InvalidOrder" (by decide +kernel)).oex (w.es.w "InvalidOrder" (by decide +kernel)).er.no (w.es.w "InvalidOrder" (by decide +kernel)).ini w.es.tI (ok_init w) (hr.mono (by decide)) (b_init w) passI rfl w.gc_InvalidOrder (dv 1))) (dss_nil)) (dss_cons (ds_if (dt_cmp (op_eqA hr) o_eq (dv 0) (de_int)) (dss_one (ds_raise rfl tk (w.es.w "InvalidPattern" (by decide +kernel)).oex (w.es.w "InvalidPattern" (by decide +kernel)).er.no (w.es.w "InvalidPattern" (by decide +kernel)).ini w.es.tI (ok_init w) (hr.mono (by decide)) (b_init w) passI rfl w.gc_InvalidPattern (dv 1))) (dss_nil)) (dss_cons (ds_if (dt_cmp (op_eqA hr) o_eq (dv 0) (de_int)) (dss_one (ds_raise rfl tk (w.es.w "InvalidList" (by decide +kernel)).oex (w.es.w "InvalidList" (by decide +kernel)).er.no (w.es.w "InvalidList" (by decide +kernel)).ini w.es.tI (ok_init w) (hr.mono (by decide)) (b_init w) passI rfl w.gc_InvalidList (dv 1))) (dss_nil)) (dss_cons (ds_if (dt_cmp (op_eqA hr) o_eq (dv 0) (de_int)) (dss_one (ds_raise rfl tk (w.es.w "InvalidForm" (by decide +kernel)).oex (w.es.w "InvalidForm" (by decide +kernel)).er.no (w.es.w "InvalidForm" (by decide +kernel)).ini w.es.tI (ok_init w) (hr.mono (by decide)) (b_init w) passI rfl w.gc_InvalidForm (dv 1))) (dss_nil)) (dss_cons (ds_if (dt_cmp (op_eqA hr) o_eq (dv 0) (de_int)) (dss_one (ds_raise rfl tk (w.es.w "InvalidLetter" (by decide +kernel)).oex (w.es.w "InvalidLetter" (by decide +kernel)).er.no (w.es.w "InvalidLetter" (by decide +kernel)).ini w.es.tI (ok_init w) (hr.mono (by decide)) (b_init w) passI rfl w.gc_InvalidLetter (dv 1))) (dss_nil)) (dss_cons (ds_if (dt_cmp (op_eqA hr) o_eq (dv 0) (de_int)) (dss_one (ds_raise rfl tk (w.es.w "InvalidWord" (by decide +kernel)).oex (w.es.w "InvalidWord" (by decide +kernel)).er.no (w.es.w "InvalidWord" (by decide +kernel)).ini w.es.tI (ok_init w) (hr.mono (by decide)) (b_init w) passI rfl w.gc_InvalidWord (dv 1))) (dss_nil)) (dss_cons (ds_if (dt_cmp (op_eqA hr) o_eq (dv 0) (de_int)) (dss_one (ds_raise rfl tk (w.es.w "InvalidKind" (by decide +kernel)).oex (w.es.w "InvalidKind" (by decide +kernel)).er.no (w.es.w "InvalidKind" (by decide +kernel)).ini w.es.tI (ok_init w) (hr.mono (by decide)) (b_init w) passI rfl w.gc_InvalidKind (dv 1))) (dss_nil)) (dss_cons (ds_if (dt_cmp (op_eqA hr) o_eq (dv 0) (de_int)) (dss_one (ds_raise rfl tk (w.es.w "InvalidNumber" (by decide +kernel)).oex (w.es.w "InvalidNumber" (by decide +kernel)).er.no (w.es.w "InvalidNumber" (by decide +kernel)).ini w.es.tI (ok_init w) (hr.mono (by decide)) (b_init w) passI rfl w.gc_InvalidNumber (dv 1))) (dss_nil)) (dss_cons (ds_if (dt_cmp (op_eqA hr) o_eq (dv 0) (de_int)) (dss_one (ds_raise rfl tk (w.es.w "InvalidPair" (by decide +kernel)).oex (w.es.w "InvalidPair" (by decide +kernel)).er.no (w.es.w "InvalidPair" (by decide +kernel)).ini w.es.tI (ok_init w) (hr.mono (by decide)) (b_init w) passI rfl w.gc_InvalidPair (dv 1))) (dss_nil)) (dss_one (ds_raise rfl tk (w.es.w "InvalidMachine" (by decide +kernel)).oex (w.es.w "InvalidMachine" (by decide +kernel)).er.no (w.es.w "InvalidMachine" (by decide +kernel)).ini w.es.tI (ok_init w) (hr.mono (by decide)) (b_init w) passI rfl w.gc_InvalidMachine (dv 1)))))))))))⟩
theorem sc__law_raise_second : FnScope ["which", "given"] ["which", "given"] (defScope st__law_raise_second) := ⟨rfl, rfl, rfl, by decide +kernel, rfl, by decide +kernel, by decide +kernel⟩
theorem b__law_raise_second {K : PySem.W.Frag} {mg : Str → Option Value} (w : W K mg) : Binds K w.fd__law_raise_second ["which", "given"] [] := w.F__law_raise_second.bindsN fun _ _ _ _ _ _ us hl => match us, hl with | [_, _], _ => rfl
theorem ok__law_raise_second {P : Program} {wd : World} {K : PySem.W.Frag} {mg : Str → Option Value} {base : Heap} (w : W K mg) : FnOk P wd K mg base (L2.CX P wd) 3 (He.ga K "_law_raise_second") w.fd__law_raise_second ["which", "given"] (spD K [false, false] den_law_raise_second) :=
  fn_okX (k := 2) w.F__law_raise_second sc__law_raise_second rfl (by decide) fun cdv A outer s H E hr tk po => ⟨_, dss_cons (ds_if (dt_cmp (op_eqA hr) o_eq (dv 0) (de_int)) (dss_one (ds_raise rfl tk (w.es.w "NoMachine" (by decide +kernel)).oex (w.es.w "NoMachine" (by decide +kernel)).er.no (w.es.w "NoMachine" (by decide +kernel)).ini w.es.tI (ok_init w) (hr.mono (by decide)) (b_init w) passI rfl w.gc_NoMachine (dv 1))) (dss_nil)) (dss_cons (ds_if (dt_cmp (op_eqA hr) o_eq (dv 0) (de_int)) (dss_one (ds_raise rfl tk (w.es.w "InvalidTape" (by decide +kernel)).oex (w.es.w "InvalidTape" (by decide +kernel)).er.no (w.es.w "InvalidTape" (by decide +kernel)).ini w.es.tI (ok_init w) (hr.mono (by decide)) (b_init w) passI rfl w.gc_InvalidTape (dv 1))) (dss_nil)) (dss_cons (ds_if (dt_cmp (op_eqA hr) o_eq (dv 0) (de_int)) (dss_one (ds_raise rfl tk (w.es.w "InvalidSorter" (by decide +kernel)).oex (w.es.w "InvalidSorter" (by decide +kernel)).er.no (w.es.w "InvalidSorter" (by decide +kernel)).ini w.es.tI (ok_init w) (hr.mono (by decide)) (b_init w) passI rfl w.gc_InvalidSorter (dv 1))) (dss_nil)) (dss_cons (ds_if (dt_cmp (op_eqA hr) o_eq (dv 0) (de_int)) (dss_one (ds_raise rfl tk (w.es.w "InvalidSaying" (by decide +kernel)).oex (w.es.w "InvalidSaying" (by decide +kernel)).er.no (w.es.w "InvalidSaying" (by decide +kernel)).ini w.es.tI (ok_init w) (hr.mono (by decide)) (b_init w) passI rfl w.gc_InvalidSaying (dv 1))) (dss_nil)) (dss_cons (ds_if (dt_cmp (op_eqA hr) o_eq (dv 0) (de_int)) (dss_one (ds_raise rfl tk (w.es.w "InvalidName" (by decide +kernel)).oex (w.es.w "InvalidName" (by decide +kernel)).er.no (w.es.w "InvalidName" (by decide +kernel)).ini w.es.tI (ok_init w) (hr.mono (by decide)) (b_init w) passI rfl w.gc_InvalidName (dv 1))) (dss_nil)) (dss_cons (ds_if (dt_cmp (op_eqA hr) o_eq (dv 0) (de_int)) (dss_one (ds_raise rfl tk (w.es.w "NotLet" (by decide +kernel)).oex (w.es.w "NotLet" (by decide +kernel)).er.no (w.es.w "NotLet" (by decide +kernel)).ini w.es.tI (ok_init w) (hr.mono (by decide)) (b_init w) passI rfl w.gc_NotLet (dv 1))) (dss_nil)) (dss_cons (ds_if (dt_cmp (op_eqA hr) o_eq (dv 0) (de_int)) (dss_one (ds_raise rfl tk (w.es.w "UnknownName" (by decide +kernel)).oex (w.es.w "UnknownName" (by decide +kernel)).er.no (w.es.w "UnknownName" (by decide +kernel)).ini w.es.tI (ok_init w) (hr.mono (by decide)) (b_init w) passI rfl w.gc_UnknownName (dv 1))) (dss_nil)) (dss_cons (ds_if (dt_cmp (op_eqA hr) o_eq (dv 0) (de_int)) (dss_one (ds_raise rfl tk (w.es.w "NothingToUndo" (by decide +kernel)).oex (w.es.w "NothingToUndo" (by decide +kernel)).er.no (w.es.w "NothingToUndo" (by decide +kernel)).ini w.es.tI (ok_init w) (hr.mono (by decide)) (b_init w) passI rfl w.gc_NothingToUndo (dv 1))) (dss_nil)) (dss_cons (ds_if (dt_cmp (op_eqA hr) o_eq (dv 0) (de_int)) (dss_one (ds_raise rfl tk (w.es.w "Unreadable" (by decide +kernel)).oex (w.es.w "Unreadable" (by decide +kernel)).er.no (w.es.w "Unreadable" (by decide +kernel)).ini w.es.tI (ok_init w) (hr.mono (by decide)) (b_init w) passI rfl w.gc_Unreadable (dv 1))) (dss_nil)) (dss_one (ds_raise rfl tk (w.es.w "Unorderly" (by decide +kernel)).oex (w.es.w "Unorderly" (by decide +kernel)).er.no (w.es.w "Unorderly" (by decide +kernel)).ini w.es.tI (ok_init w) (hr.mono (by decide)) (b_init w) passI rfl w.gc_Unorderly (dv 1)))))))))))⟩
theorem sc__law_raise_named_first : FnScope ["which", "given"] ["which", "given"] (defScope st__law_raise_named_first) := ⟨rfl, rfl, rfl, by decide +kernel, rfl, by decide +kernel, by decide +kernel⟩
theorem b__law_raise_named_first {K : PySem.W.Frag} {mg : Str → Option Value} (w : W K mg) : Binds K w.fd__law_raise_named_first ["which", "given"] [] := w.F__law_raise_named_first.bindsN fun _ _ _ _ _ _ us hl => match us, hl with | [_, _], _ => rfl
theorem ok__law_raise_named_first {P : Program} {wd : World} {K : PySem.W.Frag} {mg : Str → Option Value} {base : Heap} (w : W K mg) : FnOk P wd K mg base (L2.CX P wd) 3 (He.ga K "_law_raise_named_first") w.fd__law_raise_named_first ["which", "given"] (spD K [false, false] den_law_raise_named_first) :=
  fn_okX (k := 2) w.F__law_raise_named_first sc__law_raise_named_first rfl (by decide) fun cdv A outer s H E hr tk po => ⟨_, dss_cons (ds_if (dt_cmp (op_eqA hr) o_eq (dv 0) (de_int)) (dss_one (ds_raiseK rfl tk (w.es.w "InvalidOrder" (by decide +kernel)).oex (w.es.w "InvalidOrder" (by decide +kernel)).er.no (w.es.w "InvalidOrder" (by decide +kernel)).ini w.es.tI (ok_init w) (hr.mono (by decide)) (kbi_init w) passI rfl w.gc_InvalidOrder (dv 1))) (dss_nil)) (dss_cons (ds_if (dt_cmp (op_eqA hr) o_eq (dv 0) (de_int)) (dss_one (ds_raiseK rfl tk (w.es.w "InvalidPattern" (by decide +kernel)).oex (w.es.w "InvalidPattern" (by decide +kernel)).er.no (w.es.w "InvalidPattern" (by decide +kernel)).ini w.es.tI (ok_init w) (hr.mono (by decide)) (kbi_init w) passI rfl w.gc_InvalidPattern (dv 1))) (dss_nil)) (dss_cons (ds_if (dt_cmp (op_eqA hr) o_eq (dv 0) (de_int)) (dss_one (ds_raiseK rfl tk (w.es.w "InvalidList" (by decide +kernel)).oex (w.es.w "InvalidList" (by decide +kernel)).er.no (w.es.w "InvalidList" (by decide +kernel)).ini w.es.tI (ok_init w) (hr.mono (by decide)) (kbi_init w) passI rfl w.gc_InvalidList (dv 1))) (dss_nil)) (dss_cons (ds_if (dt_cmp (op_eqA hr) o_eq (dv 0) (de_int)) (dss_one (ds_raiseK rfl tk (w.es.w "InvalidForm" (by decide +kernel)).oex (w.es.w "InvalidForm" (by decide +kernel)).er.no (w.es.w "InvalidForm" (by decide +kernel)).ini w.es.tI (ok_init w) (hr.mono (by decide)) (kbi_init w) passI rfl w.gc_InvalidForm (dv 1))) (dss_nil)) (dss_cons (ds_if (dt_cmp (op_eqA hr) o_eq (dv 0) (de_int)) (dss_one (ds_raiseK rfl tk (w.es.w "InvalidLetter" (by decide +kernel)).oex (w.es.w "InvalidLetter" (by decide +kernel)).er.no (w.es.w "InvalidLetter" (by decide +kernel)).ini w.es.tI (ok_init w) (hr.mono (by decide)) (kbi_init w) passI rfl w.gc_InvalidLetter (dv 1))) (dss_nil)) (dss_cons (ds_if (dt_cmp (op_eqA hr) o_eq (dv 0) (de_int)) (dss_one (ds_raiseK rfl tk (w.es.w "InvalidWord" (by decide +kernel)).oex (w.es.w "InvalidWord" (by decide +kernel)).er.no (w.es.w "InvalidWord" (by decide +kernel)).ini w.es.tI (ok_init w) (hr.mono (by decide)) (kbi_init w) passI rfl w.gc_InvalidWord (dv 1))) (dss_nil)) (dss_cons (ds_if (dt_cmp (op_eqA hr) o_eq (dv 0) (de_int)) (dss_one (ds_raiseK rfl tk (w.es.w "InvalidKind" (by decide +kernel)).oex (w.es.w "InvalidKind" (by decide +kernel)).er.no (w.es.w "InvalidKind" (by decide +kernel)).ini w.es.tI (ok_init w) (hr.mono (by decide)) (kbi_init w) passI rfl w.gc_InvalidKind (dv 1))) (dss_nil)) (dss_cons (ds_if (dt_cmp (op_eqA hr) o_eq (dv 0) (de_int)) (dss_one (ds_raiseK rfl tk (w.es.w "InvalidNumber" (by decide +kernel)).oex (w.es.w "InvalidNumber" (by decide +kernel)).er.no (w.es.w "InvalidNumber" (by decide +kernel)).ini w.es.tI (ok_init w) (hr.mono (by decide)) (kbi_init w) passI rfl w.gc_InvalidNumber (dv 1))) (dss_nil)) (dss_cons (ds_if (dt_cmp (op_eqA hr) o_eq (dv 0) (de_int)) (dss_one (ds_raiseK rfl tk (w.es.w "InvalidPair" (by decide +kernel)).oex (w.es.w "InvalidPair" (by decide +kernel)).er.no (w.es.w "InvalidPair" (by decide +kernel)).ini w.es.tI (ok_init w) (hr.mono (by decide)) (kbi_init w) passI rfl w.gc_InvalidPair (dv 1))) (dss_nil)) (dss_one (ds_raiseK rfl tk (w.es.w "InvalidMachine" (by decide +kernel)).oex (w.es.w "InvalidMachine" (by decide +kernel)).er.no (w.es.w "InvalidMachine" (by decide +kernel)).ini w.es.tI (ok_init w) (hr.mono (by decide)) (kbi_init w) passI rfl w.gc_InvalidMachine (dv 1)))))))))))⟩
theorem sc__law_raise_named_second : FnScope ["which", "given"] ["which", "given"] (defScope st__law_raise_named_second) := ⟨rfl, rfl, rfl, by decide +kernel, rfl, by decide +kernel, by decide +kernel⟩
theorem b__law_raise_named_second {K : PySem.W.Frag} {mg : Str → Option Value} (w : W K mg) : Binds K w.fd__law_raise_named_second ["which", "given"] [] := w.F__law_raise_named_second.bindsN fun _ _ _ _ _ _ us hl => match us, hl with | [_, _], _ => rfl
theorem ok__law_raise_named_second {P : Program} {wd : World} {K : PySem.W.Frag} {mg : Str → Option Value} {base : Heap} (w : W K mg) : FnOk P wd K mg base (L2.CX P wd) 3 (He.ga K "_law_raise_named_second") w.fd__law_raise_named_second ["which", "given"] (spD K [false, false] den_law_raise_named_second) :=
  fn_okX (k := 2) w.F__law_raise_named_second sc__law_raise_named_second rfl (by decide) fun cdv A outer s H E hr tk po => ⟨_, dss_cons (ds_if (dt_cmp (op_eqA hr) o_eq (dv 0) (de_int)) (dss_one (ds_raiseK rfl tk (w.es.w "NoMachine" (by decide +kernel)).oex (w.es.w "NoMachine" (by decide +kernel)).er.no (w.es.w "NoMachine" (by decide +kernel)).ini w.es.tI (ok_init w) (hr.mono (by decide)) (kbi_init w) passI rfl w.gc_NoMachine (dv 1))) (dss_nil)) (dss_cons (ds_if (dt_cmp (op_eqA hr) o_eq (dv 0) (de_int)) (dss_one (ds_raiseK rfl tk (w.es.w "InvalidTape" (by decide +kernel)).oex (w.es.w "InvalidTape" (by decide +kernel)).er.no (w.es.w "InvalidTape" (by decide +kernel)).ini w.es.tI (ok_init w) (hr.mono (by decide)) (kbi_init w) passI rfl w.gc_InvalidTape (dv 1))) (dss_nil)) (dss_cons (ds_if (dt_cmp (op_eqA hr) o_eq (dv 0) (de_int)) (dss_one (ds_raiseK rfl tk (w.es.w "InvalidSorter" (by decide +kernel)).oex (w.es.w "InvalidSorter" (by decide +kernel)).er.no (w.es.w "InvalidSorter" (by decide +kernel)).ini w.es.tI (ok_init w) (hr.mono (by decide)) (kbi_init w) passI rfl w.gc_InvalidSorter (dv 1))) (dss_nil)) (dss_cons (ds_if (dt_cmp (op_eqA hr) o_eq (dv 0) (de_int)) (dss_one (ds_raiseK rfl tk (w.es.w "InvalidSaying" (by decide +kernel)).oex (w.es.w "InvalidSaying" (by decide +kernel)).er.no (w.es.w "InvalidSaying" (by decide +kernel)).ini w.es.tI (ok_init w) (hr.mono (by decide)) (kbi_init w) passI rfl w.gc_InvalidSaying (dv 1))) (dss_nil)) (dss_cons (ds_if (dt_cmp (op_eqA hr) o_eq (dv 0) (de_int)) (dss_one (ds_raiseK rfl tk (w.es.w "InvalidName" (by decide +kernel)).oex (w.es.w "InvalidName" (by decide +kernel)).er.no (w.es.w "InvalidName" (by decide +kernel)).ini w.es.tI (ok_init w) (hr.mono (by decide)) (kbi_init w) passI rfl w.gc_InvalidName (dv 1))) (dss_nil)) (dss_cons (ds_if (dt_cmp (op_eqA hr) o_eq (dv 0) (de_int)) (dss_one (ds_raiseK rfl tk (w.es.w "NotLet" (by decide +kernel)).oex (w.es.w "NotLet" (by decide +kernel)).er.no (w.es.w "NotLet" (by decide +kernel)).ini w.es.tI (ok_init w) (hr.mono (by decide)) (kbi_init w) passI rfl w.gc_NotLet (dv 1))) (dss_nil)) (dss_cons (ds_if (dt_cmp (op_eqA hr) o_eq (dv 0) (de_int)) (dss_one (ds_raiseK rfl tk (w.es.w "UnknownName" (by decide +kernel)).oex (w.es.w "UnknownName" (by decide +kernel)).er.no (w.es.w "UnknownName" (by decide +kernel)).ini w.es.tI (ok_init w) (hr.mono (by decide)) (kbi_init w) passI rfl w.gc_UnknownName (dv 1))) (dss_nil)) (dss_cons (ds_if (dt_cmp (op_eqA hr) o_eq (dv 0) (de_int)) (dss_one (ds_raiseK rfl tk (w.es.w "NothingToUndo" (by decide +kernel)).oex (w.es.w "NothingToUndo" (by decide +kernel)).er.no (w.es.w "NothingToUndo" (by decide +kernel)).ini w.es.tI (ok_init w) (hr.mono (by decide)) (kbi_init w) passI rfl w.gc_NothingToUndo (dv 1))) (dss_nil)) (dss_cons (ds_if (dt_cmp (op_eqA hr) o_eq (dv 0) (de_int)) (dss_one (ds_raiseK rfl tk (w.es.w "Unreadable" (by decide +kernel)).oex (w.es.w "Unreadable" (by decide +kernel)).er.no (w.es.w "Unreadable" (by decide +kernel)).ini w.es.tI (ok_init w) (hr.mono (by decide)) (kbi_init w) passI rfl w.gc_Unreadable (dv 1))) (dss_nil)) (dss_one (ds_raiseK rfl tk (w.es.w "Unorderly" (by decide +kernel)).oex (w.es.w "Unorderly" (by decide +kernel)).er.no (w.es.w "Unorderly" (by decide +kernel)).ini w.es.tI (ok_init w) (hr.mono (by decide)) (kbi_init w) passI rfl w.gc_Unorderly (dv 1)))))))))))⟩
theorem sc__law_raised : FnScope ["which", "given", "named"] ["which", "given", "named"] (defScope st__law_raised) := ⟨rfl, rfl, rfl, by decide +kernel, rfl, by decide +kernel, by decide +kernel⟩
theorem b__law_raised {K : PySem.W.Frag} {mg : Str → Option Value} (w : W K mg) : Binds K w.fd__law_raised ["which", "given", "named"] [] := w.F__law_raised.bindsN fun _ _ _ _ _ _ us hl => match us, hl with | [_, _, _], _ => rfl
theorem ok__law_raised {P : Program} {wd : World} {K : PySem.W.Frag} {mg : Str → Option Value} {base : Heap} (w : W K mg) : FnOk P wd K mg base (L2.CX P wd) 4 (He.ga K "_law_raised") w.fd__law_raised ["which", "given", "named"] (spD K [false, false, false] den_law_raised) :=
  fn_okX (k := 3) w.F__law_raised sc__law_raised rfl (by decide) fun cdv A outer s H E hr tk po => ⟨_, dss_one (ds_if (DW.dt (dw_and (dt_cmp op_lt o_lt (dv 0) (de_int)) (dw_and1 (dt_val (dv 2))))) (dss_one (ds_expr (de_call (ok__law_raise_named_first w) (hr.mono (by decide)) rfl w.g__law_raise_named_first w.F__law_raise_named_first.kp (b__law_raise_named_first w) (passX tk) (da_cons (dv 0) (da_cons (dv 1) (da_nil)))))) (dss_one (ds_if (dt_cmp op_lt o_lt (dv 0) (de_int)) (dss_one (ds_expr (de_call (ok__law_raise_first w) (hr.mono (by decide)) rfl w.g__law_raise_first w.F__law_raise_first.kp (b__law_raise_first w) (passX tk) (da_cons (dv 0) (da_cons (dv 1) (da_nil)))))) (dss_one (ds_if (dt_val (dv 2)) (dss_one (ds_expr (de_call (ok__law_raise_named_second w) (hr.mono (by decide)) rfl w.g__law_raise_named_second w.F__law_raise_named_second.kp (b__law_raise_named_second w) (passX tk) (da_cons (dv 0) (da_cons (dv 1) (da_nil)))))) (dss_one (ds_expr (de_call (ok__law_raise_second w) (hr.mono (by decide)) rfl w.g__law_raise_second w.F__law_raise_second.kp (b__law_raise_second w) (passX tk) (da_cons (dv 0) (da_cons (dv 1) (da_nil)))))))))))⟩
theorem sc__law_given : FnScope ["deck", "far", "some"] ["deck"] (defScope st__law_given) := ⟨rfl, rfl, rfl, by decide +kernel, rfl, by decide +kernel, by decide +kernel⟩
theorem b__law_given {K : PySem.W.Frag} {mg : Str → Option Value} (w : W K mg) : Binds K w.fd__law_given ["deck"] [] := w.F__law_given.bindsN fun _ _ _ _ _ _ us hl => match us, hl with | [_], _ => rfl
theorem ok__law_given {P : Program} {wd : World} {K : PySem.W.Frag} {mg : Str → Option Value} {base : Heap} (w : W K mg) : FnOk P wd K mg base L2.CX0 2 (He.ga K "_law_given") w.fd__law_given ["deck"] (spD K [true] den_law_given) :=
  fn_ok0 (k := 1) w.F__law_given sc__law_given rfl (by decide) fun cdv A outer s H E hr => ⟨_, dss_cons (ds_set (i := 1) sc__law_given.nd rfl (by first | exact Or.inl rfl | exact Or.inr rfl) (de_sub (de_call (ok__law_take w) (hr.mono (by decide)) rfl w.g__law_take w.F__law_take.kp (b__law_take w) pass00 (da_cons (dv 0) (da_cons (de_pow (de_int) (de_int)) (da_nil)))) (de_pow (de_int) (de_int)))) (dss_cons (ds_set (i := 2) sc__law_given.nd rfl (by first | exact Or.inl rfl | exact Or.inr rfl) (de_lst (n := 14) (da_cons (dv 1) (da_cons (de_call (ok__law_take w) (hr.mono (by decide)) rfl w.g__law_take w.F__law_take.kp (b__law_take w) pass00 (da_cons (dv 0) (da_cons (de_int) (da_nil)))) (da_cons (de_str) (da_cons (de_str) (da_cons (de_non) (da_cons (de_bl) (da_cons (de_bl) (da_cons (de_tup (n := 0) (da_nil)) (da_cons (de_tup (n := 2) (da_cons (dv 1) (da_cons (de_int) (da_nil)))) (da_cons (de_lst (n := 2) (da_cons (dv 1) (da_cons (de_str) (da_nil)))) (da_cons (de_tup (n := 2) (da_cons (de_tup (n := 2) (da_cons (de_int) (da_cons (de_int) (da_nil)))) (da_cons (de_tup (n := 2) (da_cons (de_str) (da_cons (de_tup (n := 0) (da_nil)) (da_nil)))) (da_nil)))) (da_cons (de_lst (n := 0) (da_nil)) (da_cons (de_neg (de_int)) (da_cons (de_int) (da_nil))))))))))))))))) (dss_one (ds_ret (de_ix (dv 2) (de_call (ok__law_take w) (hr.mono (by decide)) rfl w.g__law_take w.F__law_take.kp (b__law_take w) pass00 (da_cons (dv 0) (da_cons (de_int) (da_nil))))))))⟩
theorem sc__law_kinds : FnScope ["e", "found"] ["e"] (defScope st__law_kinds) := ⟨rfl, rfl, rfl, by decide +kernel, rfl, by decide +kernel, by decide +kernel⟩
theorem b__law_kinds {K : PySem.W.Frag} {mg : Str → Option Value} (w : W K mg) : Binds K w.fd__law_kinds ["e"] [] := w.F__law_kinds.bindsN fun _ _ _ _ _ _ us hl => match us, hl with | [_], _ => rfl
theorem ok__law_kinds {P : Program} {wd : World} {K : PySem.W.Frag} {mg : Str → Option Value} {base : Heap} (w : W K mg) : FnOk P wd K mg base L2.CX0 1 (He.ga K "_law_kinds") w.fd__law_kinds ["e"] (spD K [true] den_law_kinds_2) :=
  fn_ok0 (k := 0) w.F__law_kinds sc__law_kinds rfl (by decide) fun cdv A outer s H E hr => ⟨_, dss_cons (ds_set (i := 1) sc__law_kinds.nd rfl (by first | exact Or.inl rfl | exact Or.inr rfl) (de_lst (n := 3) (da_cons (de_erisC (i := 0) w.es (y := "InvalidOrder") (by decide +kernel) rfl w.n_isinstance rfl (by first | exact Or.inl rfl | exact Or.inr (Or.inl rfl) | exact Or.inr (Or.inr rfl)) rfl w.gc_InvalidOrder) (da_cons (de_erisC (i := 0) w.es (y := "InvalidPattern") (by decide +kernel) rfl w.n_isinstance rfl (by first | exact Or.inl rfl | exact Or.inr (Or.inl rfl) | exact Or.inr (Or.inr rfl)) rfl w.gc_InvalidPattern) (da_cons (de_erisC (i := 0) w.es (y := "InvalidList") (by decide +kernel) rfl w.n_isinstance rfl (by first | exact Or.inl rfl | exact Or.inr (Or.inl rfl) | exact Or.inr (Or.inr rfl)) rfl w.gc_InvalidList) (da_nil)))))) (dss_cons (ds_set (i := 1) sc__law_kinds.nd rfl (by first | exact Or.inl rfl | exact Or.inr rfl) (de_add (dv 1) (de_lst (n := 3) (da_cons (de_erisC (i := 0) w.es (y := "InvalidForm") (by decide +kernel) rfl w.n_isinstance rfl (by first | exact Or.inl rfl | exact Or.inr (Or.inl rfl) | exact Or.inr (Or.inr rfl)) rfl w.gc_InvalidForm) (da_cons (de_erisC (i := 0) w.es (y := "InvalidLetter") (by decide +kernel) rfl w.n_isinstance rfl (by first | exact Or.inl rfl | exact Or.inr (Or.inl rfl) | exact Or.inr (Or.inr rfl)) rfl w.gc_InvalidLetter) (da_cons (de_erisC (i := 0) w.es (y := "InvalidWord") (by decide +kernel) rfl w.n_isinstance rfl (by first | exact Or.inl rfl | exact Or.inr (Or.inl rfl) | exact Or.inr (Or.inr rfl)) rfl w.gc_InvalidWord) (da_nil))))))) (dss_cons (ds_set (i := 1) sc__law_kinds.nd rfl (by first | exact Or.inl rfl | exact Or.inr rfl) (de_add (dv 1) (de_lst (n := 3) (da_cons (de_erisC (i := 0) w.es (y := "InvalidKind") (by decide +kernel) rfl w.n_isinstance rfl (by first | exact Or.inl rfl | exact Or.inr (Or.inl rfl) | exact Or.inr (Or.inr rfl)) rfl w.gc_InvalidKind) (da_cons (de_erisC (i := 0) w.es (y := "InvalidNumber") (by decide +kernel) rfl w.n_isinstance rfl (by first | exact Or.inl rfl | exact Or.inr (Or.inl rfl) | exact Or.inr (Or.inr rfl)) rfl w.gc_InvalidNumber) (da_cons (de_erisC (i := 0) w.es (y := "InvalidPair") (by decide +kernel) rfl w.n_isinstance rfl (by first | exact Or.inl rfl | exact Or.inr (Or.inl rfl) | exact Or.inr (Or.inr rfl)) rfl w.gc_InvalidPair) (da_nil))))))) (dss_cons (ds_set (i := 1) sc__law_kinds.nd rfl (by first | exact Or.inl rfl | exact Or.inr rfl) (de_add (dv 1) (de_lst (n := 3) (da_cons (de_erisC (i := 0) w.es (y := "InvalidMachine") (by decide +kernel) rfl w.n_isinstance rfl (by first | exact Or.inl rfl | exact Or.inr (Or.inl rfl) | exact Or.inr (Or.inr rfl)) rfl w.gc_InvalidMachine) (da_cons (de_erisC (i := 0) w.es (y := "NoMachine") (by decide +kernel) rfl w.n_isinstance rfl (by first | exact Or.inl rfl | exact Or.inr (Or.inl rfl) | exact Or.inr (Or.inr rfl)) rfl w.gc_NoMachine) (da_cons (de_erisC (i := 0) w.es (y := "InvalidTape") (by decide +kernel) rfl w.n_isinstance rfl (by first | exact Or.inl rfl | exact Or.inr (Or.inl rfl) | exact Or.inr (Or.inr rfl)) rfl w.gc_InvalidTape) (da_nil))))))) (dss_cons (ds_set (i := 1) sc__law_kinds.nd rfl (by first | exact Or.inl rfl | exact Or.inr rfl) (de_add (dv 1) (de_lst (n := 3) (da_cons (de_erisC (i := 0) w.es (y := "InvalidSorter") (by decide +kernel) rfl w.n_isinstance rfl (by first | exact Or.inl rfl | exact Or.inr (Or.inl rfl) | exact Or.inr (Or.inr rfl)) rfl w.gc_InvalidSorter) (da_cons (de_erisC (i := 0) w.es (y := "InvalidSaying") (by decide +kernel) rfl w.n_isinstance rfl (by first | exact Or.inl rfl | exact Or.inr (Or.inl rfl) | exact Or.inr (Or.inr rfl)) rfl w.gc_InvalidSaying) (da_cons (de_erisC (i := 0) w.es (y := "InvalidName") (by decide +kernel) rfl w.n_isinstance rfl (by first | exact Or.inl rfl | exact Or.inr (Or.inl rfl) | exact Or.inr (Or.inr rfl)) rfl w.gc_InvalidName) (da_nil))))))) (dss_cons (ds_set (i := 1) sc__law_kinds.nd rfl (by first | exact Or.inl rfl | exact Or.inr rfl) (de_add (dv 1) (de_lst (n := 3) (da_cons (de_erisC (i := 0) w.es (y := "NotLet") (by decide +kernel) rfl w.n_isinstance rfl (by first | exact Or.inl rfl | exact Or.inr (Or.inl rfl) | exact Or.inr (Or.inr rfl)) rfl w.gc_NotLet) (da_cons (de_erisC (i := 0) w.es (y := "UnknownName") (by decide +kernel) rfl w.n_isinstance rfl (by first | exact Or.inl rfl | exact Or.inr (Or.inl rfl) | exact Or.inr (Or.inr rfl)) rfl w.gc_UnknownName) (da_cons (de_erisC (i := 0) w.es (y := "NothingToUndo") (by decide +kernel) rfl w.n_isinstance rfl (by first | exact Or.inl rfl | exact Or.inr (Or.inl rfl) | exact Or.inr (Or.inr rfl)) rfl w.gc_NothingToUndo) (da_nil))))))) (dss_one (ds_ret (de_add (dv 1) (de_lst (n := 2) (da_cons (de_erisC (i := 0) w.es (y := "Unreadable") (by decide +kernel) rfl w.n_isinstance rfl (by first | exact Or.inl rfl | exact Or.inr (Or.inl rfl) | exact Or.inr (Or.inr rfl)) rfl w.gc_Unreadable) (da_cons (de_erisC (i := 0) w.es (y := "Unorderly") (by decide +kernel) rfl w.n_isinstance rfl (by first | exact Or.inl rfl | exact Or.inr (Or.inl rfl) | exact Or.inr (Or.inr rfl)) rfl w.gc_Unorderly) (da_nil))))))))))))⟩
theorem sc__law_right : FnScope ["which", "given", "named", "caught", "e", "k"] ["which", "given", "named"] (defScope st__law_right) := ⟨rfl, rfl, rfl, by decide +kernel, rfl, by decide +kernel, by decide +kernel⟩
theorem b__law_right {K : PySem.W.Frag} {mg : Str → Option Value} (w : W K mg) : Binds K w.fd__law_right ["which", "given", "named"] [] := w.F__law_right.bindsN fun _ _ _ _ _ _ us hl => match us, hl with | [_, _, _], _ => rfl
theorem ok__law_right {P : Program} {wd : World} {K : PySem.W.Frag} {mg : Str → Option Value} {base : Heap} (w : W K mg) : FnOk P wd K mg base L2.CX0 13 (He.ga K "_law_right") w.fd__law_right ["which", "given", "named"] (spD K [false, false, false] den_law_right_6) :=
  fn_ok0 (k := 12) w.F__law_right sc__law_right rfl (by decide) fun cdv A outer s H E hr => ⟨_, dss_cons (ds_set (i := 3) sc__law_right.nd rfl (by first | exact Or.inl rfl | exact Or.inr rfl) (de_non)) (dss_cons (ds_tryK0 (i := 4) (j := 3) rfl rfl sc__law_right.nd rfl rfl ⟨rfl, by decide, .inl w.gc_OrderError⟩ (fun W pn xe tk po => ⟨_, dss_one (ds_expr (de_call (ok__law_raised w) (hr.mono (by decide)) rfl w.g__law_raised w.F__law_raised.kp (b__law_raised w) (passX tk) (da_cons (dv 0) (da_cons (dv 1) (da_cons (dv 2) (da_nil))))))⟩) (by decide) (by first | exact Or.inl rfl | exact Or.inr (Or.inl rfl) | exact Or.inr (Or.inr rfl)) rfl (by first | exact Or.inl rfl | exact Or.inr rfl) (exmT_ok w.es (y := "OrderError") (by decide +kernel))) (dss_cons (ds_if (DW.dt (dw_or (dt_ernone (i := 3) rfl (by first | exact Or.inl rfl | exact Or.inr (Or.inl rfl) | exact Or.inr (Or.inr rfl))) (dw_or1 (dt_not (dt_val (de_erisV (i := 3) w.es rfl w.n_isinstance rfl (by first | exact Or.inl rfl | exact Or.inr (Or.inl rfl) | exact Or.inr (Or.inr rfl)) rfl w.n_ValueError)))))) (dss_one (ds_ret (de_bl))) (dss_nil)) (dss_one (ds_ret (de_and (de_cmp (op_eqA hr) o_eq (de_call (ok__law_kinds w) (hr.mono (by decide)) rfl w.g__law_kinds w.F__law_kinds.kp (b__law_kinds w) pass00 (da_cons (dv 3) (da_nil))) (de_lc (own := [("k", 5)]) rfl sc__law_right.nd (di_rng1 rfl w.n_range (de_int)) (blkOk_by (by kernel_rfl)) (fun _ _ _ _ _ => ⟨_, dg_name sc__law_right.nd (i := 5) rfl (by first | exact Or.inl rfl | exact Or.inr rfl)⟩) (fun _ _ _ _ _ => ⟨_, dts_nil⟩) (fun _ _ _ _ _ => ⟨_, de_cmp (op_eqA hr) o_eq (dv 5) (dv 0)⟩))) (de_one (de_call (ok__law_same w) (hr.mono (by decide)) rfl w.g__law_same w.F__law_same.kp (b__law_same w) pass00 (da_cons (de_erval (i := 3) (cs := errsL) (fun c hc => (w.es.w c hc).er) rfl (by first | exact Or.inl rfl | exact Or.inr (Or.inl rfl) | exact Or.inr (Or.inr rfl))) (da_cons (dv 1) (da_nil))))))))))⟩
theorem sc__law_base_right : FnScope ["given", "caught", "e"] ["given"] (defScope st__law_base_right) := ⟨rfl, rfl, rfl, by decide +kernel, rfl, by decide +kernel, by decide +kernel⟩
theorem b__law_base_right {K : PySem.W.Frag} {mg : Str → Option Value} (w : W K mg) : Binds K w.fd__law_base_right ["given"] [] := w.F__law_base_right.bindsN fun _ _ _ _ _ _ us hl => match us, hl with | [_], _ => rfl
theorem ok__law_base_right {P : Program} {wd : World} {K : PySem.W.Frag} {mg : Str → Option Value} {base : Heap} (w : W K mg) : FnOk P wd K mg base L2.CX0 13 (He.ga K "_law_base_right") w.fd__law_base_right ["given"] (spD K [false] den_law_base_right) :=
  fn_ok0 (k := 12) w.F__law_base_right sc__law_base_right rfl (by decide) fun cdv A outer s H E hr => ⟨_, dss_cons (ds_set (i := 1) sc__law_base_right.nd rfl (by first | exact Or.inl rfl | exact Or.inr rfl) (de_non)) (dss_cons (ds_tryK0 (i := 2) (j := 1) rfl rfl sc__law_base_right.nd rfl rfl ⟨rfl, by decide, .inl w.gc_OrderError⟩ (fun W pn xe tk po => ⟨_, dss_one (ds_raiseK rfl tk (w.es.w "OrderError" (by decide +kernel)).oex (w.es.w "OrderError" (by decide +kernel)).er.no (w.es.w "OrderError" (by decide +kernel)).ini w.es.tI (ok_init w) (hr.mono (by decide)) (kbi_init w) passI rfl w.gc_OrderError (dv 0))⟩) (by decide) (by first | exact Or.inl rfl | exact Or.inr (Or.inl rfl) | exact Or.inr (Or.inr rfl)) rfl (by first | exact Or.inl rfl | exact Or.inr rfl) (exmT_ok w.es (y := "OrderError") (by decide +kernel))) (dss_cons (ds_if (DW.dt (dw_or (dt_not (dt_val (de_erisV (i := 1) w.es rfl w.n_isinstance rfl (by first | exact Or.inl rfl | exact Or.inr (Or.inl rfl) | exact Or.inr (Or.inr rfl)) rfl w.n_ValueError))) (dw_or1 (dt_cmp (op_inA hr) o_in (de_bl) (de_call (ok__law_kinds w) (hr.mono (by decide)) rfl w.g__law_kinds w.F__law_kinds.kp (b__law_kinds w) pass00 (da_cons (dv 1) (da_nil))))))) (dss_one (ds_ret (de_bl))) (dss_nil)) (dss_one (ds_ret (de_and (de_call (ok__law_same w) (hr.mono (by decide)) rfl w.g__law_same w.F__law_same.kp (b__law_same w) pass00 (da_cons (de_erval (i := 1) (cs := errsL) (fun c hc => (w.es.w c hc).er) rfl (by first | exact Or.inl rfl | exact Or.inr (Or.inl rfl) | exact Or.inr (Or.inr rfl))) (da_cons (dv 0) (da_nil)))) (de_one (de_call (ok__law_same w) (hr.mono (by decide)) rfl w.g__law_same w.F__law_same.kp (b__law_same w) pass00 (da_cons (de_mkv (w.es.w "OrderError" (by decide +kernel)).er (w.es.w "OrderError" (by decide +kernel)).oex (w.es.w "OrderError" (by decide +kernel)).ini w.es.tI (ok_init w) (hr.mono (by decide)) (b_init w) passI rfl w.gc_OrderError (dv 0)) (da_cons (dv 0) (da_nil))))))))))⟩
theorem sc_law : FnScope ["script", "k", "which", "first", "second", "deck", "e", "named", "given", "other"] ["script"] (defScope st_law) := ⟨rfl, rfl, rfl, by decide +kernel, rfl, by decide +kernel, by decide +kernel⟩
theorem ok_law {P : Program} {wd : World} {K : PySem.W.Frag} {mg : Str → Option Value} {base : Heap} (w : W K mg) : FnOk P wd K mg base L2.CX0 14 (He.ga K "law") w.fd_law ["script"] (spD K [false] den_law_k00) :=
  fn_ok0 (k := 13) w.F_law sc_law rfl (by decide) fun cdv A outer s H E hr => ⟨_, dss_cons (ds_parT rfl (by decide) (gns_cons (i := 3) sc_law.nd rfl (by first | exact Or.inl rfl | exact Or.inr rfl) (gns_cons (i := 4) sc_law.nd rfl (by first | exact Or.inl rfl | exact Or.inr rfl) (gns_nil))) (da_cons (de_non) (da_cons (de_non) (da_nil))) (by repeat (first | exact alen_nil | refine alen_cons ?_)) (by decide) rfl) (dss_cons (ds_for PassesOwn.never rfl (di_rng1 rfl w.n_range (de_callB (call_max2 rfl) opc_max2 rfl w.n_max (by decide +kernel) (da_cons (de_int) (da_cons (de_callB (call_min2 rfl) opc_min2 rfl w.n_min (by decide +kernel) (da_cons (de_callB call_len opc_len rfl w.n_len (by decide +kernel) (da_cons (dv 0) (da_nil))) (da_cons (de_int) (da_nil)))) (da_nil))))) (dg_name sc_law.nd (i := 1) rfl (by first | exact Or.inl rfl | exact Or.inr rfl)) (dss_cons (ds_set (i := 5) sc_law.nd rfl (by first | exact Or.inl rfl | exact Or.inr rfl) (de_call (ok__law_deck w) (hr.mono (by decide)) rfl w.g__law_deck w.F__law_deck.kp (b__law_deck w) pass00 (da_cons (dv 0) (da_cons (dv 1) (da_nil))))) (dss_cons (ds_par2 (i := 2) (j := 7) rfl sc_law.nd rfl rfl (by decide) rfl rfl (da_cons (de_call (ok__law_take w) (hr.mono (by decide)) rfl w.g__law_take w.F__law_take.kp (b__law_take w) pass00 (da_cons (dv 5) (da_cons (de_int) (da_nil)))) (da_cons (de_cmp (op_eqA hr) o_eq (de_call (ok__law_take w) (hr.mono (by decide)) rfl w.g__law_take w.F__law_take.kp (b__law_take w) pass00 (da_cons (dv 5) (da_cons (de_int) (da_nil)))) (de_int)) (da_nil))) (by rfl)) (dss_cons (ds_par2 (i := 8) (j := 9) rfl sc_law.nd rfl rfl (by decide) rfl rfl (da_cons (de_call (ok__law_given w) (hr.mono (by decide)) rfl w.g__law_given w.F__law_given.kp (b__law_given w) pass00 (da_cons (dv 5) (da_nil))) (da_cons (de_call (ok__law_given w) (hr.mono (by decide)) rfl w.g__law_given w.F__law_given.kp (b__law_given w) pass00 (da_cons (dv 5) (da_nil))) (da_nil))) (by rfl)) (dss_cons (ds_if (DW.dt (dw_or (dt_not (dt_val (de_call (ok__law_right w) (hr.mono (by decide)) rfl w.g__law_right w.F__law_right.kp (b__law_right w) pass00 (da_cons (dv 2) (da_cons (dv 8) (da_cons (dv 7) (da_nil))))))) (dw_or (dt_not (dt_val (de_call (ok__law_right w) (hr.mono (by decide)) rfl w.g__law_right w.F__law_right.kp (b__law_right w) pass00 (da_cons (dv 2) (da_cons (dv 9) (da_cons (de_not (dv 7)) (da_nil))))))) (dw_or1 (dt_not (dt_val (de_call (ok__law_base_right w) (hr.mono (by decide)) rfl w.g__law_base_right w.F__law_base_right.kp (b__law_base_right w) pass00 (da_cons (dv 9) (da_nil))))))))) (dss_one (ds_ret (de_bl))) (dss_nil)) (dss_cons (ds_tryK0 (i := 6) (j := 3) rfl rfl sc_law.nd rfl rfl ⟨rfl, by decide, .inl w.gc_OrderError⟩ (fun W pn xe tk po => ⟨_, dss_one (ds_expr (de_call (ok__law_raised w) (hr.mono (by decide)) rfl w.g__law_raised w.F__law_raised.kp (b__law_raised w) (passX tk) (da_cons (dv 2) (da_cons (dv 8) (da_cons (dv 7) (da_nil))))))⟩) (by decide) (by first | exact Or.inl rfl | exact Or.inr (Or.inl rfl) | exact Or.inr (Or.inr rfl)) rfl (by first | exact Or.inl rfl | exact Or.inr rfl) (exmT_ok w.es (y := "OrderError") (by decide +kernel))) (dss_cons (ds_tryK0 (i := 6) (j := 4) rfl rfl sc_law.nd rfl rfl ⟨rfl, by decide, .inl w.gc_OrderError⟩ (fun W pn xe tk po => ⟨_, dss_one (ds_expr (de_call (ok__law_raised w) (hr.mono (by decide)) rfl w.g__law_raised w.F__law_raised.kp (b__law_raised w) (passX tk) (da_cons (dv 2) (da_cons (dv 9) (da_cons (dv 7) (da_nil))))))⟩) (by decide) (by first | exact Or.inl rfl | exact Or.inr (Or.inl rfl) | exact Or.inr (Or.inr rfl)) rfl (by first | exact Or.inl rfl | exact Or.inr rfl) (exmT_ok w.es (y := "OrderError") (by decide +kernel))) (dss_one (ds_if (DW.dt (dw_or (dt_not (dt_val (de_call (ok__law_same w) (hr.mono (by decide)) rfl w.g__law_same w.F__law_same.kp (b__law_same w) pass00 (da_cons (de_erval (i := 3) (cs := errsL) (fun c hc => (w.es.w c hc).er) rfl (by first | exact Or.inl rfl | exact Or.inr (Or.inl rfl) | exact Or.inr (Or.inr rfl))) (da_cons (dv 8) (da_nil)))))) (dw_or1 (dt_not (dt_val (de_call (ok__law_same w) (hr.mono (by decide)) rfl w.g__law_same w.F__law_same.kp (b__law_same w) pass00 (da_cons (de_erval (i := 4) (cs := errsL) (fun c hc => (w.es.w c hc).er) rfl (by first | exact Or.inl rfl | exact Or.inr (Or.inl rfl) | exact Or.inr (Or.inr rfl))) (da_cons (dv 9) (da_nil))))))))) (dss_one (ds_ret (de_bl))) (dss_nil)))))))))) (dss_cons (ds_for PassesOwn.never rfl (di_rng1 rfl w.n_range (de_int)) (dg_name sc_law.nd (i := 2) rfl (by first | exact Or.inl rfl | exact Or.inr rfl)) (dss_one (ds_if (DW.dt (dw_or (dt_not (dt_val (de_call (ok__law_right w) (hr.mono (by decide)) rfl w.g__law_right w.F__law_right.kp (b__law_right w) pass00 (da_cons (dv 2) (da_cons (dv 2) (da_cons (de_bl) (da_nil))))))) (dw_or1 (dt_not (dt_val (de_call (ok__law_right w) (hr.mono (by decide)) rfl w.g__law_right w.F__law_right.kp (b__law_right w) pass00 (da_cons (dv 2) (da_cons (de_str) (da_cons (de_bl) (da_nil)))))))))) (dss_one (ds_ret (de_bl))) (dss_nil)))) (dss_one (ds_ret (de_bl)))))⟩
end DLL

namespace DLL
open Evl (Ex)
open PySem PySem.Spec PyProof.Rows L2 DL DLS
theorem mkW {wd : World} {K : PySem.W.Frag} {h : Heap} {mg : Str → Option Value} (X : K.In h) (G : h.Ns mainGlobals mg) (c2 : DL.SaysE fa fn cs ts "OrderError" errsL wd K) : Nonempty (W K mg) := by
  have c1 := c2.k
  have c0 := c1.c
  have c := c0.d
  obtain ⟨fd0, F0⟩ := c.def_ 0 (d := dd0) rfl
  obtain ⟨fd1, F1⟩ := c.def_ 1 (d := dd1) rfl
  obtain ⟨fd2, F2⟩ := c.def_ 2 (d := dd2) rfl
  obtain ⟨fd3, F3⟩ := c.def_ 3 (d := dd3) rfl
  obtain ⟨fd4, F4⟩ := c.def_ 4 (d := dd4) rfl
  obtain ⟨fd5, F5⟩ := c.def_ 5 (d := dd5) rfl
  obtain ⟨fd6, F6⟩ := c.def_ 6 (d := dd6) rfl
  obtain ⟨fd7, F7⟩ := c.def_ 7 (d := dd7) rfl
  obtain ⟨fd8, F8⟩ := c.def_ 8 (d := dd8) rfl
  obtain ⟨fd9, F9⟩ := c.def_ 9 (d := dd9) rfl
  obtain ⟨fd10, F10⟩ := c.def_ 10 (d := dd10) rfl
  obtain ⟨fd11, F11⟩ := c.def_ 11 (d := dd11) rfl
  obtain ⟨fd12, F12⟩ := c.def_ 12 (d := dd12) rfl
  obtain ⟨fdi, Fi⟩ := c.def_ 13 (d := ddi) rfl
  exact ⟨⟨fd0, F0, He.glo_ok X G (c.fact 0 (f := .glo "_law_deck") rfl),
    fd1, F1, He.glo_ok X G (c.fact 1 (f := .glo "_law_take") rfl),
    fd2, F2, He.glo_ok X G (c.fact 2 (f := .glo "_law_same") rfl),
    fd3, F3, He.glo_ok X G (c.fact 3 (f := .glo "_law_raise_first") rfl),
    fd4, F4, He.glo_ok X G (c.fact 4 (f := .glo "_law_raise_second") rfl),
    fd5, F5, He.glo_ok X G (c.fact 5 (f := .glo "_law_raise_named_first") rfl),
    fd6, F6, He.glo_ok X G (c.fact 6 (f := .glo "_law_raise_named_second") rfl),
    fd7, F7, He.glo_ok X G (c.fact 7 (f := .glo "_law_raised") rfl),
    fd8, F8, He.glo_ok X G (c.fact 8 (f := .glo "_law_given") rfl),
    fd9, F9, He.glo_ok X G (c.fact 9 (f := .glo "_law_kinds") rfl),
    fd10, F10, He.glo_ok X G (c.fact 10 (f := .glo "_law_right") rfl),
    fd11, F11, He.glo_ok X G (c.fact 11 (f := .glo "_law_base_right") rfl),
    fd12, F12, He.glo_ok X G (c.fact 12 (f := .glo "law") rfl),
    He.free_ok X G (c.fact 13 (f := .free "ValueError") rfl),
    He.free_ok X G (c.fact 14 (f := .free "bool") rfl),
    He.free_ok X G (c.fact 15 (f := .free "int") rfl),
    He.free_ok X G (c.fact 16 (f := .free "isinstance") rfl),
    He.free_ok X G (c.fact 17 (f := .free "len") rfl),
    He.free_ok X G (c.fact 18 (f := .free "list") rfl),
    He.free_ok X G (c.fact 19 (f := .free "max") rfl),
    He.free_ok X G (c.fact 20 (f := .free "min") rfl),
    He.free_ok X G (c.fact 21 (f := .free "range") rfl),
    He.free_ok X G (c.fact 22 (f := .free "str") rfl),
    He.free_ok X G (c.fact 23 (f := .free "tuple") rfl),
    c2.er,
    He.glo_ok X G (c.fact 24 (f := .glo "OrderError") rfl),
    He.glo_ok X G (c.fact 25 (f := .glo "InvalidOrder") rfl),
    He.glo_ok X G (c.fact 26 (f := .glo "InvalidPattern") rfl),
    He.glo_ok X G (c.fact 27 (f := .glo "InvalidList") rfl),
    He.glo_ok X G (c.fact 28 (f := .glo "InvalidForm") rfl),
    He.glo_ok X G (c.fact 29 (f := .glo "InvalidLetter") rfl),
    He.glo_ok X G (c.fact 30 (f := .glo "InvalidWord") rfl),
    He.glo_ok X G (c.fact 31 (f := .glo "InvalidKind") rfl),
    He.glo_ok X G (c.fact 32 (f := .glo "InvalidNumber") rfl),
    He.glo_ok X G (c.fact 33 (f := .glo "InvalidPair") rfl),
    He.glo_ok X G (c.fact 34 (f := .glo "InvalidMachine") rfl),
    He.glo_ok X G (c.fact 35 (f := .glo "NoMachine") rfl),
    He.glo_ok X G (c.fact 36 (f := .glo "InvalidTape") rfl),
    He.glo_ok X G (c.fact 37 (f := .glo "InvalidSorter") rfl),
    He.glo_ok X G (c.fact 38 (f := .glo "InvalidSaying") rfl),
    He.glo_ok X G (c.fact 39 (f := .glo "InvalidName") rfl),
    He.glo_ok X G (c.fact 40 (f := .glo "NotLet") rfl),
    He.glo_ok X G (c.fact 41 (f := .glo "UnknownName") rfl),
    He.glo_ok X G (c.fact 42 (f := .glo "NothingToUndo") rfl),
    He.glo_ok X G (c.fact 43 (f := .glo "Unreadable") rfl),
    He.glo_ok X G (c.fact 44 (f := .glo "Unorderly") rfl),
    fdi,
    Fi⟩⟩
end DLL
open PySem PySem.W PySem.Calls PyProof.Rows
set_option maxHeartbeats 0
theorem PySem.Challenge.cw_bannedorders_k00_errors_holds : PySem.Challenge.rw_bannedorders_k00_errors.Holds := by
  w_on; o_law
  refine HandSHeadRun.head_any (r := OpenLaw.row PySem.Challenge.rw_bannedorders_k00_errors) (q := view (OpenLaw.row PySem.Challenge.rw_bannedorders_k00_errors).prog [35]) (H := DLL.hk) (ob := DLL.ob) (M := 20000) (loose := DLL.loose) (d := HandSHeadRun.topDef (OpenLaw.row PySem.Challenge.rw_bannedorders_k00_errors).prog 35) (kwd := []) DLL.ob_eq
    (by kernel_rfl) (fun s => by kernel_rfl) DLL.run (by kernel_rfl) (by kernel_rfl) (by kernel_rfl) (by rfl) (by first | assumption | decide +kernel) (by decide +kernel) ⟨rfl, rfl, rfl, rfl, rfl, by decide +kernel⟩ ?hw ?hc
  case hw => w_witness2
  case hc =>
    refine L2.walk_ofE (l := PySem.Challenge.rw_bannedorders_k00_errors) (n := 63) (k := 14) (x := "script") (CX := L2.CX0) rfl (by decide) (by kernel_rfl) ⟨rfl, by decide, by decide⟩ ?F (fun _ _ _ _ z => z)
    intro w mg fa h Y G hmg0
    obtain ⟨K, KX, c⟩ := Y
    have hmg : mg ("law" : PySem.Str) = some (.ref fa) := by
      have e : (HandSHeadRun.topDef (OpenLaw.row PySem.Challenge.rw_bannedorders_k00_errors).prog 35).name = ("law" : PySem.Str) := by kernel_rfl
      rw [← e]
      exact hmg0
    obtain ⟨ww⟩ := DLL.mkW KX G c
    have e := hmg.symm.trans ww.g_law
    cases e
    have b := L2.FunD.bindsA (ps := ["script"]) ww.F_law fun _ _ _ _ _ _ us hl => match us, hl with | [_], _ => rfl
    refine ⟨K, ww.fd_law, DL.spD K [false] DLS.den_law_k00, KX, fun s v => b s [v] rfl, fun H a ns hl _ hS => ?_, fun base _ _ => DLL.ok_law ww⟩
    refine ⟨H, [DL.scrD ns], Evl.Ex.refl H, .val (.scr hS) .nil, List.Pairwise.nil, ?_⟩
    rw [DLS.law_true_k00 ns hl]
    intro F' H' v _ hv
    cases hv
    rfl