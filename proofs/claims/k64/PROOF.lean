import PyProof.Rows.All
import Wide.All
import OpenK.AllK
import Wide.FinOn
import PyProof.EqAt
import PyProof.EqKinds
import PyProof.TupleCall
import HandS.ForMost
import HandS.Exc
import HandS.TryOnly
import HandS.ExcOwn
import HandS.WordsExc
import HandS.Walk
import HandS.IsInst
import HandS.TupAny
import HandS.Zip
import HandS.Wide
import HandS.DictTup
import KE.KDictKeyed
import KE.KDictLaw
import HandS.Deep
import HandS.TupLe
import HandS.Conv
import KE.DatumOrd
import KE.GoesEnum
import KE.GoesMore
import KE.SortData
import KE.KDictPairs
import HandS.DictComp
import HandS.SetFor
import HandS.Strs
import HandS.Style
import KE.KRevSl
import KE.KExcSuper
import HandS.TryMany
import PySem.Challenge.RW_sizestold_k64_whole_polynomials
import KE.RegKSuper
set_option Elab.async false
set_option linter.all false
set_option maxRecDepth 100000
/-! A layer of my own over the hand layer: pure data in, pure data out. Every expression of the text is read as a function of the names' data. -/
namespace DL
open PySem PySem.Spec PyProof.Rows L2
/-- the world (of which only the texts' hashes matter) -/
class TheW where
  w : World
variable [TheW]

/-! ### what a reading gives -/
/-- an exception: its class's name, its own attributes -/
structure Exn where
  cls : Str
  fs : Option (List (Str × PyData))
inductive R (α : Type) where
  | ok (a : α)
  | exc (e : Exn)
  | bad
def R.bind {α β : Type} (x : R α) (f : α → R β) : R β := match x with
  | .ok a => f a
  | .exc e => .exc e
  | .bad => .bad
@[simp] theorem R.bind_ok {α β : Type} (a : α) (f : α → R β) : (R.ok a).bind f = f a := rfl
@[simp] theorem R.bind_exc {α β : Type} (e : Exn) (f : α → R β) : (R.exc e : R α).bind f = .exc e := rfl
@[simp] theorem R.bind_bad {α β : Type} (f : α → R β) : (R.bad : R α).bind f = .bad := rfl
/-- what may not be is bad -/
def R.of {α : Type} : Option α → R α
  | some a => .ok a
  | none => .bad
@[simp] theorem R.of_some {α : Type} (a : α) : R.of (some a) = .ok a := rfl
@[simp] theorem R.of_none {α : Type} : R.of (none : Option α) = .bad := rfl

/-! ### data in the abstract heap -/
def keyD : Key → PyData
  | .inl i => .int i
  | .inr x => .str x
/-- a dict's entries where the keys are tuples: the key, its tuple's address, the value -/
def dEnt (y : NestedKey × Addr × Value) : DictEntry := ⟨y.1.hash TheW.w, .ref y.2.1, y.2.2⟩
def RelN (p : NestedKey × Addr × V) (q : NestedKey × Addr × Value) : Prop := p.1 = q.1 ∧ p.2.1 = q.2.1 ∧ RelV p.2.2 q.2.2
def dNo (a : Addr) (xs : List (NestedKey × Addr × V)) : HO := .ext fun h => xs.length ≤ sizeLine ∧ (a == sysModules) = false ∧ ∃ ys : List (NestedKey × Addr × Value), Paired RelN xs ys ∧
  ∃ o es ep, h.get? a = some o ∧ o.ExactDict ∧ o.data = .dict es ep ∧ es.toList = ys.map dEnt ∧ (ys.map (·.1)).Nodup
/-- a tuple whose object is known to have no dict -/
def TupAt (K : PySem.W.Frag) (H : Hp) (a : Addr) (xs : List V) : Prop := (∃ o, H a = some (.frz o (.tup xs)) ∧ o.dict = none) ∨
  ∃ (o : Obj) (its : Array Value) (n : Nat), K.lookup a = some o ∧ o.cls = .type "tuple" ∧ o.dict = none ∧ o.data = .seq its n ∧ its.size ≤ sizeLine ∧ Vals xs its.toList
theorem TupAt.sq {K : PySem.W.Frag} {H : Hp} {a : Addr} {xs : List V} (h : TupAt K H a xs) : SqT K H a xs := by
  rcases h with ⟨o, h, _⟩ | ⟨o, its, n, h1, h2, _, h3, h4, h5⟩
  · exact .inl (.inr ⟨o, h⟩)
  · exact .inr ⟨o, its, n, h1, h2, h3, h4, h5⟩
theorem TupAt.mono {K : PySem.W.Frag} {H H' : Hp} {a : Addr} {xs : List V} (e : Same H H') (h : TupAt K H a xs) : TupAt K H' a xs := h.elim (fun ⟨o, h, d⟩ => .inl ⟨o, e _ _ h, d⟩) .inr
theorem TupAt.new {K : PySem.W.Frag} {H : Hp} {a : Addr} {xs : List V} {o : Obj} (d : o.dict = none) : TupAt K (upd H a (.frz o (.tup xs))) a xs := .inl ⟨o, upd_same, d⟩
/-- a new tuple's object -/
def tupO (its : List Value) : Obj := { cls := .type "tuple", data := .seq its.toArray }
theorem lay_tup {X : Cx} {pins : List (Addr × Obj)} {σ : L2.St} {H : Hp} {s : Shared} {xs : List V} {its : List Value} {tk : Nat} (I : Inv X pins σ H s) (hz : xs.length ≤ sizeLine) (r : Vals xs its) :
    Inv X pins σ (upd H s.heap.objs.size (.frz (tupO its) (.tup xs))) { s with heap := s.heap.push (tupO its), toks := tk } ∧ H s.heap.objs.size = none := by
  have hg : (s.heap.push (tupO its)).get? s.heap.objs.size = some (tupO its) := Heap.get?_push_size _ rfl
  exact ⟨I.laid (t' := tk) (o := .frz (tupO its) (.tup xs)) (fun b u e => Heap.get?_push_of_some _ e) (Nat.le_refl _) ⟨hg, hz, its, r, ⟨_, hg, rfl, _, rfl⟩⟩, I.hok.fresh (Nat.le_refl _)⟩
def tTupF (t : TA) : TE := fun σ H Q => t σ H fun xs H1 => xs.length ≤ sizeLine ∧ ∀ p o, H1 p = none → o.dict = none → Q (.ref p) (upd H1 p (.frz o (.tup xs)))
theorem pe_tupF {X : Cx} {es : List Expr} {t : TA} {x1 : Nat} {pos : Pos} (h : PA X es t) : PE X (.Tuple es x1 pos) (tTupF t) := by
  refine ⟨fun pins s σ H Q I hq => ?_⟩
  refine wpAny_Tuple_spliced (thn (h.run pos pins s σ H _ I hq) fun us s1 ⟨xs, H1, I1, r, z, q⟩ => ⟨by rw [← r.length]; exact z, ?_⟩)
  obtain ⟨I2, hn⟩ := lay_tup (tk := s1.toks) I1 z r
  exact ⟨.ref s1.heap.objs.size, _, I2, rfl, q _ _ hn rfl⟩
mutual
inductive Rp (K : PySem.W.Frag) (F : Hp) : V → PyData → Prop
  | non : Rp K F .non .none
  | bl (b : Bool) : Rp K F (.bl b) (.bool b)
  | int (i : Int) : Rp K F (.int i) (.int i)
  | str (x : Str) (h : x.length ≤ sizeLine) : Rp K F (.str x) (.str x)
  | lst {a : Addr} {xs : List V} {ds : List PyData} : SqL K F a xs → xs.length ≤ sizeLine → RpAll K F xs ds → Rp K F (.ref a) (.list ds)
  | tup {a : Addr} {xs : List V} {ds : List PyData} : TupAt K F a xs → xs.length ≤ sizeLine → RpAll K F xs ds → Rp K F (.ref a) (.tuple ds)
  | dct {a : Addr} {o : Obj} {es : List (Key × V)} {kvs : List (PyData × PyData)} : F a = some (.frz o (.dK es)) → es.length ≤ sizeLine → RpKV K F es kvs → Rp K F (.ref a) (.dict kvs)
  | dctN {a : Addr} {o : Obj} {xs : List (NestedKey × Addr × V)} {kvs : List (PyData × PyData)} : F a = some (.frz o (dNo a xs)) → xs.length ≤ sizeLine → xs ≠ [] → RpN K F xs kvs → Rp K F (.ref a) (.dict kvs)
inductive RpAll (K : PySem.W.Frag) (F : Hp) : List V → List PyData → Prop
  | nil : RpAll K F [] []
  | cons {v : V} {vs : List V} {d : PyData} {ds : List PyData} : Rp K F v d → RpAll K F vs ds → RpAll K F (v :: vs) (d :: ds)
inductive RpKV (K : PySem.W.Frag) (F : Hp) : List (Key × V) → List (PyData × PyData) → Prop
  | nil : RpKV K F [] []
  | cons {k : Key} {v : V} {es : List (Key × V)} {d : PyData} {kvs : List (PyData × PyData)} : Rp K F v d → RpKV K F es kvs → RpKV K F ((k, v) :: es) ((keyD k, d) :: kvs)
inductive RpN (K : PySem.W.Frag) (F : Hp) : List (NestedKey × Addr × V) → List (PyData × PyData) → Prop
  | nil : RpN K F [] []
  | cons {k : NestedKey} {b : Addr} {v : V} {xs : List (NestedKey × Addr × V)} {d : PyData} {kvs : List (PyData × PyData)} : k.depth ≤ 8 → Rp K F (.ref b) k.data → Rp K F v d → RpN K F xs kvs → RpN K F ((k, b, v) :: xs) ((k.data, d) :: kvs)
end
theorem same_rd {H H' : Hp} {a : Addr} {u : HO} (e : Same H H') (h : Rd H a u) : Rd H' a u := by
  rcases h with h | ⟨o, h⟩
  · exact .inl (e a _ h)
  · exact .inr ⟨o, e a _ h⟩
theorem same_l {K : PySem.W.Frag} {H H' : Hp} {a : Addr} {xs : List V} (e : Same H H') (h : SqL K H a xs) : SqL K H' a xs := h.elim (fun h => .inl (same_rd e h)) .inr
theorem same_t {K : PySem.W.Frag} {H H' : Hp} {a : Addr} {xs : List V} (e : Same H H') (h : SqT K H a xs) : SqT K H' a xs := h.elim (fun h => .inl (same_rd e h)) .inr
mutual
theorem Rp.mono {K : PySem.W.Frag} {F F' : Hp} (e : Same F F') : ∀ {d : PyData} {v : V}, Rp K F v d → Rp K F' v d
  | .none, _, h => by cases h; exact .non
  | .bool b, _, h => by cases h; exact .bl b
  | .int i, _, h => by cases h; exact .int i
  | .str x, _, h => by cases h with | str _ h => exact .str x h
  | .list ds, _, h => by cases h with | lst h z r => exact .lst (same_l e h) z (RpAll.mono e r)
  | .tuple ds, _, h => by cases h with | tup h z r => exact .tup (h.mono e) z (RpAll.mono e r)
  | .dict kvs, _, h => by
    cases h with
    | dct h z r => exact .dct (e _ _ h) z (RpKV.mono e r)
    | dctN h z n r => exact .dctN (e _ _ h) z n (RpN.mono e r)
theorem RpAll.mono {K : PySem.W.Frag} {F F' : Hp} (e : Same F F') : ∀ {ds : List PyData} {vs : List V}, RpAll K F vs ds → RpAll K F' vs ds
  | [], _, h => by cases h; exact .nil
  | d :: ds, _, h => by cases h with | cons h r => exact .cons (Rp.mono e h) (RpAll.mono e r)
theorem RpKV.mono {K : PySem.W.Frag} {F F' : Hp} (e : Same F F') : ∀ {kvs : List (PyData × PyData)} {es : List (Key × V)}, RpKV K F es kvs → RpKV K F' es kvs
  | [], _, h => by cases h; exact .nil
  | (_, d) :: ds, _, h => by cases h with | cons h r => exact .cons (Rp.mono e h) (RpKV.mono e r)
theorem RpN.mono {K : PySem.W.Frag} {F F' : Hp} (e : Same F F') : ∀ {kvs : List (PyData × PyData)} {es : List (NestedKey × Addr × V)}, RpN K F es kvs → RpN K F' es kvs
  | [], _, h => by cases h; exact .nil
  | (k, d) :: ds, _, h => by cases h with | cons z hk h r => exact .cons z (Rp.mono e hk) (Rp.mono e h) (RpN.mono e r)
end
theorem RpAll.length {K : PySem.W.Frag} {F : Hp} : ∀ {ds : List PyData} {vs : List V}, RpAll K F vs ds → vs.length = ds.length
  | [], _, h => by cases h; rfl
  | d :: ds, _, h => by cases h with | cons h r => simp [RpAll.length r]
theorem RpAll.get {K : PySem.W.Frag} {F : Hp} : ∀ {ds : List PyData} {vs : List V} {i : Nat} {d : PyData}, RpAll K F vs ds → ds[i]? = some d → ∃ v, vs[i]? = some v ∧ Rp K F v d
  | [], _, _, _, _, e => by simp at e
  | d :: ds, _, 0, _, h, e => by
    cases h with | cons h r => exact ⟨_, rfl, by simp at e; subst e; exact h⟩
  | d :: ds, _, i + 1, _, h, e => by
    cases h with | cons h r => exact RpAll.get (i := i) r (by simpa using e)
theorem RpAll.get' {K : PySem.W.Frag} {F : Hp} : ∀ {ds : List PyData} {vs : List V} {i : Nat} {v : V}, RpAll K F vs ds → vs[i]? = some v → ∃ d, ds[i]? = some d ∧ Rp K F v d
  | [], _, _, _, h, e => by cases h; simp at e
  | d :: ds, _, 0, _, h, e => by
    cases h with | cons h r => exact ⟨_, rfl, by simp at e; subst e; exact h⟩
  | d :: ds, _, i + 1, _, h, e => by
    cases h with | cons h r => exact RpAll.get' (i := i) r (by simpa using e)
theorem RpAll.append {K : PySem.W.Frag} {F : Hp} : ∀ {ds es : List PyData} {vs ws : List V}, RpAll K F vs ds → RpAll K F ws es → RpAll K F (vs ++ ws) (ds ++ es)
  | [], _, _, _, h, s => by cases h; exact s
  | d :: ds, _, _, _, h, s => by cases h with | cons h r => exact .cons h (RpAll.append r s)
theorem RpAll.take {K : PySem.W.Frag} {F : Hp} : ∀ (n : Nat) {ds : List PyData} {vs : List V}, RpAll K F vs ds → RpAll K F (vs.take n) (ds.take n)
  | 0, _, _, _ => .nil
  | n + 1, [], _, h => by cases h; exact .nil
  | n + 1, d :: ds, _, h => by cases h with | cons h r => exact .cons h (RpAll.take n r)
theorem RpAll.drop {K : PySem.W.Frag} {F : Hp} : ∀ (n : Nat) {ds : List PyData} {vs : List V}, RpAll K F vs ds → RpAll K F (vs.drop n) (ds.drop n)
  | 0, _, _, h => h
  | n + 1, [], _, h => by cases h; exact .nil
  | n + 1, d :: ds, _, h => by cases h with | cons h r => exact RpAll.drop n r
theorem RpAll.reverse {K : PySem.W.Frag} {F : Hp} : ∀ {ds : List PyData} {vs : List V}, RpAll K F vs ds → RpAll K F vs.reverse ds.reverse
  | [], _, h => by cases h; exact .nil
  | d :: ds, _, h => by
    cases h with
    | cons h r =>
      rw [List.reverse_cons, List.reverse_cons]
      exact (RpAll.reverse r).append (.cons h .nil)
/-! no dict within -/
mutual
def noDict : PyData → Bool
  | .dict _ => false
  | .list ds => noDicts ds
  | .tuple ds => noDicts ds
  | _ => true
def noDicts : List PyData → Bool
  | [] => true
  | d :: ds => noDict d && noDicts ds
end
mutual
theorem Rp.dp {K : PySem.W.Frag} {F : Hp} : ∀ {d : PyData} {v : V}, Rp K F v d → noDict d = true → Dp K F v d
  | .none, _, h, _ => by cases h; exact .non
  | .bool b, _, h, _ => by cases h; exact .bl b
  | .int i, _, h, _ => by cases h; exact .int i
  | .str x, _, h, _ => by cases h; exact .str x
  | .list ds, _, h, n => by cases h with | lst h z r => exact .lst h (RpAll.dp r (by simpa [noDict] using n))
  | .tuple ds, _, h, n => by cases h with | tup h z r => exact .tup h.sq (RpAll.dp r (by simpa [noDict] using n))
  | .dict kvs, _, _, n => by simp [noDict] at n
theorem RpAll.dp {K : PySem.W.Frag} {F : Hp} : ∀ {ds : List PyData} {vs : List V}, RpAll K F vs ds → noDicts ds = true → DpAll K F vs ds
  | [], _, h, _ => by cases h; exact .nil
  | d :: ds, _, h, n => by
    rw [noDicts, Bool.and_eq_true] at n
    cases h with | cons h r => exact .cons (Rp.dp h n.1) (RpAll.dp r n.2)
end
mutual
theorem Dp.mono {K : PySem.W.Frag} {F F' : Hp} (e : Same F F') : ∀ {d : PyData} {v : V}, Dp K F v d → Dp K F' v d
  | .none, _, h => by cases h; exact .non
  | .bool b, _, h => by cases h; exact .bl b
  | .int i, _, h => by cases h; exact .int i
  | .str x, _, h => by cases h; exact .str x
  | .list ds, _, h => by cases h with | lst h r => exact .lst (same_l e h) (DpAll.mono e r)
  | .tuple ds, _, h => by cases h with | tup h r => exact .tup (same_t e h) (DpAll.mono e r)
  | .dict kvs, _, h => by cases h
theorem DpAll.mono {K : PySem.W.Frag} {F F' : Hp} (e : Same F F') : ∀ {ds : List PyData} {vs : List V}, DpAll K F vs ds → DpAll K F' vs ds
  | [], _, h => by cases h; exact .nil
  | d :: ds, _, h => by cases h with | cons h r => exact .cons (Dp.mono e h) (DpAll.mono e r)
end

/-! ### the frozen part F of the heap H grows -/
structure Stp (F H F' H' : Hp) : Prop where
  fr : Same F F'
  hp : Same H H'
  sub : Same F' H'
  new : ∀ b o, F' b = some o → F b = some o ∨ H b = none
theorem Stp.refl {F H : Hp} (h : Same F H) : Stp F H F H := ⟨.refl _, .refl _, h, fun _ _ e => .inl e⟩
theorem Stp.trans {F H F1 H1 F2 H2 : Hp} (a : Stp F H F1 H1) (b : Stp F1 H1 F2 H2) : Stp F H F2 H2 :=
  ⟨a.fr.trans b.fr, a.hp.trans b.hp, b.sub, fun c o e => by
    rcases b.new c o e with e | e
    · exact a.new c o e
    · exact .inr (a.hp.free e)⟩
theorem same_upd {H : Hp} {p : Addr} {o : HO} (h : H p = none) : Same H (upd H p o) := fun b x e => by
  rw [upd_ne (ne_of_none e h)]
  exact e
/-- a new object, frozen at once -/
theorem Stp.new1 {F H : Hp} {p : Addr} {o : HO} (s : Same F H) (h : H p = none) : Stp F H (upd F p o) (upd H p o) :=
  ⟨same_upd (s.free h), same_upd h, fun b u e => by
    by_cases hb : b = p
    · subst hb; rw [upd_same] at e ⊢; exact e
    · rw [upd_ne hb] at e ⊢; exact s b u e, fun b u e => by
    by_cases hb : b = p
    · subst hb; exact .inr h
    · rw [upd_ne hb] at e; exact .inl e⟩
/-- a new object that stays its maker's own -/
theorem Stp.newOwn {F H : Hp} {p : Addr} {o : HO} (s : Same F H) (h : H p = none) : Stp F H F (upd H p o) :=
  ⟨.refl _, same_upd h, s.trans (same_upd h), fun _ _ e => .inl e⟩

/-! ### the names' data -/
/-- what a name owns alone, and may change -/
inductive Ow where
  | lst (ds : List PyData)
  | dK (kvs : List (PyData × PyData))
  | dN (kvs : List (PyData × PyData))
inductive Sl where
  | un
  | val (d : PyData)
  | own (w : Ow)
abbrev DEnv := List Sl
def OwnAt (K : PySem.W.Frag) (F H : Hp) (a : Addr) : Ow → Prop
  | .lst ds => ∃ xs, H a = some (.lst xs) ∧ RpAll K F xs ds
  | .dK kvs => ∃ es, H a = some (.dK es) ∧ RpKV K F es kvs
  | .dN kvs => ∃ xs, H a = some (dNo a xs) ∧ RpN K F xs kvs
theorem OwnAt.some {K : PySem.W.Frag} {F H : Hp} {a : Addr} {w : Ow} (h : OwnAt K F H a w) : ∃ o, H a = some o := by
  cases w with
  | lst ds => obtain ⟨xs, e, _⟩ := h; exact ⟨_, e⟩
  | dK ds => obtain ⟨xs, e, _⟩ := h; exact ⟨_, e⟩
  | dN ds => obtain ⟨xs, e, _⟩ := h; exact ⟨_, e⟩
theorem OwnAt.mono {K : PySem.W.Frag} {F H F' H' : Hp} {a : Addr} {w : Ow} (s : Same F F') (e : H' a = H a) (h : OwnAt K F H a w) : OwnAt K F' H' a w := by
  cases w with
  | lst ds => obtain ⟨xs, x, r⟩ := h; exact ⟨xs, e.trans x, r.mono s⟩
  | dK ds => obtain ⟨xs, x, r⟩ := h; exact ⟨xs, e.trans x, r.mono s⟩
  | dN ds => obtain ⟨xs, x, r⟩ := h; exact ⟨xs, e.trans x, r.mono s⟩
structure Ok (K : PySem.W.Frag) (F0 H0 F : Hp) (ρ : DEnv) (σ : L2.St) (H : Hp) : Prop where
  st : Stp F0 H0 F H
  len : ρ.length = σ.length
  val : ∀ (i : Nat) (d : PyData), ρ[i]? = some (.val d) → ∃ v, σ[i]? = some (some v) ∧ Rp K F v d
  own : ∀ (i : Nat) (w : Ow), ρ[i]? = some (.own w) → ∃ a, σ[i]? = some (some (.ref a)) ∧ F a = none ∧ H0 a = none ∧ OwnAt K F H a w
  sep : ∀ (i j : Nat) (w w' : Ow) (a : Addr), ρ[i]? = some (.own w) → ρ[j]? = some (.own w') → σ[i]? = some (some (.ref a)) → σ[j]? = some (some (.ref a)) → i = j
section
variable {K : PySem.W.Frag} {F0 H0 F F' H H' : Hp} {ρ : DEnv} {σ : L2.St}
/-- behind an expression -/
theorem Ok.step (k : Ok K F0 H0 F ρ σ H) (s : Stp F H F' H') : Ok K F0 H0 F' ρ σ H' where
  st := k.st.trans s
  len := k.len
  val := fun i d e => let ⟨v, h, r⟩ := k.val i d e; ⟨v, h, r.mono s.fr⟩
  own := fun i w e => by
    obtain ⟨a, h, hF, h0, o⟩ := k.own i w e
    obtain ⟨u, hu⟩ := o.some
    refine ⟨a, h, ?_, h0, o.mono s.fr ((s.hp a u hu).trans hu.symm)⟩
    cases q : F' a with
    | none => rfl
    | some x =>
      rcases s.new a x q with z | z
      · rw [hF] at z; cases z
      · rw [hu] at z; cases z
  sep := k.sep
/-- a name gets data -/
theorem Ok.setV (k : Ok K F0 H0 F ρ σ H) {i : Nat} {d : PyData} {v : V} (r : Rp K F v d) : Ok K F0 H0 F (ρ.set i (.val d)) (σ.set i (some v)) H where
  st := k.st
  len := by simp [k.len]
  val := fun j d' e => by
    by_cases hj : i = j
    · subst hj
      have hl : i < ρ.length := by
        have := (List.getElem?_eq_some_iff.mp e).1
        simpa using this
      rw [List.getElem?_set_self hl] at e
      cases e
      exact ⟨v, by rw [List.getElem?_set_self (by rw [← k.len]; exact hl)], r⟩
    · rw [List.getElem?_set_ne hj] at e ⊢
      exact k.val j d' e
  own := fun j w e => by
    by_cases hj : i = j
    · subst hj
      have hl : i < ρ.length := by
        have := (List.getElem?_eq_some_iff.mp e).1
        simpa using this
      rw [List.getElem?_set_self hl] at e
      cases e
    · rw [List.getElem?_set_ne hj] at e ⊢
      exact k.own j w e
  sep := fun j l w w' a e1 e2 s1 s2 => by
    have n1 : i ≠ j := fun h => by
      subst h
      have hl : i < ρ.length := by
        have := (List.getElem?_eq_some_iff.mp e1).1
        simpa using this
      rw [List.getElem?_set_self hl] at e1
      cases e1
    have n2 : i ≠ l := fun h => by
      subst h
      have hl : i < ρ.length := by
        have := (List.getElem?_eq_some_iff.mp e2).1
        simpa using this
      rw [List.getElem?_set_self hl] at e2
      cases e2
    rw [List.getElem?_set_ne n1] at e1 s1
    rw [List.getElem?_set_ne n2] at e2 s2
    exact k.sep j l w w' a e1 e2 s1 s2
/-- a name gets a thing of its own, that no other name has -/
theorem Ok.setO (k : Ok K F0 H0 F ρ σ H) {i : Nat} {w : Ow} {a : Addr} (hF : F a = none) (h0 : H0 a = none) (o : OwnAt K F H a w)
    (ap : ∀ (j : Nat) (w' : Ow), j ≠ i → ρ[j]? = some (.own w') → σ[j]? ≠ some (some (.ref a))) : Ok K F0 H0 F (ρ.set i (.own w)) (σ.set i (some (.ref a))) H where
  st := k.st
  len := by simp [k.len]
  val := fun j d' e => by
    by_cases hj : i = j
    · subst hj
      have hl : i < ρ.length := by
        have := (List.getElem?_eq_some_iff.mp e).1
        simpa using this
      rw [List.getElem?_set_self hl] at e
      cases e
    · rw [List.getElem?_set_ne hj] at e ⊢
      exact k.val j d' e
  own := fun j w' e => by
    by_cases hj : i = j
    · subst hj
      have hl : i < ρ.length := by
        have := (List.getElem?_eq_some_iff.mp e).1
        simpa using this
      rw [List.getElem?_set_self hl] at e
      cases e
      exact ⟨a, by rw [List.getElem?_set_self (by rw [← k.len]; exact hl)], hF, h0, o⟩
    · rw [List.getElem?_set_ne hj] at e ⊢
      exact k.own j w' e
  sep := fun j l w1 w2 b e1 e2 s1 s2 => by
    have at_i : ∀ {w'' : Ow} {b' : Addr}, (ρ.set i (.own w))[i]? = some (.own w'') → (σ.set i (some (.ref a)))[i]? = some (some (.ref b')) → b' = a := fun {w'' b'} e s => by
      have hl : i < σ.length := by
        have := (List.getElem?_eq_some_iff.mp s).1
        simpa using this
      rw [List.getElem?_set_self hl] at s
      injection s with s
      injection s with s
      injection s with s
      exact s.symm
    by_cases h1 : i = j
    · by_cases h2 : i = l
      · rw [← h1, h2]
      · exfalso
        subst h1
        have z := at_i e1 s1
        subst z
        rw [List.getElem?_set_ne h2] at e2 s2
        exact ap l w2 (Ne.symm h2) e2 s2
    · by_cases h2 : i = l
      · exfalso
        subst h2
        have z := at_i e2 s2
        subst z
        rw [List.getElem?_set_ne h1] at e1 s1
        exact ap j w1 (Ne.symm h1) e1 s1
      · rw [List.getElem?_set_ne h1] at e1 s1
        rw [List.getElem?_set_ne h2] at e2 s2
        exact k.sep j l w1 w2 b e1 e2 s1 s2
/-- forgetting names -/
theorem Ok.forget (k : Ok K F0 H0 F ρ σ H) (i : Nat) : Ok K F0 H0 F (ρ.set i .un) (σ.set i none) H where
  st := k.st
  len := by simp [k.len]
  val := fun j d' e => by
    by_cases hj : i = j
    · subst hj
      have hl : i < ρ.length := by
        have := (List.getElem?_eq_some_iff.mp e).1
        simpa using this
      rw [List.getElem?_set_self hl] at e
      cases e
    · rw [List.getElem?_set_ne hj] at e ⊢
      exact k.val j d' e
  own := fun j w' e => by
    by_cases hj : i = j
    · subst hj
      have hl : i < ρ.length := by
        have := (List.getElem?_eq_some_iff.mp e).1
        simpa using this
      rw [List.getElem?_set_self hl] at e
      cases e
    · rw [List.getElem?_set_ne hj] at e ⊢
      exact k.own j w' e
  sep := fun j l w1 w2 b e1 e2 s1 s2 => by
    have n1 : i ≠ j := fun h => by
      subst h
      have hl : i < ρ.length := by
        have := (List.getElem?_eq_some_iff.mp e1).1
        simpa using this
      rw [List.getElem?_set_self hl] at e1
      cases e1
    have n2 : i ≠ l := fun h => by
      subst h
      have hl : i < ρ.length := by
        have := (List.getElem?_eq_some_iff.mp e2).1
        simpa using this
      rw [List.getElem?_set_self hl] at e2
      cases e2
    rw [List.getElem?_set_ne n1] at e1 s1
    rw [List.getElem?_set_ne n2] at e2 s2
    exact k.sep j l w1 w2 b e1 e2 s1 s2
/-- forgetting names' data (the slots as they are) -/
theorem Ok.drop (k : Ok K F0 H0 F ρ σ H) (i : Nat) : Ok K F0 H0 F (ρ.set i .un) σ H where
  st := k.st
  len := by simp [k.len]
  val := fun j d' e => by
    by_cases hj : i = j
    · subst hj
      have hl : i < ρ.length := by
        have := (List.getElem?_eq_some_iff.mp e).1
        simpa using this
      rw [List.getElem?_set_self hl] at e
      cases e
    · rw [List.getElem?_set_ne hj] at e
      exact k.val j d' e
  own := fun j w' e => by
    by_cases hj : i = j
    · subst hj
      have hl : i < ρ.length := by
        have := (List.getElem?_eq_some_iff.mp e).1
        simpa using this
      rw [List.getElem?_set_self hl] at e
      cases e
    · rw [List.getElem?_set_ne hj] at e
      exact k.own j w' e
  sep := fun j l w1 w2 b e1 e2 s1 s2 => by
    have n1 : i ≠ j := fun h => by
      subst h
      have hl : i < ρ.length := by
        have := (List.getElem?_eq_some_iff.mp e1).1
        simpa using this
      rw [List.getElem?_set_self hl] at e1
      cases e1
    have n2 : i ≠ l := fun h => by
      subst h
      have hl : i < ρ.length := by
        have := (List.getElem?_eq_some_iff.mp e2).1
        simpa using this
      rw [List.getElem?_set_self hl] at e2
      cases e2
    rw [List.getElem?_set_ne n1] at e1
    rw [List.getElem?_set_ne n2] at e2
    exact k.sep j l w1 w2 b e1 e2 s1 s2
def wipeE (ρ : DEnv) : List Nat → DEnv
  | [] => ρ
  | v :: vs => (wipeE ρ vs).set v .un
theorem Ok.wipe (k : Ok K F0 H0 F ρ σ H) : ∀ vs : List Nat, Ok K F0 H0 F (wipeE ρ vs) (L2.wipe σ vs) H
  | [] => k
  | v :: vs => (Ok.wipe k vs).forget v
end

/-! ### exceptions -/
/-- such an exception: its class object's address by the module's names, its own dict -/
def ExIs (K : PySem.W.Frag) (mg : Str → Option Value) (F : Hp) (e : Exn) (cls : Value) (od : Option Addr) : Prop :=
  ∃ C, mg e.cls = some (.ref C) ∧ cls = .ref C ∧ match e.fs with
    | none => True
    | some ps => ∃ (d : Addr) (fs : List (Str × V)), od = some d ∧ F d = some (.xd fs) ∧ ∀ x dt, ps.lookup x = some dt → ∃ v, fs.lookup x = some v ∧ Rp K F v dt

/-! ### readings -/
section
variable (K : PySem.W.Frag) (mg : Str → Option Value) (F0 H0 : Hp) (W : WX)
def Exc (F H : Hp) (σ : L2.St) (e : Exn) : Prop := ∀ cls od F' H', Stp F H F' H' → ExIs K mg F' e cls od → W cls od σ H'
def tD (f : DEnv → R PyData) : TE := fun σ H Q => ∃ F ρ, Ok K F0 H0 F ρ σ H ∧ match f ρ with
  | .ok d => ∀ v F' H', Stp F H F' H' → Rp K F' v d → Q v H'
  | .exc e => Exc K mg W F H σ e
  | .bad => False
def tDT (f : DEnv → R Bool) : TT := fun σ H Q => ∃ F ρ, Ok K F0 H0 F ρ σ H ∧ match f ρ with
  | .ok b => ∀ F' H', Stp F H F' H' → Q b H'
  | .exc e => Exc K mg W F H σ e
  | .bad => False
def tDA (f : DEnv → R (List PyData)) : TA := fun σ H Q => ∃ F ρ, Ok K F0 H0 F ρ σ H ∧ match f ρ with
  | .ok ds => ∀ vs F' H', Stp F H F' H' → RpAll K F' vs ds → Q vs H'
  | .exc e => Exc K mg W F H σ e
  | .bad => False
end
def DE (X : Cx) (F0 H0 : Hp) (W : WX) (e : Expr) (f : DEnv → R PyData) : Prop := PE X e (tD X.K X.mg F0 H0 W f)
def DT (X : Cx) (F0 H0 : Hp) (W : WX) (e : Expr) (f : DEnv → R Bool) : Prop := PT X e (tDT X.K X.mg F0 H0 W f)
def DW (X : Cx) (F0 H0 : Hp) (W : WX) (e : Expr) (f : DEnv → R Bool) : Prop := PW X e (tDT X.K X.mg F0 H0 W f)
def DA (X : Cx) (F0 H0 : Hp) (W : WX) (es : List Expr) (f : DEnv → R (List PyData)) : Prop := PA X es (tDA X.K X.mg F0 H0 W f)
theorem PE.imp {X : Cx} {e : Expr} {t t' : TE} (h : PE X e t) (i : ∀ σ H Q, t' σ H Q → t σ H Q) : PE X e t' := ⟨fun pins s σ H Q I q => h.run pins s σ H Q I (i σ H Q q)⟩
theorem PT.imp {X : Cx} {e : Expr} {t t' : TT} (h : PT X e t) (i : ∀ σ H Q, t' σ H Q → t σ H Q) : PT X e t' := ⟨fun pins s σ H Q I q => h.run pins s σ H Q I (i σ H Q q)⟩
theorem PW.imp {X : Cx} {e : Expr} {t t' : TT} (h : PW X e t) (i : ∀ σ H Q, t' σ H Q → t σ H Q) : PW X e t' := ⟨fun wh pins s σ H Q I q => h.run wh pins s σ H Q I (i σ H Q q)⟩
theorem PA.imp {X : Cx} {es : List Expr} {t t' : TA} (h : PA X es t) (i : ∀ σ H Q, t' σ H Q → t σ H Q) : PA X es t' := ⟨fun pos pins s σ H Q I q => h.run pos pins s σ H Q I (i σ H Q q)⟩
theorem PS.imp {X : Cx} {e : Stmt} {t t' : TS} (h : PS X e t) (i : ∀ D σ H, t' D σ H → t D σ H) : PS X e t' := ⟨fun pins s σ H D I q => h.run pins s σ H D I (i D σ H q)⟩
theorem PSs.imp {X : Cx} {e : List Stmt} {t t' : TS} (h : PSs X e t) (i : ∀ D σ H, t' D σ H → t D σ H) : PSs X e t' := ⟨fun pins s σ H D I q => h.run pins s σ H D I (i D σ H q)⟩

section
variable {X : Cx} {F0 H0 : Hp} {W : WX} {K : PySem.W.Frag} {mg : Str → Option Value}
theorem Exc.step {F H F' H' : Hp} {σ : L2.St} {e : Exn} (s : Stp F H F' H') (h : Exc K mg W F H σ e) : Exc K mg W F' H' σ e := fun cls od F2 H2 s2 x => h cls od F2 H2 (s.trans s2) x
/-- one thing after another: the first part's reading, then the second's -/
theorem tD_bind {f : DEnv → R PyData} {β : Type} {g : PyData → DEnv → R β} {σ : L2.St} {H F : Hp} {ρ : DEnv} {Q : VK} {Post : Hp → Hp → Prop} (k : Ok K F0 H0 F ρ σ H)
    {ok : Hp → Hp → β → Prop}
    (h : match (f ρ).bind (fun d => g d ρ) with | .ok b => ok F H b | .exc e => Exc K mg W F H σ e | .bad => False)
    (n : ∀ d v F' H', Stp F H F' H' → Rp K F' v d → Ok K F0 H0 F' ρ σ H' → (match g d ρ with | .ok b => ok F H b | .exc e => Exc K mg W F H σ e | .bad => False) → Q v H') :
    tD K mg F0 H0 W f σ H Q := by
  refine ⟨F, ρ, k, ?_⟩
  cases e : f ρ with
  | ok d =>
    rw [e] at h
    exact fun v F' H' s r => n d v F' H' s r (k.step s) h
  | exc x =>
    rw [e] at h
    exact h
  | bad =>
    rw [e] at h
    exact h

/-! ### names and constants -/
def fVar (i : Nat) : DEnv → R PyData := fun ρ => match ρ[i]? with
  | some (.val d) => .ok d
  | _ => .bad
theorem de_var (i : Nat) {x : Str} {pos : Pos} (hN : X.N[i]? = some x := by rfl) (hv : Vis X.env.scope x := by first | exact Or.inl rfl | exact Or.inr (Or.inl rfl) | exact Or.inr (Or.inr rfl)) (hd : (x == ("__debug__" : Str)) = false := by decide)
    (hcd : (x == ("__classdict__" : Str)) = false := by decide) : DE X F0 H0 W (.Name x pos) (fVar i) := PE.imp (pe_var hN hv hd hcd) fun σ H Q h => by
  obtain ⟨F, ρ, k, h⟩ := h
  unfold fVar at h
  cases e : ρ[i]? with
  | none => rw [e] at h; exact h.elim
  | some sl =>
    cases sl with
    | un => rw [e] at h; exact h.elim
    | own w => rw [e] at h; exact h.elim
    | val d =>
      rw [e] at h
      obtain ⟨v, hv, r⟩ := k.val i d e
      exact ⟨v, hv, h v F H (.refl k.st.sub) r⟩
def fC (d : PyData) : DEnv → R PyData := fun _ => .ok d
theorem de_c {e : Expr} {v : V} {d : PyData} (h : PE X e (tC v)) (r : ∀ F, Rp X.K F v d) : DE X F0 H0 W e (fC d) := PE.imp h fun σ H Q h => by
  obtain ⟨F, ρ, k, h⟩ := h
  exact h v F H (.refl k.st.sub) (r F)
theorem de_int {i j pos} : DE X F0 H0 W (.Constant (.int i) j pos) (fC (.int i)) := de_c pe_int fun _ => .int i
theorem de_bl {i j pos} : DE X F0 H0 W (.Constant (.bool i) j pos) (fC (.bool i)) := de_c pe_bl fun _ => .bl i
theorem de_non {j pos} : DE X F0 H0 W (.Constant .none j pos) (fC .none) := de_c pe_non fun _ => .non
theorem de_str {x : Str} {j pos} (h : x.length ≤ sizeLine := by decide +kernel) : DE X F0 H0 W (.Constant (.str x) j pos) (fC (.str x)) := de_c pe_str fun _ => .str x h
/-- a constant of the module -/
theorem de_glob {x : Str} {v : V} {u : Value} {d : PyData} {pos : Pos} (hg : Gl X x) (hm : X.mg x = some u) (r : RelV v u) (rp : ∀ F, Rp X.K F v d) (hd : (x == ("__debug__" : Str)) = false := by decide) : DE X F0 H0 W (.Name x pos) (fC d) :=
  de_c (pe_glob hg hm r hd) rp

/-! ### argument lists -/
def fNil : DEnv → R (List PyData) := fun _ => .ok []
def fCons (f : DEnv → R PyData) (g : DEnv → R (List PyData)) : DEnv → R (List PyData) := fun ρ => (f ρ).bind fun d => (g ρ).bind fun ds => .ok (d :: ds)
theorem da_nil : DA X F0 H0 W [] fNil := PA.imp pa_nil fun σ H Q h => by
  obtain ⟨F, ρ, k, h⟩ := h
  exact h [] F H (.refl k.st.sub) .nil
theorem da_cons {e : Expr} {es : List Expr} {f : DEnv → R PyData} {g : DEnv → R (List PyData)} (ha : DE X F0 H0 W e f) (hr : DA X F0 H0 W es g)
    (hs : starEach (e :: es) X.env = (false, eval e X.env) :: starEach es X.env := by rfl) : DA X F0 H0 W (e :: es) (fCons f g) := PA.imp (pa_cons ha hr hs) fun σ H Q h => by
  obtain ⟨F, ρ, k, h⟩ := h
  unfold fCons at h
  refine ⟨F, ρ, k, ?_⟩
  cases e1 : f ρ with
  | bad => rw [e1] at h; exact h
  | exc x => rw [e1] at h; exact h
  | ok d =>
    rw [e1] at h
    refine fun v F1 H1 s1 r1 => ⟨F1, ρ, k.step s1, ?_⟩
    cases e2 : g ρ with
    | bad => rw [R.bind_ok, e2] at h; exact h
    | exc x => rw [R.bind_ok, e2] at h; exact h.step s1
    | ok ds =>
      rw [R.bind_ok, e2] at h
      exact fun vs F2 H2 s2 r2 => h (v :: vs) F2 H2 (s1.trans s2) (.cons (r1.mono s2.fr) r2)
def fTup (f : DEnv → R (List PyData)) : DEnv → R PyData := fun ρ => (f ρ).bind fun ds => if ds.length ≤ sizeLine then .ok (.tuple ds) else .bad
def fLst (f : DEnv → R (List PyData)) : DEnv → R PyData := fun ρ => (f ρ).bind fun ds => if ds.length ≤ sizeLine then .ok (.list ds) else .bad
theorem de_tup {es : List Expr} {f : DEnv → R (List PyData)} {x1 pos} (h : DA X F0 H0 W es f) : DE X F0 H0 W (.Tuple es x1 pos) (fTup f) := PE.imp (pe_tupF h) fun σ H Q h => by
  obtain ⟨F, ρ, k, h⟩ := h
  unfold fTup at h
  refine ⟨F, ρ, k, ?_⟩
  cases e1 : f ρ with
  | bad => rw [e1] at h; exact h
  | exc x => rw [e1] at h; exact h
  | ok ds =>
    rw [e1, R.bind_ok] at h
    intro vs F1 H1 s1 r1
    by_cases hz : ds.length ≤ sizeLine
    · rw [if_pos hz] at h
      have hz' : vs.length ≤ sizeLine := by rw [r1.length]; exact hz
      refine ⟨hz', fun p o hp hd => ?_⟩
      have s2 := Stp.new1 (o := .frz o (.tup vs)) s1.sub hp
      exact h _ _ _ (s1.trans s2) (.tup (.new hd) hz' (r1.mono s2.fr))
    · rw [if_neg hz] at h; exact h.elim
theorem de_lst {es : List Expr} {f : DEnv → R (List PyData)} {pos} (h : DA X F0 H0 W es f) : DE X F0 H0 W (.List es pos) (fLst f) := PE.imp (pe_lst h) fun σ H Q h => by
  obtain ⟨F, ρ, k, h⟩ := h
  unfold fLst at h
  refine ⟨F, ρ, k, ?_⟩
  cases e1 : f ρ with
  | bad => rw [e1] at h; exact h
  | exc x => rw [e1] at h; exact h
  | ok ds =>
    rw [e1, R.bind_ok] at h
    intro vs F1 H1 s1 r1
    by_cases hz : ds.length ≤ sizeLine
    · rw [if_pos hz] at h
      have hz' : vs.length ≤ sizeLine := by rw [r1.length]; exact hz
      refine ⟨hz', fun p hp => ?_⟩
      have s2 := Stp.new1 (o := .lst vs) s1.sub hp
      exact h _ _ _ (s1.trans s2) (.lst (.inl (.inl upd_same)) hz' (r1.mono s2.fr))
    · rw [if_neg hz] at h; exact h.elim

/-! ### operations on values -/
/-- the reading r of a two-place operation does what g tells of the data -/
def Op2 (K : PySem.W.Frag) (r : R2) (g : PyData → PyData → R PyData) : Prop := ∀ (F H : Hp) (x y : V) (dx dy d : PyData), Same F H → Rp K F x dx → Rp K F y dy → g dx dy = .ok d →
  ∀ Q : VK, (∀ v F' H', Stp F H F' H' → Rp K F' v d → Q v H') → r x y H Q
/-- no exceptions in it -/
def NoX2 (g : PyData → PyData → R PyData) : Prop := ∀ a b e, g a b ≠ .exc e
def Op1 (K : PySem.W.Frag) (r : V → Hp → VK → Prop) (g : PyData → R PyData) : Prop := ∀ (F H : Hp) (x : V) (dx d : PyData), Same F H → Rp K F x dx → g dx = .ok d →
  ∀ Q : VK, (∀ v F' H', Stp F H F' H' → Rp K F' v d → Q v H') → r x H Q
def OpC (K : PySem.W.Frag) (r : List V → Hp → VK → Prop) (g : List PyData → R PyData) : Prop := ∀ (F H : Hp) (xs : List V) (dx : List PyData) (d : PyData), Same F H → RpAll K F xs dx → g dx = .ok d →
  ∀ Q : VK, (∀ v F' H', Stp F H F' H' → Rp K F' v d → Q v H') → r xs H Q
def f2 (g : PyData → PyData → R PyData) (fa fb : DEnv → R PyData) : DEnv → R PyData := fun ρ => (fa ρ).bind fun x => (fb ρ).bind fun y => g x y
def f1 (g : PyData → R PyData) (fa : DEnv → R PyData) : DEnv → R PyData := fun ρ => (fa ρ).bind g
def fA (g : List PyData → R PyData) (fa : DEnv → R (List PyData)) : DEnv → R PyData := fun ρ => (fa ρ).bind g
theorem tOp_of {r : R2} {g : PyData → PyData → R PyData} {fa fb : DEnv → R PyData} (o : Op2 K r g) (nx : NoX2 g) : ∀ σ H Q, tD K mg F0 H0 W (f2 g fa fb) σ H Q → tOp r (tD K mg F0 H0 W fa) (tD K mg F0 H0 W fb) σ H Q := fun σ H Q h => by
  obtain ⟨F, ρ, k, h⟩ := h
  unfold f2 at h
  refine ⟨F, ρ, k, ?_⟩
  cases e1 : fa ρ with
  | bad => rw [e1] at h; exact h
  | exc x => rw [e1] at h; exact h
  | ok dx =>
    rw [e1, R.bind_ok] at h
    refine fun x F1 H1 s1 r1 => ⟨F1, ρ, k.step s1, ?_⟩
    cases e2 : fb ρ with
    | bad => rw [e2] at h; exact h
    | exc x => rw [e2] at h; exact h.step s1
    | ok dy =>
      rw [e2, R.bind_ok] at h
      intro y F2 H2 s2 r2
      cases e3 : g dx dy with
      | bad => rw [e3] at h; exact h.elim
      | exc z => exact absurd e3 (nx _ _ _)
      | ok d =>
        rw [e3] at h
        exact o F2 H2 x y dx dy d s2.sub (r1.mono s2.fr) r2 e3 Q fun v F3 H3 s3 r3 => h v F3 H3 ((s1.trans s2).trans s3) r3
theorem de_op {op : Operator} {r : R2} {g : PyData → PyData → R PyData} {a b : Expr} {fa fb : DEnv → R PyData} {pos} (ho : OpR X (binaryOp op) r) (o : Op2 X.K r g) (nx : NoX2 g) (ha : DE X F0 H0 W a fa) (hb : DE X F0 H0 W b fb) :
    DE X F0 H0 W (.BinOp a op b pos) (f2 g fa fb) := PE.imp (pe_op ho ha hb) (tOp_of o nx)
theorem de_cmp {op : CmpOp} {r : R2} {g : PyData → PyData → R PyData} {a b : Expr} {fa fb : DEnv → R PyData} {pos} (ho : OpR X (compareOp op) r) (o : Op2 X.K r g) (nx : NoX2 g) (ha : DE X F0 H0 W a fa) (hb : DE X F0 H0 W b fb)
    (hm : behindInMarks op b = false) : DE X F0 H0 W (.Compare a [op] [b] pos) (f2 g fa fb) := PE.imp (pe_cmpR ho ha hb hm) (tOp_of o nx)
theorem de_ix {r : R2} {g : PyData → PyData → R PyData} {a b : Expr} {fa fb : DEnv → R PyData} {pos} (hr : IxR X r) (o : Op2 X.K r g) (nx : NoX2 g) (ha : DE X F0 H0 W a fa) (hb : DE X F0 H0 W b fb) (hs : PlainIx b) :
    DE X F0 H0 W (.Subscript a b pos) (f2 g fa fb) := PE.imp (pe_ix hr ha hb hs) (tOp_of o nx)
theorem tUn_of {r : V → Hp → VK → Prop} {g : PyData → R PyData} {fa : DEnv → R PyData} (o : Op1 K r g) (nx : ∀ a e, g a ≠ .exc e) : ∀ σ H Q, tD K mg F0 H0 W (f1 g fa) σ H Q → tUn r (tD K mg F0 H0 W fa) σ H Q := fun σ H Q h => by
  obtain ⟨F, ρ, k, h⟩ := h
  unfold f1 at h
  refine ⟨F, ρ, k, ?_⟩
  cases e1 : fa ρ with
  | bad => rw [e1] at h; exact h
  | exc x => rw [e1] at h; exact h
  | ok dx =>
    rw [e1, R.bind_ok] at h
    intro x F1 H1 s1 r1
    cases e3 : g dx with
    | bad => rw [e3] at h; exact h.elim
    | exc z => exact absurd e3 (nx _ _)
    | ok d =>
      rw [e3] at h
      exact o F1 H1 x dx d s1.sub r1 e3 Q fun v F3 H3 s3 r3 => h v F3 H3 (s1.trans s3) r3
theorem de_un {op : UnaryOp} {r : V → Hp → VK → Prop} {g : PyData → R PyData} {a : Expr} {fa : DEnv → R PyData} {pos} (ho : UnR X (unaryOp op) r) (o : Op1 X.K r g) (nx : ∀ a e, g a ≠ .exc e) (ha : DE X F0 H0 W a fa) :
    DE X F0 H0 W (.UnaryOp op a pos) (f1 g fa) := PE.imp (pe_un ho ha) (tUn_of o nx)
theorem tCB_of {r : List V → Hp → VK → Prop} {g : List PyData → R PyData} {fa : DEnv → R (List PyData)} (o : OpC K r g) (nx : ∀ a e, g a ≠ .exc e) : ∀ σ H Q, tD K mg F0 H0 W (fA g fa) σ H Q → tCB r (tDA K mg F0 H0 W fa) σ H Q := fun σ H Q h => by
  obtain ⟨F, ρ, k, h⟩ := h
  unfold fA at h
  refine ⟨F, ρ, k, ?_⟩
  cases e1 : fa ρ with
  | bad => rw [e1] at h; exact h
  | exc x => rw [e1] at h; exact h
  | ok dx =>
    rw [e1, R.bind_ok] at h
    intro x F1 H1 s1 r1
    cases e3 : g dx with
    | bad => rw [e3] at h; exact h.elim
    | exc z => exact absurd e3 (nx _ _)
    | ok d =>
      rw [e3] at h
      exact o F1 H1 x dx d s1.sub r1 e3 Q fun v F3 H3 s3 r3 => h v F3 H3 (s1.trans s3) r3
theorem de_callB {x : Str} {e : Expr} {es : List Expr} {r : List V → Hp → VK → Prop} {g : List PyData → R PyData} {fa : DEnv → R (List PyData)} {p pos} {idn : String} (hc : CallR X (.builtin idn) r) (o : OpC X.K r g) (nx : ∀ a e, g a ≠ .exc e)
    (hg : Gl X x) (hm : X.mg x = none) (hv : bootBuiltins x = some (.builtin idn)) (ha : DA X F0 H0 W (e :: es) fa) (hn : x ≠ "__name__" := by decide) (hdb : (x == ("__debug__" : Str)) = false := by decide)
    (he : starEach (e :: es) X.env = (false, eval e X.env) :: starEach es X.env := by rfl) (hpl : (backTo pos (starEach es X.env)).any (·.1) = false := by rfl) : DE X F0 H0 W (.Call (.Name x p) (e :: es) [] pos) (fA g fa) :=
  PE.imp (pe_callB hc hg hm hv ha hn hdb he hpl) (tCB_of o nx)
theorem de_callTy {x : Str} {T : String} {e : Expr} {es : List Expr} {r : List V → Hp → VK → Prop} {g : List PyData → R PyData} {fa : DEnv → R (List PyData)} {p pos} (hc : CallR X (.type T) r) (o : OpC X.K r g) (nx : ∀ a e, g a ≠ .exc e)
    (hg : Gl X x) (hm : X.mg x = none) (hv : bootBuiltins x = some (.type T)) (ha : DA X F0 H0 W (e :: es) fa) (hn : x ≠ "__name__" := by decide) (hdb : (x == ("__debug__" : Str)) = false := by decide)
    (he : starEach (e :: es) X.env = (false, eval e X.env) :: starEach es X.env := by rfl) (hpl : (backTo pos (starEach es X.env)).any (·.1) = false := by rfl) : DE X F0 H0 W (.Call (.Name x p) (e :: es) [] pos) (fA g fa) :=
  PE.imp (pe_callTy hc hg hm hv ha hn hdb he hpl) (tCB_of o nx)
end
end DL
namespace DL
open PySem PySem.Spec PyProof.Rows L2
variable [TheW]
section
variable {X : Cx} {F0 H0 : Hp} {W : WX} {K : PySem.W.Frag} {mg : Str → Option Value}
/-! ### tests -/
def boolD : PyData → R Bool
  | .bool b => .ok b
  | _ => .bad
def fB (f : DEnv → R PyData) : DEnv → R Bool := fun ρ => (f ρ).bind boolD
theorem tDT_tD {f : DEnv → R PyData} {σ : L2.St} {H : Hp} {Q : Bool → Hp → Prop} (h : tDT K mg F0 H0 W (fB f) σ H Q) : tD K mg F0 H0 W f σ H fun x H' => ∃ k, x = .bl k ∧ Q k H' := by
  obtain ⟨F, ρ, k, h⟩ := h
  unfold fB at h
  refine ⟨F, ρ, k, ?_⟩
  cases e1 : f ρ with
  | bad => rw [e1] at h; exact h
  | exc x => rw [e1] at h; exact h
  | ok d =>
    rw [e1, R.bind_ok] at h
    cases d with
    | bool b => exact fun v F' H' s r => by cases r; exact ⟨b, rfl, h F' H' s⟩
    | _ => exact h.elim
theorem dt_cmp {op : CmpOp} {r : R2} {g : PyData → PyData → R PyData} {a b : Expr} {fa fb : DEnv → R PyData} {pos} (ho : OpR X (compareOp op) r) (o : Op2 X.K r g) (nx : NoX2 g) (ha : DE X F0 H0 W a fa) (hb : DE X F0 H0 W b fb)
    (hm : behindInMarks op b = false) : DT X F0 H0 W (.Compare a [op] [b] pos) (fB (f2 g fa fb)) := PT.imp (pt_cmpR ho ha hb hm) fun σ H Q h => tOp_of o nx σ H _ (tDT_tD h)
/-- an expression whose value is a bool, as a test -/
theorem dt_val {e : Expr} {f : DEnv → R PyData} (h : DE X F0 H0 W e f) (he : ∀ whole, isTrue e X.env whole = (do let v ← whole; standAt e.pos; holding [v] (truthy v)) := by intro _; rfl) : DT X F0 H0 W e (fB f) :=
  PT.imp (pt_val h he) fun σ H Q h => tDT_tD h
/-- a value's truth -/
def truD : PyData → R Bool
  | .none => .ok false
  | .bool b => .ok b
  | .int i => .ok (i != 0)
  | .str y => .ok ((y.length : Int) != 0)
  | .list ds => .ok (!ds.isEmpty)
  | .tuple ds => .ok (!ds.isEmpty)
  | .dict _ => .bad
def fTr (f : DEnv → R PyData) : DEnv → R Bool := fun ρ => (f ρ).bind truD
theorem RpAll.isEmpty {F : Hp} {vs : List V} {ds : List PyData} (r : RpAll K F vs ds) : vs.isEmpty = ds.isEmpty := by
  cases r <;> rfl
theorem truV_of {F H : Hp} {x : V} {d : PyData} {b : Bool} (s : Same F H) (r : Rp K F x d) (h : truD d = .ok b) : TruV K x H b := by
  cases r with
  | non => cases h; rfl
  | bl b => cases h; rfl
  | int i => cases h; rfl
  | str y hy => cases h; exact ⟨hy, rfl⟩
  | lst hs z ra => cases h; exact .inl ⟨_, same_l s hs, by rw [ra.isEmpty]⟩
  | tup hs z ra => cases h; exact .inr (.inl ⟨_, same_t s hs.sq, by rw [ra.isEmpty]⟩)
  | dct _ _ _ => cases h
  | dctN _ _ _ _ => cases h
theorem dt_truth {a : Expr} {f : DEnv → R PyData} (h : DE X F0 H0 W a f) (he : ∀ whole, isTrue a X.env whole = (do let v ← whole; standAt a.pos; holding [v] (truthy v)) := by intro _; rfl) : DT X F0 H0 W a (fTr f) :=
  PT.imp (pt_truth h he) fun σ H Q h => by
    obtain ⟨F, ρ, k, h⟩ := h
    unfold fTr at h
    refine ⟨F, ρ, k, ?_⟩
    cases e1 : f ρ with
    | bad => rw [e1] at h; exact h
    | exc x => rw [e1] at h; exact h
    | ok d =>
      rw [e1, R.bind_ok] at h
      intro v F' H' s r
      cases e2 : truD d with
      | bad => rw [e2] at h; exact h.elim
      | exc x => cases d <;> simp [truD] at e2
      | ok b => rw [e2] at h; exact ⟨b, truV_of s.sub r e2, h F' H' s⟩
def fAnd (f g : DEnv → R Bool) : DEnv → R Bool := fun ρ => (f ρ).bind fun b => if b = true then g ρ else .ok false
def fOr (f g : DEnv → R Bool) : DEnv → R Bool := fun ρ => (f ρ).bind fun b => if b = true then .ok true else g ρ
def fNot (f : DEnv → R Bool) : DEnv → R Bool := fun ρ => (f ρ).bind fun b => .ok (!b)
section
variable {a b : Expr} {rest : List Expr} {fa fb : DEnv → R Bool} {pos : Pos}
theorem dw_and1 (ha : DT X F0 H0 W a fa) : DW X F0 H0 W (.BoolOp .And [a] pos) fa := pw_and1 ha
theorem dw_or1 (ha : DT X F0 H0 W a fa) : DW X F0 H0 W (.BoolOp .Or [a] pos) fa := pw_or1 ha
theorem dw_and (ha : DT X F0 H0 W a fa) (hb : DW X F0 H0 W (.BoolOp .And (b :: rest) pos) fb) : DW X F0 H0 W (.BoolOp .And (a :: b :: rest) pos) (fAnd fa fb) := PW.imp (pw_and ha hb) fun σ H Q h => by
  obtain ⟨F, ρ, k, h⟩ := h
  unfold fAnd at h
  refine ⟨F, ρ, k, ?_⟩
  cases e1 : fa ρ with
  | bad => rw [e1] at h; exact h
  | exc x => rw [e1] at h; exact h
  | ok c =>
    rw [e1, R.bind_ok] at h
    intro F' H' s
    cases c with
    | true =>
      rw [if_pos rfl] at h ⊢
      refine ⟨F', ρ, k.step s, ?_⟩
      cases e2 : fb ρ with
      | bad => rw [e2] at h; exact h
      | exc x => rw [e2] at h; exact h.step s
      | ok c => rw [e2] at h; exact fun F2 H2 s2 => h F2 H2 (s.trans s2)
    | false =>
      rw [if_neg Bool.false_ne_true] at h ⊢
      exact h F' H' s
theorem dw_or (ha : DT X F0 H0 W a fa) (hb : DW X F0 H0 W (.BoolOp .Or (b :: rest) pos) fb) : DW X F0 H0 W (.BoolOp .Or (a :: b :: rest) pos) (fOr fa fb) := PW.imp (pw_or ha hb) fun σ H Q h => by
  obtain ⟨F, ρ, k, h⟩ := h
  unfold fOr at h
  refine ⟨F, ρ, k, ?_⟩
  cases e1 : fa ρ with
  | bad => rw [e1] at h; exact h
  | exc x => rw [e1] at h; exact h
  | ok c =>
    rw [e1, R.bind_ok] at h
    intro F' H' s
    cases c with
    | false =>
      rw [if_neg Bool.false_ne_true] at h ⊢
      refine ⟨F', ρ, k.step s, ?_⟩
      cases e2 : fb ρ with
      | bad => rw [e2] at h; exact h
      | exc x => rw [e2] at h; exact h.step s
      | ok c => rw [e2] at h; exact fun F2 H2 s2 => h F2 H2 (s.trans s2)
    | true =>
      rw [if_pos rfl] at h ⊢
      exact h F' H' s
theorem dt_w (h : DW X F0 H0 W a fa) : DT X F0 H0 W a fa := PW.pt h
theorem dt_not (ha : DT X F0 H0 W a fa) : DT X F0 H0 W (.UnaryOp .Not a pos) (fNot fa) := PT.imp (pt_not ha) fun σ H Q h => by
  obtain ⟨F, ρ, k, h⟩ := h
  unfold fNot at h
  refine ⟨F, ρ, k, ?_⟩
  cases e1 : fa ρ with
  | bad => rw [e1] at h; exact h
  | exc x => rw [e1] at h; exact h
  | ok c =>
    rw [e1, R.bind_ok] at h
    exact h
end
/-! ### .. as values (bools) -/
def fAndV (f g : DEnv → R PyData) : DEnv → R PyData := fun ρ => (fB f ρ).bind fun b => if b = true then g ρ else .ok (.bool false)
def fOrV (f g : DEnv → R PyData) : DEnv → R PyData := fun ρ => (fB f ρ).bind fun b => if b = true then .ok (.bool true) else g ρ
def fNotV (f : DEnv → R PyData) : DEnv → R PyData := fun ρ => (fB f ρ).bind fun b => .ok (.bool (!b))
theorem tD_bool {f : DEnv → R PyData} {g : Bool → DEnv → R PyData} {σ : L2.St} {H : Hp} {Q : VK} (h : tD K mg F0 H0 W (fun ρ => (fB f ρ).bind fun b => g b ρ) σ H Q) {P : Bool → Hp → Prop}
    (n : ∀ b H', tD K mg F0 H0 W (g b) σ H' Q → P b H') : tD K mg F0 H0 W f σ H fun x H' => ∃ c, x = .bl c ∧ P c H' := by
  obtain ⟨F, ρ, k, h⟩ := h
  refine ⟨F, ρ, k, ?_⟩
  unfold fB at h
  dsimp only at h
  cases e1 : f ρ with
  | bad => rw [e1] at h; exact h
  | exc x => rw [e1] at h; exact h
  | ok d =>
    rw [e1, R.bind_ok] at h
    cases d with
    | bool b =>
      have h' : match g b ρ with | .ok d => ∀ v F' H', Stp F H F' H' → Rp K F' v d → Q v H' | .exc e => Exc K mg W F H σ e | .bad => False := h
      refine fun v F' H' s r => ?_
      cases r
      refine ⟨b, rfl, n b H' ⟨F', ρ, k.step s, ?_⟩⟩
      cases e2 : g b ρ with
      | bad => rw [e2] at h'; exact h'
      | exc x => rw [e2] at h'; exact h'.step s
      | ok d => rw [e2] at h'; exact fun v2 F2 H2 s2 => h' v2 F2 H2 (s.trans s2)
    | _ => exact h.elim
theorem tD_fC {d : PyData} {v : V} {σ : L2.St} {H : Hp} {Q : VK} (r : ∀ F, Rp K F v d) (h : tD K mg F0 H0 W (fun _ => .ok d) σ H Q) : Q v H := by
  obtain ⟨F, ρ, k, h⟩ := h
  exact h v F H (.refl k.st.sub) (r F)
section
variable {a b : Expr} {rest : List Expr} {fa fb : DEnv → R PyData} {pos : Pos}
theorem de_one {op} (h : DE X F0 H0 W a fa) : DE X F0 H0 W (.BoolOp op [a] pos) fa := pe_one h
theorem de_and (ha : DE X F0 H0 W a fa) (hb : DE X F0 H0 W (.BoolOp .And (b :: rest) pos) fb) : DE X F0 H0 W (.BoolOp .And (a :: b :: rest) pos) (fAndV fa fb) := PE.imp (pe_and ha hb) fun σ H Q h => by
  refine tD_bool (g := fun b ρ => if b = true then fb ρ else .ok (.bool false)) h fun c H' q => ?_
  cases c with
  | true => exact q
  | false => exact tD_fC (fun _ => .bl false) q
theorem de_or (ha : DE X F0 H0 W a fa) (hb : DE X F0 H0 W (.BoolOp .Or (b :: rest) pos) fb) : DE X F0 H0 W (.BoolOp .Or (a :: b :: rest) pos) (fOrV fa fb) := PE.imp (pe_or ha hb) fun σ H Q h => by
  refine tD_bool (g := fun b ρ => if b = true then .ok (.bool true) else fb ρ) h fun c H' q => ?_
  cases c with
  | false => exact q
  | true => exact tD_fC (fun _ => .bl true) q
theorem de_not (ha : DE X F0 H0 W a fa) : DE X F0 H0 W (.UnaryOp .Not a pos) (fNotV fa) := PE.imp (pe_not ha) fun σ H Q h =>
  tD_bool (g := fun b _ => .ok (.bool (!b))) h fun c H' q => tD_fC (fun _ => .bl _) q
def fIf (t : DEnv → R Bool) (f g : DEnv → R PyData) : DEnv → R PyData := fun ρ => (t ρ).bind fun b => if b = true then f ρ else g ρ
theorem de_if {c : Expr} {t : DEnv → R Bool} (hc : DT X F0 H0 W c t) (ha : DE X F0 H0 W a fa) (hb : DE X F0 H0 W b fb) : DE X F0 H0 W (.IfExp c a b pos) (fIf t fa fb) := PE.imp (pe_ifExp hc ha hb) fun σ H Q h => by
  obtain ⟨F, ρ, k, h⟩ := h
  unfold fIf at h
  refine ⟨F, ρ, k, ?_⟩
  cases e1 : t ρ with
  | bad => rw [e1] at h; exact h
  | exc x => rw [e1] at h; exact h
  | ok c =>
    rw [e1, R.bind_ok] at h
    intro F' H' s
    cases c with
    | true =>
      rw [if_pos rfl] at h ⊢
      refine ⟨F', ρ, k.step s, ?_⟩
      cases e2 : fa ρ with
      | bad => rw [e2] at h; exact h
      | exc x => rw [e2] at h; exact h.step s
      | ok c => rw [e2] at h; exact fun v F2 H2 s2 => h v F2 H2 (s.trans s2)
    | false =>
      rw [if_neg Bool.false_ne_true] at h ⊢
      refine ⟨F', ρ, k.step s, ?_⟩
      cases e2 : fb ρ with
      | bad => rw [e2] at h; exact h
      | exc x => rw [e2] at h; exact h.step s
      | ok c => rw [e2] at h; exact fun v F2 H2 s2 => h v F2 H2 (s.trans s2)
end
/-! ### a op b op' c -/
def fChain (g g' : PyData → PyData → R PyData) (fa fb fc : DEnv → R PyData) : DEnv → R PyData := fun ρ => (fa ρ).bind fun x => (fb ρ).bind fun y => ((g x y).bind boolD).bind fun k => if k = true then (fc ρ).bind fun z => g' y z else .ok (.bool false)
theorem tChain_of {r r' : R2} {g g' : PyData → PyData → R PyData} {fa fb fc : DEnv → R PyData} (o : Op2 K r g) (nx : NoX2 g) (o' : Op2 K r' g') (nx' : NoX2 g') :
    ∀ σ H Q, tD K mg F0 H0 W (fChain g g' fa fb fc) σ H Q → tChain r r' (tD K mg F0 H0 W fa) (tD K mg F0 H0 W fb) (tD K mg F0 H0 W fc) σ H Q := fun σ H Q h => by
  obtain ⟨F, ρ, k, h⟩ := h
  unfold fChain at h
  refine ⟨F, ρ, k, ?_⟩
  cases e1 : fa ρ with
  | bad => rw [e1] at h; exact h
  | exc x => rw [e1] at h; exact h
  | ok dx =>
    rw [e1, R.bind_ok] at h
    refine fun x F1 H1 s1 r1 => ⟨F1, ρ, k.step s1, ?_⟩
    cases e2 : fb ρ with
    | bad => rw [e2] at h; exact h
    | exc x => rw [e2] at h; exact h.step s1
    | ok dy =>
      rw [e2, R.bind_ok] at h
      intro y F2 H2 s2 r2
      cases e3 : g dx dy with
      | bad => rw [e3] at h; exact h.elim
      | exc z => exact absurd e3 (nx _ _ _)
      | ok d =>
        rw [e3, R.bind_ok] at h
        refine o F2 H2 x y dx dy d s2.sub (r1.mono s2.fr) r2 e3 _ fun v F3 H3 s3 r3 => ?_
        cases d with
        | bool c =>
          cases r3
          refine ⟨c, rfl, ?_⟩
          have h' : match (if c = true then (fc ρ).bind fun z => g' dy z else .ok (.bool false)) with | .ok d => ∀ v F' H', Stp F H F' H' → Rp K F' v d → Q v H' | .exc e => Exc K mg W F H σ e | .bad => False := h
          have s13 := (s1.trans s2).trans s3
          cases c with
          | false =>
            rw [if_neg Bool.false_ne_true] at h' ⊢
            exact h' _ F3 H3 s13 (.bl false)
          | true =>
            rw [if_pos rfl] at h' ⊢
            refine ⟨F3, ρ, k.step s13, ?_⟩
            cases e4 : fc ρ with
            | bad => rw [e4] at h'; exact h'
            | exc x => rw [e4] at h'; exact h'.step s13
            | ok dz =>
              rw [e4, R.bind_ok] at h'
              intro z F4 H4 s4 r4
              cases e5 : g' dy dz with
              | bad => rw [e5] at h'; exact h'.elim
              | exc z => exact absurd e5 (nx' _ _ _)
              | ok d =>
                rw [e5] at h'
                exact o' F4 H4 y z dy dz d s4.sub (r2.mono (s3.trans s4).fr) r4 e5 Q fun v F5 H5 s5 r5 => h' v F5 H5 ((s13.trans s4).trans s5) r5
        | _ => exact h.elim
section
variable {op op' : CmpOp} {r r' : R2} {g g' : PyData → PyData → R PyData} {a b c : Expr} {fa fb fc : DEnv → R PyData} {pos : Pos}
theorem de_chain (ho : OpR X (compareOp op) r) (o : Op2 X.K r g) (nx : NoX2 g) (ho' : OpR X (compareOp op') r') (o' : Op2 X.K r' g') (nx' : NoX2 g') (ha : DE X F0 H0 W a fa) (hb : DE X F0 H0 W b fb) (hc : DE X F0 H0 W c fc)
    (hm : lastMarks [op, op'] [b, c] = false := by with_unfolding_all rfl) : DE X F0 H0 W (.Compare a [op, op'] [b, c] pos) (fChain g g' fa fb fc) := PE.imp (pe_chain ho ho' ha hb hc hm) (tChain_of o nx o' nx')
theorem dt_chain (ho : OpR X (compareOp op) r) (o : Op2 X.K r g) (nx : NoX2 g) (ho' : OpR X (compareOp op') r') (o' : Op2 X.K r' g') (nx' : NoX2 g') (ha : DE X F0 H0 W a fa) (hb : DE X F0 H0 W b fb) (hc : DE X F0 H0 W c fc)
    (hm : lastMarks [op, op'] [b, c] = false := by with_unfolding_all rfl) : DT X F0 H0 W (.Compare a [op, op'] [b, c] pos) (fB (fChain g g' fa fb fc)) := PT.imp (pt_chain ho ho' ha hb hc hm) fun σ H Q h => tChain_of o nx o' nx' σ H _ (tDT_tD h)
end
end

/-! ### statements -/
inductive SR where
  | next (ρ : DEnv)
  | ret (d : PyData)
  | brk (ρ : DEnv)
  | cont (ρ : DEnv)
  | exc (e : Exn) (ρ : DEnv)
  | bad
section
variable (K : PySem.W.Frag) (mg : Str → Option Value) (F0 H0 : Hp) (W : WX)
/-- what is wanted behind a statement that began with F -/
def SPo (D : Ends) (F : Hp) : SR → Prop
  | .next ρ' => ∀ σ' F' H', Same F F' → Ok K F0 H0 F' ρ' σ' H' → D.nx σ' H'
  | .ret d => ∀ v F' H', Stp F0 H0 F' H' → Rp K F' v d → D.rt v H'
  | .brk ρ' => ∀ σ' F' H', Same F F' → Ok K F0 H0 F' ρ' σ' H' → D.bk σ' H'
  | .cont ρ' => ∀ σ' F' H', Same F F' → Ok K F0 H0 F' ρ' σ' H' → D.ct σ' H'
  | .exc e ρ' => ∀ σ' F' H' cls od, Same F F' → Ok K F0 H0 F' ρ' σ' H' → ExIs K mg F' e cls od → W cls od σ' H'
  | .bad => False
def tDS (f : DEnv → SR) : TS := fun D σ H => ∃ F ρ, Ok K F0 H0 F ρ σ H ∧ SPo K mg F0 H0 W D F (f ρ)
end
def DS (X : Cx) (F0 H0 : Hp) (W : WX) (st : Stmt) (f : DEnv → SR) : Prop := PS X st (tDS X.K X.mg F0 H0 W f)
def DSs (X : Cx) (F0 H0 : Hp) (W : WX) (st : List Stmt) (f : DEnv → SR) : Prop := PSs X st (tDS X.K X.mg F0 H0 W f)
section
variable {X : Cx} {F0 H0 : Hp} {W : WX} {K : PySem.W.Frag} {mg : Str → Option Value}
theorem SPo.step {D : Ends} {F F' : Hp} {r : SR} (s : Same F F') (h : SPo K mg F0 H0 W D F r) : SPo K mg F0 H0 W D F' r := by
  cases r with
  | next ρ => exact fun σ' F2 H' s2 => h σ' F2 H' (s.trans s2)
  | ret d => exact h
  | brk ρ => exact fun σ' F2 H' s2 => h σ' F2 H' (s.trans s2)
  | cont ρ => exact fun σ' F2 H' s2 => h σ' F2 H' (s.trans s2)
  | exc e ρ => exact fun σ' F2 H' cls od s2 => h σ' F2 H' cls od (s.trans s2)
  | bad => exact h
/-- an exception of an expression -/
theorem exc_of {F H : Hp} {ρ : DEnv} {σ : L2.St} {e : Exn} {D : Ends} (k : Ok K F0 H0 F ρ σ H) (h : SPo K mg F0 H0 W D F (.exc e ρ)) : Exc K mg W F H σ e := fun cls od F' H' s x => h σ F' H' cls od s.fr (k.step s) x
def SR.seq (r : SR) (g : DEnv → SR) : SR := match r with
  | .next ρ => g ρ
  | r => r
@[simp] theorem SR.seq_next (ρ : DEnv) (g : DEnv → SR) : (SR.next ρ).seq g = g ρ := rfl
@[simp] theorem SR.seq_ret (d : PyData) (g : DEnv → SR) : (SR.ret d).seq g = .ret d := rfl
@[simp] theorem SR.seq_brk (d : DEnv) (g : DEnv → SR) : (SR.brk d).seq g = .brk d := rfl
@[simp] theorem SR.seq_cont (d : DEnv) (g : DEnv → SR) : (SR.cont d).seq g = .cont d := rfl
@[simp] theorem SR.seq_exc (e : Exn) (d : DEnv) (g : DEnv → SR) : (SR.exc e d).seq g = .exc e d := rfl
@[simp] theorem SR.seq_bad (g : DEnv → SR) : SR.bad.seq g = .bad := rfl
def sNext : DEnv → SR := fun ρ => .next ρ
def sSeq (f g : DEnv → SR) : DEnv → SR := fun ρ => (f ρ).seq g
theorem dss_nil : DSs X F0 H0 W [] sNext := PSs.imp pss_nil fun D σ H ⟨F, ρ, k, h⟩ => h σ F H (.refl _) k
theorem dss_cons {st : Stmt} {rest : List Stmt} {f g : DEnv → SR} (h1 : DS X F0 H0 W st f) (h2 : DSs X F0 H0 W rest g) : DSs X F0 H0 W (st :: rest) (sSeq f g) := PSs.imp (pss_cons h1 h2) fun D σ H h => by
  obtain ⟨F, ρ, k, h⟩ := h
  unfold sSeq at h
  refine ⟨F, ρ, k, ?_⟩
  cases e : f ρ with
  | next ρ' =>
    rw [e] at h
    exact fun σ' F' H' s k' => ⟨F', ρ', k', h.step s⟩
  | ret d => rw [e] at h; exact h
  | brk d => rw [e] at h; exact h
  | cont d => rw [e] at h; exact h
  | exc x d => rw [e] at h; exact h
  | bad => rw [e] at h; exact h
theorem dss_one {st : Stmt} {f : DEnv → SR} (h1 : DS X F0 H0 W st f) : DSs X F0 H0 W [st] f := pss_one h1
theorem ds_pass {pos : Pos} : DS X F0 H0 W (.Pass pos) sNext := PS.imp ps_pass fun D σ H ⟨F, ρ, k, h⟩ => h σ F H (.refl _) k
def sBrk : DEnv → SR := fun ρ => .brk ρ
def sCont : DEnv → SR := fun ρ => .cont ρ
theorem ds_break {pos : Pos} : DS X F0 H0 W (.Break pos) sBrk := PS.imp ps_break fun D σ H ⟨F, ρ, k, h⟩ => h σ F H (.refl _) k
theorem ds_continue {pos : Pos} : DS X F0 H0 W (.Continue pos) sCont := PS.imp ps_continue fun D σ H ⟨F, ρ, k, h⟩ => h σ F H (.refl _) k
/-- an expression's data, then what follows -/
def sBind (f : DEnv → R PyData) (g : PyData → DEnv → SR) : DEnv → SR := fun ρ => match f ρ with
  | .ok d => g d ρ
  | .exc e => .exc e ρ
  | .bad => .bad
def sDrop (f : DEnv → R PyData) : DEnv → SR := sBind f fun _ ρ => .next ρ
def sRet (f : DEnv → R PyData) : DEnv → SR := sBind f fun d _ => .ret d
theorem ds_expr {e : Expr} {f : DEnv → R PyData} {pos : Pos} (he : DE X F0 H0 W e f) (hs : swapsWith e none pos.line X.env = pure false := by rfl) : DS X F0 H0 W (.Expr e pos) (sDrop f) := PS.imp (ps_expr he hs) fun D σ H h => by
  obtain ⟨F, ρ, k, h⟩ := h
  unfold sDrop sBind at h
  refine ⟨F, ρ, k, ?_⟩
  cases e1 : f ρ with
  | bad => rw [e1] at h; exact h
  | exc x => rw [e1] at h; exact exc_of k h
  | ok d => rw [e1] at h; exact fun v F' H' s r => h σ F' H' s.fr (k.step s)
theorem ds_ret {e : Expr} {f : DEnv → R PyData} {pos : Pos} (he : DE X F0 H0 W e f) : DS X F0 H0 W (.Return (some e) pos) (sRet f) := PS.imp (ps_ret he) fun D σ H h => by
  obtain ⟨F, ρ, k, h⟩ := h
  unfold sRet sBind at h
  refine ⟨F, ρ, k, ?_⟩
  cases e1 : f ρ with
  | bad => rw [e1] at h; exact h
  | exc x => rw [e1] at h; exact exc_of k h
  | ok d => rw [e1] at h; exact fun v F' H' s r => h v F' H' (k.st.trans s) r
theorem ds_retN {pos : Pos} : DS X F0 H0 W (.Return none pos) (fun _ => .ret .none) := PS.imp ps_retN fun D σ H ⟨F, ρ, k, h⟩ => h .non F H k.st .non
def sIf (t : DEnv → R Bool) (f g : DEnv → SR) : DEnv → SR := fun ρ => match t ρ with
  | .ok b => if b = true then f ρ else g ρ
  | .exc e => .exc e ρ
  | .bad => .bad
theorem ds_if {c : Expr} {a b : List Stmt} {t : DEnv → R Bool} {f g : DEnv → SR} {pos : Pos} (hc : DT X F0 H0 W c t) (ha : DSs X F0 H0 W a f) (hb : DSs X F0 H0 W b g) : DS X F0 H0 W (.If c a b pos) (sIf t f g) := PS.imp (ps_if hc ha hb) fun D σ H h => by
  obtain ⟨F, ρ, k, h⟩ := h
  unfold sIf at h
  refine ⟨F, ρ, k, ?_⟩
  cases e1 : t ρ with
  | bad => rw [e1] at h; exact h
  | exc x => rw [e1] at h; exact exc_of k h
  | ok c =>
    rw [e1] at h
    intro F' H' s
    cases c with
    | true => exact ⟨F', ρ, k.step s, SPo.step s.fr h⟩
    | false => exact ⟨F', ρ, k.step s, SPo.step s.fr h⟩

/-! ### targets -/
/-- a value's data; a pair on its way into a target (the tuple itself is not kept) -/
def RpI (K : PySem.W.Frag) (F : Hp) (v : V) (d : PyData) : Prop := ∃ (T : Addr) (xs : List V) (ds : List PyData), v = .ref T ∧ d = .tuple ds ∧ SqT K F T xs ∧ RpAll K F xs ds
/-- of a tuple's data the items' data are known -/
def TupD (K : PySem.W.Frag) (RR : Hp → V → PyData → Prop) : Prop := ∀ F v ds, RR F v (.tuple ds) → ∃ T xs, v = .ref T ∧ SqT K F T xs ∧ RpAll K F xs ds
theorem tupD_p {K : PySem.W.Frag} : TupD K (Rp K) := fun F v ds h => by
  cases h with
  | tup hs z ra => exact ⟨_, _, rfl, hs.sq, ra⟩
theorem tupD_i {K : PySem.W.Frag} : TupD K (RpI K) := fun F v ds h => by
  obtain ⟨T, xs, ds', rfl, e, hs, ra⟩ := h
  cases e
  exact ⟨T, xs, rfl, hs, ra⟩
/-- what names own alone, they owned alone before -/
def OwnKept (ρ : DEnv) (σ : L2.St) (ρ' : DEnv) (σ' : L2.St) : Prop := ∀ (i : Nat) (w : Ow), ρ'[i]? = some (.own w) → ρ[i]? = some (.own w) ∧ σ'[i]? = σ[i]?
theorem OwnKept.refl (ρ : DEnv) (σ : L2.St) : OwnKept ρ σ ρ σ := fun i w h => ⟨h, rfl⟩
theorem OwnKept.trans {ρ ρ1 ρ2 : DEnv} {σ σ1 σ2 : L2.St} (a : OwnKept ρ σ ρ1 σ1) (b : OwnKept ρ1 σ1 ρ2 σ2) : OwnKept ρ σ ρ2 σ2 := fun i w h => by
  obtain ⟨h1, h2⟩ := b i w h
  obtain ⟨h3, h4⟩ := a i w h1
  exact ⟨h3, h2.trans h4⟩
theorem OwnKept.set {ρ : DEnv} {σ : L2.St} {j : Nat} {d : PyData} {v : Option V} : OwnKept ρ σ (ρ.set j (.val d)) (σ.set j v) := fun i w h => by
  by_cases e : j = i
  · subst e
    have hl : j < ρ.length := by
      have := (List.getElem?_eq_some_iff.mp h).1
      simpa using this
    rw [List.getElem?_set_self hl] at h
    cases h
  · rw [List.getElem?_set_ne e] at h ⊢
    exact ⟨h, rfl⟩
/-- a target that stores data in the slots js -/
structure DG (X : Cx) (F0 H0 : Hp) (RR : Hp → V → PyData → Prop) (tg : Expr) (t : TG) (js : List Nat) (g : PyData → DEnv → Option DEnv) : Prop where
  pg : PG X tg t
  sem : ∀ (F H : Hp) (ρ ρ' : DEnv) (σ : L2.St) (v : V) (d : PyData), Ok X.K F0 H0 F ρ σ H → RR F v d → g d ρ = some ρ' → ∀ Q : L2.St → Hp → Prop,
    (∀ σ', Ok X.K F0 H0 F ρ' σ' H → (∀ vs : List Nat, (∀ j ∈ js, j ∈ vs) → L2.wipe σ' vs = L2.wipe σ vs) → OwnKept ρ σ ρ' σ' → Q σ' H) → t v σ H Q
def gN (i : Nat) : PyData → DEnv → Option DEnv := fun d ρ => some (ρ.set i (.val d))
theorem set_set_none {σ : L2.St} {i : Nat} {x : Option V} : (σ.set i x).set i none = σ.set i none := by rw [List.set_set]
theorem wipe_set {σ : L2.St} {i : Nat} {x : Option V} : ∀ {vs : List Nat}, i ∈ vs → L2.wipe (σ.set i x) vs = L2.wipe σ vs
  | [], h => by simp at h
  | v :: vs, h => by
    by_cases hv : i ∈ vs
    · unfold L2.wipe; rw [wipe_set hv]
    · have e : i = v := by simpa [hv] using h
      subst e
      unfold L2.wipe
      have c : ∀ ws : List Nat, i ∉ ws → L2.wipe (σ.set i x) ws = (L2.wipe σ ws).set i x := by
        intro ws
        induction ws with
        | nil => intro _; rfl
        | cons w ws ih =>
          intro hw
          rw [List.mem_cons, not_or] at hw
          unfold L2.wipe
          rw [ih hw.2, List.set_comm _ _ hw.1]
      rw [c vs hv, List.set_set]
theorem dg_name (i : Nat) {x : Str} {pos : Pos} (hN : X.N.Nodup) (hi : X.N[i]? = some x := by rfl) (hx : Loc X.env.scope x := by first | exact .inl rfl | exact .inr rfl) (hf : X.fn x = true ∨ X.env.scope.names.lookup x = some .local := by first | exact .inl rfl | exact .inr rfl) :
    DG X F0 H0 (Rp X.K) (.Name x pos) (gName i) [i] (gN i) := by
  refine ⟨pg_name hN hi hx hf, fun F H ρ ρ' σ v d k r e Q q => ?_⟩
  cases e
  exact q _ (k.setV r) (fun vs hv => wipe_set (hv i (by simp))) .set
/-- several targets, one after another -/
structure DGs (X : Cx) (F0 H0 : Hp) (tgs : List Expr) (t : TGs) (js : List Nat) (n : Nat) (g : List PyData → DEnv → Option DEnv) : Prop where
  pg : PGs X tgs t
  sem : ∀ (F H : Hp) (ρ ρ' : DEnv) (σ : L2.St) (vs : List V) (ds : List PyData), Ok X.K F0 H0 F ρ σ H → RpAll X.K F vs ds → g ds ρ = some ρ' → ∀ Q : L2.St → Hp → Prop,
    (∀ σ', Ok X.K F0 H0 F ρ' σ' H → (∀ ws : List Nat, (∀ j ∈ js, j ∈ ws) → L2.wipe σ' ws = L2.wipe σ ws) → OwnKept ρ σ ρ' σ' → Q σ' H) → t vs σ H Q
  len : ∀ ds ρ ρ', g ds ρ = some ρ' → ds.length = n
def gsNil : List PyData → DEnv → Option DEnv
  | [], ρ => some ρ
  | _, _ => none
def gsCons (g : PyData → DEnv → Option DEnv) (gs : List PyData → DEnv → Option DEnv) : List PyData → DEnv → Option DEnv
  | d :: ds, ρ => (g d ρ).bind (gs ds)
  | _, _ => none
theorem dgs_nil : DGs X F0 H0 [] gNil [] 0 gsNil := by
  refine ⟨pgs_nil, fun F H ρ ρ' σ vs ds k r e Q q => ?_, fun ds ρ ρ' e => ?_⟩
  · cases r with
    | nil =>
      cases e
      exact ⟨rfl, q σ k (fun _ _ => rfl) (.refl _ _)⟩
    | cons _ _ => cases e
  · cases ds with
    | nil => rfl
    | cons _ _ => cases e
theorem dgs_cons {e : Expr} {es : List Expr} {js js' : List Nat} {n : Nat} {g : PyData → DEnv → Option DEnv} {gs : List PyData → DEnv → Option DEnv} {t : TG} {u : TGs} (h1 : DG X F0 H0 (Rp X.K) e t js g) (h2 : DGs X F0 H0 es u js' n gs)
    (hs : (assignEach (e :: es) X.env).map (·.2) = assign e X.env :: (assignEach es X.env).map (·.2) := by rfl) : DGs X F0 H0 (e :: es) (gCons t u) (js ++ js') (n + 1) (gsCons g gs) := by
  have ht := h1.sem
  have hu := h2.sem
  refine ⟨pgs_cons h1.pg h2.pg hs, fun F H ρ ρ' σ vs ds k r e1 Q q => ?_, fun ds ρ ρ' e1 => ?_⟩
  · cases r with
    | nil => cases e1
    | cons r1 r2 =>
      rename_i v vs d ds
      have e1 : (g d ρ).bind (gs ds) = some ρ' := e1
      cases e2 : g d ρ with
      | none => rw [e2] at e1; cases e1
      | some ρ1 =>
        rw [e2] at e1
        refine ⟨v, vs, rfl, ht F H ρ ρ1 σ v d k r1 e2 _ fun σ1 k1 w1 o1 => ?_⟩
        refine hu F H ρ1 ρ' σ1 vs ds k1 r2 e1 Q fun σ2 k2 w2 o2 => q σ2 k2 (fun ws hw => ?_) (o1.trans o2)
        rw [w2 ws fun j hj => hw j (List.mem_append_right _ hj), w1 ws fun j hj => hw j (List.mem_append_left _ hj)]
  · cases ds with
    | nil => cases e1
    | cons d ds =>
      have e1 : (g d ρ).bind (gs ds) = some ρ' := e1
      cases e2 : g d ρ with
      | none => rw [e2] at e1; cases e1
      | some ρ1 =>
        rw [e2] at e1
        simp [h2.len ds ρ1 ρ' e1]
/-- a tuple of targets, of a tuple -/
def gT (gs : List PyData → DEnv → Option DEnv) : PyData → DEnv → Option DEnv
  | .tuple ds, ρ => gs ds ρ
  | _, _ => none
theorem dg_tup {RR : Hp → V → PyData → Prop} {es : List Expr} {kk : Nat} {pos : Pos} {js : List Nat} {n : Nat} {gs : List PyData → DEnv → Option DEnv} {t : TGs} (K : PySem.W.Frag) (hK : X.K = K) (hc : X.calm = true) (h : DGs X F0 H0 es t js n gs)
    (hn : (assignEach es X.env).length = n := by rfl) (hst : (assignEach es X.env).findIdx? (·.1) = none := by rfl) (hRR : TupD X.K RR := by first | exact tupD_p | exact tupD_i) : DG X F0 H0 RR (.Tuple es kk pos) (gTup K n t) js (gT gs) := by
  subst hK
  have ht := h.sem
  refine ⟨pg_tup hc h.pg hn hst, fun F H ρ ρ' σ v d k r e Q q => ?_⟩
  cases d with
  | tuple ds =>
    obtain ⟨T, xs, rfl, hs, ra⟩ := hRR F v ds r
    exact ⟨_, _, rfl, same_t k.st.sub hs, by rw [ra.length]; exact h.len ds ρ ρ' e, ht F H ρ ρ' σ _ ds k ra e Q q⟩
  | _ => cases e
/-- .. of a list -/
def gL (gs : List PyData → DEnv → Option DEnv) : PyData → DEnv → Option DEnv
  | .list ds, ρ => gs ds ρ
  | _, _ => none
theorem dg_lst {es : List Expr} {kk : Nat} {pos : Pos} {js : List Nat} {n : Nat} {gs : List PyData → DEnv → Option DEnv} {t : TGs} (K : PySem.W.Frag) (hK : X.K = K) (hc : X.calm = true) (h : DGs X F0 H0 es t js n gs)
    (hn : (assignEach es X.env).length = n := by rfl) (hst : (assignEach es X.env).findIdx? (·.1) = none := by rfl) : DG X F0 H0 (Rp X.K) (.Tuple es kk pos) (gLst K n t) js (gL gs) := by
  subst hK
  have ht := h.sem
  refine ⟨pg_lst hc h.pg hn hst, fun F H ρ ρ' σ v d k r e Q q => ?_⟩
  cases d with
  | list ds =>
    cases r with
    | lst hs z ra => exact ⟨_, _, rfl, same_l k.st.sub hs, by rw [ra.length]; exact h.len ds ρ ρ' e, ht F H ρ ρ' σ _ ds k ra e Q q⟩
  | _ => cases e
/-- target = e -/
def sAsg (g : PyData → DEnv → Option DEnv) (f : DEnv → R PyData) : DEnv → SR := sBind f fun d ρ => match g d ρ with
  | some ρ' => .next ρ'
  | none => .bad
theorem tAsg_of {f : DEnv → R PyData} {js : List Nat} {g : PyData → DEnv → Option DEnv} {tg : Expr} {t : TG} (ht : ∀ (F H : Hp) (ρ ρ' : DEnv) (σ : L2.St) (v : V) (d : PyData), Ok K F0 H0 F ρ σ H → Rp K F v d → g d ρ = some ρ' → ∀ Q : L2.St → Hp → Prop,
    (∀ σ', Ok K F0 H0 F ρ' σ' H → (∀ vs : List Nat, (∀ j ∈ js, j ∈ vs) → L2.wipe σ' vs = L2.wipe σ vs) → OwnKept ρ σ ρ' σ' → Q σ' H) → t v σ H Q) : ∀ D σ H, tDS K mg F0 H0 W (sAsg g f) D σ H → tAsg (tD K mg F0 H0 W f) t D σ H := fun D σ H h => by
  obtain ⟨F, ρ, k, h⟩ := h
  unfold sAsg sBind at h
  refine ⟨F, ρ, k, ?_⟩
  cases e1 : f ρ with
  | bad => rw [e1] at h; exact h
  | exc x => rw [e1] at h; exact exc_of k h
  | ok d =>
    rw [e1] at h
    intro v F' H' s r
    cases e2 : g d ρ with
    | none =>
      have h : SPo K mg F0 H0 W D F (match g d ρ with | some ρ' => .next ρ' | none => .bad) := h
      rw [e2] at h
      exact h.elim
    | some ρ' =>
      have h : SPo K mg F0 H0 W D F (match g d ρ with | some ρ' => .next ρ' | none => .bad) := h
      rw [e2] at h
      exact ht F' H' ρ ρ' σ v d (k.step s) r e2 _ fun σ' k' _ _ => h σ' F' H' s.fr k'
theorem ds_asg {tg e : Expr} {js : List Nat} {f : DEnv → R PyData} {g : PyData → DEnv → Option DEnv} {pos : Pos} {t : TG} (he : DE X F0 H0 W e f) (hg : DG X F0 H0 (Rp X.K) tg t js g) (hs : swapsWithSole [tg] e pos.line X.env = pure false := by rfl)
    (hw : swappedStores [tg] e X.env = pure none := by rfl) (h1 : (assignEach [tg] X.env).map (·.2) = [assign tg X.env] := by rfl) : DS X F0 H0 W (.Assign [tg] e pos) (sAsg g f) := by
  exact PS.imp (ps_asg he hg.pg hs hw h1) (tAsg_of (tg := tg) hg.sem)
theorem ds_set (i : Nat) {x : Str} {e : Expr} {f : DEnv → R PyData} {pos pos' : Pos} (hN : X.N.Nodup) (he : DE X F0 H0 W e f) (hi : X.N[i]? = some x := by rfl) (hx : Loc X.env.scope x := by first | exact .inl rfl | exact .inr rfl)
    (hs : swapsWith e (some (.Name x pos')) pos.line X.env = pure false := by rfl) (hf : X.fn x = true ∨ X.env.scope.names.lookup x = some .local := by first | exact .inl rfl | exact .inr rfl) :
    DS X F0 H0 W (.Assign [.Name x pos'] e pos) (sAsg (gN i) f) :=
  PS.imp (ps_set hN hi hx he hs hf) (tAsg_of (tg := .Name x pos') (js := [i]) fun F H ρ ρ' σ v d k r e Q q => by
    cases e
    exact q _ (k.setV r) (fun vs hv => wipe_set (hv i (by simp))) .set)
end
end DL
namespace DL
open PySem PySem.Spec PyProof.Rows L2
variable [TheW]
/-! ### data by their order -/
inductive Od where
  | lt | le | gt | ge
def Od.op : Od → CmpOp
  | .lt => .Lt | .le => .LtE | .gt => .Gt | .ge => .GtE
def Od.int : Od → Int → Int → Bool
  | .lt, a, b => decide (a < b) | .le, a, b => decide (a ≤ b) | .gt, a, b => decide (b < a) | .ge, a, b => decide (b ≤ a)
def Od.str : Od → List Nat → List Nat → Bool
  | .lt, a, b => decide (a < b) | .le, a, b => !decide (b < a) | .gt, a, b => decide (b < a) | .ge, a, b => !decide (a < b)
def Od.len : Od → Nat → Nat → Bool
  | .lt, a, b => decide (a < b) | .le, a, b => decide (a ≤ b) | .gt, a, b => decide (a > b) | .ge, a, b => decide (a ≥ b)
theorem Od.len_succ (o : Od) (a b : Nat) : o.len (a + 1) (b + 1) = o.len a b := by
  cases o <;> simp [Od.len]
mutual
def ordD (o : Od) : PyData → PyData → Option Bool
  | .int a, .int b => some (o.int a b)
  | .str x, .str y => some (o.str x.cps.toList y.cps.toList)
  | .tuple xs, .tuple ys => ordDs o xs ys
  | _, _ => none
def ordDs (o : Od) : List PyData → List PyData → Option Bool
  | [], [] => some (o.len 0 0)
  | [], _ :: _ => some (o.len 0 1)
  | _ :: _, [] => some (o.len 1 0)
  | x :: xs, y :: ys => match ordDs o xs ys with
    | some t => if PyData.eqv x y = true then some t else ordD o x y
    | none => none
end
theorem ordDs_at (o : Od) : ∀ {xs ys : List PyData} {b : Bool}, ordDs o xs ys = some b → ∀ {j : Nat} {x y : PyData}, xs[j]? = some x → ys[j]? = some y → PyData.eqv x y = false → ∃ c, ordD o x y = some c
  | [], _, _, _, _, _, _, h, _, _ => by simp at h
  | _ :: _, [], _, _, _, _, _, _, h, _ => by simp at h
  | x :: xs, y :: ys, b, h, 0, _, _, h1, h2, e => by
    simp at h1 h2
    subst h1 h2
    unfold ordDs at h
    split at h
    · rw [e, if_neg Bool.false_ne_true] at h
      exact ⟨b, h⟩
    · cases h
  | x :: xs, y :: ys, b, h, j + 1, _, _, h1, h2, e => by
    unfold ordDs at h
    split at h
    · rename_i t ht
      exact ordDs_at o ht (by simpa using h1) (by simpa using h2) e
    · cases h
def eAt (xs ys : List PyData) (j : Nat) : Bool := match xs[j]?, ys[j]? with
  | some x, some y => PyData.eqv x y
  | _, _ => false
def rAt (o : Od) (xs ys : List PyData) (j : Nat) : Bool := match xs[j]?, ys[j]? with
  | some x, some y => (ordD o x y).getD false
  | _, _ => false
theorem lexAt_shift {e r e' r' : Nat → Bool} {z : Bool} : ∀ {k i j : Nat}, (∀ m, e (i + m) = e' (j + m)) → (∀ m, r (i + m) = r' (j + m)) → Ob.lexAt e r z i k = Ob.lexAt e' r' z j k
  | 0, _, _, _, _ => rfl
  | k + 1, i, j, he, hr => by
    rw [Ob.lexAt_succ, Ob.lexAt_succ, show e i = e' j from he 0, show r i = r' j from hr 0,
      lexAt_shift (k := k) (i := i + 1) (j := j + 1) (fun m => by have := he (m + 1); rwa [show i + (m + 1) = i + 1 + m by omega, show j + (m + 1) = j + 1 + m by omega] at this)
        (fun m => by have := hr (m + 1); rwa [show i + (m + 1) = i + 1 + m by omega, show j + (m + 1) = j + 1 + m by omega] at this)]
theorem lexAt_ord (o : Od) : ∀ {xs ys : List PyData} {b : Bool}, ordDs o xs ys = some b → Ob.lexAt (eAt xs ys) (rAt o xs ys) (o.len xs.length ys.length) 0 (min xs.length ys.length) = b
  | [], [], b, h => by
    have : some (o.len 0 0) = some b := h
    cases this
    rfl
  | [], y :: ys, b, h => by
    have : some (o.len 0 1) = some b := h
    cases this
    show o.len 0 (ys.length + 1) = o.len 0 1
    cases o <;> simp [Od.len]
  | x :: xs, [], b, h => by
    have : some (o.len 1 0) = some b := h
    cases this
    show o.len (xs.length + 1) 0 = o.len 1 0
    cases o <;> simp [Od.len]
  | x :: xs, y :: ys, b, h => by
    unfold ordDs at h
    split at h
    · rename_i t ht
      have ih := lexAt_ord o ht
      rw [List.length_cons, List.length_cons, Nat.succ_min_succ, Ob.lexAt_succ, Od.len_succ]
      have e0 : eAt (x :: xs) (y :: ys) 0 = PyData.eqv x y := rfl
      have r0 : rAt o (x :: xs) (y :: ys) 0 = (ordD o x y).getD false := rfl
      rw [e0, r0]
      by_cases c : PyData.eqv x y = true
      · rw [if_pos c] at h ⊢
        cases h
        rw [← ih]
        exact lexAt_shift (fun m => by rw [Nat.add_comm 0 1, Nat.zero_add, Nat.add_comm 1 m]; rfl) (fun m => by rw [Nat.add_comm 0 1, Nat.zero_add, Nat.add_comm 1 m]; rfl)
      · rw [if_neg c] at h ⊢
        rw [h]
        rfl
    · cases h
theorem readsAll_length {h : Heap} : ∀ {ds : List PyData} {vs : List Value} {as : List Addr}, ReadsAll h vs ds as → vs.length = ds.length
  | [], _, _, r => by cases r; rfl
  | d :: ds, _, _, r => by cases r with | cons r rs => simp [readsAll_length rs]
theorem readsAll_at {h : Heap} : ∀ {ds : List PyData} {vs : List Value} {as : List Addr} {j : Nat} {v : Value} {d : PyData}, ReadsAll h vs ds as → vs[j]? = some v → ds[j]? = some d → ∃ bs, Reads h v d bs
  | [], _, _, _, _, _, r, _, h2 => by simp at h2
  | d :: ds, _, _, 0, _, _, r, h1, h2 => by
    cases r with
    | cons r rs =>
      simp at h1 h2
      subst h1 h2
      exact ⟨_, r⟩
  | d :: ds, _, _, j + 1, _, _, r, h1, h2 => by
    cases r with
    | cons r rs => exact readsAll_at rs (by simpa using h1) (by simpa using h2)
theorem canLay_at : ∀ {ds : List PyData} {j : Nat} {d : PyData}, PyData.canLayAll0 ds = true → ds[j]? = some d → d.canLay0 = true
  | [], _, _, _, h => by simp at h
  | x :: xs, 0, d, c, h => by
    have c' : x.canLay0 = true ∧ PyData.canLayAll0 xs = true := by simpa [PyData.canLayAll0] using c
    simp at h
    subst h
    exact c'.1
  | x :: xs, j + 1, d, c, h => by
    have c' : x.canLay0 = true ∧ PyData.canLayAll0 xs = true := by simpa [PyData.canLayAll0] using c
    exact canLay_at c'.2 (by simpa using h)
theorem depth_at : ∀ {ds : List PyData} {j : Nat} {d : PyData}, ds[j]? = some d → d.depth ≤ PyData.depthAll ds
  | [], _, _, h => by simp at h
  | x :: xs, 0, d, h => by
    simp at h
    subst h
    simp only [PyData.depthAll]
    exact Nat.le_max_left _ _
  | x :: xs, j + 1, d, h => by
    have := depth_at (ds := xs) (j := j) (by simpa using h)
    simp only [PyData.depthAll]
    exact Nat.le_trans this (Nat.le_max_right _ _)
theorem getElem_of {α : Type} {l : List α} {j : Nat} (h : j < l.length) : l[j]? = some l[j] := List.getElem?_eq_getElem h
theorem ord_rc (o : Od) : ∀ (n : Nat) (d e : PyData) (A : Around) (s : Shared) (u v : Value) (as bs : List Addr) (b : Bool), d.depth ≤ n → Reads s.heap u d as → Reads s.heap v e bs → d.canLay0 = true → e.canLay0 = true → ordD o d e = some b → A.units + d.depth + 1 < cLine → Ob.RcOp o.op A s u v b := by
  intro n
  induction n with
  | zero =>
    intro d e A s u v as bs b hn ra rb ca cb h hu
    cases d with
    | int i =>
      cases e with
      | int j =>
        cases ra
        cases rb
        have : some (o.int i j) = some b := h
        cases this
        cases o
        · exact Ob.RcOp.lt_int _ _ _ _
        · exact Ob.RcOp.le_int _ _ _ _
        · exact Ob.RcOp.gt_int _ _ _ _
        · exact Ob.RcOp.ge_int _ _ _ _
      | _ => simp [ordD] at h
    | str x =>
      cases e with
      | str y =>
        cases ra
        cases rb
        have : some (o.str x.cps.toList y.cps.toList) = some b := h
        cases this
        cases o
        · exact fun _ _ _ _ h => lt_str h
        · exact fun _ _ _ _ h => PySem.P.le_str h
        · exact fun _ _ _ _ h => PySem.P.gt_str h
        · exact fun _ _ _ _ h => PySem.P.ge_str h
      | _ => simp [ordD] at h
    | tuple xs => simp [PyData.depth] at hn
    | _ => cases e <;> simp [ordD] at h
  | succ n ih =>
    intro d e A s u v as bs b hn ra rb ca cb h hu
    cases d with
    | int i =>
      cases e with
      | int j =>
        cases ra
        cases rb
        have : some (o.int i j) = some b := h
        cases this
        cases o
        · exact Ob.RcOp.lt_int _ _ _ _
        · exact Ob.RcOp.le_int _ _ _ _
        · exact Ob.RcOp.gt_int _ _ _ _
        · exact Ob.RcOp.ge_int _ _ _ _
      | _ => simp [ordD] at h
    | str x =>
      cases e with
      | str y =>
        cases ra
        cases rb
        have : some (o.str x.cps.toList y.cps.toList) = some b := h
        cases this
        cases o
        · exact fun _ _ _ _ h => lt_str h
        · exact fun _ _ _ _ h => PySem.P.le_str h
        · exact fun _ _ _ _ h => PySem.P.gt_str h
        · exact fun _ _ _ _ h => PySem.P.ge_str h
      | _ => simp [ordD] at h
    | tuple xs =>
      cases e with
      | tuple ys =>
        have h : ordDs o xs ys = some b := by simpa [ordD] using h
        have ca' : PyData.canLayAll0 xs = true := by simpa [PyData.canLay0] using ca
        have cb' : PyData.canLayAll0 ys = true := by simpa [PyData.canLay0] using cb
        have hdx : (PyData.tuple xs).depth = PyData.depthAll xs + 1 := by simp [PyData.depth]
        rw [hdx] at hn hu
        cases ra with
        | @tuple a oa vs na _ as₁ h1 h2 h3 h4 =>
          cases rb with
          | @tuple a2 oa2 vs2 na2 _ bs₁ k1 k2 k3 k4 =>
            have l1 : vs.size = xs.length := by rw [← Array.length_toList]; exact readsAll_length h4
            have l2 : vs2.size = ys.length := by rw [← Array.length_toList]; exact readsAll_length k4
            have in1 : A.in1.units = A.units + 1 := rfl
            have he : ∀ j (j1 : j < vs.size) (j2 : j < vs2.size), SeqAt.EqAt A.in1 s vs[j] vs2[j] (eAt xs ys j) := fun j j1 j2 => by
              have g1 : vs.toList[j]? = some vs[j] := by rw [Array.getElem?_toList, Array.getElem?_eq_getElem j1]
              have g2 : vs2.toList[j]? = some vs2[j] := by rw [Array.getElem?_toList, Array.getElem?_eq_getElem j2]
              have x1 := getElem_of (l := xs) (j := j) (by omega)
              have y1 := getElem_of (l := ys) (j := j) (by omega)
              obtain ⟨cs, rr⟩ := readsAll_at h4 g1 x1
              obtain ⟨cs2, rr2⟩ := readsAll_at k4 g2 y1
              have ee : eAt xs ys j = PyData.eqv xs[j] ys[j] := by unfold eAt; rw [x1, y1]
              rw [ee]
              have dd := depth_at x1
              refine SeqAt.eqAt_reads _ _ _ _ _ _ _ _ rr rr2 (canLay_at ca' x1) (canLay_at cb' y1) ?_
              have := Nat.min_le_left (xs[j]).depth (ys[j]).depth
              omega
            have hr : ∀ j (j1 : j < vs.size) (j2 : j < vs2.size), eAt xs ys j = false → Ob.RcOp o.op A.in1 s vs[j] vs2[j] (rAt o xs ys j) := fun j j1 j2 hj => by
              have g1 : vs.toList[j]? = some vs[j] := by rw [Array.getElem?_toList, Array.getElem?_eq_getElem j1]
              have g2 : vs2.toList[j]? = some vs2[j] := by rw [Array.getElem?_toList, Array.getElem?_eq_getElem j2]
              have x1 := getElem_of (l := xs) (j := j) (by omega)
              have y1 := getElem_of (l := ys) (j := j) (by omega)
              obtain ⟨cs, rr⟩ := readsAll_at h4 g1 x1
              obtain ⟨cs2, rr2⟩ := readsAll_at k4 g2 y1
              have ee : eAt xs ys j = PyData.eqv xs[j] ys[j] := by unfold eAt; rw [x1, y1]
              rw [ee] at hj
              obtain ⟨c, hc⟩ := ordDs_at o h x1 y1 hj
              have er : rAt o xs ys j = c := by unfold rAt; rw [x1, y1]; simp [hc]
              rw [er]
              have dd := depth_at x1
              exact ih _ _ A.in1 s _ _ _ _ c (by omega) rr rr2 (canLay_at ca' x1) (canLay_at cb' y1) hc (by omega)
            have key := lexAt_ord o h
            rw [← l1, ← l2] at key
            have hl : s.heap.IsTuple a vs := ⟨oa, h1, h2, na, h3⟩
            have hb : s.heap.IsTuple a2 vs2 := ⟨oa2, k1, k2, na2, k3⟩
            rw [← key]
            cases o
            · exact Ob.RcOp.tuples_lt hl hb (by omega) he hr
            · exact Ob.RcOp.tuples_le hl hb (by omega) he hr
            · exact Ob.RcOp.tuples_gt hl hb (by omega) he hr
            · exact Ob.RcOp.tuples_ge hl hb (by omega) he hr
      | _ => simp [ordD] at h
    | _ => cases e <;> simp [ordD] at h
mutual
theorem noDict_of : ∀ {d : PyData}, d.canLay0 = true → noDict d = true
  | .none, _ => rfl
  | .bool _, _ => rfl
  | .int _, _ => rfl
  | .str _, _ => rfl
  | .list xs, h => by
    unfold noDict
    exact noDicts_of (by simpa [PyData.canLay0] using h)
  | .tuple xs, h => by
    unfold noDict
    exact noDicts_of (by simpa [PyData.canLay0] using h)
  | .dict _, h => by simp [PyData.canLay0] at h
theorem noDicts_of : ∀ {ds : List PyData}, PyData.canLayAll0 ds = true → noDicts ds = true
  | [], _ => rfl
  | x :: xs, h => by
    have c' : x.canLay0 = true ∧ PyData.canLayAll0 xs = true := by simpa [PyData.canLayAll0] using h
    unfold noDicts
    rw [noDict_of c'.1, noDicts_of c'.2]
    rfl
end
theorem dp_of {K : PySem.W.Frag} {F H : Hp} {v : V} {d : PyData} (s : Same F H) (r : Rp K F v d) (h : SeqAt.shaped d = true) : Dp K H v d := Dp.mono s (r.dp (noDict_of (SeqAt.canLay_of_shaped h)))
/-- x op y of data -/
def gOrd (o : Od) (x y : PyData) : R PyData := if SeqAt.shaped x = true ∧ SeqAt.shaped y = true then R.of ((ordD o x y).map .bool) else .bad
def rOrd (K : PySem.W.Frag) (o : Od) : R2 := fun x y H Q => ∃ d e b, Dp K H x d ∧ Dp K H y e ∧ SeqAt.shaped d = true ∧ SeqAt.shaped e = true ∧ ordD o d e = some b ∧ Q (.bl b) H
theorem op_ord {X : Cx} (o : Od) (hu : X.A.units + 66 < cLine) : OpR X (compareOp o.op) (rOrd X.K o) := by
  intro pins s σ H x y v u Q I rx ry h
  obtain ⟨d, e, b, hd, he, sd, se, hb, q⟩ := h
  obtain ⟨as, r1⟩ := Dp.reads I d x v hd rx
  obtain ⟨bs, r2⟩ := Dp.reads I e y u he ry
  have dd := SeqAt.depth_of_shaped sd
  have z := ord_rc o d.depth d e X.A s v u as bs b (Nat.le_refl _) r1 r2 (SeqAt.canLay_of_shaped sd) (SeqAt.canLay_of_shaped se) hb (by omega)
  have z2 : wpAny (model X.prog X.w) X.A (richCompare o.op v u) (EP X pins σ Q) X.xe s := z X.prog X.w X.xe (EP X pins σ Q) ⟨.bl _, H, I, rfl, q⟩
  cases o <;> exact z2
theorem o_ord {K : PySem.W.Frag} (o : Od) : Op2 K (rOrd K o) (gOrd o) := fun F H x y dx dy d s rx ry h Q q => by
  unfold gOrd at h
  split at h
  · rename_i hs
    cases e : ordD o dx dy with
    | none => rw [e] at h; cases h
    | some b =>
      rw [e] at h
      cases h
      exact ⟨dx, dy, b, dp_of s rx hs.1, dp_of s ry hs.2, hs.1, hs.2, e, q _ F H (.refl s) (.bl b)⟩
  · cases h
theorem nx_of {α : Type} (o : Option α) (e : Exn) : R.of o ≠ .exc e := by
  cases o <;> (intro h; cases h)
theorem nx_ord (o : Od) : NoX2 (gOrd o) := fun a b e h => by
  unfold gOrd at h
  split at h
  · exact nx_of _ _ h
  · cases h
/-! ### == and != -/
def gEq (x y : PyData) : R PyData := if SeqAt.shaped x = true ∧ SeqAt.shaped y = true then .ok (.bool (PyData.eqv x y)) else .bad
def gNe (x y : PyData) : R PyData := if SeqAt.shaped x = true ∧ SeqAt.shaped y = true then .ok (.bool (!PyData.eqv x y)) else .bad
theorem o_eq {K : PySem.W.Frag} : Op2 K (rEqD K) gEq := fun F H x y dx dy d s rx ry h Q q => by
  unfold gEq at h
  split at h
  · rename_i hs
    cases h
    exact ⟨dx, dy, dp_of s rx hs.1, dp_of s ry hs.2, hs.1, hs.2, q _ F H (.refl s) (.bl _)⟩
  · cases h
theorem o_ne {K : PySem.W.Frag} : Op2 K (rNeD K) gNe := fun F H x y dx dy d s rx ry h Q q => by
  unfold gNe at h
  split at h
  · rename_i hs
    cases h
    exact ⟨dx, dy, dp_of s rx hs.1, dp_of s ry hs.2, hs.1, hs.2, q _ F H (.refl s) (.bl _)⟩
  · cases h
theorem nx_eq : NoX2 gEq := fun a b e h => by
  unfold gEq at h
  split at h <;> cases h
theorem nx_ne : NoX2 gNe := fun a b e h => by
  unfold gNe at h
  split at h <;> cases h
/-! ### is None -/
def isNon : PyData → Bool
  | .none => true
  | _ => false
def gIsN (x y : PyData) : R PyData := match y with
  | .none => .ok (.bool (isNon x))
  | _ => .bad
def gNotN (x y : PyData) : R PyData := match y with
  | .none => .ok (.bool (!isNon x))
  | _ => .bad
theorem Rp.isNon {K : PySem.W.Frag} {F : Hp} {v : V} {d : PyData} (r : Rp K F v d) : decide (v = .non) = isNon d := by
  cases r <;> simp [DL.isNon]
def rIsNon : R2 := fun x y H Q => y = .non ∧ Q (.bl (decide (x = .non))) H
def rNotNon : R2 := fun x y H Q => y = .non ∧ Q (.bl (!decide (x = .non))) H
theorem o_isN {K : PySem.W.Frag} : Op2 K rIsNon gIsN := fun F H x y dx dy d s rx ry h Q q => by
  cases ry with
  | non =>
    cases h
    refine ⟨rfl, ?_⟩
    rw [rx.isNon]
    exact q _ F H (.refl s) (.bl _)
  | _ => cases h
theorem o_notN {K : PySem.W.Frag} : Op2 K rNotNon gNotN := fun F H x y dx dy d s rx ry h Q q => by
  cases ry with
  | non =>
    cases h
    refine ⟨rfl, ?_⟩
    rw [rx.isNon]
    exact q _ F H (.refl s) (.bl _)
  | _ => cases h
theorem nx_isN : NoX2 gIsN := fun a b e h => by
  cases b <;> cases h
theorem nx_notN : NoX2 gNotN := fun a b e h => by
  cases b <;> cases h
/-! ### arithmetic -/
section
variable {X : Cx} {K : PySem.W.Frag}
theorem OpR.imp {f : Value → Value → Sem Value} {r r' : R2} (h : OpR X f r) (i : ∀ x y H Q, r' x y H Q → r x y H Q) : OpR X f r' := fun pins s σ H x y v u Q I rx ry q => h pins s σ H x y v u Q I rx ry (i _ _ _ _ q)
/-- + of two lists -/
def rCatL (K : PySem.W.Frag) : R2 := fun x y H Q => ∃ l b xs zs, x = .ref l ∧ y = .ref b ∧ SqL K H l xs ∧ SqL K H b zs ∧ xs.length + zs.length ≤ sizeLine ∧ ∀ p, H p = none → Q (.ref p) (upd H p (.lst (xs ++ zs)))
theorem op_catL : OpR X (binaryOp .Add) (rCatL X.K) := by
  intro pins s σ H x y v u Q I rx ry h
  obtain ⟨l, b, xs, zs, rfl, rfl, hl, hb, hz, q⟩ := h
  cases rx
  cases ry
  obtain ⟨its, r, ⟨⟨cls, dd, data, sl⟩, n, ho, hc, hd, hdat⟩, _⟩ := I.list hl
  obtain ⟨its2, r2, ⟨⟨cls2, dd2, data2, sl2⟩, n2, ho2, hc2, hd2, hdat2⟩, _⟩ := I.list hb
  simp only at hc hd hdat hc2 hd2 hdat2
  subst hc hd hdat hc2 hd2 hdat2
  have l1 := r.length
  have l2 := r2.length
  refine concat_meets ⟨_, ho, rfl⟩ ⟨_, ho2, rfl⟩ noFill_list_add seq_list_add PySem.F.slot_list_add PySem.F.entry_list_add (PySem.F.args_list_add_2 _ _) (list_addW l b its.toArray its2.toArray n n2 none none sl sl2 (by simp; omega)) ⟨ho, ho2, ?_⟩
  have ea : its.toArray ++ its2.toArray = (its ++ its2).toArray := by simp
  rw [ea]
  exact ⟨.ref _, _, I.lnew (t' := s.toks) (r.append r2) (by rw [List.length_append]; omega), rfl, q _ I.fresh⟩
end
end DL
namespace DL
open PySem PySem.Spec PyProof.Rows L2
variable [TheW]
section
variable {X : Cx} {K : PySem.W.Frag}
/-! ### a + b, a - b, .. -/
def gAdd : PyData → PyData → R PyData
  | .int a, .int b => .ok (.int (a + b))
  | .str a, .str b => if a.length + b.length ≤ sizeLine then .ok (.str (a ++ b)) else .bad
  | .list a, .list b => if a.length + b.length ≤ sizeLine then .ok (.list (a ++ b)) else .bad
  | .tuple a, .tuple b => if a.length + b.length ≤ sizeLine then .ok (.tuple (a ++ b)) else .bad
  | _, _ => .bad
/-- t + u: a new tuple, or the one that is not empty -/
def rCatF (K : PySem.W.Frag) : R2 := fun x y H Q => ∃ a b xs ys, x = .ref a ∧ y = .ref b ∧ SqT K H a xs ∧ SqT K H b ys ∧ xs.length + ys.length ≤ sizeLine ∧
  (xs = [] → Q (.ref b) H) ∧ (xs ≠ [] → ys = [] → Q (.ref a) H) ∧ (xs ≠ [] → ys ≠ [] → ∀ p o, H p = none → o.dict = none → Q (.ref p) (upd H p (.frz o (.tup (xs ++ ys)))))
theorem op_catF : OpR X (binaryOp .Add) (rCatF X.K) := by
  intro pins s σ H x y v u Q I rx ry h
  obtain ⟨a, b, xs, ys, rfl, rfl, ha, hb, hz, q0, q1, q2⟩ := h
  cases rx
  cases ry
  obtain ⟨its, r1, p1, _⟩ := I.tuple ha
  obtain ⟨its2, r2, p2, _⟩ := I.tuple hb
  by_cases hx : xs = []
  · subst hx
    cases r1
    exact cat_tup0 p1 p2 ⟨.ref b, H, I, rfl, q0 rfl⟩
  · refine HT.cat_tup p1 p2 (fun z => hx (r1.nil_iff.mp z)) (fun z => ⟨.ref a, H, I, rfl, q1 hx (r2.nil_iff.mp z)⟩) (fun z => ?_) (by rw [← r1.length, ← r2.length]; exact hz)
    obtain ⟨I2, hn⟩ := lay_tup (tk := s.toks) I (xs := xs ++ ys) (by rw [List.length_append]; exact hz) (r1.append r2)
    exact ⟨.ref s.heap.objs.size, _, I2, rfl, q2 hx (fun w => z (r2.nil_iff.mpr w)) _ _ hn rfl⟩
def rAddD (K : PySem.W.Frag) : R2 := fun x y H Q => (((∃ i j, x = .int i ∧ y = .int j ∧ Q (.int (i + j)) H) ∨ (∃ i j, x = .str i ∧ y = .str j ∧ i.length + j.length ≤ sizeLine ∧ Q (.str (i ++ j)) H)) ∨ rCatL K x y H Q) ∨ rCatF K x y H Q
theorem op_addD : OpR X (binaryOp .Add) (rAddD X.K) := ((op_add.or op_add_str).or op_catL).or op_catF
theorem o_add : Op2 K (rAddD K) gAdd := fun F H x y dx dy d s rx ry h Q q => by
  cases rx with
  | int i =>
    cases ry with
    | int j => cases h; exact .inl (.inl (.inl ⟨i, j, rfl, rfl, q _ F H (.refl s) (.int _)⟩))
    | _ => cases h
  | str i hi =>
    cases ry with
    | str j hj =>
      have h : (if i.length + j.length ≤ sizeLine then R.ok (PyData.str (i ++ j)) else .bad) = .ok d := h
      split at h
      · rename_i hz
        cases h
        exact .inl (.inl (.inr ⟨i, j, rfl, rfl, hz, q _ F H (.refl s) (.str _ (by rw [PySem.Str.length_append]; exact hz))⟩))
      · cases h
    | _ => cases h
  | @lst a xs ds hs z r =>
    cases ry with
    | @lst b ys es hs' z' r' =>
      have h : (if ds.length + es.length ≤ sizeLine then R.ok (PyData.list (ds ++ es)) else .bad) = .ok d := h
      split at h
      · rename_i hz
        cases h
        rw [← r.length, ← r'.length] at hz
        refine .inl (.inr ⟨a, b, xs, ys, rfl, rfl, same_l s hs, same_l s hs', hz, fun p hp => ?_⟩)
        have s2 := Stp.new1 (o := .lst (xs ++ ys)) s hp
        exact q _ _ _ s2 (.lst (.inl (.inl upd_same)) (by rw [List.length_append]; exact hz) ((r.append r').mono s2.fr))
      · cases h
    | _ => cases h
  | @tup a xs ds hs z r =>
    cases ry with
    | @tup b ys es hs' z' r' =>
      have h : (if ds.length + es.length ≤ sizeLine then R.ok (PyData.tuple (ds ++ es)) else .bad) = .ok d := h
      split at h
      · rename_i hz
        cases h
        rw [← r.length, ← r'.length] at hz
        refine .inr ⟨a, b, xs, ys, rfl, rfl, same_t s hs.sq, same_t s hs'.sq, hz, fun e => ?_, fun _ e => ?_, fun _ _ p o hp hd => ?_⟩
        · subst e
          cases r
          exact q _ F H (.refl s) (.tup hs' z' r')
        · subst e
          cases r'
          rw [List.append_nil] at q
          exact q _ F H (.refl s) (.tup hs z r)
        · have s2 := Stp.new1 (o := .frz o (.tup (xs ++ ys))) s hp
          exact q _ _ _ s2 (.tup (.new hd) (by rw [List.length_append]; exact hz) ((r.append r').mono s2.fr))
      · cases h
    | _ => cases h
  | _ => cases h
theorem nx_add : NoX2 gAdd := fun a b e h => by
  unfold gAdd at h
  split at h <;> first | cases h | (split at h <;> cases h)
/-- two ints -/
def gI (g : Int → Int → R PyData) : PyData → PyData → R PyData
  | .int a, .int b => g a b
  | _, _ => .bad
theorem o_int {r : R2} {g : Int → Int → R PyData} (h : ∀ (F H : Hp) (i j : Int) (d : PyData), Same F H → g i j = .ok d → ∀ Q : VK, (∀ v F' H', Stp F H F' H' → Rp K F' v d → Q v H') → r (.int i) (.int j) H Q) : Op2 K r (gI g) := fun F H x y dx dy d s rx ry e Q q => by
  cases rx with
  | int i =>
    cases ry with
    | int j => exact h F H i j d s e Q q
    | _ => cases e
  | _ => cases e
theorem nx_gI {g : Int → Int → R PyData} (n : ∀ i j e, g i j ≠ .exc e) : NoX2 (gI g) := fun a b e h => by
  cases a <;> cases b <;> first | exact n _ _ _ h | cases h
def gSub : PyData → PyData → R PyData := gI fun a b => .ok (.int (a - b))
def gMul : PyData → PyData → R PyData := gI fun a b => if a.natAbs.log2 + b.natAbs.log2 < 1000000 then .ok (.int (a * b)) else .bad
def gFdiv : PyData → PyData → R PyData := gI fun a b => if 0 < b ∧ b.natAbs.log2 < 9000 then .ok (.int (a / b)) else .bad
def gMod : PyData → PyData → R PyData := gI fun a b => if 0 < b then .ok (.int (a % b)) else .bad
def gPow : PyData → PyData → R PyData := gI fun a b => if 0 ≤ b ∧ b ≤ 1000000 ∧ a.natAbs < 2 ^ 64 then .ok (.int (a ^ b.toNat)) else .bad
theorem o_sub : Op2 K (rI0 fun i j => .int (i - j)) gSub := o_int fun F H i j d s e Q q => by
  cases e
  exact ⟨i, j, rfl, rfl, q _ F H (.refl s) (.int _)⟩
theorem o_mul : Op2 K (rI CMulW fun i j => .int (i * j)) gMul := o_int fun F H i j d s e Q q => by
  split at e
  · rename_i hz
    cases e
    exact ⟨i, j, rfl, rfl, hz, q _ F H (.refl s) (.int _)⟩
  · cases e
theorem o_fdiv : Op2 K (rI CDivW fun i j => .int (i / j)) gFdiv := o_int fun F H i j d s e Q q => by
  split at e
  · rename_i hz
    cases e
    exact ⟨i, j, rfl, rfl, hz, q _ F H (.refl s) (.int _)⟩
  · cases e
theorem o_mod : Op2 K (rI (fun _ j => 0 < j) fun i j => .int (i % j)) gMod := o_int fun F H i j d s e Q q => by
  split at e
  · rename_i hz
    cases e
    exact ⟨i, j, rfl, rfl, hz, q _ F H (.refl s) (.int _)⟩
  · cases e
theorem o_pow : Op2 K (rI CPow fun i j => .int (i ^ j.toNat)) gPow := o_int fun F H i j d s e Q q => by
  split at e
  · rename_i hz
    cases e
    exact ⟨i, j, rfl, rfl, hz, q _ F H (.refl s) (.int _)⟩
  · cases e
theorem nx_sub : NoX2 gSub := nx_gI fun _ _ _ h => nomatch h
theorem nx_mul : NoX2 gMul := nx_gI fun _ _ _ h => by split at h <;> cases h
theorem nx_fdiv : NoX2 gFdiv := nx_gI fun _ _ _ h => by split at h <;> cases h
theorem nx_mod : NoX2 gMod := nx_gI fun _ _ _ h => by split at h <;> cases h
theorem nx_pow : NoX2 gPow := nx_gI fun _ _ _ h => by split at h <;> cases h
def gNeg : PyData → R PyData
  | .int a => .ok (.int (-a))
  | _ => .bad
theorem o_neg : Op1 K (rU fun i => .int (-i)) gNeg := fun F H x dx d s rx h Q q => by
  cases rx with
  | int i => cases h; exact ⟨i, rfl, q _ F H (.refl s) (.int _)⟩
  | _ => cases h
theorem nx_neg : ∀ a e, gNeg a ≠ .exc e := fun a e h => by cases a <;> cases h
/-! ### t[i] -/
def gIx : PyData → PyData → R PyData
  | .list ds, .int i => R.of (atI ds i)
  | .tuple ds, .int i => R.of (atI ds i)
  | .str z, .int i => R.of ((atI z.cps.toList i).map fun c => .str ⟨#[c]⟩)
  | _, _ => .bad
theorem RpAll.atI {F : Hp} {xs : List V} {ds : List PyData} {i : Int} {d : PyData} (r : RpAll K F xs ds) (h : atI ds i = some d) : ∃ v, L2.atI xs i = some v ∧ Rp K F v d := by
  unfold L2.atI at h ⊢
  rw [r.length]
  cases e : ixN ds.length i with
  | none => rw [e] at h; cases h
  | some j =>
    rw [e] at h
    exact r.get h
theorem o_ix : Op2 K (rIx K) gIx := fun F H x y dx dy d s rx ry h Q q => by
  cases ry with
  | int i =>
    cases rx with
    | @lst a xs ds hs z r =>
      have h : R.of (atI ds i) = .ok d := h
      cases e : atI ds i with
      | none => rw [e] at h; cases h
      | some d' =>
        rw [e] at h
        cases h
        obtain ⟨v, hv, rv⟩ := r.atI e
        exact .inl ⟨a, xs, i, v, rfl, rfl, same_l s hs, hv, q _ F H (.refl s) rv⟩
    | @tup a xs ds hs z r =>
      have h : R.of (atI ds i) = .ok d := h
      cases e : atI ds i with
      | none => rw [e] at h; cases h
      | some d' =>
        rw [e] at h
        cases h
        obtain ⟨v, hv, rv⟩ := r.atI e
        exact .inr (.inl ⟨a, xs, i, v, rfl, rfl, same_t s hs.sq, hv, q _ F H (.refl s) rv⟩)
    | str z hz =>
      have h : R.of ((atI z.cps.toList i).map fun c => PyData.str ⟨#[c]⟩) = .ok d := h
      cases e : atI z.cps.toList i with
      | none => rw [e] at h; cases h
      | some c =>
        rw [e] at h
        cases h
        exact .inr (.inr ⟨z, i, c, rfl, rfl, hz, e, q _ F H (.refl s) (.str _ (by show 1 ≤ sizeLine; decide))⟩)
    | _ => cases h
  | _ => cases rx <;> cases h
theorem nx_ix : NoX2 gIx := fun a b e h => by
  unfold gIx at h
  split at h <;> first | exact nx_of _ _ h | cases h
/-! ### dicts by keys that are ints and texts -/
mutual
def keyEq : PyData → PyData → Bool
  | .none, .none => true
  | .int i, .int j => i == j
  | .str x, .str y => x == y
  | .tuple xs, .tuple ys => keyEqs xs ys
  | _, _ => false
def keyEqs : List PyData → List PyData → Bool
  | [], [] => true
  | x :: xs, y :: ys => keyEq x y && keyEqs xs ys
  | _, _ => false
end
def isKey : PyData → Bool
  | .int _ => true
  | .str _ => true
  | _ => false
/-! keys that are tuples (of none, ints, texts and such tuples) -/
mutual
def nestOk : PyData → Bool
  | .none => true
  | .int _ => true
  | .str _ => true
  | .tuple ds => nestOks ds
  | _ => false
def nestOks : List PyData → Bool
  | [] => true
  | d :: ds => nestOk d && nestOks ds
end
def isTupD : PyData → Bool
  | .tuple _ => true
  | _ => false
def isNKey (d : PyData) : Bool := isTupD d && nestOk d && decide (d.depth ≤ 8)
mutual
theorem nest_of : ∀ {d : PyData}, nestOk d = true → ∃ k : NestedKey, k.data = d
  | .none, _ => ⟨.none, by simp [NestedKey.data]⟩
  | .int i, _ => ⟨.num i, by simp [NestedKey.data]⟩
  | .str x, _ => ⟨.text x, by simp [NestedKey.data]⟩
  | .tuple ds, h => by
    obtain ⟨ks, e⟩ := nests_of (by simpa [nestOk] using h)
    exact ⟨.tup ks, by simp [NestedKey.data, e]⟩
  | .bool _, h => by simp [nestOk] at h
  | .list _, h => by simp [nestOk] at h
  | .dict _, h => by simp [nestOk] at h
theorem nests_of : ∀ {ds : List PyData}, nestOks ds = true → ∃ ks : List NestedKey, NestedKey.datas ks = ds
  | [], _ => ⟨[], by simp [NestedKey.datas]⟩
  | d :: ds, h => by
    rw [nestOks, Bool.and_eq_true] at h
    obtain ⟨k, e⟩ := nest_of h.1
    obtain ⟨ks, es⟩ := nests_of h.2
    exact ⟨k :: ks, by simp [NestedKey.datas, e, es]⟩
end
mutual
theorem depth_data : ∀ k : NestedKey, k.data.depth = k.depth
  | .none => by simp [NestedKey.data, PyData.depth, NestedKey.depth]
  | .num i => by simp [NestedKey.data, PyData.depth, NestedKey.depth]
  | .text i => by simp [NestedKey.data, PyData.depth, NestedKey.depth]
  | .tup ks => by simp [NestedKey.data, PyData.depth, NestedKey.depth, depth_datas ks]
theorem depth_datas : ∀ ks : List NestedKey, PyData.depthAll (NestedKey.datas ks) = NestedKey.depthAll ks
  | [] => by simp [NestedKey.datas, PyData.depthAll, NestedKey.depthAll]
  | k :: ks => by simp [NestedKey.datas, PyData.depthAll, NestedKey.depthAll, depth_data k, depth_datas ks]
end
mutual
theorem keyEq_data : ∀ (k k' : NestedKey), keyEq k.data k'.data = NestedKey.beq k k'
  | .none, k' => by cases k' <;> simp [NestedKey.data, keyEq, NestedKey.beq]
  | .num i, k' => by cases k' <;> simp [NestedKey.data, keyEq, NestedKey.beq, Bool.beq_eq_decide_eq]
  | .text i, k' => by cases k' <;> simp [NestedKey.data, keyEq, NestedKey.beq, Bool.beq_eq_decide_eq]
  | .tup ks, k' => by
    cases k' with
    | tup ks' => simp [NestedKey.data, keyEq, NestedKey.beq, keyEq_datas ks ks']
    | _ => simp [NestedKey.data, keyEq, NestedKey.beq]
theorem keyEq_datas : ∀ (ks ks' : List NestedKey), keyEqs (NestedKey.datas ks) (NestedKey.datas ks') = NestedKey.beqAll ks ks'
  | [], [] => by simp [NestedKey.datas, keyEqs, NestedKey.beqAll]
  | [], _ :: _ => by simp [NestedKey.datas, keyEqs, NestedKey.beqAll]
  | _ :: _, [] => by simp [NestedKey.datas, keyEqs, NestedKey.beqAll]
  | k :: ks, k' :: ks' => by simp [NestedKey.datas, keyEqs, NestedKey.beqAll, keyEq_data k k', keyEq_datas ks ks']
end
theorem nkey_of {d : PyData} (h : isNKey d = true) : ∃ ks : List NestedKey, (NestedKey.tup ks).data = d ∧ (NestedKey.tup ks).depth ≤ 8 := by
  unfold isNKey at h
  rw [Bool.and_eq_true, Bool.and_eq_true] at h
  obtain ⟨k, rfl⟩ := nest_of h.1.2
  cases k with
  | tup ks => exact ⟨ks, rfl, by rw [← depth_data]; exact of_decide_eq_true h.2⟩
  | none => simp [NestedKey.data, isTupD] at h
  | num _ => simp [NestedKey.data, isTupD] at h
  | text _ => simp [NestedKey.data, isTupD] at h
def keysK (kvs : List (PyData × PyData)) : Bool := kvs.all fun kv => isKey kv.1
def keysN (kvs : List (PyData × PyData)) : Bool := kvs.all fun kv => isNKey kv.1
/-- a key that the dict may be asked for -/
def keyable (kvs : List (PyData × PyData)) (k : PyData) : Bool := (isKey k && keysK kvs) || (isNKey k && keysN kvs)
def dfind (kvs : List (PyData × PyData)) (k : PyData) : Option PyData := (kvs.find? fun kv => keyEq kv.1 k).map (·.2)
theorem keyEq_keyD (k : Key) (k' : Key) : keyEq (keyD k) (keyD k') = decide (k = k') := by
  cases k <;> cases k' <;> simp [keyEq, keyD, Bool.beq_eq_decide_eq]
theorem isKey_keyD (k : Key) : isKey (keyD k) = true := by cases k <;> rfl
theorem isKey_not {d : PyData} (h : isNKey d = true) : isKey d = false := by
  unfold isNKey at h
  rw [Bool.and_eq_true, Bool.and_eq_true] at h
  cases d <;> simp [isTupD, isKey] at h ⊢
theorem key_of_data {F : Hp} {x : V} {d : PyData} (r : Rp K F x d) (h : isKey d = true) : ∃ k : Key, x = kV k ∧ d = keyD k := by
  cases r with
  | int i => exact ⟨.inl i, rfl, rfl⟩
  | str z _ => exact ⟨.inr z, rfl, rfl⟩
  | _ => cases h
theorem RpKV.find {F : Hp} {k : Key} : ∀ {es : List (Key × V)} {kvs : List (PyData × PyData)}, RpKV K F es kvs → match dfind kvs (keyD k) with
    | some d => ∃ v, valV es k = some v ∧ Rp K F v d
    | none => valV es k = none
  | _, _, .nil => rfl
  | _, _, @RpKV.cons _ _ _ k' v es d kvs r rs => by
    have ih := RpKV.find (k := k) rs
    unfold dfind at ih ⊢
    rw [List.find?_cons, keyEq_keyD]
    by_cases c : k' = k
    · rw [decide_eq_true c]
      exact ⟨v, valV_pos c, r⟩
    · rw [decide_eq_false c, valV_neg (p := (k', v)) c]
      exact ih
theorem RpKV.length {F : Hp} : ∀ {es : List (Key × V)} {kvs : List (PyData × PyData)}, RpKV K F es kvs → es.length = kvs.length
  | _, _, .nil => rfl
  | _, _, .cons _ rs => by simp [RpKV.length rs]
theorem dget_of {F H : Hp} {a : Addr} {o : Obj} {es : List (Key × V)} {k : Key} (s : Same F H) (h : F a = some (.frz o (.dK es))) : DGet H a (kV k) (valV es k) := .inl ⟨es, k, .inr ⟨o, s _ _ h⟩, rfl, rfl⟩
/-- a dict of the one kind is none of the other, unless empty -/
theorem RpKV.keys {F : Hp} : ∀ {es : List (Key × V)} {kvs : List (PyData × PyData)}, RpKV K F es kvs → keysK kvs = true
  | _, _, .nil => rfl
  | _, _, @RpKV.cons _ _ _ k' v es d kvs r rs => by
    have := RpKV.keys rs
    unfold keysK at this ⊢
    rw [List.all_cons, this, isKey_keyD]; rfl
theorem RpN.notKey {F : Hp} {es : List (NestedKey × Addr × V)} {kvs : List (PyData × PyData)} (r : RpN K F es kvs) (hn : es ≠ []) : keysK kvs = false := by
  cases r with
  | nil => exact absurd rfl hn
  | @cons k b v xs d kvs z hk hv rs =>
    unfold keysK
    rw [List.all_cons]
    have e : isKey k.data = false := by
      cases k with
      | tup ks => simp [NestedKey.data, isKey]
      | none => simp [NestedKey.data, isKey]
      | num i => rw [show (NestedKey.num i).data = .int i by simp [NestedKey.data]] at hk; cases hk
      | text i => rw [show (NestedKey.text i).data = .str i by simp [NestedKey.data]] at hk; cases hk
    rw [e]; rfl
theorem RpKV.nilN {F : Hp} {es : List (Key × V)} {kvs : List (PyData × PyData)} (r : RpKV K F es kvs) (h : keysN kvs = true) : es = [] ∧ kvs = [] := by
  cases r with
  | nil => exact ⟨rfl, rfl⟩
  | @cons k v es d kvs r rs =>
    exfalso
    unfold keysN at h
    rw [List.all_cons, Bool.and_eq_true] at h
    have := isKey_not h.1
    rw [isKey_keyD] at this
    cases this
/-- d[k] -/
def gDget : PyData → PyData → R PyData
  | .dict kvs, k => if (isKey k && keysK kvs) = true then R.of (dfind kvs k) else .bad
  | _, _ => .bad
def rDget : R2 := fun x y H Q => ∃ a v, x = .ref a ∧ DGet H a y (some v) ∧ Q v H
theorem o_dget : Op2 K rDget gDget := fun F H x y dx dy d s rx ry h Q q => by
  cases rx with
  | @dct a o es kvs hF zz r =>
    have h : (if (isKey dy && keysK kvs) = true then R.of (dfind kvs dy) else .bad) = .ok d := h
    split at h
    · rename_i hk
      rw [Bool.and_eq_true] at hk
      obtain ⟨k, rfl, rfl⟩ := key_of_data ry hk.1
      have f := r.find (k := k)
      cases e : dfind kvs (keyD k) with
      | none => rw [e] at h; cases h
      | some d' =>
        rw [e] at h f
        cases h
        obtain ⟨v, hv, rv⟩ := f
        exact ⟨a, v, rfl, by rw [← hv]; exact dget_of s hF, q _ F H (.refl s) rv⟩
    · cases h
  | @dctN a o xs kvs hF zz hn r =>
    have h : (if (isKey dy && keysK kvs) = true then R.of (dfind kvs dy) else .bad) = .ok d := h
    rw [r.notKey hn, Bool.and_false, if_neg Bool.false_ne_true] at h
    cases h
  | _ => cases h
theorem nx_dget : NoX2 gDget := fun a b e h => by
  unfold gDget at h
  split at h
  · split at h
    · exact nx_of _ _ h
    · cases h
  · cases h
/-! ### in -/
def flatD : PyData → Bool
  | .none => true
  | .bool _ => true
  | .int _ => true
  | .str _ => true
  | _ => false
def inD (x : PyData) (ds : List PyData) : Bool := ds.any fun y => PyData.eqv y x
def gIn (neg : Bool) : PyData → PyData → R PyData
  | .str x, .str z => match x.cps.toList with
    | [c] => .ok (.bool (if neg then !decide (c ∈ z.cps.toList) else decide (c ∈ z.cps.toList)))
    | _ => .bad
  | x, .dict kvs => if (isKey x && keysK kvs) = true then .ok (.bool (if neg then !(dfind kvs x).isSome else (dfind kvs x).isSome)) else .bad
  | x, .tuple ds => if flatD x = true ∧ ds.all flatD = true then .ok (.bool (if neg then !inD x ds else inD x ds)) else .bad
  | x, .list ds => if flatD x = true ∧ ds.all flatD = true then .ok (.bool (if neg then !inD x ds else inD x ds)) else .bad
  | _, _ => .bad
theorem flat_V {F : Hp} {x : V} {d : PyData} (r : Rp K F x d) : flatV x = flatD d := by
  cases r <;> rfl
theorem eqV_D {F : Hp} {x y : V} {d e : PyData} (r : Rp K F x d) (q : Rp K F y e) (h : flatD d = true) (h' : flatD e = true) : eqV x y = PyData.eqv d e := by
  cases r <;> cases q <;> first
    | rfl
    | cases h
    | cases h'
    | (simp [eqV, PyData.eqv]; done)
theorem inV_D {F : Hp} {x : V} {d : PyData} (r : Rp K F x d) (h : flatD d = true) : ∀ {xs : List V} {ds : List PyData}, RpAll K F xs ds → ds.all flatD = true → inV x xs = inD d ds ∧ xs.all flatV = true
  | _, _, .nil, _ => ⟨rfl, rfl⟩
  | _, _, .cons r1 rs, ha => by
    rw [List.all_cons, Bool.and_eq_true] at ha
    obtain ⟨i1, i2⟩ := inV_D r h rs ha.2
    unfold inV inD at i1 ⊢
    rw [List.any_cons, List.any_cons, List.all_cons, i1, i2, eqV_D r1 r ha.1 h, flat_V r1, ha.1]
    exact ⟨rfl, rfl⟩
def rInD (K : PySem.W.Frag) (neg : Bool) : R2 := fun x y H Q => ((∃ (c : Nat) (z : Str), x = .str ⟨#[c]⟩ ∧ y = .str z ∧ Q (.bl (if neg then !decide (c ∈ z.cps.toList) else decide (c ∈ z.cps.toList))) H) ∨
  ∃ a o, y = .ref a ∧ DGet H a x o ∧ Q (.bl (if neg then !o.isSome else o.isSome)) H) ∨ rIn K neg x y H Q
theorem op_inDct (hu : X.A.units + 1 < cLine) : OpR X (compareOp .In) (fun x y H Q => ∃ a o, y = .ref a ∧ DGet H a x o ∧ Q (.bl o.isSome) H) := by
  intro pins s σ H x y v u Q I rx ry h
  obtain ⟨a, o, rfl, g, q⟩ := h
  cases ry
  exact d_in hu I g rx fun s' I' => ⟨.bl _, H, I', rfl, q⟩
theorem op_notInDct (hu : X.A.units + 1 < cLine) : OpR X (compareOp .NotIn) (fun x y H Q => ∃ a o, y = .ref a ∧ DGet H a x o ∧ Q (.bl (!o.isSome)) H) := by
  intro pins s σ H x y v u Q I rx ry h
  obtain ⟨a, o, rfl, g, q⟩ := h
  cases ry
  exact d_notIn hu I g rx fun s' I' => ⟨.bl _, H, I', rfl, q⟩
theorem op_inD (hu : X.A.units + 1 < cLine) : OpR X (compareOp .In) (rInD X.K false) := (op_in_sign.or (op_inDct hu)).or op_in_seq
theorem op_notInD (hu : X.A.units + 1 < cLine) : OpR X (compareOp .NotIn) (rInD X.K true) := (op_notIn_sign.or (op_notInDct hu)).or op_notIn_seq
theorem str_one {x : Str} {c : Nat} (h : x.cps.toList = [c]) : x = ⟨#[c]⟩ := by
  cases x with
  | mk a =>
    have : a.toList = [c] := h
    have e : a = #[c] := by rw [← Array.toArray_toList (xs := a), this]
    rw [e]
theorem o_in (neg : Bool) : Op2 K (rInD K neg) (gIn neg) := fun F H x y dx dy d s rx ry h Q q => by
  cases ry with
  | @dct a o es kvs hF zz r =>
    have h : (if (isKey dx && keysK kvs) = true then R.ok (PyData.bool (if neg then !(dfind kvs dx).isSome else (dfind kvs dx).isSome)) else .bad) = .ok d := by
      cases dx <;> exact h
    split at h
    · rename_i hk
      cases h
      rw [Bool.and_eq_true] at hk
      obtain ⟨k, rfl, rfl⟩ := key_of_data rx hk.1
      have f := r.find (k := k)
      have e : (valV es k).isSome = (dfind kvs (keyD k)).isSome := by
        cases e : dfind kvs (keyD k) with
        | none => rw [e] at f; rw [f]; rfl
        | some d' => rw [e] at f; obtain ⟨v, hv, _⟩ := f; rw [hv]; rfl
      refine .inl (.inr ⟨a, _, rfl, dget_of s hF, ?_⟩)
      rw [e]
      exact q _ F H (.refl s) (.bl _)
    · cases h
  | @dctN a o xs kvs hF zz hn r =>
    have h : (if (isKey dx && keysK kvs) = true then R.ok (PyData.bool (if neg then !(dfind kvs dx).isSome else (dfind kvs dx).isSome)) else .bad) = .ok d := by
      cases dx <;> exact h
    rw [r.notKey hn, Bool.and_false, if_neg Bool.false_ne_true] at h
    cases h
  | @tup a xs ds hs z r =>
    have h : (if flatD dx = true ∧ ds.all flatD = true then R.ok (PyData.bool (if neg then !inD dx ds else inD dx ds)) else .bad) = .ok d := by
      cases dx <;> exact h
    split at h
    · rename_i hk
      cases h
      obtain ⟨i1, i2⟩ := inV_D rx hk.1 r hk.2
      refine .inr ⟨a, xs, rfl, .inr (same_t s hs.sq), by rw [flat_V rx]; exact hk.1, i2, ?_⟩
      rw [i1]
      exact q _ F H (.refl s) (.bl _)
    · cases h
  | @lst a xs ds hs z r =>
    have h : (if flatD dx = true ∧ ds.all flatD = true then R.ok (PyData.bool (if neg then !inD dx ds else inD dx ds)) else .bad) = .ok d := by
      cases dx <;> exact h
    split at h
    · rename_i hk
      cases h
      obtain ⟨i1, i2⟩ := inV_D rx hk.1 r hk.2
      refine .inr ⟨a, xs, rfl, .inl (same_l s hs), by rw [flat_V rx]; exact hk.1, i2, ?_⟩
      rw [i1]
      exact q _ F H (.refl s) (.bl _)
    · cases h
  | str z hz =>
    cases rx with
    | str x hx =>
      have h : (match x.cps.toList with | [c] => R.ok (PyData.bool (if neg then !decide (c ∈ z.cps.toList) else decide (c ∈ z.cps.toList))) | _ => .bad) = .ok d := h
      split at h
      · rename_i c hc
        cases h
        have e := str_one hc
        subst e
        exact .inl (.inl ⟨c, z, rfl, rfl, q _ F H (.refl s) (.bl _)⟩)
      · cases h
    | _ => cases h
  | _ => cases rx <;> cases h
theorem nx_in (neg : Bool) : NoX2 (gIn neg) := fun a b e h => by
  unfold gIn at h
  split at h <;> first | cases h | (split at h <;> cases h)
end
end DL
namespace DL
open PySem PySem.Spec PyProof.Rows L2
variable [TheW]
section
variable {X : Cx} {F0 H0 : Hp} {W : WX} {K : PySem.W.Frag} {mg : Str → Option Value}
/-! ### t[lo:hi] -/
def tDO (K : PySem.W.Frag) (mg : Str → Option Value) (F0 H0 : Hp) (W : WX) (f : DEnv → R (Option Int)) : TO := fun σ H Q => ∃ F ρ, Ok K F0 H0 F ρ σ H ∧ match f ρ with
  | .ok o => ∀ F' H', Stp F H F' H' → Q o H'
  | .exc e => Exc K mg W F H σ e
  | .bad => False
def DO (X : Cx) (F0 H0 : Hp) (W : WX) (e : Option Expr) (f : DEnv → R (Option Int)) : Prop := PO X e (tDO X.K X.mg F0 H0 W f)
theorem PO.imp {e : Option Expr} {t t' : TO} (h : PO X e t) (i : ∀ σ H Q, t' σ H Q → t σ H Q) : PO X e t' := ⟨fun pins s σ H Q I q => h.run pins s σ H Q I (i σ H Q q)⟩
def fNo : DEnv → R (Option Int) := fun _ => .ok none
def intD : PyData → R (Option Int)
  | .int i => .ok (some i)
  | _ => .bad
def fPart (f : DEnv → R PyData) : DEnv → R (Option Int) := fun ρ => (f ρ).bind intD
theorem do_none : DO X F0 H0 W none fNo := PO.imp po_none fun σ H Q h => by
  obtain ⟨F, ρ, k, h⟩ := h
  exact h F H (.refl k.st.sub)
theorem do_some {e : Expr} {f : DEnv → R PyData} (he : DE X F0 H0 W e f) : DO X F0 H0 W (some e) (fPart f) := PO.imp (po_some he) fun σ H Q h => by
  obtain ⟨F, ρ, k, h⟩ := h
  unfold fPart at h
  refine ⟨F, ρ, k, ?_⟩
  cases e1 : f ρ with
  | bad => rw [e1] at h; exact h
  | exc x => rw [e1] at h; exact h
  | ok d =>
    rw [e1, R.bind_ok] at h
    cases d with
    | int i => exact fun v F' H' s r => by cases r; exact ⟨i, rfl, h F' H' s⟩
    | _ => exact h.elim
def cutL {α : Type} (xs : List α) (lo hi : Option Int) : List α := (xs.drop (HT.sIx xs.length 0 lo)).take (HT.sIx xs.length xs.length hi - HT.sIx xs.length 0 lo)
def gSl (lo hi : Option Int) : PyData → R PyData
  | .list ds => .ok (.list (cutL ds lo hi))
  | .tuple ds => .ok (.tuple (cutL ds lo hi))
  | .str z => .ok (.str (cutS z lo hi))
  | _ => .bad
theorem RpAll.cut {F : Hp} {xs : List V} {ds : List PyData} (r : RpAll K F xs ds) (lo hi : Option Int) : RpAll K F (cutV xs lo hi) (cutL ds lo hi) := by
  unfold cutV cutL
  rw [r.length]
  exact (r.drop _).take _
/-- t[lo:hi]: the whole of it is t itself -/
def rSlF (K : PySem.W.Frag) : V → Option Int → Option Int → Hp → VK → Prop := fun x lo hi H Q => ∃ a xs, x = .ref a ∧ SqT K H a xs ∧
  (HT.sIx xs.length 0 lo = 0 ∧ HT.sIx xs.length xs.length hi = xs.length → Q (.ref a) H) ∧ (¬ (HT.sIx xs.length 0 lo = 0 ∧ HT.sIx xs.length xs.length hi = xs.length) → ∀ p o, H p = none → o.dict = none → Q (.ref p) (upd H p (.frz o (.tup (cutV xs lo hi)))))
theorem sl_tupF : SlR X (rSlF X.K) := by
  intro pins s σ H x v vl vu lo hi sl Q I rx hs pl pu h
  obtain ⟨a, xs, rfl, hx, q1, q2⟩ := h
  cases rx
  obtain ⟨its, r, ht, hz⟩ := I.tuple hx
  have hlen : its.toArray.size = xs.length := by rw [List.size_toArray]; exact r.length.symm
  refine ⟨"tuple", _, PyProof.Rows.slot_tuple_getitem.lookup, ht.typeIs, ?_⟩
  by_cases hw : HT.sIx xs.length 0 lo = 0 ∧ HT.sIx xs.length xs.length hi = xs.length
  · exact getItem_tuple_whole ht hs pl pu (by rw [hlen]; exact hw) ⟨.ref a, H, I, rfl, q1 hw⟩
  · refine HT.getItem_tuple_cut ht hs pl pu (by rw [hlen]; exact hw) ?_ (by rw [hlen]; exact hz)
    rw [hlen]
    obtain ⟨I2, hn⟩ := lay_tup (tk := s.toks) I (xs := cutV xs lo hi) (Nat.le_trans (cutV_length xs lo hi) hz) ((r.drop (HT.sIx xs.length 0 lo)).take (HT.sIx xs.length xs.length hi - HT.sIx xs.length 0 lo))
    exact ⟨.ref s.heap.objs.size, _, I2, rfl, q2 hw _ _ hn rfl⟩
def rSlD (K : PySem.W.Frag) : V → Option Int → Option Int → Hp → VK → Prop := fun x lo hi H Q => (rSlL K x lo hi H Q ∨ rSlF K x lo hi H Q) ∨ rSlS x lo hi H Q
theorem sl_D : SlR X (rSlD X.K) := (sl_list.or sl_tupF).or sl_str
theorem o_sl {F H : Hp} {x : V} {dx d : PyData} {lo hi : Option Int} (s : Same F H) (rx : Rp K F x dx) (h : gSl lo hi dx = .ok d) (Q : VK) (q : ∀ v F' H', Stp F H F' H' → Rp K F' v d → Q v H') : rSlD K x lo hi H Q := by
  cases rx with
  | @lst a xs ds hs z r =>
    cases h
    refine .inl (.inl ⟨a, xs, rfl, same_l s hs, fun p hp => ?_⟩)
    have s2 := Stp.new1 (o := .lst (cutV xs lo hi)) s hp
    exact q _ _ _ s2 (.lst (.inl (.inl upd_same)) (Nat.le_trans (cutV_length _ _ _) z) ((r.cut lo hi).mono s2.fr))
  | @tup a xs ds hs z r =>
    cases h
    refine .inl (.inr ⟨a, xs, rfl, same_t s hs.sq, fun e => ?_, fun _ p o hp hd => ?_⟩)
    · have e2 : cutL ds lo hi = ds := by
        unfold cutL
        rw [← r.length, e.1, e.2, List.drop_zero, Nat.sub_zero, r.length, List.take_length]
      rw [e2] at q
      exact q _ F H (.refl s) (.tup hs z r)
    · have s2 := Stp.new1 (o := .frz o (.tup (cutV xs lo hi))) s hp
      exact q _ _ _ s2 (.tup (.new hd) (Nat.le_trans (cutV_length _ _ _) z) ((r.cut lo hi).mono s2.fr))
  | str z hz =>
    cases h
    exact .inr ⟨z, rfl, hz, q _ F H (.refl s) (.str _ (Nat.le_trans (cutS_length z lo hi) hz))⟩
  | _ => cases h
theorem nx_sl (lo hi : Option Int) : ∀ a e, gSl lo hi a ≠ .exc e := fun a e h => by cases a <;> cases h
def fSl (fe : DEnv → R PyData) (fl fh : DEnv → R (Option Int)) : DEnv → R PyData := fun ρ => (fe ρ).bind fun d => (fl ρ).bind fun lo => (fh ρ).bind fun hi => gSl lo hi d
theorem de_slice {e : Expr} {lo hi : Option Expr} {fe : DEnv → R PyData} {fl fh : DEnv → R (Option Int)} {p2 pos : Pos} (he : DE X F0 H0 W e fe) (hl : DO X F0 H0 W lo fl) (hu : DO X F0 H0 W hi fh) :
    DE X F0 H0 W (.Subscript e (.Slice lo hi none p2) pos) (fSl fe fl fh) := PE.imp (pe_slice sl_D he hl hu) fun σ H Q h => by
  obtain ⟨F, ρ, k, h⟩ := h
  unfold fSl at h
  refine ⟨F, ρ, k, ?_⟩
  cases e1 : fe ρ with
  | bad => rw [e1] at h; exact h
  | exc x => rw [e1] at h; exact h
  | ok d =>
    rw [e1, R.bind_ok] at h
    refine fun x F1 H1 s1 r1 => ⟨F1, ρ, k.step s1, ?_⟩
    cases e2 : fl ρ with
    | bad => rw [e2] at h; exact h
    | exc x => rw [e2] at h; exact h.step s1
    | ok l =>
      rw [e2, R.bind_ok] at h
      refine fun F2 H2 s2 => ⟨F2, ρ, k.step (s1.trans s2), ?_⟩
      cases e3 : fh ρ with
      | bad => rw [e3] at h; exact h
      | exc x => rw [e3] at h; exact h.step (s1.trans s2)
      | ok u =>
        rw [e3, R.bind_ok] at h
        intro F3 H3 s3
        cases e4 : gSl l u d with
        | bad => rw [e4] at h; exact h.elim
        | exc z => exact absurd e4 (nx_sl _ _ _ _)
        | ok d' =>
          rw [e4] at h
          exact o_sl s3.sub (r1.mono (s2.trans s3).fr) e4 Q fun v F4 H4 s4 r4 => h v F4 H4 (((s1.trans s2).trans s3).trans s4) r4
/-! ### isinstance -/
def tyName : PyData → String
  | .none => "NoneType"
  | .bool _ => "bool"
  | .int _ => "int"
  | .str _ => "str"
  | .list _ => "list"
  | .tuple _ => "tuple"
  | .dict _ => "dict"
/-- a dict whose keys are tuples is not asked -/
def askable : PyData → Bool
  | .dict kvs => keysK kvs
  | _ => true
theorem tyX_of {F H : Hp} {x : V} {d : PyData} (s : Same F H) (r : Rp K F x d) (ha : askable d = true) : TyX K H x (.type (tyName d)) := by
  cases r with
  | non => exact .base .non
  | bl b => exact .base (.bl b)
  | int i => exact .base (.int i)
  | str z _ => exact .base (.str z)
  | @lst a xs ds hs _ _ =>
    rcases hs with (h | ⟨o, h⟩) | ⟨o, its, n, hk, hc, _⟩
    · exact .base (.lst (s _ _ h))
    · exact .base (.frz (s _ _ h))
    · exact .kList hk hc
  | @tup a xs ds hs _ _ =>
    rcases hs with ⟨o, h, _⟩ | ⟨o, its, n, hk, hc, _⟩
    · exact .fTuple (s _ _ h)
    · exact .kTuple hk hc
  | dct h _ _ => exact .fDict (s _ _ h)
  | dctN h _ hn r => rw [show askable _ = keysK _ from rfl, r.notKey hn] at ha; cases ha
/-- the answers of isinstance for a type -/
def isN (a b : String) : Bool := a == b || (a == "bool" && b == "int")
def isT (T : String) (d : PyData) : Bool := isN (tyName d) T
def TyOk (T : String) : Prop := ∀ d, kitB (tyName d) T = some (isT T d)
theorem tyOk_of {T : String} (h : ∀ a ∈ ["NoneType", "bool", "int", "str", "list", "tuple", "dict"], kitB a T = some (isN a T)) : TyOk T := fun d => h _ (by cases d <;> simp [tyName])
theorem ty_int : TyOk "int" := tyOk_of (by decide +kernel)
theorem ty_bool : TyOk "bool" := tyOk_of (by decide +kernel)
theorem ty_str : TyOk "str" := tyOk_of (by decide +kernel)
theorem ty_list : TyOk "list" := tyOk_of (by decide +kernel)
theorem ty_tuple : TyOk "tuple" := tyOk_of (by decide +kernel)
theorem ty_dict : TyOk "dict" := tyOk_of (by decide +kernel)
@[simp] theorem isT_int_NoneType : isT "int" .none = false := (by decide : isN "NoneType" "int" = false)
@[simp] theorem isT_int_bool (b : Bool) : isT "int" (.bool b) = true := (by decide : isN "bool" "int" = true)
@[simp] theorem isT_int_int (i : Int) : isT "int" (.int i) = true := (by decide : isN "int" "int" = true)
@[simp] theorem isT_int_str (x : Str) : isT "int" (.str x) = false := (by decide : isN "str" "int" = false)
@[simp] theorem isT_int_list (l : List PyData) : isT "int" (.list l) = false := (by decide : isN "list" "int" = false)
@[simp] theorem isT_int_tuple (l : List PyData) : isT "int" (.tuple l) = false := (by decide : isN "tuple" "int" = false)
@[simp] theorem isT_int_dict (k : List (PyData × PyData)) : isT "int" (.dict k) = false := (by decide : isN "dict" "int" = false)
@[simp] theorem isT_bool_NoneType : isT "bool" .none = false := (by decide : isN "NoneType" "bool" = false)
@[simp] theorem isT_bool_bool (b : Bool) : isT "bool" (.bool b) = true := (by decide : isN "bool" "bool" = true)
@[simp] theorem isT_bool_int (i : Int) : isT "bool" (.int i) = false := (by decide : isN "int" "bool" = false)
@[simp] theorem isT_bool_str (x : Str) : isT "bool" (.str x) = false := (by decide : isN "str" "bool" = false)
@[simp] theorem isT_bool_list (l : List PyData) : isT "bool" (.list l) = false := (by decide : isN "list" "bool" = false)
@[simp] theorem isT_bool_tuple (l : List PyData) : isT "bool" (.tuple l) = false := (by decide : isN "tuple" "bool" = false)
@[simp] theorem isT_bool_dict (k : List (PyData × PyData)) : isT "bool" (.dict k) = false := (by decide : isN "dict" "bool" = false)
@[simp] theorem isT_str_NoneType : isT "str" .none = false := (by decide : isN "NoneType" "str" = false)
@[simp] theorem isT_str_bool (b : Bool) : isT "str" (.bool b) = false := (by decide : isN "bool" "str" = false)
@[simp] theorem isT_str_int (i : Int) : isT "str" (.int i) = false := (by decide : isN "int" "str" = false)
@[simp] theorem isT_str_str (x : Str) : isT "str" (.str x) = true := (by decide : isN "str" "str" = true)
@[simp] theorem isT_str_list (l : List PyData) : isT "str" (.list l) = false := (by decide : isN "list" "str" = false)
@[simp] theorem isT_str_tuple (l : List PyData) : isT "str" (.tuple l) = false := (by decide : isN "tuple" "str" = false)
@[simp] theorem isT_str_dict (k : List (PyData × PyData)) : isT "str" (.dict k) = false := (by decide : isN "dict" "str" = false)
@[simp] theorem isT_list_NoneType : isT "list" .none = false := (by decide : isN "NoneType" "list" = false)
@[simp] theorem isT_list_bool (b : Bool) : isT "list" (.bool b) = false := (by decide : isN "bool" "list" = false)
@[simp] theorem isT_list_int (i : Int) : isT "list" (.int i) = false := (by decide : isN "int" "list" = false)
@[simp] theorem isT_list_str (x : Str) : isT "list" (.str x) = false := (by decide : isN "str" "list" = false)
@[simp] theorem isT_list_list (l : List PyData) : isT "list" (.list l) = true := (by decide : isN "list" "list" = true)
@[simp] theorem isT_list_tuple (l : List PyData) : isT "list" (.tuple l) = false := (by decide : isN "tuple" "list" = false)
@[simp] theorem isT_list_dict (k : List (PyData × PyData)) : isT "list" (.dict k) = false := (by decide : isN "dict" "list" = false)
@[simp] theorem isT_tuple_NoneType : isT "tuple" .none = false := (by decide : isN "NoneType" "tuple" = false)
@[simp] theorem isT_tuple_bool (b : Bool) : isT "tuple" (.bool b) = false := (by decide : isN "bool" "tuple" = false)
@[simp] theorem isT_tuple_int (i : Int) : isT "tuple" (.int i) = false := (by decide : isN "int" "tuple" = false)
@[simp] theorem isT_tuple_str (x : Str) : isT "tuple" (.str x) = false := (by decide : isN "str" "tuple" = false)
@[simp] theorem isT_tuple_list (l : List PyData) : isT "tuple" (.list l) = false := (by decide : isN "list" "tuple" = false)
@[simp] theorem isT_tuple_tuple (l : List PyData) : isT "tuple" (.tuple l) = true := (by decide : isN "tuple" "tuple" = true)
@[simp] theorem isT_tuple_dict (k : List (PyData × PyData)) : isT "tuple" (.dict k) = false := (by decide : isN "dict" "tuple" = false)
@[simp] theorem isT_dict_NoneType : isT "dict" .none = false := (by decide : isN "NoneType" "dict" = false)
@[simp] theorem isT_dict_bool (b : Bool) : isT "dict" (.bool b) = false := (by decide : isN "bool" "dict" = false)
@[simp] theorem isT_dict_int (i : Int) : isT "dict" (.int i) = false := (by decide : isN "int" "dict" = false)
@[simp] theorem isT_dict_str (x : Str) : isT "dict" (.str x) = false := (by decide : isN "str" "dict" = false)
@[simp] theorem isT_dict_list (l : List PyData) : isT "dict" (.list l) = false := (by decide : isN "list" "dict" = false)
@[simp] theorem isT_dict_tuple (l : List PyData) : isT "dict" (.tuple l) = false := (by decide : isN "tuple" "dict" = false)
@[simp] theorem isT_dict_dict (k : List (PyData × PyData)) : isT "dict" (.dict k) = true := (by decide : isN "dict" "dict" = true)
def gIsi (T : String) (d : PyData) : R PyData := if askable d = true then .ok (.bool (isT T d)) else .bad
theorem de_isi {e : Expr} {f : DEnv → R PyData} {T : String} {xT : Str} {p p2 pos : Pos} (hT : TyOk T) (he : DE X F0 H0 W e f) (hg : Gl X "isinstance") (hm : X.mg "isinstance" = none) (hgT : Gl X xT) (hmT : X.mg xT = none)
    (hbT : bootBuiltins xT = some (.type T)) (hi : bootBuiltins "isinstance" = some (.builtin "isinstance") := by decide +kernel) (hn : xT ≠ "__name__" := by decide) (hd : (xT == ("__debug__" : Str)) = false := by decide)
    (he1 : starEach (e :: [.Name xT p2]) X.env = (false, eval e X.env) :: starEach [.Name xT p2] X.env := by rfl) (he2 : starEach [.Name xT p2] X.env = (false, eval (.Name xT p2) X.env) :: starEach [] X.env := by rfl) (hpl : (backTo pos (starEach [.Name xT p2] X.env)).any (·.1) = false := by rfl) :
    DE X F0 H0 W (.Call (.Name "isinstance" p) [e, .Name xT p2] [] pos) (f1 (gIsi T) f) :=
  PE.imp (pe_callB call_isi hg hm hi (pa_cons he (pa_cons (pe_bltn (v := .ty T) hgT hmT hbT rfl hn hd) pa_nil he2) he1) (by decide) (by decide) he1 hpl) fun σ H Q h => by
    obtain ⟨F, ρ, k, h⟩ := h
    unfold f1 at h
    refine ⟨F, ρ, k, ?_⟩
    cases e1 : f ρ with
    | bad => rw [e1] at h; exact h
    | exc x => rw [e1] at h; exact h
    | ok d =>
      rw [e1, R.bind_ok] at h
      intro x F1 H1 s1 r1
      unfold gIsi at h
      by_cases ha : askable d = true
      · rw [if_pos ha] at h
        exact ⟨x, .ty T, .type (tyName d), .type T, isT T d, rfl, .ty T, tyX_of s1.sub r1 ha, kit_ty (hT d), h _ F1 H1 s1 (.bl _)⟩
      · rw [if_neg ha] at h; exact h.elim
/-! ### built-ins -/
def g1 (g : PyData → R PyData) : List PyData → R PyData
  | [d] => g d
  | _ => .bad
theorem o_1 {r : List V → Hp → VK → Prop} {g : PyData → R PyData} (h : ∀ (F H : Hp) (x : V) (dx d : PyData), Same F H → Rp K F x dx → g dx = .ok d → ∀ Q : VK, (∀ v F' H', Stp F H F' H' → Rp K F' v d → Q v H') → r [x] H Q) : OpC K r (g1 g) := fun F H xs dx d s rx e Q q => by
  cases rx with
  | nil => cases e
  | cons r1 rs =>
    cases rs with
    | nil => exact h F H _ _ d s r1 e Q q
    | cons _ _ => cases e
theorem nx_g1 {g : PyData → R PyData} (n : ∀ a e, g a ≠ .exc e) : ∀ a e, g1 g a ≠ .exc e := fun a e h => by
  match a, h with
  | [], h => cases h
  | [d], h => exact n d e h
  | _ :: _ :: _, h => cases h
def gLen : PyData → R PyData
  | .list ds => .ok (.int ds.length)
  | .tuple ds => .ok (.int ds.length)
  | .str z => .ok (.int z.length)
  | .dict kvs => if keysK kvs = true then .ok (.int kvs.length) else .bad
  | _ => .bad
def rLenD (K : PySem.W.Frag) : List V → Hp → VK → Prop := fun xs H Q => ((∃ p ys, xs = [.ref p] ∧ (SqL K H p ys ∨ SqT K H p ys) ∧ Q (.int ys.length) H) ∨ (∃ z, xs = [.str z] ∧ z.length ≤ sizeLine ∧ Q (.int z.length) H)) ∨ ∃ a kvs, xs = [.ref a] ∧ Rd H a (.dK kvs) ∧ Q (.int kvs.length) H
theorem call_len_dK : CallR X (.builtin "len") (fun xs H Q => ∃ a kvs, xs = [.ref a] ∧ Rd H a (.dK kvs) ∧ Q (.int kvs.length) H) := by
  intro pins s σ H xs us Q I r h
  obtain ⟨a, kvs, rfl, hd, q⟩ := h
  rw [Vals.ref1 r]
  exact d_len I hd fun t s' I' => ⟨.int _, H, I', ⟨t, rfl⟩, q⟩
theorem call_lenD : CallR X (.builtin "len") (rLenD X.K) := (call_len_seq.or call_len_str).or call_len_dK
theorem o_len : OpC K (rLenD K) (g1 gLen) := o_1 fun F H x dx d s r h Q q => by
  cases r with
  | @lst a xs ds hs z ra => cases h; exact .inl (.inl ⟨a, xs, rfl, .inl (same_l s hs), by rw [ra.length]; exact q _ F H (.refl s) (.int _)⟩)
  | @tup a xs ds hs z ra => cases h; exact .inl (.inl ⟨a, xs, rfl, .inr (same_t s hs.sq), by rw [ra.length]; exact q _ F H (.refl s) (.int _)⟩)
  | str z hz => cases h; exact .inl (.inr ⟨z, rfl, hz, q _ F H (.refl s) (.int _)⟩)
  | @dct a o es kvs hF zz ra =>
    have h : (if keysK kvs = true then R.ok (PyData.int kvs.length) else .bad) = .ok d := h
    rw [if_pos ra.keys] at h
    cases h
    exact .inr ⟨a, es, rfl, .inr ⟨o, s _ _ hF⟩, by rw [ra.length]; exact q _ F H (.refl s) (.int _)⟩
  | @dctN a o xs kvs hF zz hn ra =>
    have h : (if keysK kvs = true then R.ok (PyData.int kvs.length) else .bad) = .ok d := h
    rw [ra.notKey hn, if_neg Bool.false_ne_true] at h
    cases h
  | _ => cases h
theorem nx_gLen (a : PyData) (e : Exn) : gLen a ≠ .exc e := fun h => by
  cases a with
  | dict kvs =>
    have h : (if keysK kvs = true then R.ok (PyData.int kvs.length) else .bad) = .exc e := h
    split at h <;> cases h
  | _ => cases h
theorem nx_len : ∀ a e, g1 gLen a ≠ .exc e := nx_g1 nx_gLen
def gAbs : PyData → R PyData
  | .int i => .ok (.int (if i < 0 then -i else i))
  | _ => .bad
theorem o_abs : OpC K (fun xs H Q => ∃ i, xs = [.int i] ∧ Q (.int (if i < 0 then -i else i)) H) (g1 gAbs) := o_1 fun F H x dx d s r h Q q => by
  cases r with
  | int i => cases h; exact ⟨i, rfl, q _ F H (.refl s) (.int _)⟩
  | _ => cases h
theorem nx_abs : ∀ a e, g1 gAbs a ≠ .exc e := nx_g1 fun a e h => by cases a <;> cases h
def gInt : PyData → R PyData
  | .int i => .ok (.int i)
  | .bool b => .ok (.int (if b then 1 else 0))
  | _ => .bad
theorem o_int1 : OpC K (fun xs H Q => (∃ i, xs = [.int i] ∧ Q (.int i) H) ∨ ∃ k, xs = [.bl k] ∧ Q (.int (if k then 1 else 0)) H) (g1 gInt) := o_1 fun F H x dx d s r h Q q => by
  cases r with
  | int i => cases h; exact .inl ⟨i, rfl, q _ F H (.refl s) (.int _)⟩
  | bl b => cases h; exact .inr ⟨b, rfl, q _ F H (.refl s) (.int _)⟩
  | _ => cases h
theorem nx_int1 : ∀ a e, g1 gInt a ≠ .exc e := nx_g1 fun a e h => by cases a <;> cases h
/-- a list's ints, its bools -/
def intsD : List PyData → Option (List Int)
  | [] => some []
  | .int i :: ds => (intsD ds).map (i :: ·)
  | _ :: _ => none
def boolsD : List PyData → Option (List Bool)
  | [] => some []
  | .bool i :: ds => (boolsD ds).map (i :: ·)
  | _ :: _ => none
theorem RpAll.ints {F : Hp} : ∀ {ds : List PyData} {xs : List V} {ns : List Int}, RpAll K F xs ds → intsD ds = some ns → xs = ns.map V.int
  | [], _, _, .nil, h => by cases h; rfl
  | d :: ds, _, ns, .cons r rs, h => by
    cases d with
    | int i =>
      have h : (intsD ds).map (i :: ·) = some ns := h
      cases e : intsD ds with
      | none => rw [e] at h; cases h
      | some ms =>
        rw [e] at h
        cases h
        cases r
        rw [RpAll.ints rs e]
        rfl
    | _ => cases h
theorem RpAll.bools {F : Hp} : ∀ {ds : List PyData} {xs : List V} {ns : List Bool}, RpAll K F xs ds → boolsD ds = some ns → xs = ns.map V.bl
  | [], _, _, .nil, h => by cases h; rfl
  | d :: ds, _, ns, .cons r rs, h => by
    cases d with
    | bool i =>
      have h : (boolsD ds).map (i :: ·) = some ns := h
      cases e : boolsD ds with
      | none => rw [e] at h; cases h
      | some ms =>
        rw [e] at h
        cases h
        cases r
        rw [RpAll.bools rs e]
        rfl
    | _ => cases h
def gSum : PyData → R PyData
  | .list ds => match intsD ds with
    | some ns => .ok (.int ns.sum)
    | none => .bad
  | _ => .bad
theorem o_sum : OpC K (rSum K) (g1 gSum) := o_1 fun F H x dx d s r h Q q => by
  cases r with
  | @lst a xs ds hs z ra =>
    unfold gSum at h
    dsimp only at h
    split at h
    · rename_i ns e
      cases h
      have ex := ra.ints e
      subst ex
      exact ⟨a, ns, rfl, same_l s hs, q _ F H (.refl s) (.int _)⟩
    · cases h
  | _ => cases h
theorem nx_sum : ∀ a e, g1 gSum a ≠ .exc e := nx_g1 fun a e h => by
  unfold gSum at h
  split at h
  · split at h <;> cases h
  · cases h
def gAll : PyData → R PyData
  | .list ds => match boolsD ds with
    | some bs => .ok (.bool (bs.all id))
    | none => .bad
  | _ => .bad
def gAny : PyData → R PyData
  | .list ds => match boolsD ds with
    | some bs => .ok (.bool (bs.any id))
    | none => .bad
  | _ => .bad
theorem o_all : OpC K (rAll K) (g1 gAll) := o_1 fun F H x dx d s r h Q q => by
  cases r with
  | @lst a xs ds hs z ra =>
    unfold gAll at h
    dsimp only at h
    split at h
    · rename_i ns e
      cases h
      have ex := ra.bools e
      subst ex
      exact ⟨a, ns, rfl, same_l s hs, q _ F H (.refl s) (.bl _)⟩
    · cases h
  | _ => cases h
theorem o_any : OpC K (rAny K) (g1 gAny) := o_1 fun F H x dx d s r h Q q => by
  cases r with
  | @lst a xs ds hs z ra =>
    unfold gAny at h
    dsimp only at h
    split at h
    · rename_i ns e
      cases h
      have ex := ra.bools e
      subst ex
      exact ⟨a, ns, rfl, same_l s hs, q _ F H (.refl s) (.bl _)⟩
    · cases h
  | _ => cases h
theorem nx_all : ∀ a e, g1 gAll a ≠ .exc e := nx_g1 fun a e h => by
  unfold gAll at h
  split at h
  · split at h <;> cases h
  · cases h
theorem nx_any : ∀ a e, g1 gAny a ≠ .exc e := nx_g1 fun a e h => by
  unfold gAny at h
  split at h
  · split at h <;> cases h
  · cases h
/-! least and greatest of ints -/
def minI : List Int → Option Int
  | [] => none
  | n :: ns => some (PySem.W.minOf n ns)
def maxI : List Int → Option Int
  | [] => none
  | n :: ns => some (PySem.W.maxOf n ns)
/-- of a list, of a tuple, of the arguments -/
def gMM (m : List Int → Option Int) : List PyData → R PyData
  | [.list ds] => R.of (((intsD ds).bind m).map .int)
  | [.tuple ds] => R.of (((intsD ds).bind m).map .int)
  | [.int i, .int j] => R.of ((m [i, j]).map .int)
  | _ => .bad
def rMM (K : PySem.W.Frag) (m : List Int → Option Int) : List V → Hp → VK → Prop := fun vs H Q => (∃ (a : Addr) (n : Int) (ns : List Int), vs = [V.ref a] ∧ (SqL K H a ((n :: ns).map V.int) ∨ SqT K H a ((n :: ns).map V.int)) ∧ ∀ k, m (n :: ns) = some k → Q (.int k) H) ∨
  ∃ i j, vs = [.int i, .int j] ∧ ∀ k, m [i, j] = some k → Q (.int k) H
theorem holdAll_ints {h : Heap} : ∀ {us : List Value} {ns : List Int}, Vals (ns.map V.int) us → PySem.W.HoldAll h us ns
  | _, [], .nil => .nil
  | _, n :: ns, .cons r rs => by
    obtain ⟨t, rfl⟩ := r
    exact PySem.W.HoldAll.cons ⟨_, .int n t⟩ (holdAll_ints rs)
theorem call_minD (hc : X.calm = true) (hu : X.A.units + 64 < cLine) : CallR X (.builtin "min") (rMM X.K minI) := by
  intro pins s σ H vs us Q I r h
  rcases h with ⟨a, n, ns, rfl, hs, q⟩ | ⟨i, j, rfl, q⟩
  · rw [Vals.ref1 r]
    have fin : ∀ (v : Value) (h' : Heap) (tk : Nat), PySem.W.Holds h' v (PySem.W.minOf n ns) → (∀ b o, s.heap.get? b = some o → h'.get? b = some o) → EP X pins σ Q v { s with heap := h', toks := tk } := fun v h' tk hv hk => by
      obtain ⟨as, rd⟩ := hv
      cases rd with
      | int i t => exact ⟨.int _, H, I.kept hk, ⟨_, rfl⟩, q _ rfl⟩
    rcases hs with hs | hs
    · obtain ⟨its, rv, hl, _⟩ := I.list hs
      exact PySem.W.min_list_datum (I.ok.hd hc) hl.isList (holdAll_ints rv) (by show X.A.units + 1 + 0 < cLine; omega) fun i v h' tk _ hv hk => fin v h' tk hv hk
    · obtain ⟨its, rv, hl, _⟩ := I.tuple hs
      exact PySem.W.min_tuple_datum (I.ok.hd hc) hl (holdAll_ints rv) (by show X.A.units + 1 + 0 < cLine; omega) fun i v h' tk _ hv hk => fin v h' tk hv hk
  · refine call_min2 hc pins s σ H _ us Q I r ⟨i, j, rfl, ?_⟩
    refine q _ ?_
    show some (if (decide (j < i)) = true then j else i) = _
    by_cases c : j < i
    · rw [if_pos (decide_eq_true c), if_pos c]
    · rw [if_neg (by simpa using c), if_neg c]
theorem call_maxD (hc : X.calm = true) (hu : X.A.units + 64 < cLine) : CallR X (.builtin "max") (rMM X.K maxI) := by
  intro pins s σ H vs us Q I r h
  rcases h with ⟨a, n, ns, rfl, hs, q⟩ | ⟨i, j, rfl, q⟩
  · rw [Vals.ref1 r]
    have fin : ∀ (v : Value) (h' : Heap) (tk : Nat), PySem.W.Holds h' v (PySem.W.maxOf n ns) → (∀ b o, s.heap.get? b = some o → h'.get? b = some o) → EP X pins σ Q v { s with heap := h', toks := tk } := fun v h' tk hv hk => by
      obtain ⟨as, rd⟩ := hv
      cases rd with
      | int i t => exact ⟨.int _, H, I.kept hk, ⟨_, rfl⟩, q _ rfl⟩
    rcases hs with hs | hs
    · obtain ⟨its, rv, hl, _⟩ := I.list hs
      exact PySem.W.max_list_datum (I.ok.hd hc) hl.isList (holdAll_ints rv) (by show X.A.units + 1 + 0 < cLine; omega) fun i v h' tk _ hv hk => fin v h' tk hv hk
    · obtain ⟨its, rv, hl, _⟩ := I.tuple hs
      exact PySem.W.max_tuple_datum (I.ok.hd hc) hl (holdAll_ints rv) (by show X.A.units + 1 + 0 < cLine; omega) fun i v h' tk _ hv hk => fin v h' tk hv hk
  · refine call_max2 hc pins s σ H _ us Q I r ⟨i, j, rfl, ?_⟩
    refine q _ ?_
    show some (if (decide (i < j)) = true then j else i) = _
    by_cases c : i < j
    · rw [if_pos (decide_eq_true c), if_pos (show j > i from c)]
    · rw [if_neg (by simpa using c), if_neg (show ¬ j > i from c)]
theorem o_mm {m : List Int → Option Int} (h0 : m [] = none) : OpC K (rMM K m) (gMM m) := fun F H xs dx d s rx h Q q => by
  unfold gMM at h
  split at h
  · rename_i ds
    cases rx with
    | cons r1 rs =>
      cases rs
      cases r1 with
      | @lst a xs _ hs z ra =>
        cases e : intsD ds with
        | none => rw [e] at h; cases h
        | some ns =>
          rw [e, Option.bind_some] at h
          have ex := ra.ints e
          subst ex
          cases ns with
          | nil => rw [h0] at h; cases h
          | cons n ns =>
            refine .inl ⟨a, n, ns, rfl, .inl (same_l s hs), fun k hk => ?_⟩
            rw [hk] at h
            cases h
            exact q _ F H (.refl s) (.int _)
  · rename_i ds
    cases rx with
    | cons r1 rs =>
      cases rs
      cases r1 with
      | @tup a xs _ hs z ra =>
        cases e : intsD ds with
        | none => rw [e] at h; cases h
        | some ns =>
          rw [e, Option.bind_some] at h
          have ex := ra.ints e
          subst ex
          cases ns with
          | nil => rw [h0] at h; cases h
          | cons n ns =>
            refine .inl ⟨a, n, ns, rfl, .inr (same_t s hs.sq), fun k hk => ?_⟩
            rw [hk] at h
            cases h
            exact q _ F H (.refl s) (.int _)
  · rename_i i j
    cases rx with
    | cons r1 rs =>
      cases rs with
      | cons r2 rs =>
        cases rs
        cases r1
        cases r2
        refine .inr ⟨i, j, rfl, fun k hk => ?_⟩
        rw [hk] at h
        cases h
        exact q _ F H (.refl s) (.int _)
  · cases h
theorem nx_mm {m : List Int → Option Int} : ∀ a e, gMM m a ≠ .exc e := fun a e h => by
  unfold gMM at h
  split at h <;> first | exact nx_of _ _ h | cases h
/-! list(..), tuple(..) -/
def gTuple : PyData → R PyData
  | .list ds => .ok (.tuple ds)
  | .tuple ds => .ok (.tuple ds)
  | _ => .bad
def rTupleC (K : PySem.W.Frag) : List V → Hp → VK → Prop := fun xs H Q => ∃ p ys, xs = [.ref p] ∧ ((SqL K H p ys ∧ ∀ l o, H l = none → o.dict = none → Q (.ref l) (upd H l (.frz o (.tup ys)))) ∨ (SqT K H p ys ∧ Q (.ref p) H))
theorem call_tupleF : CallR X (.type "tuple") (rTupleC X.K) := by
  intro pins s σ H xs us Q I r h
  obtain ⟨p, ys, rfl, h⟩ := h
  obtain ⟨u, rfl, rx⟩ := vals1 r
  cases rx
  rcases h with ⟨hq, q⟩ | ⟨hq, q⟩
  · obtain ⟨its, r', pl, hz⟩ := I.list hq
    have hlen := r'.length
    refine call_tuple_list pl.isList (fun h' kp => ?_) (by simp only [List.size_toArray] <;> omega)
    obtain ⟨I2, hn⟩ := lay_tup (tk := s.toks) (I.kept (t' := s.toks) kp) hz r'
    exact ⟨.ref h'.objs.size, _, I2, rfl, q _ _ hn rfl⟩
  · obtain ⟨its, r', pl, hz⟩ := I.tuple hq
    exact call_tuple_same pl ⟨.ref p, H, I, rfl, q⟩
theorem o_tuple : OpC K (rTupleC K) (g1 gTuple) := o_1 fun F H x dx d s r h Q q => by
  cases r with
  | @lst a xs ds hs z ra =>
    cases h
    refine ⟨a, xs, rfl, .inl ⟨same_l s hs, fun p o hp hd => ?_⟩⟩
    have s2 := Stp.new1 (o := .frz o (.tup xs)) s hp
    exact q _ _ _ s2 (.tup (.new hd) z (ra.mono s2.fr))
  | @tup a xs ds hs z ra =>
    cases h
    exact ⟨a, xs, rfl, .inr ⟨same_t s hs.sq, q _ F H (.refl s) (.tup hs z ra)⟩⟩
  | _ => cases h
theorem nx_tuple : ∀ a e, g1 gTuple a ≠ .exc e := nx_g1 fun a e h => by cases a <;> cases h
def gList : PyData → R PyData
  | .list ds => .ok (.list ds)
  | .tuple ds => .ok (.list ds)
  | _ => .bad
def rListC (K : PySem.W.Frag) : List V → Hp → VK → Prop := fun xs H Q => ∃ p ys, xs = [.ref p] ∧ (SqL K H p ys ∨ SqT K H p ys) ∧ ∀ l, H l = none → Q (.ref l) (upd H l (.lst ys))
theorem o_list : OpC K (rListC K) (g1 gList) := o_1 fun F H x dx d s r h Q q => by
  cases r with
  | @lst a xs ds hs z ra =>
    cases h
    refine ⟨a, xs, rfl, .inl (same_l s hs), fun p hp => ?_⟩
    have s2 := Stp.new1 (o := .lst xs) s hp
    exact q _ _ _ s2 (.lst (.inl (.inl upd_same)) z (ra.mono s2.fr))
  | @tup a xs ds hs z ra =>
    cases h
    refine ⟨a, xs, rfl, .inr (same_t s hs.sq), fun p hp => ?_⟩
    have s2 := Stp.new1 (o := .lst xs) s hp
    exact q _ _ _ s2 (.lst (.inl (.inl upd_same)) z (ra.mono s2.fr))
  | _ => cases h
theorem nx_list : ∀ a e, g1 gList a ≠ .exc e := nx_g1 fun a e h => by cases a <;> cases h
end
end DL
namespace DL
open PySem PySem.Spec PyProof.Rows L2
variable [TheW]
/-! ### enumerate(tuple) -/
set_option maxHeartbeats 1000000 in
theorem meets_enum1 {v : Value} {o : Obj} {H : Heap → Prop} (B : Begins v o H) :
    Meets (Builtin.«enumerate.__new__» ⟨[.type "enumerate", v], []⟩) (fun _ R s => H s.heap ∧
      R (.ok (.ret (.ref (s.heap.push o).objs.size))) { s with heap := (s.heap.push o).push { cls := .type "enumerate", data := .fields #[.none, .bool false, .ref s.heap.objs.size, rawInt 0, .none, .none] } }) :=
  .of_wp fun prog w A R s h => by
    obtain ⟨hp, g, d, tk, os⟩ := s; obtain ⟨h1, h⟩ := h
    have hsub := sub_enumerate
    have q1 : ∀ {A' : Around} {E : Value → Shared → Prop} {Q : Value → Shared → Prop}, Q (.ref hp.objs.size) ⟨hp.push o, g, d, tk, os⟩ → wpAny (model prog w) A' (pyIter v) Q E ⟨hp, g, d, tk, os⟩ :=
      fun q => B.iter prog w _ _ ⟨hp, g, d, tk, os⟩ _ h1 q
    wp_walk using q1
    refine wpAny_stack_any fun st => wpAny_pure ?_
    split
    · rename_i c _ _ _ _ _
      cases (c == Value.type "enumerate")
      · wp_walk using q1
        exact ⟨_, rfl, h⟩
      · wp_walk using q1
        exact ⟨_, rfl, h⟩
    · wp_walk using q1
      exact ⟨_, rfl, h⟩
theorem enum_begins1 {prog : Program} {w : World} {A : Around} {E : Value → Shared → Prop} {s : Shared} {v : Value} {o : Obj} {H : Heap → Prop} {Q : Value → Shared → Prop} (B : Begins v o H) (h1 : H s.heap)
    (h : ∀ h', IsEnum h' (s.heap.objs.size + 1) s.heap.objs.size 0 .none → h'.get? s.heap.objs.size = some o → h'.objs.size = s.heap.objs.size + 2 →
      (∀ b o, s.heap.get? b = some o → h'.get? b = some o) → Q (.ref (s.heap.objs.size + 1)) { s with heap := h' }) :
    wpAny (model prog w) A (call (.type "enumerate") [v]) Q E s := by
  refine callType_new F.called_enumerate (by decide) (F.typeCall_enumerate_1 _) (F.newCall_enumerate_1 _) (fun obj => F.args_object_init_2 obj _) F.entry_enumerate_new
    (meets_enum1 B) ⟨h1, ?_⟩
  have hz : (s.heap.push o).objs.size = s.heap.objs.size + 1 := Heap.size_push ..
  show _ ∧ _
  rw [hz]
  have he : IsEnum ((s.heap.push o).push { cls := .type "enumerate", data := .fields #[.none, .bool false, .ref s.heap.objs.size, rawInt 0, .none, .none] }) (s.heap.objs.size + 1) s.heap.objs.size 0 .none := by
    have := Heap.get?_push_size (s.heap.push o) (o := { cls := .type "enumerate", data := .fields #[.none, .bool false, .ref s.heap.objs.size, rawInt 0, .none, .none] }) rfl
    rw [hz] at this; exact this
  refine ⟨⟨_, he, rfl⟩, h _ he (Heap.get?_push_of_some _ (Heap.get?_push_size _ B.free)) (by rw [Heap.size_push, hz]) fun b o x => Heap.get?_push_of_some _ (Heap.get?_push_of_some _ x)⟩
def IteT (K : PySem.W.Frag) (a : Addr) : It :=
  ⟨fun i H => ∃ (xs : List V) (x : V), SqT K H a xs ∧ xs[i]? = some x, fun i H v H' => ∃ T x, v = .ref T ∧ H T = none ∧ H' = upd H T (.tup [.int (i : Nat), x]) ∧ ∀ xs, SqT K H a xs → xs[i]? = some x, fun i H => ∃ xs : List V, SqT K H a xs ∧ xs.length ≤ i⟩
theorem turn_enumT {P : Program} {w : World} {K : PySem.W.Frag} {elts : List Expr} {kk : Nat} {tpos : Pos} (a e it : Addr) :
    Turn P w K (.Tuple elts kk tpos) (IteT K a) [e, it] e (fun i h => (∃ old, IsEnum h e it ((i : Nat) : Int) old) ∧ h.IsTupleIter it a i ∧ e ≠ it ∧ a ≠ it ∧ a ≠ e) where
  mem := by simp
  obj := fun i h st b hb => by
    obtain ⟨⟨old, he⟩, ⟨o, ho, hc, hd⟩, _⟩ := st
    have e' : b = e ∨ b = it := by simpa using hb
    rcases e' with z | z
    · rw [z]; exact ⟨_, he, fun v q => nomatch q⟩
    · rw [z]; exact ⟨o, ho, fun v q => by rw [hd] at q; cases q⟩
  keep := fun i h h' st k => let ⟨⟨old, he⟩, hi, hne⟩ := st; ⟨⟨old, k e (by simp) _ he⟩, hi.at fun o q => k it (by simp) o q, hne⟩
  item := by
    intro X hP hw hK hc i pins s σ H E I hf st hg
    subst hP hw hK
    obtain ⟨⟨old, he⟩, hit, hne, hai, hae⟩ := st
    obtain ⟨xs, x, hq, hx⟩ := hg
    obtain ⟨its, rv, p, hz⟩ := I.tuple hq
    obtain ⟨u, hu, ru⟩ := rv.get hx
    have hel : e < s.heap.objs.size := Heap.lt_size he
    have hil : it < s.heap.objs.size := by obtain ⟨_, q, _⟩ := hit; exact Heap.lt_size q
    have hA : X.A.in1.handled = none := I.ok.hd hc
    have hit0 := hit
    have hlt : i < its.toArray.size := by
      have l := rv.length
      have := (List.getElem?_eq_some_iff.mp hx).1
      rw [List.size_toArray]; omega
    refine wpAny_pyNext_enum_itemD (Draws.tuple hA it a hai its.toArray) he ⟨hit, p⟩ hlt hne (by simp [hne, Ne.symm hae]) fun y h' tk hy ho hst' hT hsz hk => ?_
    have ey : y = u := by
      have : its.toArray[i]? = some u := by simpa using hu
      rw [this] at hy
      exact (Option.some.inj hy).symm
    subst ey
    obtain ⟨hit', _⟩ := hst'
    refine ⟨_, rfl, wpAny_letOwnedTupleGo_enum (s := { s with heap := h', toks := tk + 1 }) ho fun h'' he' sb => ?_⟩
    have hT2 : h''.get? s.heap.objs.size = some { cls := .type "tuple", data := .seq #[.int i tk, y] } := (sb.2 _ (Nat.ne_of_gt hel)).trans hT
    have new : ObjOk X.prog X.w (upd H s.heap.objs.size (.tup [.int (i : Nat), x])) h'' s.heap.objs.size (.tup [.int (i : Nat), x]) :=
      ⟨by show 2 ≤ sizeLine; decide, [.int i tk, y], .cons ⟨_, rfl⟩ (.cons ru .nil), ⟨_, hT2, rfl, _, rfl⟩⟩
    have I1 : Inv X pins σ (upd H s.heap.objs.size (.tup [.int (i : Nat), x])) { s with heap := h'', toks := tk + 1 } :=
      I.turnedNew (ch := [e, it]) (fun b ob hb q => (sb.2 b (fun z => hb (by simp [z]))).trans (hk b ob (fun z => hb (by simp [z])) (fun z => hb (by simp [z])) q)) hf (Nat.le_refl _) new
    refine ⟨.ref s.heap.objs.size, _, I1, rfl, ⟨_, x, rfl, I.hok.fresh (Nat.le_refl _), rfl, fun ys hy => by rw [I.tuple_inj hy hq]; exact hx⟩, ⟨⟨y, ?_⟩, hit'.at fun o q => (sb.2 it (Ne.symm hne)).trans q, hne, hai, hae⟩, fun b hb => ?_⟩
    · have e1 : ((i + 1 : Nat) : Int) = (i : Int) + 1 := by omega
      rw [e1]; exact he'
    · have hb' : b < s.heap.objs.size := by
        have e' : b = e ∨ b = it := by simpa using hb
        rcases e' with z | z
        · rw [z]; exact hel
        · rw [z]; exact hil
      rw [upd_ne (Nat.ne_of_lt hb')]
      exact (hf b hb).1
  done := by
    intro X hP hw hK hc i pins s σ H E I hf st hg
    subst hP hw hK
    obtain ⟨⟨old, he⟩, hit, hne, hai, hae⟩ := st
    obtain ⟨xs, hq, hx⟩ := hg
    obtain ⟨its, rv, p, hz⟩ := I.tuple hq
    obtain ⟨f0, f1, f2, f3, f4, f5⟩ := hf it (by simp)
    have hl := rv.length
    have hA : X.A.in1.handled = none := I.ok.hd hc
    have D : Draws X.prog X.w X.A.in1 it [it, a] i (fun _ _ => True) (fun j h => j = i ∧ h.IsTupleIter it a i ∧ h.IsTuple a its.toArray) := {
      live := fun _ _ st => let ⟨o, ho, _⟩ := st.2.1; ⟨o, ho⟩
      frame := fun _ _ _ st hk => ⟨st.1, st.2.1.at fun o e => hk it (by simp) o e, st.2.2.at fun o e => hk a (by simp) o e⟩
      item := fun j s Q E hj st hQ => absurd st.1 (Nat.ne_of_lt hj)
      done := fun s Q E st hE => wpAny_nextOf_tuple_end hA st.2.1 st.2.2 (by simp; omega) hE }
    exact wpAny_pyNext_enum_endD D he ⟨rfl, hit, p⟩ fun h' eb => ⟨rfl, I.turned (t' := s.toks) (fun b o hb q => eb b o hb q) f0 f1 f3 f4 f5⟩
  self := fun A i s Q E st h => let ⟨⟨_, he⟩, _⟩ := st; wpAny_pyIter_enum he h
def iEnumA (K : PySem.W.Frag) (ta : TA) : TI := fun σ H R => ta σ H fun vs H1 => ∃ a xs, vs = [.ref a] ∧ ((SqL K H1 a xs ∧ R (Ite K a) H1) ∨ (SqT K H1 a xs ∧ R (IteT K a) H1))
theorem pi_enumA {X : Cx} {e : Expr} {ta : TA} {p pos tpos : Pos} {elts : List Expr} {kk : Nat} (hg : Gl X "enumerate") (hm : X.mg "enumerate" = none) (ha : PA X [e] ta) (hs : starEach [e] X.env = [(false, eval e X.env)] := by rfl) :
    PI X (.Tuple elts kk tpos) (.Call (.Name "enumerate" p) [e] [] pos) (iEnumA X.K ta) := by
  refine ⟨fun pins s σ H R I h => ?_⟩
  refine Call_ (ld_blt I hg hm boot_enumerate (PyProof.Rows.callWith_type1 (thn (ha.run pos pins s σ H _ I h) fun us s1 ⟨vs, H1, I1, r1, q1⟩ => ?_) hs rfl))
  obtain ⟨a, xs, ex, q1⟩ := q1
  subst ex
  cases r1 with
  | cons r rr =>
    cases rr
    cases r
    rcases q1 with ⟨hq, q⟩ | ⟨hq, q⟩
    · obtain ⟨its, rv, p', hz⟩ := I1.list hq
      refine call_enumerate_list p'.isList fun h' he hit hsz hk => wpAny_pyIter_enum he ?_
      have I2 : Inv X pins σ H1 { s1 with heap := h' } := I1.kept (t' := s1.toks) hk
      refine ⟨s1.heap.objs.size + 1, [s1.heap.objs.size + 1, s1.heap.objs.size], _, _, H1, rfl, I2, turn_enum a (s1.heap.objs.size + 1) s1.heap.objs.size, ⟨⟨.none, he⟩, hit, Nat.succ_ne_self _⟩, fun b hb => ?_, q⟩
      have e' : b = s1.heap.objs.size + 1 ∨ b = s1.heap.objs.size := by simpa using hb
      have hle : s1.heap.objs.size ≤ b := by
        rcases e' with z | z
        · rw [z]; exact Nat.le_add_right _ _
        · rw [z]; exact Nat.le_refl _
      exact I1.fpOk hle (I1.hok.fresh hle)
    · obtain ⟨its, rv, p', hz⟩ := I1.tuple hq
      have hal : a < s1.heap.objs.size := by obtain ⟨o, ho, _⟩ := id p'; exact Heap.lt_size ho
      refine enum_begins1 (begins_tuple a its.toArray) p' fun h' he hit hsz hk => wpAny_pyIter_enum he ?_
      have I2 : Inv X pins σ H1 { s1 with heap := h' } := I1.kept (t' := s1.toks) hk
      refine ⟨s1.heap.objs.size + 1, [s1.heap.objs.size + 1, s1.heap.objs.size], _, _, H1, rfl, I2, turn_enumT a (s1.heap.objs.size + 1) s1.heap.objs.size, ⟨⟨.none, he⟩, ⟨_, hit, rfl, rfl⟩, Nat.succ_ne_self _, Nat.ne_of_lt hal, Nat.ne_of_lt (Nat.lt_succ_of_lt hal)⟩, fun b hb => ?_, q⟩
      have e' : b = s1.heap.objs.size + 1 ∨ b = s1.heap.objs.size := by simpa using hb
      have hle : s1.heap.objs.size ≤ b := by
        rcases e' with z | z
        · rw [z]; exact Nat.le_add_right _ _
        · rw [z]; exact Nat.le_refl _
      exact I1.fpOk hle (I1.hok.fresh hle)
/-! ### what is walked, told by its items' data -/
structure ItOk (RR : Hp → V → PyData → Prop) (J : It) (F : Hp) (items : List PyData) : Prop where
  len : items.length ≤ sizeLine
  goes : ∀ i F1 H1, i < items.length → Same F F1 → Same F1 H1 → J.go i H1
  stops : ∀ F1 H1, Same F F1 → Same F1 H1 → J.stop items.length H1
  yields : ∀ i F1 H1 x H2, i < items.length → Same F F1 → Same F1 H1 → J.yld i H1 x H2 → ∃ F2 d, items[i]? = some d ∧ Stp F1 H1 F2 H2 ∧ RR F2 x d
structure DI (X : Cx) (F0 H0 : Hp) (W : WX) (RR : Hp → V → PyData → Prop) (tg iter : Expr) (f : DEnv → R (List PyData)) : Prop where
  ex : ∃ wi, PI X tg iter wi ∧ ∀ (σ : L2.St) (H : Hp) (Q : It → Hp → Prop), (∃ F ρ, Ok X.K F0 H0 F ρ σ H ∧ match f ρ with
    | .ok items => ∀ J F' H', Stp F H F' H' → ItOk RR J F' items → Q J H'
    | .exc e => Exc X.K X.mg W F H σ e
    | .bad => False) → wi σ H Q
section
variable {X : Cx} {F0 H0 : Hp} {W : WX} {K : PySem.W.Frag} {mg : Str → Option Value}
theorem itOk_of {RR : Hp → V → PyData → Prop} {J : It} {n : Nat} {G : Hp → Prop} {Y : Nat → Hp → V → Hp → Prop} (w : Walk J n G Y) {F : Hp} {items : List PyData} (hn : n = items.length) (hz : items.length ≤ sizeLine) (hG : ∀ F1 H1, Same F F1 → Same F1 H1 → G H1)
    (hy : ∀ i F1 H1 x H2, i < items.length → Same F F1 → Same F1 H1 → Y i H1 x H2 → ∃ F2 d, items[i]? = some d ∧ Stp F1 H1 F2 H2 ∧ RR F2 x d) : ItOk RR J F items := by
  subst hn
  exact ⟨hz, fun i F1 H1 hi s1 s2 => w.goes i H1 hi (hG F1 H1 s1 s2), fun F1 H1 s1 s2 => w.stops H1 (hG F1 H1 s1 s2), fun i F1 H1 x H2 hi s1 s2 y => hy i F1 H1 x H2 hi s1 s2 (w.yields i H1 x H2 hi (hG F1 H1 s1 s2) y)⟩
theorem itOk_at {J : It} {F : Hp} {xs : List V} {items : List PyData} {G : Hp → Prop} (w : Walk J xs.length G (YAt xs)) (hz : xs.length ≤ sizeLine) (r : RpAll K F xs items) (hG : ∀ F1 H1, Same F F1 → Same F1 H1 → G H1) : ItOk (Rp K) J F items :=
  itOk_of w r.length (by rw [← r.length]; exact hz) hG fun i F1 H1 x H2 hi s1 s2 y => by
    obtain ⟨rfl, hx⟩ := y
    obtain ⟨d, hd, rd⟩ := r.get' hx
    exact ⟨F1, d, hd, .refl s2, rd.mono s1⟩
def pairD (x y : PyData) : PyData := .tuple [x, y]
theorem itOk_pair {J : It} {F : Hp} {n : Nat} {fx fy : Nat → Option V} {items : List PyData} {G : Hp → Prop} (w : Walk J n G (YPair fx fy)) (hn : n = items.length) (hz : items.length ≤ sizeLine)
    (r : ∀ i x y, i < items.length → fx i = some x → fy i = some y → ∃ d e, items[i]? = some (pairD d e) ∧ Rp K F x d ∧ Rp K F y e) (hG : ∀ F1 H1, Same F F1 → Same F1 H1 → G H1) : ItOk (RpI K) J F items :=
  itOk_of w hn hz hG fun i F1 H1 v H2 hi s1 s2 yy => by
    obtain ⟨T, x, y, rfl, nT, rfl, hx, hy⟩ := yy
    obtain ⟨d, e, hd, rd, re⟩ := r i x y hi hx hy
    have s3 := Stp.new1 (o := .tup [x, y]) s2 nT
    exact ⟨_, _, hd, s3, T, _, _, rfl, rfl, .inl (.inl upd_same), .cons (rd.mono (s1.trans s3.fr)) (.cons (re.mono (s1.trans s3.fr)) .nil)⟩
/-! a list, a tuple, a text, a dict's keys -/
def signs (z : Str) : List PyData := z.cps.toList.map fun c => .str ⟨#[c]⟩
def itemsD : PyData → R (List PyData)
  | .list ds => .ok ds
  | .tuple ds => .ok ds
  | .str z => .ok (signs z)
  | .dict kvs => .ok (kvs.map (·.1))
  | _ => .bad
def iAny (K : PySem.W.Frag) (te : TE) : TI := fun σ H R => te σ H fun x H1 => (∃ a, x = .ref a ∧ (∃ xs, SqL K H1 a xs) ∧ R (Itl K a) H1) ∨ (∃ a, x = .ref a ∧ (∃ xs, SqT K H1 a xs) ∧ R (Itt K a) H1) ∨ (∃ z, x = .str z ∧ R (Its z) H1) ∨
  ∃ d o kvs, x = .ref d ∧ H1 d = some (.frz o (.dK kvs)) ∧ R (Itk d o kvs) H1
theorem pi_any {tg e : Expr} {te : TE} (he : PE X e te) : PI X tg e (iAny X.K te) := by
  refine ⟨fun pins s σ H R I h => ?_⟩
  refine thn (he.run pins s σ H _ I h) fun v s1 ⟨x, H1, I1, r1, q1⟩ => ?_
  rcases q1 with ⟨a, rfl, ⟨xs, hq⟩, q⟩ | ⟨a, rfl, ⟨xs, hq⟩, q⟩ | ⟨z, rfl, q⟩ | ⟨d, o, kvs, rfl, hd, q⟩
  · cases r1
    obtain ⟨its, rv, p, hz⟩ := I1.list hq
    refine wpAny_pyIter_list p.isList ?_
    refine ⟨s1.heap.objs.size, [s1.heap.objs.size], _, _, H1, rfl, I1.kept (t' := s1.toks) fun b o e => Heap.get?_push_of_some _ e, turn_list a _, ⟨_, Heap.get?_push_size _ rfl, rfl, rfl⟩, fun b hb => ?_, q⟩
    have e : b = s1.heap.objs.size := by simpa using hb
    subst e
    exact I1.fpOk (Nat.le_refl _) (I1.hok.fresh (Nat.le_refl _))
  · cases r1
    obtain ⟨its, rv, p, hz⟩ := I1.tuple hq
    refine wpAny_pyIter_tuple (show s1.heap.IsTuple a its.toArray from p) ?_
    refine ⟨s1.heap.objs.size, [s1.heap.objs.size], _, _, H1, rfl, I1.kept (t' := s1.toks) fun b o e => Heap.get?_push_of_some _ e, turn_tuple a _, ⟨_, Heap.get?_push_size _ rfl, rfl, rfl⟩, fun b hb => ?_, q⟩
    have e : b = s1.heap.objs.size := by simpa using hb
    subst e
    exact I1.fpOk (Nat.le_refl _) (I1.hok.fresh (Nat.le_refl _))
  · obtain ⟨t, rfl⟩ := r1
    cases ha : z.cps.all (· < 128)
    · exact wpAny_pyIter_wide ha (pi_one (tk := s1.toks) I1 _ (turn_str _ z t "str_iterator" (.inr rfl)) ⟨_, Heap.get?_push_size _ rfl, rfl, rfl⟩ q)
    · exact wpAny_pyIter_ascii ha (pi_one (tk := s1.toks) I1 _ (turn_str _ z t "str_ascii_iterator" (.inl rfl)) ⟨_, Heap.get?_push_size _ rfl, rfl, rfl⟩ q)
  · cases r1
    obtain ⟨hs, hgd, hx, es, ep, vs, hdt, hsz, kv, hm⟩ := I1.frzK hd
    refine iter_keys hs hgd hx hdt (pi_one (tk := s1.toks) I1 _ (turn_keys _ hdt) ⟨_, Heap.get?_push_size _ rfl, rfl, ?_⟩ q)
    rw [hsz] <;> rfl
theorem itOk_str {F : Hp} {z : Str} (hz : z.length ≤ sizeLine) : ItOk (Rp K) (Its z) F (signs z) :=
  itOk_of walk_str (by simp [signs]) (by rw [show (signs z).length = z.cps.size by simp [signs]]; exact hz) (fun _ _ _ _ => trivial) fun i F1 H1 x H2 hi s1 s2 y => by
    obtain ⟨rfl, c, hc, rfl⟩ := y
    refine ⟨F1, _, ?_, .refl s2, .str _ (by show 1 ≤ sizeLine; decide)⟩
    unfold signs
    rw [List.getElem?_map, Array.getElem?_toList, hc]
    rfl
theorem RpKV.key {F : Hp} : ∀ {es : List (Key × V)} {kvs : List (PyData × PyData)} {i : Nat} {k : Key} {v : V}, RpKV K F es kvs → es[i]? = some (k, v) → ∃ d, kvs[i]? = some (keyD k, d) ∧ Rp K F v d
  | _, _, _, _, _, .nil, h => by simp at h
  | _, _, 0, _, _, .cons r rs, h => by
    simp at h
    obtain ⟨rfl, rfl⟩ := h
    exact ⟨_, rfl, r⟩
  | _, _, i + 1, _, _, .cons r rs, h => RpKV.key (i := i) rs (by simpa using h)
/-- a dict's keys are short texts and ints -/
theorem rp_key {F : Hp} {k : Key} (h : ∀ x, k = .inr x → x.length ≤ sizeLine) : Rp K F (kV k) (keyD k) := by
  cases k with
  | inl i => exact .int i
  | inr x => exact .str x (h x rfl)
def shortKeys (kvs : List (PyData × PyData)) : Bool := kvs.all fun kv => match kv.1 with
  | .str x => decide (x.length ≤ sizeLine)
  | _ => true
def itemsE (d : PyData) : R (List PyData) := match d with
  | .dict kvs => if (shortKeys kvs && keysK kvs) = true then .ok (kvs.map (·.1)) else .bad
  | d => itemsD d
theorem short_at {kvs : List (PyData × PyData)} (h : shortKeys kvs = true) {i : Nat} {k : Key} {d : PyData} (e : kvs[i]? = some (keyD k, d)) : ∀ x, k = .inr x → x.length ≤ sizeLine := fun x hx => by
  subst hx
  have := List.all_eq_true.mp h _ (List.mem_of_getElem? e)
  exact of_decide_eq_true this
theorem itOk_keys {F : Hp} {d : Addr} {o : Obj} {es : List (Key × V)} {kvs : List (PyData × PyData)} (hF : F d = some (.frz o (.dK es))) (zz : es.length ≤ sizeLine) (r : RpKV K F es kvs) (hs : shortKeys kvs = true) : ItOk (Rp K) (Itk d o es) F (kvs.map (·.1)) :=
  itOk_of walk_keys (by rw [List.length_map]; exact r.length) (by rw [List.length_map, ← r.length]; exact zz) (fun F1 H1 s1 s2 => s2 _ _ (s1 _ _ hF)) fun i F1 H1 x H2 hi s1 s2 y => by
    obtain ⟨rfl, k, v, hk, rfl⟩ := y
    obtain ⟨d, hd, rd⟩ := r.key hk
    exact ⟨F1, keyD k, by rw [List.getElem?_map, hd]; rfl, .refl s2, rp_key (short_at hs hd)⟩
def fIt (f : DEnv → R PyData) : DEnv → R (List PyData) := fun ρ => (f ρ).bind itemsE
theorem di_any {tg e : Expr} {f : DEnv → R PyData} (he : DE X F0 H0 W e f) : DI X F0 H0 W (Rp X.K) tg e (fIt f) := by
  refine ⟨_, pi_any he, fun σ H Q h => ?_⟩
  obtain ⟨F, ρ, k, h⟩ := h
  unfold fIt at h
  refine ⟨F, ρ, k, ?_⟩
  cases e1 : f ρ with
  | bad => rw [e1] at h; exact h
  | exc x => rw [e1] at h; exact h
  | ok d =>
    rw [e1, R.bind_ok] at h
    intro x F1 H1 s1 r1
    cases r1 with
    | @lst a xs ds hs z ra => exact .inl ⟨a, rfl, ⟨xs, same_l s1.sub hs⟩, h _ F1 H1 s1 (itOk_at walk_list z ra fun F2 H2 s2 s3 => same_l (s2.trans s3) hs)⟩
    | @tup a xs ds hs z ra => exact .inr (.inl ⟨a, rfl, ⟨xs, same_t s1.sub hs.sq⟩, h _ F1 H1 s1 (itOk_at walk_tup z ra fun F2 H2 s2 s3 => same_t (s2.trans s3) hs.sq)⟩)
    | str z hz => exact .inr (.inr (.inl ⟨z, rfl, h _ F1 H1 s1 (itOk_str hz)⟩))
    | @dct a o es kvs hF zz ra =>
      unfold itemsE at h
      dsimp only at h
      split at h
      · rename_i items e
        split at e
        · rename_i hs
          cases e
          rw [Bool.and_eq_true] at hs
          exact .inr (.inr (.inr ⟨a, o, es, rfl, s1.sub _ _ hF, h _ F1 H1 s1 (itOk_keys hF zz ra hs.1)⟩))
        · cases e
      · rename_i items e
        split at e <;> cases e
      · exact h.elim
    | @dctN a o xs kvs hF zz hn ra =>
      unfold itemsE at h
      dsimp only at h
      rw [ra.notKey hn, Bool.and_false, if_neg Bool.false_ne_true] at h
      exact h.elim
    | _ => exact h.elim
/-! range(n), range(a, b) -/
def rangeD (lo hi : Int) : List PyData := (List.range (hi - lo).toNat).map fun i => .int (lo + (i : Nat))
def rgOk (a b : Int) : Prop := (-(2 ^ 62) ≤ a ∧ a < 2 ^ 62 ∧ -(2 ^ 62) ≤ b ∧ b < 2 ^ 62) ∧ (b - a).toNat ≤ sizeLine
instance (i j : Int) : Decidable (rgOk i j) := by unfold rgOk; exact inferInstance
def gRange1 : List PyData → R (List PyData)
  | [.int n] => if rgOk 0 n then .ok (rangeD 0 n) else .bad
  | _ => .bad
def gRange2 : List PyData → R (List PyData)
  | [.int a, .int b] => if rgOk a b then .ok (rangeD a b) else .bad
  | _ => .bad
def fRange1 (f : DEnv → R (List PyData)) : DEnv → R (List PyData) := fun ρ => (f ρ).bind gRange1
def fRange2 (f : DEnv → R (List PyData)) : DEnv → R (List PyData) := fun ρ => (f ρ).bind gRange2
theorem itOk_range {F : Hp} {lo hi : Int} (hz : (hi - lo).toNat ≤ sizeLine) : ItOk (Rp K) (Itr lo (hi - lo).toNat) F (rangeD lo hi) :=
  itOk_of walk_range (by simp [rangeD]) (by simpa [rangeD] using hz) (fun _ _ _ _ => trivial) fun i F1 H1 x H2 hi' s1 s2 y => by
    obtain ⟨rfl, rfl⟩ := y
    have hi2 : i < (hi - lo).toNat := by simpa [rangeD] using hi'
    refine ⟨F1, _, ?_, .refl s2, .int _⟩
    unfold rangeD
    rw [List.getElem?_map, List.getElem?_range hi2]
    rfl
theorem di_range1 {tg a : Expr} {f : DEnv → R (List PyData)} {p pos : Pos} (hg : Gl X "range") (hm : X.mg "range" = none) (ha : DA X F0 H0 W [a] f) (hs : starEach [a] X.env = [(false, eval a X.env)] := by rfl) :
    DI X F0 H0 W (Rp X.K) tg (.Call (.Name "range" p) [a] [] pos) (fRange1 f) := by
  refine ⟨_, pi_range1 hg hm ha hs, fun σ H Q h => ?_⟩
  obtain ⟨F, ρ, k, h⟩ := h
  unfold fRange1 at h
  refine ⟨F, ρ, k, ?_⟩
  cases e1 : f ρ with
  | bad => rw [e1] at h; exact h
  | exc x => rw [e1] at h; exact h
  | ok ds =>
    rw [e1, R.bind_ok] at h
    intro vs F1 H1 s1 r1
    match ds, r1, h with
    | [.int n], .cons (.int _) .nil, h =>
      have h : (match (if rgOk 0 n then R.ok (rangeD 0 n) else .bad) with | .ok items => ∀ J F' H', Stp F H F' H' → ItOk (Rp X.K) J F' items → Q J H' | .exc e => Exc X.K X.mg W F H σ e | .bad => False) := h
      by_cases c : rgOk 0 n
      · rw [if_pos c] at h
        refine ⟨n, rfl, c.1.2.2.1, c.1.2.2.2, h _ F1 H1 s1 ?_⟩
        have := itOk_range (K := X.K) (F := F1) (lo := 0) (hi := n) c.2
        rw [Int.sub_zero] at this
        exact this
      · rw [if_neg c] at h; exact h.elim
theorem di_range2 {tg a b : Expr} {f : DEnv → R (List PyData)} {p pos : Pos} (hg : Gl X "range") (hm : X.mg "range" = none) (ha : DA X F0 H0 W [a, b] f) (hs : starEach [a, b] X.env = [(false, eval a X.env), (false, eval b X.env)] := by rfl) (hs2 : starEach [b] X.env = [(false, eval b X.env)] := by rfl) :
    DI X F0 H0 W (Rp X.K) tg (.Call (.Name "range" p) [a, b] [] pos) (fRange2 f) := by
  refine ⟨_, pi_range2 hg hm ha hs hs2, fun σ H Q h => ?_⟩
  obtain ⟨F, ρ, k, h⟩ := h
  unfold fRange2 at h
  refine ⟨F, ρ, k, ?_⟩
  cases e1 : f ρ with
  | bad => rw [e1] at h; exact h
  | exc x => rw [e1] at h; exact h
  | ok ds =>
    rw [e1, R.bind_ok] at h
    intro vs F1 H1 s1 r1
    match ds, r1, h with
    | [.int n, .int m], .cons (.int _) (.cons (.int _) .nil), h =>
      have h : (match (if rgOk n m then R.ok (rangeD n m) else .bad) with | .ok items => ∀ J F' H', Stp F H F' H' → ItOk (Rp X.K) J F' items → Q J H' | .exc e => Exc X.K X.mg W F H σ e | .bad => False) := h
      by_cases c : rgOk n m
      · rw [if_pos c] at h
        exact ⟨n, m, rfl, ⟨c.1.1, c.1.2.1, c.1.2.2.1, c.1.2.2.2⟩, h _ F1 H1 s1 (itOk_range c.2)⟩
      · rw [if_neg c] at h; exact h.elim
/-! enumerate(xs), zip(xs, ys) -/
def enumD (ds : List PyData) : List PyData := (List.range ds.length).zipWith (fun i d => pairD (.int (i : Nat)) d) ds
def seqD : PyData → R (List PyData)
  | .list ds => .ok ds
  | .tuple ds => .ok ds
  | _ => .bad
def gEnum : List PyData → R (List PyData)
  | [d] => (seqD d).bind fun ds => .ok (enumD ds)
  | _ => .bad
def fEnum (f : DEnv → R (List PyData)) : DEnv → R (List PyData) := fun ρ => (f ρ).bind gEnum
theorem walk_enumT {a : Addr} {xs : List V} : Walk (IteT K a) xs.length (fun H => SqT K H a xs) (YPair (fun i => some (.int (i : Nat))) (fun i => xs[i]?)) := by
  refine ⟨fun i _ hi q => ⟨xs, xs[i], q, by simp [hi]⟩, fun _ q => ⟨xs, q, Nat.le_refl _⟩, fun i H v H' _ q y => ?_⟩
  obtain ⟨T, x, h1, h2, h3, h4⟩ := y
  exact ⟨T, .int (i : Nat), x, h1, h2, h3, rfl, h4 xs q⟩
theorem enumD_at {ds : List PyData} {i : Nat} {d : PyData} (h : ds[i]? = some d) : (enumD ds)[i]? = some (pairD (.int (i : Nat)) d) := by
  have hi := (List.getElem?_eq_some_iff.mp h).1
  unfold enumD
  rw [List.getElem?_zipWith, List.getElem?_range hi, h]
theorem enumD_length (ds : List PyData) : (enumD ds).length = ds.length := by simp [enumD]
theorem itOk_enum {J : It} {F : Hp} {xs : List V} {ds : List PyData} {G : Hp → Prop} (w : Walk J xs.length G (YPair (fun i => some (.int (i : Nat))) (fun i => xs[i]?))) (hz : xs.length ≤ sizeLine) (r : RpAll K F xs ds) (hG : ∀ F1 H1, Same F F1 → Same F1 H1 → G H1) : ItOk (RpI K) J F (enumD ds) :=
  itOk_pair w (by rw [enumD_length]; exact r.length) (by rw [enumD_length, ← r.length]; exact hz) (fun i x y hi hx hy => by
    cases hx
    obtain ⟨d, hd, rd⟩ := r.get' hy
    exact ⟨_, d, enumD_at hd, .int _, rd⟩) hG
theorem di_enum {e : Expr} {f : DEnv → R (List PyData)} {p pos tpos : Pos} {elts : List Expr} {kk : Nat} (hg : Gl X "enumerate") (hm : X.mg "enumerate" = none) (ha : DA X F0 H0 W [e] f) (hs : starEach [e] X.env = [(false, eval e X.env)] := by rfl) :
    DI X F0 H0 W (RpI X.K) (.Tuple elts kk tpos) (.Call (.Name "enumerate" p) [e] [] pos) (fEnum f) := by
  refine ⟨_, pi_enumA hg hm ha hs, fun σ H Q h => ?_⟩
  obtain ⟨F, ρ, k, h⟩ := h
  unfold fEnum at h
  refine ⟨F, ρ, k, ?_⟩
  cases e1 : f ρ with
  | bad => rw [e1] at h; exact h
  | exc x => rw [e1] at h; exact h
  | ok ds =>
    rw [e1, R.bind_ok] at h
    intro vs F1 H1 s1 r1
    match ds, r1, h with
    | [d], .cons r .nil, h =>
      cases r with
      | @lst a xs ds hs z ra => exact ⟨a, xs, rfl, .inl ⟨same_l s1.sub hs, h _ F1 H1 s1 (itOk_enum walk_enum z ra fun F2 H2 s2 s3 => same_l (s2.trans s3) hs)⟩⟩
      | @tup a xs ds hs z ra => exact ⟨a, xs, rfl, .inr ⟨same_t s1.sub hs.sq, h _ F1 H1 s1 (itOk_enum walk_enumT z ra fun F2 H2 s2 s3 => same_t (s2.trans s3) hs.sq)⟩⟩
      | _ => exact h.elim
def zipD (ds es : List PyData) : List PyData := ds.zipWith pairD es
def gZip2 : PyData → PyData → R (List PyData)
  | .list ds, .list es => .ok (zipD ds es)
  | .tuple ds, .tuple es => .ok (zipD ds es)
  | _, _ => .bad
def gZip : List PyData → R (List PyData)
  | [d, e] => gZip2 d e
  | _ => .bad
def fZip (f : DEnv → R (List PyData)) : DEnv → R (List PyData) := fun ρ => (f ρ).bind gZip
theorem walk_zipT {a b : Addr} {xs ys : List V} {n : Nat} (hn : n = min xs.length ys.length) : Walk (RZ.ItzT K a b) n (fun H => SqT K H a xs ∧ SqT K H b ys) (YPair (fun i => xs[i]?) (fun i => ys[i]?)) := by
  subst hn
  refine ⟨fun i _ hi q => ?_, fun _ q => ⟨xs, ys, q.1, q.2, by omega⟩, fun i H v H' _ q y => ?_⟩
  · have h1 : i < xs.length := by omega
    have h2 : i < ys.length := by omega
    exact ⟨xs, ys, xs[i], ys[i], q.1, q.2, by simp [h1], by simp [h2]⟩
  · obtain ⟨T, x, z, h1, h2, h3, h4, h5⟩ := y
    exact ⟨T, x, z, h1, h2, h3, h4 xs q.1, h5 ys q.2⟩
theorem itOk_zip {J : It} {F : Hp} {xs ys : List V} {ds es : List PyData} {G : Hp → Prop} (w : Walk J (min xs.length ys.length) G (YPair (fun i => xs[i]?) (fun i => ys[i]?))) (hz : xs.length ≤ sizeLine) (r : RpAll K F xs ds) (r' : RpAll K F ys es) (hG : ∀ F1 H1, Same F F1 → Same F1 H1 → G H1) : ItOk (RpI K) J F (zipD ds es) :=
  itOk_pair w (by unfold zipD; rw [List.length_zipWith, r.length, r'.length]) (by unfold zipD; rw [List.length_zipWith, ← r.length]; exact Nat.le_trans (Nat.min_le_left _ _) hz) (fun i x y hi hx hy => by
    obtain ⟨d, hd, rd⟩ := r.get' hx
    obtain ⟨e, he, re⟩ := r'.get' hy
    refine ⟨d, e, ?_, rd, re⟩
    unfold zipD
    rw [List.getElem?_zipWith, hd, he]) hG
theorem di_zip {e e2 : Expr} {f : DEnv → R (List PyData)} {p pos tpos : Pos} {elts : List Expr} {kk : Nat} (hg : Gl X "zip") (hm : X.mg "zip" = none) (ha : DA X F0 H0 W [e, e2] f)
    (hs : starEach [e, e2] X.env = (false, eval e X.env) :: starEach [e2] X.env := by rfl) (hpl : (backTo pos (starEach [e2] X.env)).any (·.1) = false := by rfl) :
    DI X F0 H0 W (RpI X.K) (.Tuple elts kk tpos) (.Call (.Name "zip" p) [e, e2] [] pos) (fZip f) := by
  refine ⟨_, RZ.pi_zipA hg hm ha hs hpl, fun σ H Q h => ?_⟩
  obtain ⟨F, ρ, k, h⟩ := h
  unfold fZip at h
  refine ⟨F, ρ, k, ?_⟩
  cases e1 : f ρ with
  | bad => rw [e1] at h; exact h
  | exc x => rw [e1] at h; exact h
  | ok ds =>
    rw [e1, R.bind_ok] at h
    intro vs F1 H1 s1 r1
    match ds, r1, h with
    | [d, d2], .cons r (.cons r' .nil), h =>
      cases r with
      | @lst a xs ds hs z ra =>
        cases r' with
        | @lst b ys es hs' z' ra' => exact ⟨a, b, xs, ys, rfl, .inl ⟨same_l s1.sub hs, same_l s1.sub hs', h _ F1 H1 s1 (itOk_zip (walk_zip rfl) z ra ra' fun F2 H2 s2 s3 => ⟨same_l (s2.trans s3) hs, same_l (s2.trans s3) hs'⟩)⟩⟩
        | _ => exact h.elim
      | @tup a xs ds hs z ra =>
        cases r' with
        | @tup b ys es hs' z' ra' => exact ⟨a, b, xs, ys, rfl, .inr ⟨same_t s1.sub hs.sq, same_t s1.sub hs'.sq, h _ F1 H1 s1 (itOk_zip (walk_zipT rfl) z ra ra' fun F2 H2 s2 s3 => ⟨same_t (s2.trans s3) hs.sq, same_t (s2.trans s3) hs'.sq⟩)⟩⟩
        | _ => exact h.elim
      | _ => exact h.elim
    | [], _, h => exact h.elim
    | [_], _, h => exact h.elim
    | _ :: _ :: _ :: _, _, h => exact h.elim
/-! d.items() -/
def gItems : PyData → R (List PyData)
  | .dict kvs => if (shortKeys kvs && keysK kvs) = true then .ok (kvs.map fun kv => pairD kv.1 kv.2) else .bad
  | _ => .bad
def fItems (f : DEnv → R PyData) : DEnv → R (List PyData) := fun ρ => (f ρ).bind gItems
theorem itOk_items {F : Hp} {d : Addr} {o : Obj} {es : List (Key × V)} {kvs : List (PyData × PyData)} (hF : F d = some (.frz o (.dK es))) (zz : es.length ≤ sizeLine) (r : RpKV K F es kvs) (hs : shortKeys kvs = true) : ItOk (RpI K) (Iti d o es) F (kvs.map fun kv => pairD kv.1 kv.2) :=
  itOk_pair walk_items (by rw [List.length_map]; exact r.length) (by rw [List.length_map, ← r.length]; exact zz) (fun i x y hi hx hy => by
    cases e : es[i]? with
    | none => rw [e] at hx; cases hx
    | some kv =>
      obtain ⟨k, v⟩ := kv
      rw [e] at hx hy
      cases hx
      cases hy
      obtain ⟨d, hd, rd⟩ := r.key e
      exact ⟨keyD k, d, by rw [List.getElem?_map, hd]; rfl, rp_key (short_at hs hd), rd⟩) fun F1 H1 s1 s2 => s2 _ _ (s1 _ _ hF)
theorem di_items {e : Expr} {f : DEnv → R PyData} {apos cpos tpos : Pos} {elts : List Expr} {kk : Nat} (he : DE X F0 H0 W e f) (hbase : attributeBase e "items" X.env (eval e X.env) = eval e X.env := by rfl) (hline : (apos.endLine == cpos.line) = true := by rfl) :
    DI X F0 H0 W (RpI X.K) (.Tuple elts kk tpos) (.Call (.Attribute e "items" apos) [] [] cpos) (fItems f) := by
  refine ⟨_, pi_items he hbase hline, fun σ H Q h => ?_⟩
  obtain ⟨F, ρ, k, h⟩ := h
  unfold fItems at h
  refine ⟨F, ρ, k, ?_⟩
  cases e1 : f ρ with
  | bad => rw [e1] at h; exact h
  | exc x => rw [e1] at h; exact h
  | ok d =>
    rw [e1, R.bind_ok] at h
    intro x F1 H1 s1 r1
    cases r1 with
    | @dct a o es kvs hF zz ra =>
      unfold gItems at h
      dsimp only at h
      split at h
      · rename_i items e
        split at e
        · rename_i hs
          cases e
          rw [Bool.and_eq_true] at hs
          exact ⟨a, o, es, rfl, s1.sub _ _ hF, h _ F1 H1 s1 (itOk_items hF zz ra hs.1)⟩
        · cases e
      · rename_i items e
        split at e <;> cases e
      · exact h.elim
    | @dctN a o xs kvs hF zz hn ra =>
      unfold gItems at h
      dsimp only at h
      rw [ra.notKey hn, Bool.and_false, if_neg Bool.false_ne_true] at h
      exact h.elim
    | _ => exact h.elim
end
end DL
namespace DL
open PySem PySem.Spec PyProof.Rows L2
variable [TheW]
section
variable {X : Cx} {F0 H0 : Hp} {W : WX} {K : PySem.W.Frag} {mg : Str → Option Value}
/-! ### for -/
def forD (g : PyData → DEnv → Option DEnv) (body : DEnv → SR) : List PyData → DEnv → SR
  | [], ρ => .next ρ
  | d :: ds, ρ => match g d ρ with
    | none => .bad
    | some ρ1 => match body ρ1 with
      | .next ρ2 => forD g body ds ρ2
      | .cont ρ2 => forD g body ds ρ2
      | .brk ρ2 => .next ρ2
      | .ret v => .ret v
      | .exc e ρ2 => .exc e ρ2
      | .bad => .bad
def sFor (fi : DEnv → R (List PyData)) (g : PyData → DEnv → Option DEnv) (body : DEnv → SR) : DEnv → SR := fun ρ => match fi ρ with
  | .ok items => forD g body items ρ
  | .exc e => .exc e ρ
  | .bad => .bad
theorem ds_for {tg iter : Expr} {body : List Stmt} {fi : DEnv → R (List PyData)} {t : TG} {js : List Nat} {g : PyData → DEnv → Option DEnv} {fb : DEnv → SR} {pos : Pos} (hp : PassesOwn (model X.prog X.w) X.A X.env X.xe) (hc : X.calm = true)
    {RR : Hp → V → PyData → Prop} (hi : DI X F0 H0 W RR tg iter fi) (hg : DG X F0 H0 RR tg t js g) (hb : DSs X F0 H0 W body fb) (hs : ∀ x, foldedSetIterable iter X.env x = pure x := by intro _; rfl) : DS X F0 H0 W (.For tg iter body [] pos) (sFor fi g fb) := by
  obtain ⟨wi, hw, sem⟩ := hi.ex
  refine PS.imp (ps_for hp hc hw hg.pg hb hs) fun D σ H h => ?_
  obtain ⟨F, ρ, k, h⟩ := h
  unfold sFor at h
  refine sem σ H _ ⟨F, ρ, k, ?_⟩
  cases e1 : fi ρ with
  | bad => rw [e1] at h; exact h
  | exc x => rw [e1] at h; exact exc_of k h
  | ok items =>
    rw [e1] at h
    intro J Fs Hs s0 itok
    have k0 := k.step s0
    have h0 : SPo X.K X.mg F0 H0 W D Fs (forD g fb items ρ) := SPo.step s0.fr h
    refine ⟨fun i m σ H => m = items.length - i ∧ i ≤ items.length ∧ ∃ F ρ, Same Fs F ∧ Ok X.K F0 H0 F ρ σ H ∧ SPo X.K X.mg F0 H0 W D F (forD g fb (items.drop i) ρ), ⟨items.length, by simp, Nat.zero_le _, Fs, ρ, .refl _, k0, h0⟩, ?_⟩
    rintro i m σ H ⟨rfl, hi, F, ρ, sF, k, h⟩
    by_cases hlt : i < items.length
    · refine .inr ⟨itok.goes i F H hlt sF k.st.sub, fun σ' H' => ∃ F ρ, Same Fs F ∧ Ok X.K F0 H0 F ρ σ' H' ∧ SPo X.K X.mg F0 H0 W D F (forD g fb (items.drop (i + 1)) ρ), fun σ' H' ⟨F', ρ', a, b, c⟩ => ⟨items.length - (i + 1), by omega, rfl, hlt, F', ρ', a, b, c⟩, fun x H' y => ?_⟩
      obtain ⟨F2, d, hd, s2, rd⟩ := itok.yields i F H x H' hlt sF k.st.sub y
      have ed : items.drop i = d :: items.drop (i + 1) := by
        have := List.getElem?_eq_some_iff.mp hd
        obtain ⟨_, e⟩ := this
        rw [List.drop_eq_getElem_cons hlt, e]
      rw [ed] at h
      unfold forD at h
      cases e2 : g d ρ with
      | none => rw [e2] at h; exact h.elim
      | some ρ1 =>
        rw [e2] at h
        have h : SPo X.K X.mg F0 H0 W D F (match fb ρ1 with
          | .next ρ2 => forD g fb (items.drop (i + 1)) ρ2
          | .cont ρ2 => forD g fb (items.drop (i + 1)) ρ2
          | .brk ρ2 => .next ρ2
          | .ret v => .ret v
          | .exc e ρ2 => .exc e ρ2
          | .bad => .bad) := h
        refine hg.sem F2 H' ρ ρ1 σ x d (k.step s2) rd e2 _ fun σ2 k2 _ _ => ⟨F2, ρ1, k2, ?_⟩
        cases e3 : fb ρ1 with
        | next ρ2 => rw [e3] at h; exact fun σ3 F3 H3 s3 k3 => ⟨F3, ρ2, (sF.trans s2.fr).trans s3, k3, SPo.step (s2.fr.trans s3) h⟩
        | cont ρ2 => rw [e3] at h; exact fun σ3 F3 H3 s3 k3 => ⟨F3, ρ2, (sF.trans s2.fr).trans s3, k3, SPo.step (s2.fr.trans s3) h⟩
        | brk ρ2 => rw [e3] at h; exact fun σ3 F3 H3 s3 k3 => h σ3 F3 H3 (s2.fr.trans s3) k3
        | ret v => rw [e3] at h; exact h
        | exc e ρ2 => rw [e3] at h; exact fun σ3 F3 H3 cls od s3 k3 x3 => h σ3 F3 H3 cls od (s2.fr.trans s3) k3 x3
        | bad => rw [e3] at h; exact h
    · have e : i = items.length := by omega
      subst e
      rw [List.drop_length] at h
      exact .inl ⟨itok.stops F H sF k.st.sub, h σ F H (.refl _) k⟩
/-! ### while, by a bound of its turns -/
def whileD (t : DEnv → R Bool) (body : DEnv → SR) : Nat → DEnv → SR
  | 0, _ => .bad
  | n + 1, ρ => match t ρ with
    | .ok true => match body ρ with
      | .next ρ2 => whileD t body n ρ2
      | .cont ρ2 => whileD t body n ρ2
      | .brk ρ2 => .next ρ2
      | .ret v => .ret v
      | .exc e ρ2 => .exc e ρ2
      | .bad => .bad
    | .ok false => .next ρ
    | .exc e => .exc e ρ
    | .bad => .bad
theorem ds_while (fuel : DEnv → Nat) {c : Expr} {body : List Stmt} {t : DEnv → R Bool} {fb : DEnv → SR} {pos : Pos} (hp : PassesOwn (model X.prog X.w) X.A X.env X.xe) (hc : DT X F0 H0 W c t) (hb : DSs X F0 H0 W body fb) :
    DS X F0 H0 W (.While c body [] pos) (fun ρ => whileD t fb (fuel ρ) ρ) := PS.imp (ps_while hp hc hb) fun D σ H h => by
  obtain ⟨F, ρ, k, h⟩ := h
  refine ⟨fun m σ H => ∃ F ρ, Ok X.K F0 H0 F ρ σ H ∧ SPo X.K X.mg F0 H0 W D F (whileD t fb m ρ), ⟨fuel ρ, F, ρ, k, h⟩, ?_⟩
  rintro m σ H ⟨F, ρ, k, h⟩
  refine ⟨F, ρ, k, ?_⟩
  cases m with
  | zero => exact h.elim
  | succ m =>
    unfold whileD at h
    cases e1 : t ρ with
    | bad => rw [e1] at h; exact h
    | exc x => rw [e1] at h; exact exc_of k h
    | ok b =>
      rw [e1] at h
      intro F' H' s
      cases b with
      | false =>
        rw [if_neg Bool.false_ne_true]
        exact h σ F' H' s.fr (k.step s)
      | true =>
        rw [if_pos rfl]
        have h : SPo X.K X.mg F0 H0 W D F (match fb ρ with
          | .next ρ2 => whileD t fb m ρ2
          | .cont ρ2 => whileD t fb m ρ2
          | .brk ρ2 => .next ρ2
          | .ret v => .ret v
          | .exc e ρ2 => .exc e ρ2
          | .bad => .bad) := h
        refine ⟨fun σ' H' => ∃ F ρ, Ok X.K F0 H0 F ρ σ' H' ∧ SPo X.K X.mg F0 H0 W D F (whileD t fb m ρ), fun σ' H' q => ⟨m, Nat.lt_succ_self m, q⟩, F', ρ, k.step s, ?_⟩
        cases e3 : fb ρ with
        | next ρ2 => rw [e3] at h; exact fun σ3 F3 H3 s3 k3 => ⟨F3, ρ2, k3, SPo.step (s.fr.trans s3) h⟩
        | cont ρ2 => rw [e3] at h; exact fun σ3 F3 H3 s3 k3 => ⟨F3, ρ2, k3, SPo.step (s.fr.trans s3) h⟩
        | brk ρ2 => rw [e3] at h; exact fun σ3 F3 H3 s3 k3 => h σ3 F3 H3 (s.fr.trans s3) k3
        | ret v => rw [e3] at h; exact h
        | exc e ρ2 => rw [e3] at h; exact fun σ3 F3 H3 cls od s3 k3 x3 => h σ3 F3 H3 cls od (s.fr.trans s3) k3 x3
        | bad => rw [e3] at h; exact h
/-! ### things that a name owns alone -/
def tOw (K : PySem.W.Frag) (mg : Str → Option Value) (F0 H0 : Hp) (W : WX) (f : DEnv → R Ow) : TE := fun σ H Q => ∃ F ρ, Ok K F0 H0 F ρ σ H ∧ match f ρ with
  | .ok w => ∀ p F' H', Stp F H F' H' → H p = none → F' p = none → OwnAt K F' H' p w → Q (.ref p) H'
  | .exc e => Exc K mg W F H σ e
  | .bad => False
def DOw (X : Cx) (F0 H0 : Hp) (W : WX) (e : Expr) (f : DEnv → R Ow) : Prop := PE X e (tOw X.K X.mg F0 H0 W f)
def sSetO (i : Nat) (f : DEnv → R Ow) : DEnv → SR := fun ρ => match f ρ with
  | .ok w => .next (ρ.set i (.own w))
  | .exc e => .exc e ρ
  | .bad => .bad
theorem tSetO_of {i : Nat} {f : DEnv → R Ow} : ∀ D σ H, tDS K mg F0 H0 W (sSetO i f) D σ H → tAsg (tOw K mg F0 H0 W f) (gName i) D σ H := fun D σ H h => by
  obtain ⟨F, ρ, k, h⟩ := h
  unfold sSetO at h
  refine ⟨F, ρ, k, ?_⟩
  cases e1 : f ρ with
  | bad => rw [e1] at h; exact h
  | exc x => rw [e1] at h; exact exc_of k h
  | ok w =>
    rw [e1] at h
    intro p F' H' s hp hF o
    have k' := k.step s
    refine h _ F' H' s.fr (k'.setO hF (k.st.hp.free hp) o fun j w' hj hρ hσ => ?_)
    obtain ⟨a, ha, _, _, oa⟩ := k.own j w' hρ
    rw [ha] at hσ
    cases hσ
    obtain ⟨u, hu⟩ := oa.some
    rw [hp] at hu
    cases hu
theorem ds_setO (i : Nat) {x : Str} {e : Expr} {f : DEnv → R Ow} {pos pos' : Pos} (hN : X.N.Nodup) (he : DOw X F0 H0 W e f) (hi : X.N[i]? = some x := by rfl) (hx : Loc X.env.scope x := by first | exact .inl rfl | exact .inr rfl)
    (hs : swapsWith e (some (.Name x pos')) pos.line X.env = pure false := by rfl) (hf : X.fn x = true ∨ X.env.scope.names.lookup x = some .local := by first | exact .inl rfl | exact .inr rfl) :
    DS X F0 H0 W (.Assign [.Name x pos'] e pos) (sSetO i f) := PS.imp (ps_set hN hi hx he hs hf) tSetO_of
def oLst (f : DEnv → R (List PyData)) : DEnv → R Ow := fun ρ => (f ρ).bind fun ds => if ds.length ≤ sizeLine then .ok (.lst ds) else .bad
theorem dow_lst {es : List Expr} {f : DEnv → R (List PyData)} {pos : Pos} (h : DA X F0 H0 W es f) : DOw X F0 H0 W (.List es pos) (oLst f) := PE.imp (pe_lst h) fun σ H Q h => by
  obtain ⟨F, ρ, k, h⟩ := h
  unfold oLst at h
  refine ⟨F, ρ, k, ?_⟩
  cases e1 : f ρ with
  | bad => rw [e1] at h; exact h
  | exc x => rw [e1] at h; exact h
  | ok ds =>
    rw [e1, R.bind_ok] at h
    intro vs F1 H1 s1 r1
    by_cases hz : ds.length ≤ sizeLine
    · rw [if_pos hz] at h
      refine ⟨by rw [r1.length]; exact hz, fun p hp => ?_⟩
      exact h p _ _ (s1.trans (Stp.newOwn s1.sub hp)) (s1.hp.free hp) (s1.sub.free hp) ⟨vs, upd_same, r1⟩
    · rw [if_neg hz] at h; exact h.elim
def oDict : DEnv → R Ow := fun _ => .ok (.dK [])
theorem dow_dict {pos : Pos} : DOw X F0 H0 W (.Dict [] [] pos) oDict := PE.imp pe_dnewK fun σ H Q h => by
  obtain ⟨F, ρ, k, h⟩ := h
  exact fun p hp => h p _ _ (Stp.newOwn k.st.sub hp) hp (k.st.sub.free hp) ⟨[], upd_same, .nil⟩
/-- what stands at a name of its own, changed -/
theorem Ok.mut {F H : Hp} {ρ : DEnv} {σ : L2.St} {i : Nat} {w w' : Ow} {a : Addr} {o : HO} (k : Ok K F0 H0 F ρ σ H) (e : ρ[i]? = some (.own w)) (ha : σ[i]? = some (some (.ref a))) (hF : F a = none) (h0 : H0 a = none)
    (ow : OwnAt K F (upd H a o) a w') : Ok K F0 H0 F (ρ.set i (.own w')) σ (upd H a o) := by
  have hs : σ.set i (some (.ref a)) = σ := by
    obtain ⟨hl, he⟩ := List.getElem?_eq_some_iff.mp ha
    rw [← he, List.set_getElem_self]
  have ap : ∀ (j : Nat) (w' : Ow), j ≠ i → ρ[j]? = some (.own w') → σ[j]? ≠ some (some (.ref a)) := fun j w' hj hρ hσ => hj (k.sep j i w' w a hρ e hσ ha)
  have k1 : Ok K F0 H0 F (ρ.set i .un) σ (upd H a o) := {
    st := ⟨k.st.fr, fun b u hb => by
      rw [upd_ne (ne_of_none hb h0)]; exact k.st.hp b u hb, fun b u hb => by
      rw [upd_ne (ne_of_none hb hF)]; exact k.st.sub b u hb, k.st.new⟩
    len := by simp [k.len]
    val := fun j d hj => by
      have k2 := k.drop i
      exact k2.val j d hj
    own := fun j w2 hj => by
      have hji : j ≠ i := fun z => by
        subst z
        have hl : j < ρ.length := (List.getElem?_eq_some_iff.mp e).1
        rw [List.getElem?_set_self hl] at hj
        cases hj
      rw [List.getElem?_set_ne (Ne.symm hji)] at hj
      obtain ⟨b, hb, hFb, h0b, ob⟩ := k.own j w2 hj
      have hab : b ≠ a := fun z => ap j w2 hji hj (by rw [hb, z])
      exact ⟨b, hb, hFb, h0b, ob.mono (.refl _) (upd_ne hab)⟩
    sep := (k.drop i).sep }
  have k2 := k1.setO (i := i) hF h0 ow fun j w2 hj hρ => by
    rw [List.getElem?_set_ne (Ne.symm hj)] at hρ
    exact ap j w2 hj hρ
  rw [hs, List.set_set] at k2
  exact k2
/-- x.append(e) -/
def sApp (i : Nat) (f : DEnv → R PyData) : DEnv → SR := fun ρ => match ρ[i]? with
  | some (.own (.lst ds)) => match f ρ with
    | .ok d => if ds.length < sizeLine then .next (ρ.set i (.own (.lst (ds ++ [d])))) else .bad
    | .exc e => .exc e ρ
    | .bad => .bad
  | _ => .bad
theorem ds_append (i : Nat) {x : Str} {e : Expr} {f : DEnv → R PyData} {p apos cpos pos : Pos} (he : DE X F0 H0 W e f) (hN : X.N[i]? = some x := by rfl) (hv : Vis X.env.scope x := by first | exact Or.inl rfl | exact Or.inr (Or.inl rfl) | exact Or.inr (Or.inr rfl))
    (hd : (x == ("__debug__" : Str)) = false := by decide) (hcd : (x == ("__classdict__" : Str)) = false := by decide)
    (hbase : attributeBase (.Name x p) "append" X.env (eval (.Name x p) X.env) = eval (.Name x p) X.env := by rfl)
    (hfew : ((backTo cpos (starEach [e] X.env)).all (fun x => !x.1) && (backToKw cpos (keywordEach [] X.env)).all (fun x => x.1.isSome)
      && decide ([e].length + ([] : List Keyword).length + (if ([] : List Keyword).isEmpty then 0 else 1) < 30)) = true := by rfl)
    (hline : (apos.endLine == cpos.line) = true := by rfl) (hs : starEach [e] X.env = (false, eval e X.env) :: starEach [] X.env := by rfl) (hplain : (backTo cpos (starEach [] X.env)).any (·.1) = false := by rfl)
    (hsw : swapsWith (.Call (.Attribute (.Name x p) "append" apos) [e] [] cpos) none pos.line X.env = pure false := by rfl) :
    DS X F0 H0 W (.Expr (.Call (.Attribute (.Name x p) "append" apos) [e] [] cpos) pos) (sApp i f) :=
  PS.imp (ps_expr (pe_bm PySem.F.plainAttrs_list PySem.F.slot_list_append PySem.F.type_list_append mt_append (pe_var hN hv hd hcd) (pa_cons he pa_nil hs) hbase hfew hline hs hplain) hsw) fun D σ H h => by
    obtain ⟨F, ρ, k, h⟩ := h
    unfold sApp at h
    cases e0 : ρ[i]? with
    | none => rw [e0] at h; exact h.elim
    | some sl =>
      cases sl with
      | un => rw [e0] at h; exact h.elim
      | val d => rw [e0] at h; exact h.elim
      | own w =>
        cases w with
        | dK kvs => rw [e0] at h; exact h.elim
        | dN kvs => rw [e0] at h; exact h.elim
        | lst ds =>
          rw [e0] at h
          have h : SPo X.K X.mg F0 H0 W D F (match f ρ with
            | .ok d => if ds.length < sizeLine then .next (ρ.set i (.own (.lst (ds ++ [d])))) else .bad
            | .exc e => .exc e ρ
            | .bad => .bad) := h
          obtain ⟨a, ha, hF, h0, xs, hxs, rx⟩ := k.own i _ e0
          refine ⟨.ref a, ha, .inl ⟨rfl, _, .inl (.inl hxs)⟩, F, ρ, k, ?_⟩
          cases e1 : f ρ with
          | bad => rw [e1] at h; exact h
          | exc x => rw [e1] at h; exact exc_of k h
          | ok d =>
            rw [e1] at h
            intro v F' H' s r
            have k' := k.step s
            have h : SPo X.K X.mg F0 H0 W D F (if ds.length < sizeLine then .next (ρ.set i (.own (.lst (ds ++ [d])))) else .bad) := h
            by_cases hz : ds.length < sizeLine
            · rw [if_pos hz] at h
              obtain ⟨a', ha', hF', h0', xs', hxs', rx'⟩ := k'.own i _ e0
              rw [ha] at ha'
              cases ha'
              refine ⟨a, xs', v, rfl, rfl, hxs', by rw [rx'.length]; exact hz, ?_⟩
              exact h _ F' _ s.fr (k'.mut e0 ha hF' h0' ⟨_, upd_same, rx'.append (.cons r .nil)⟩)
            · rw [if_neg hz] at h; exact h.elim
/-- d[k] = v in a dict of its own -/
def dput (kvs : List (PyData × PyData)) (k v : PyData) : List (PyData × PyData) :=
  if (kvs.any fun kv => keyEq kv.1 k) then kvs.map fun kv => if keyEq kv.1 k then (kv.1, v) else kv else kvs ++ [(k, v)]
theorem RpKV.any {F : Hp} {k : Key} : ∀ {es : List (Key × V)} {kvs : List (PyData × PyData)}, RpKV K F es kvs → (es.any fun kv => decide (kv.1 = k)) = kvs.any fun kv => keyEq kv.1 (keyD k)
  | _, _, .nil => rfl
  | _, _, @RpKV.cons _ _ _ k' v es d kvs r rs => by
    rw [List.any_cons, List.any_cons, RpKV.any rs, keyEq_keyD]
theorem RpKV.repl {F : Hp} {k : Key} {v : V} {d : PyData} (r : Rp K F v d) : ∀ {es : List (Key × V)} {kvs : List (PyData × PyData)}, RpKV K F es kvs → RpKV K F (es.map fun kv => if kv.1 = k then (kv.1, v) else kv) (kvs.map fun kv => if keyEq kv.1 (keyD k) then (kv.1, d) else kv)
  | _, _, .nil => .nil
  | _, _, @RpKV.cons _ _ _ k' v' es d' kvs r' rs => by
    rw [List.map_cons, List.map_cons]
    by_cases c : k' = k
    · have e : keyEq (keyD k') (keyD k) = true := by rw [keyEq_keyD]; exact decide_eq_true c
      simp only [c, if_true, e]
      rw [c] at e
      simp only [e, if_true]
      exact .cons r (RpKV.repl r rs)
    · have e : keyEq (keyD k') (keyD k) = false := by rw [keyEq_keyD]; exact decide_eq_false c
      simp only [c, if_false, e]
      exact .cons r' (RpKV.repl r rs)
theorem RpKV.snoc {F : Hp} {k : Key} {v : V} {d : PyData} (r : Rp K F v d) : ∀ {es : List (Key × V)} {kvs : List (PyData × PyData)}, RpKV K F es kvs → RpKV K F (es ++ [(k, v)]) (kvs ++ [(keyD k, d)])
  | _, _, .nil => .cons r .nil
  | _, _, .cons r' rs => .cons r' (RpKV.snoc r rs)
theorem RpKV.put {F : Hp} {k : Key} {v : V} {d : PyData} (r : Rp K F v d) {es : List (Key × V)} {kvs : List (PyData × PyData)} (h : RpKV K F es kvs) : RpKV K F (putK es k v) (dput kvs (keyD k) d) := by
  unfold putK dput
  rw [h.any (k := k)]
  cases (kvs.any fun kv => keyEq kv.1 (keyD k)) with
  | true => exact RpKV.repl r h
  | false => exact RpKV.snoc r h
def sPut (i : Nat) (fk fv : DEnv → R PyData) : DEnv → SR := fun ρ => match ρ[i]? with
  | some (.own (.dK kvs)) => match fv ρ with
    | .ok v => match fk ρ with
      | .ok d => if isKey d = true ∧ kvs.length < sizeLine then .next (ρ.set i (.own (.dK (dput kvs d v)))) else .bad
      | .exc e => .exc e ρ
      | .bad => .bad
    | .exc e => .exc e ρ
    | .bad => .bad
  | _ => .bad
theorem ds_put (i : Nat) {x : Str} {ek ev : Expr} {fk fv : DEnv → R PyData} {p pos' pos : Pos} (hu : X.A.units + 1 < cLine) (hk : DE X F0 H0 W ek fk) (hv : DE X F0 H0 W ev fv) (hN : X.N[i]? = some x := by rfl)
    (hvis : Vis X.env.scope x := by first | exact Or.inl rfl | exact Or.inr (Or.inl rfl) | exact Or.inr (Or.inr rfl)) (hd : (x == ("__debug__" : Str)) = false := by decide) (hcd : (x == ("__classdict__" : Str)) = false := by decide)
    (hs : swapsWith ev (some (.Subscript (.Name x p) ek pos')) pos.line X.env = pure false := by rfl) : DS X F0 H0 W (.Assign [.Subscript (.Name x p) ek pos'] ev pos) (sPut i fk fv) :=
  PS.imp (ps_dput hu (pe_var hN hvis hd hcd) hk hv hs) fun D σ H h => by
    obtain ⟨F, ρ, k, h⟩ := h
    unfold sPut at h
    cases e0 : ρ[i]? with
    | none => rw [e0] at h; exact h.elim
    | some sl =>
      cases sl with
      | un => rw [e0] at h; exact h.elim
      | val d => rw [e0] at h; exact h.elim
      | own w =>
        cases w with
        | lst kvs => rw [e0] at h; exact h.elim
        | dN kvs => rw [e0] at h; exact h.elim
        | dK kvs =>
          rw [e0] at h
          dsimp only at h
          refine ⟨F, ρ, k, ?_⟩
          cases e1 : fv ρ with
          | bad => rw [e1] at h; exact h
          | exc x => rw [e1] at h; exact exc_of k h
          | ok dv =>
            rw [e1] at h
            dsimp only at h
            intro v F1 H1 s1 r1
            have k1 := k.step s1
            obtain ⟨a, ha, hF, h0, _⟩ := k1.own i _ e0
            refine ⟨.ref a, ha, F1, ρ, k1, ?_⟩
            cases e2 : fk ρ with
            | bad => rw [e2] at h; exact h
            | exc x => rw [e2] at h; exact exc_of k1 (SPo.step s1.fr h)
            | ok dk =>
              rw [e2] at h
              dsimp only at h
              intro y F2 H2 s2 r2
              have k2 := k1.step s2
              split at h
              · rename_i hc
                obtain ⟨key, rfl, rfl⟩ := key_of_data r2 hc.1
                obtain ⟨a', ha', hF', h0', es, hes, rs⟩ := k2.own i _ e0
                rw [ha] at ha'
                cases ha'
                refine ⟨a, _, rfl, DPut.k hes (by rw [rs.length]; exact hc.2), ?_⟩
                exact h _ F2 _ (s1.trans s2).fr (k2.mut e0 ha hF' h0' ⟨_, upd_same, RpKV.put (r1.mono s2.fr) rs⟩)
              · exact h.elim
/-! frozen from here on -/
def frzE (i : Nat) (ρ : DEnv) : DEnv := match ρ[i]? with
  | some (.own (.lst ds)) => ρ.set i (.val (.list ds))
  | some (.own (.dK kvs)) => ρ.set i (.val (.dict kvs))
  | some (.own (.dN kvs)) => ρ.set i (.val (.dict kvs))
  | _ => ρ
theorem stp_frz {F H : Hp} {a : Addr} {o : HO} (s : Stp F0 H0 F H) (h0 : H0 a = none) (hF : F a = none) : Stp F0 H0 (upd F a o) (upd H a o) :=
  ⟨s.fr.trans (same_upd hF), fun b u e => by rw [upd_ne (ne_of_none e h0)]; exact s.hp b u e, fun b u e => by
    by_cases hb : b = a
    · subst hb; rw [upd_same] at e ⊢; exact e
    · rw [upd_ne hb] at e ⊢; exact s.sub b u e, fun b u e => by
    by_cases hb : b = a
    · subst hb; exact .inr h0
    · rw [upd_ne hb] at e; exact s.new b u e⟩
theorem Ok.frz {F H : Hp} {ρ : DEnv} {σ : L2.St} {i : Nat} {w : Ow} {a : Addr} {o : HO} {d : PyData} (k : Ok K F0 H0 F ρ σ H) (e : ρ[i]? = some (.own w)) (ha : σ[i]? = some (some (.ref a))) (hF : F a = none) (h0 : H0 a = none)
    (r : Rp K (upd F a o) (.ref a) d) : Ok K F0 H0 (upd F a o) (ρ.set i (.val d)) σ (upd H a o) := by
  have hs : σ.set i (some (.ref a)) = σ := by
    obtain ⟨hl, he⟩ := List.getElem?_eq_some_iff.mp ha
    rw [← he, List.set_getElem_self]
  have ap : ∀ (j : Nat) (w' : Ow), j ≠ i → ρ[j]? = some (.own w') → σ[j]? ≠ some (some (.ref a)) := fun j w' hj hρ hσ => hj (k.sep j i w' w a hρ e hσ ha)
  have sF : Same F (upd F a o) := same_upd hF
  have k1 : Ok K F0 H0 (upd F a o) (ρ.set i .un) σ (upd H a o) := {
    st := stp_frz k.st h0 hF
    len := by simp [k.len]
    val := fun j d hj => by
      obtain ⟨v, hv, rv⟩ := (k.drop i).val j d hj
      exact ⟨v, hv, rv.mono sF⟩
    own := fun j w2 hj => by
      have hji : j ≠ i := fun z => by
        subst z
        have hl : j < ρ.length := (List.getElem?_eq_some_iff.mp e).1
        rw [List.getElem?_set_self hl] at hj
        cases hj
      rw [List.getElem?_set_ne (Ne.symm hji)] at hj
      obtain ⟨b, hb, hFb, h0b, ob⟩ := k.own j w2 hj
      have hab : b ≠ a := fun z => ap j w2 hji hj (by rw [hb, z])
      exact ⟨b, hb, by rw [upd_ne hab]; exact hFb, h0b, ob.mono sF (upd_ne hab)⟩
    sep := (k.drop i).sep }
  have k2 := k1.setV (i := i) r
  rw [hs, List.set_set] at k2
  exact k2
/-- an empty dict whose keys were to be tuples is an empty dict -/
theorem lock_empty {pins : List (Addr × Obj)} {σ : L2.St} {H : Hp} {s : Shared} {a : Addr} (I : Inv X pins σ H s) (h : H a = some (dNo a [])) : ∃ od, Inv X pins σ (upd H a (.frz od (.dK []))) s := by
  obtain ⟨⟨z, hd, ys, rel, o, es, ep, h1, h2, h3, h4, h5⟩, he, _⟩ := (show ObjOk X.prog X.w H s.heap a (dNo a []) from I.hok a _ h)
  cases rel
  have e0 : es = #[] := by
    have : es.toList = [] := h4
    exact Array.toList_eq_nil_iff.mp this
  subst e0
  have new : ObjOk X.prog X.w (upd H a (.dK [])) s.heap a (.dK []) := ⟨z, hd, [], .nil, o, #[], ep, h1, h2, h3, by intro i hi; exact absurd hi (by simp), .nil, List.nodup_nil⟩
  have I2 : Inv X pins σ (upd H a (.dK [])) { s with heap := s.heap, toks := s.toks } := I.write (x := a) (e := a) (t' := s.toks) (h' := s.heap) (by rw [h]; exact True.intro) (.inl rfl) (fun b v _ q => q) ⟨o, h1⟩ new
  obtain ⟨od, I3⟩ := I2.lock upd_same trivial
  rw [upd_upd] at I3
  exact ⟨od, I3⟩
theorem ds_frz (i : Nat) {st : Stmt} {f : DEnv → SR} (h : DS X F0 H0 W st f) : DS X F0 H0 W st (fun ρ => f (frzE i ρ)) := by
  refine ⟨fun pins s σ H D I hw => ?_⟩
  obtain ⟨F, ρ, k, hw⟩ := hw
  have hw : SPo X.K X.mg F0 H0 W D F (f (frzE i ρ)) := hw
  unfold frzE at hw
  cases e0 : ρ[i]? with
  | none => rw [e0] at hw; exact h.run pins s σ H D I ⟨F, ρ, k, hw⟩
  | some sl =>
    cases sl with
    | un => rw [e0] at hw; exact h.run pins s σ H D I ⟨F, ρ, k, hw⟩
    | val d => rw [e0] at hw; exact h.run pins s σ H D I ⟨F, ρ, k, hw⟩
    | own w =>
      cases w with
      | lst ds =>
        rw [e0] at hw
        obtain ⟨a, ha, hF, h0, xs, hxs, rx⟩ := k.own i _ e0
        have hz : xs.length ≤ sizeLine := (I.lstM hxs).1
        have sF : Same F (upd F a (.lst xs)) := same_upd hF
        have k2 := k.frz (o := .lst xs) (d := .list ds) e0 ha hF h0 (.lst (.inl (.inl upd_same)) hz (rx.mono sF))
        have eH : upd H a (.lst xs) = H := by
          funext b
          unfold upd
          split
          · rename_i z; rw [z, hxs]
          · rfl
        rw [eH] at k2
        exact h.run pins s σ H D I ⟨_, _, k2, SPo.step sF hw⟩
      | dK kvs =>
        rw [e0] at hw
        obtain ⟨a, ha, hF, h0, es, hes, rs⟩ := k.own i _ e0
        have hz : es.length ≤ sizeLine := (I.hok a _ hes).1
        obtain ⟨od, I2⟩ := I.lock hes trivial
        have sF : Same F (upd F a (.frz od (.dK es))) := same_upd hF
        have k2 := k.frz (o := .frz od (.dK es)) (d := .dict kvs) e0 ha hF h0 (.dct upd_same hz (rs.mono sF))
        exact h.run pins s σ _ D I2 ⟨_, _, k2, SPo.step sF hw⟩
      | dN kvs =>
        rw [e0] at hw
        obtain ⟨a, ha, hF, h0, xs, hxs, rs⟩ := k.own i _ e0
        have hz : xs.length ≤ sizeLine := (I.hok a _ hxs).1.1
        cases rs with
        | nil =>
          obtain ⟨od, I2⟩ := lock_empty I hxs
          have sF : Same F (upd F a (.frz od (.dK []))) := same_upd hF
          have k2 := k.frz (o := .frz od (.dK [])) (d := .dict []) e0 ha hF h0 (.dct upd_same hz .nil)
          exact h.run pins s σ _ D I2 ⟨_, _, k2, SPo.step sF hw⟩
        | cons z hk hv rs =>
          obtain ⟨od, I2⟩ := I.lock hxs trivial
          rename_i k' b v xs d kvs
          have sF : Same F (upd F a (.frz od (dNo a ((k', b, v) :: xs)))) := same_upd hF
          have k2 := k.frz (o := .frz od (dNo a ((k', b, v) :: xs))) (d := .dict ((k'.data, d) :: kvs)) e0 ha hF h0 (.dctN upd_same hz (fun z => nomatch z) (RpN.mono sF (.cons z hk hv rs)))
          exact h.run pins s σ _ D I2 ⟨_, _, k2, SPo.step sF hw⟩
/-! looked into where it stands -/
def peek (i : Nat) (ρ : DEnv) : R PyData := match ρ[i]? with
  | some (.own (.lst ds)) => .ok (.list ds)
  | some (.own (.dK kvs)) => .ok (.dict kvs)
  | some (.val d) => .ok d
  | _ => .bad
/-- len(x) -/
def fLenO (i : Nat) : DEnv → R PyData := fun ρ => (peek i ρ).bind gLen
theorem de_lenO (i : Nat) {x : Str} {p p2 pos : Pos} (hg : Gl X "len") (hm : X.mg "len" = none) (hN : X.N[i]? = some x := by rfl) (hv : Vis X.env.scope x := by first | exact Or.inl rfl | exact Or.inr (Or.inl rfl) | exact Or.inr (Or.inr rfl))
    (hd : (x == ("__debug__" : Str)) = false := by decide) (hcd : (x == ("__classdict__" : Str)) = false := by decide) (he : starEach [.Name x p2] X.env = (false, eval (.Name x p2) X.env) :: starEach [] X.env := by rfl) (hpl : (backTo pos (starEach [] X.env)).any (·.1) = false := by rfl) :
    DE X F0 H0 W (.Call (.Name "len" p) [.Name x p2] [] pos) (fLenO i) := PE.imp (pe_callB call_lenD hg hm PySem.boot_len (pa_cons (pe_var hN hv hd hcd) pa_nil he) (by decide) (by decide) he hpl) fun σ H Q h => by
  obtain ⟨F, ρ, k, h⟩ := h
  unfold fLenO peek at h
  cases e0 : ρ[i]? with
  | none => rw [e0] at h; exact h.elim
  | some sl =>
    cases sl with
    | un => rw [e0] at h; exact h.elim
    | val d =>
      rw [e0] at h
      dsimp only [R.bind_ok] at h
      obtain ⟨v, hv, r⟩ := k.val i d e0
      refine ⟨v, hv, ?_⟩
      cases e1 : gLen d with
      | bad => rw [e1] at h; exact h.elim
      | exc z => exact absurd e1 (nx_gLen _ _)
      | ok d' =>
        rw [e1] at h
        exact o_len F H [v] [d] d' k.st.sub (.cons r .nil) e1 Q h
    | own w =>
      rw [e0] at h
      obtain ⟨a, ha, hF, h0, o⟩ := k.own i _ e0
      cases w with
      | lst ds =>
        obtain ⟨xs, hxs, rx⟩ := o
        refine ⟨.ref a, ha, .inl (.inl ⟨a, xs, rfl, .inl (.inl (.inl hxs)), ?_⟩)⟩
        rw [rx.length]
        exact h _ F H (.refl k.st.sub) (.int _)
      | dK kvs =>
        obtain ⟨es, hes, rs⟩ := o
        refine ⟨.ref a, ha, .inr ⟨a, es, rfl, .inl hes, ?_⟩⟩
        have e1 : gLen (.dict kvs) = .ok (.int kvs.length) := by
          show (if keysK kvs = true then R.ok (PyData.int kvs.length) else .bad) = _
          rw [if_pos rs.keys]
        dsimp only [R.bind_ok] at h
        rw [e1] at h
        rw [rs.length]
        exact h _ F H (.refl k.st.sub) (.int _)
      | dN kvs =>
        exact h.elim
end
end DL
namespace DL
open PySem PySem.Spec PyProof.Rows L2
variable [TheW]
section
variable {X : Cx} {F0 H0 : Hp} {W : WX} {K : PySem.W.Frag} {mg : Str → Option Value}
/-! ### [e for x in xs if t] -/
abbrev WF : WX := fun _ _ _ _ => False
def R.noX {α : Type} (x : R α) : R α := match x with
  | .ok a => .ok a
  | _ => .bad
@[simp] theorem R.noX_ok {α : Type} (a : α) : (R.ok a).noX = .ok a := rfl
@[simp] theorem R.noX_exc {α : Type} (a : Exn) : (R.exc a : R α).noX = .bad := rfl
@[simp] theorem R.noX_bad {α : Type} : (R.bad : R α).noX = .bad := rfl
def lcD (g : PyData → DEnv → Option DEnv) (ft : DEnv → R Bool) (fe : DEnv → R PyData) : List PyData → DEnv → R (List PyData)
  | [], _ => .ok []
  | d :: ds, ρ => match g d ρ with
    | none => .bad
    | some ρ1 => (ft ρ1).noX.bind fun b => if b = true then (fe ρ1).noX.bind fun e => (lcD g ft fe ds ρ).bind fun es => .ok (e :: es) else lcD g ft fe ds ρ
theorem lcD_length {g : PyData → DEnv → Option DEnv} {ft : DEnv → R Bool} {fe : DEnv → R PyData} : ∀ {items : List PyData} {ρ : DEnv} {ds : List PyData}, lcD g ft fe items ρ = .ok ds → ds.length ≤ items.length
  | [], _, _, h => by cases h; exact Nat.le_refl _
  | d :: ds, ρ, es, h => by
    unfold lcD at h
    split at h
    · cases h
    · rename_i ρ1 e
      cases e1 : (ft ρ1).noX with
      | bad => rw [e1] at h; cases h
      | exc x => rw [e1] at h; cases h
      | ok b =>
        rw [e1, R.bind_ok] at h
        cases b with
        | false =>
          rw [if_neg Bool.false_ne_true] at h
          exact Nat.le_succ_of_le (lcD_length h)
        | true =>
          rw [if_pos rfl] at h
          cases e2 : (fe ρ1).noX with
          | bad => rw [e2] at h; cases h
          | exc x => rw [e2] at h; cases h
          | ok y =>
            rw [e2, R.bind_ok] at h
            cases e3 : lcD g ft fe ds ρ with
            | bad => rw [e3] at h; cases h
            | exc x => rw [e3] at h; cases h
            | ok zs =>
              rw [e3] at h
              cases h
              exact Nat.succ_le_succ (lcD_length e3)
theorem lcD_nx {g : PyData → DEnv → Option DEnv} {ft : DEnv → R Bool} {fe : DEnv → R PyData} : ∀ {items : List PyData} {ρ : DEnv} {x : Exn}, lcD g ft fe items ρ ≠ .exc x
  | [], _, _, h => by cases h
  | d :: ds, ρ, x, h => by
    unfold lcD at h
    split at h
    · cases h
    · rename_i ρ1 e
      cases e1 : ft ρ1 with
      | bad => rw [e1] at h; cases h
      | exc x => rw [e1] at h; cases h
      | ok b =>
        rw [e1, R.noX_ok, R.bind_ok] at h
        cases b with
        | false =>
          rw [if_neg Bool.false_ne_true] at h
          exact lcD_nx h
        | true =>
          rw [if_pos rfl] at h
          cases e2 : fe ρ1 with
          | bad => rw [e2] at h; cases h
          | exc x => rw [e2] at h; cases h
          | ok y =>
            rw [e2, R.noX_ok, R.bind_ok] at h
            cases e3 : lcD g ft fe ds ρ with
            | bad => rw [e3] at h; cases h
            | exc x => exact lcD_nx e3
            | ok zs => rw [e3] at h; cases h
theorem wipe_wipe (σ : L2.St) : ∀ vs : List Nat, L2.wipe (L2.wipe σ vs) vs = L2.wipe σ vs := by
  have set_wipe : ∀ (ws : List Nat) (σ : L2.St) (v : Nat), L2.wipe (σ.set v none) ws = (L2.wipe σ ws).set v none := by
    intro ws
    induction ws with
    | nil => intro _ _; rfl
    | cons w ws ih =>
      intro σ v
      unfold L2.wipe
      rw [ih]
      by_cases h : v = w
      · subst h; rfl
      · rw [List.set_comm _ _ h]
  intro vs
  induction vs with
  | nil => rfl
  | cons v vs ih =>
    show (L2.wipe ((L2.wipe σ vs).set v none) vs).set v none = (L2.wipe σ vs).set v none
    rw [set_wipe, ih, List.set_set]
structure DTs (X : Cx) (F0 H0 : Hp) (W : WX) (ifs : List Expr) (f : DEnv → R Bool) : Prop where
  run : PTs X ifs (tDT X.K X.mg F0 H0 W f)
theorem PTs.imp {ifs : List Expr} {t t' : TT} (h : PTs X ifs t) (i : ∀ σ H Q, t' σ H Q → t σ H Q) : PTs X ifs t' := ⟨fun pins s σ H Q I q => h.run pins s σ H Q I (i σ H Q q)⟩
def fYes : DEnv → R Bool := fun _ => .ok true
theorem dts_nil : DTs X F0 H0 W [] fYes := ⟨PTs.imp pts_nil fun σ H Q h => by
  obtain ⟨F, ρ, k, h⟩ := h
  exact h F H (.refl k.st.sub)⟩
theorem dts_one {c : Expr} {f : DEnv → R Bool} (h : DT X F0 H0 W c f) : DTs X F0 H0 W [c] f := ⟨pts_one h⟩
/-- the comprehension's reading, its list at D still its maker's own -/
def fLcO (fi : DEnv → R (List PyData)) (g : PyData → DEnv → Option DEnv) (ft : DEnv → R Bool) (fe : DEnv → R PyData) (vs : List Nat) : DEnv → R (List PyData) := fun ρ => (fi ρ).bind fun items => lcD g ft fe items (wipeE ρ vs)
theorem lc_of {RR : Hp → V → PyData → Prop} {tg iter : Expr} {fi : DEnv → R (List PyData)} {t : TG} {js : List Nat} {g : PyData → DEnv → Option DEnv} {ft : DEnv → R Bool} {fe : DEnv → R PyData} {vs : List Nat} {wi : TI} {Q : VK} {σ : L2.St} {H : Hp}
    (sem : ∀ (σ : L2.St) (H : Hp) (Q : It → Hp → Prop), (∃ F ρ, Ok K F0 H0 F ρ σ H ∧ match fi ρ with
      | .ok items => ∀ J F' H', Stp F H F' H' → ItOk RR J F' items → Q J H'
      | .exc e => Exc K mg W F H σ e
      | .bad => False) → wi σ H Q)
    (hg : ∀ (F H : Hp) (ρ ρ' : DEnv) (σ : L2.St) (v : V) (d : PyData), Ok K F0 H0 F ρ σ H → RR F v d → g d ρ = some ρ' → ∀ Q : L2.St → Hp → Prop,
      (∀ σ', Ok K F0 H0 F ρ' σ' H → (∀ vs : List Nat, (∀ j ∈ js, j ∈ vs) → L2.wipe σ' vs = L2.wipe σ vs) → OwnKept ρ σ ρ' σ' → Q σ' H) → t v σ H Q)
    (hjs : ∀ j ∈ js, j ∈ vs)
    (h : ∃ F ρ, Ok K F0 H0 F ρ σ H ∧ match fLcO fi g ft fe vs ρ with
      | .ok ds => ds.length ≤ sizeLine → ∀ p F' H', Stp F H F' H' → H p = none → F' p = none → OwnAt K F' H' p (.lst ds) → Q (.ref p) H'
      | .exc e => Exc K mg W F H σ e
      | .bad => False) : tLc wi t (tDT K mg F0 H0 WF ft) (tD K mg F0 H0 WF fe) vs σ H Q := by
  obtain ⟨F, ρ, k, h⟩ := h
  unfold fLcO at h
  refine sem σ H _ ⟨F, ρ, k, ?_⟩
  cases e1 : fi ρ with
  | bad => rw [e1] at h; exact h
  | exc x => rw [e1] at h; exact h
  | ok items =>
    rw [e1, R.bind_ok] at h
    intro J F1 H1 s1 itok
    have k1 := k.step s1
    cases e2 : lcD g ft fe items (wipeE ρ vs) with
    | bad => rw [e2] at h; exact h.elim
    | exc x => exact absurd e2 lcD_nx
    | ok total =>
      rw [e2] at h
      have hz : total.length ≤ sizeLine := Nat.le_trans (lcD_length e2) itok.len
      intro D hD
      refine ⟨fun i m H => m = items.length - i ∧ i ≤ items.length ∧ ∃ Fi acc done rest, Stp F1 H1 Fi H ∧ Fi D = none ∧ H D = some (.lst acc) ∧ RpAll K Fi acc done ∧ lcD g ft fe (items.drop i) (wipeE ρ vs) = .ok rest ∧ done ++ rest = total,
        ⟨items.length, by simp, Nat.zero_le _, F1, [], [], total, Stp.newOwn k1.st.sub hD, k1.st.sub.free hD, upd_same, .nil, e2, rfl⟩, ?_⟩
      rintro i m H ⟨rfl, hi, Fi, acc, done, rest, si, fD, hDa, ra, er, et⟩
      by_cases hlt : i < items.length
      · refine .inr ⟨itok.goes i Fi H hlt si.fr si.sub, fun H' => ∃ Fi acc done rest, Stp F1 H1 Fi H' ∧ Fi D = none ∧ H' D = some (.lst acc) ∧ RpAll K Fi acc done ∧ lcD g ft fe (items.drop (i + 1)) (wipeE ρ vs) = .ok rest ∧ done ++ rest = total,
          fun H' q => ⟨items.length - (i + 1), by omega, rfl, hlt, q⟩, fun x H' y => ?_⟩
        obtain ⟨F2, d, hd, s2, rd⟩ := itok.yields i Fi H x H' hlt si.fr si.sub y
        have free2 : F2 D = none := by
          cases q : F2 D with
          | none => rfl
          | some o =>
            rcases s2.new D o q with z | z
            · rw [fD] at z; cases z
            · rw [hDa] at z; cases z
        have hD2 : H' D = some (.lst acc) := s2.hp D _ hDa
        have s12 := si.trans s2
        have ed : items.drop i = d :: items.drop (i + 1) := by
          obtain ⟨_, e⟩ := List.getElem?_eq_some_iff.mp hd
          rw [List.drop_eq_getElem_cons hlt, e]
        rw [ed] at er
        unfold lcD at er
        cases e3 : g d (wipeE ρ vs) with
        | none => rw [e3] at er; cases er
        | some ρ1 =>
          rw [e3] at er
          dsimp only at er
          have kw : Ok K F0 H0 F2 (wipeE ρ vs) (L2.wipe σ vs) H' := (k1.step s12).wipe vs
          refine hg F2 H' (wipeE ρ vs) ρ1 (L2.wipe σ vs) x d kw rd e3 _ fun σ2 k2 w2 _ => ⟨by rw [w2 vs hjs, wipe_wipe], F2, ρ1, k2, ?_⟩
          cases e4 : ft ρ1 with
          | bad => rw [e4] at er; cases er
          | exc z => rw [e4] at er; cases er
          | ok b =>
            rw [e4, R.noX_ok, R.bind_ok] at er
            intro F3 H3 s3
            have free3 : F3 D = none := by
              cases q : F3 D with
              | none => rfl
              | some o =>
                rcases s3.new D o q with z | z
                · rw [free2] at z; cases z
                · rw [hD2] at z; cases z
            have hD3 : H3 D = some (.lst acc) := s3.hp D _ hD2
            have s13 := s12.trans s3
            cases b with
            | false =>
              rw [if_neg Bool.false_ne_true] at er ⊢
              exact ⟨F3, acc, done, rest, s13, free3, hD3, ra.mono (s2.trans s3).fr, er, et⟩
            | true =>
              rw [if_pos rfl] at er ⊢
              refine ⟨F3, ρ1, k2.step s3, ?_⟩
              cases e5 : fe ρ1 with
              | bad => rw [e5] at er; cases er
              | exc z => rw [e5] at er; cases er
              | ok ev =>
                rw [e5, R.noX_ok, R.bind_ok] at er
                cases e6 : lcD g ft fe (items.drop (i + 1)) (wipeE ρ vs) with
                | bad => rw [e6] at er; cases er
                | exc z => rw [e6] at er; cases er
                | ok rest' =>
                  rw [e6, R.bind_ok] at er
                  cases er
                  intro v F4 H4 s4 r4
                  have free4 : F4 D = none := by
                    cases q : F4 D with
                    | none => rfl
                    | some o =>
                      rcases s4.new D o q with z | z
                      · rw [free3] at z; cases z
                      · rw [hD3] at z; cases z
                  have hD4 : H4 D = some (.lst acc) := s4.hp D _ hD3
                  have s14 := s13.trans s4
                  have ra4 := ra.mono ((s2.trans s3).trans s4).fr
                  refine ⟨acc, hD4, ?_, F4, acc ++ [v], done ++ [ev], rest', ⟨s14.fr, fun b o e => ?_, fun b o e => ?_, s14.new⟩, free4, upd_same, ra4.append (.cons r4 .nil), rfl, by rw [← et]; simp⟩
                  · rw [← et, List.length_append, List.length_cons, ← ra4.length] at hz
                    omega
                  · rw [upd_ne (ne_of_none e hD)]; exact s14.hp b o e
                  · rw [upd_ne (ne_of_none e free4)]; exact s14.sub b o e
      · have e : i = items.length := by omega
        subst e
        rw [List.drop_length] at er
        cases er
        rw [List.append_nil] at et
        subst et
        refine .inl ⟨itok.stops Fi H si.fr si.sub, ?_⟩
        exact h hz D Fi H (s1.trans si) (s1.hp.free hD) fD ⟨acc, hDa, ra⟩
def fLc (fi : DEnv → R (List PyData)) (g : PyData → DEnv → Option DEnv) (ft : DEnv → R Bool) (fe : DEnv → R PyData) (vs : List Nat) : DEnv → R PyData := fun ρ => (fLcO fi g ft fe vs ρ).bind fun ds => .ok (.list ds)
def oLc (fi : DEnv → R (List PyData)) (g : PyData → DEnv → Option DEnv) (ft : DEnv → R Bool) (fe : DEnv → R PyData) (vs : List Nat) : DEnv → R Ow := fun ρ => (fLcO fi g ft fe vs ρ).bind fun ds => .ok (.lst ds)
theorem lc_frz {f : DEnv → R (List PyData)} {σ : L2.St} {H : Hp} {Q : VK} (h : tD K mg F0 H0 W (fun ρ => (f ρ).bind fun ds => .ok (.list ds)) σ H Q) : ∃ F ρ, Ok K F0 H0 F ρ σ H ∧ match f ρ with
    | .ok ds => ds.length ≤ sizeLine → ∀ p F' H', Stp F H F' H' → H p = none → F' p = none → OwnAt K F' H' p (.lst ds) → Q (.ref p) H'
    | .exc e => Exc K mg W F H σ e
    | .bad => False := by
  obtain ⟨F, ρ, k, h⟩ := h
  refine ⟨F, ρ, k, ?_⟩
  dsimp only at h
  cases e : f ρ with
  | bad => rw [e] at h; exact h
  | exc x => rw [e] at h; exact h
  | ok ds =>
    rw [e, R.bind_ok] at h
    intro hz p F' H' s hp hF o
    obtain ⟨xs, hx, rx⟩ := o
    have sF : Same F' (upd F' p (.lst xs)) := same_upd hF
    refine h (.ref p) (upd F' p (.lst xs)) H' ⟨s.fr.trans sF, s.hp, fun b u e => ?_, fun b u e => ?_⟩ (.lst (.inl (.inl upd_same)) (by rw [rx.length]; exact hz) (rx.mono sF))
    · by_cases hb : b = p
      · subst hb; rw [upd_same] at e; cases e; exact hx
      · rw [upd_ne hb] at e; exact s.sub b u e
    · by_cases hb : b = p
      · subst hb; exact .inr hp
      · rw [upd_ne hb] at e; exact s.new b u e
theorem lc_own {f : DEnv → R (List PyData)} {σ : L2.St} {H : Hp} {Q : VK} (h : tOw K mg F0 H0 W (fun ρ => (f ρ).bind fun ds => .ok (.lst ds)) σ H Q) : ∃ F ρ, Ok K F0 H0 F ρ σ H ∧ match f ρ with
    | .ok ds => ds.length ≤ sizeLine → ∀ p F' H', Stp F H F' H' → H p = none → F' p = none → OwnAt K F' H' p (.lst ds) → Q (.ref p) H'
    | .exc e => Exc K mg W F H σ e
    | .bad => False := by
  obtain ⟨F, ρ, k, h⟩ := h
  refine ⟨F, ρ, k, ?_⟩
  dsimp only at h
  cases e : f ρ with
  | bad => rw [e] at h; exact h
  | exc x => rw [e] at h; exact h
  | ok ds =>
    rw [e, R.bind_ok] at h
    exact fun _ => h
section
variable {RR : Hp → V → PyData → Prop} {elt tg iter : Expr} {ifs : List Expr} {scope : Scope} {own : List (Str × Nat)} {pos : Pos} {fi : DEnv → R (List PyData)} {t : TG} {js : List Nat} {g : PyData → DEnv → Option DEnv} {ft : DEnv → R Bool} {fe : DEnv → R PyData}
theorem de_lc (own : List (Str × Nat)) (hc : X.calm = true) (hN : X.N.Nodup) (hi : DI X F0 H0 W RR tg iter fi) (ok : BlkOk X.N X.env.scope scope own)
    (hg : ∀ (s : Shared) (H : Hp) (C : Addr) (cl : List (Str × Addr)) (fp : List Addr), DG (X.blk s H scope (compEnvC scope cl C X.env) fp) F0 H0 RR tg t js g) (hjs : ∀ j ∈ js, j ∈ own.map (·.2))
    (ht : ∀ (s : Shared) (H : Hp) (C : Addr) (cl : List (Str × Addr)) (fp : List Addr), DTs (X.blk s H scope (compEnvC scope cl C X.env) fp) F0 H0 WF ifs ft)
    (he : ∀ (s : Shared) (H : Hp) (C : Addr) (cl : List (Str × Addr)) (fp : List Addr), DE (X.blk s H scope (compEnvC scope cl C X.env) fp) F0 H0 WF elt fe) (hs : ∀ x, foldedSetIterable iter X.env x = pure x := by intro _; rfl) :
    DE X F0 H0 W (.ListComp elt [⟨tg, iter, ifs, 0⟩] scope pos) (fLc fi g ft fe (own.map (·.2))) := by
  obtain ⟨wi, hw, sem⟩ := hi.ex
  refine PE.imp (pe_lc (tt := tDT X.K X.mg F0 H0 WF ft) (te := tD X.K X.mg F0 H0 WF fe) hc hN hw ok (fun s H C cl fp => (hg s H C cl fp).pg) (fun s H C cl fp => (ht s H C cl fp).run) (fun s H C cl fp => he s H C cl fp) hs) fun σ H Q h => ?_
  exact lc_of (tg := tg) (iter := iter) sem (hg X.s_0 X.H_0 0 [] []).sem hjs (lc_frz h)
theorem dow_lc (own : List (Str × Nat)) (hc : X.calm = true) (hN : X.N.Nodup) (hi : DI X F0 H0 W RR tg iter fi) (ok : BlkOk X.N X.env.scope scope own)
    (hg : ∀ (s : Shared) (H : Hp) (C : Addr) (cl : List (Str × Addr)) (fp : List Addr), DG (X.blk s H scope (compEnvC scope cl C X.env) fp) F0 H0 RR tg t js g) (hjs : ∀ j ∈ js, j ∈ own.map (·.2))
    (ht : ∀ (s : Shared) (H : Hp) (C : Addr) (cl : List (Str × Addr)) (fp : List Addr), DTs (X.blk s H scope (compEnvC scope cl C X.env) fp) F0 H0 WF ifs ft)
    (he : ∀ (s : Shared) (H : Hp) (C : Addr) (cl : List (Str × Addr)) (fp : List Addr), DE (X.blk s H scope (compEnvC scope cl C X.env) fp) F0 H0 WF elt fe) (hs : ∀ x, foldedSetIterable iter X.env x = pure x := by intro _; rfl) :
    DOw X F0 H0 W (.ListComp elt [⟨tg, iter, ifs, 0⟩] scope pos) (oLc fi g ft fe (own.map (·.2))) := by
  obtain ⟨wi, hw, sem⟩ := hi.ex
  refine PE.imp (pe_lc (tt := tDT X.K X.mg F0 H0 WF ft) (te := tD X.K X.mg F0 H0 WF fe) hc hN hw ok (fun s H C cl fp => (hg s H C cl fp).pg) (fun s H C cl fp => (ht s H C cl fp).run) (fun s H C cl fp => he s H C cl fp) hs) fun σ H Q h => ?_
  exact lc_of (tg := tg) (iter := iter) sem (hg X.s_0 X.H_0 0 [] []).sem hjs (lc_own h)
/-- y = [..] on one line, y a local -/
theorem ds_setLc (i : Nat) (own : List (Str × Nat)) {y : Str} {py spos : Pos} (hc : X.calm = true) (hN : X.N.Nodup) (hsw : swapsWith (.ListComp elt [⟨tg, iter, ifs, 0⟩] scope pos) (some (.Name y py)) spos.line X.env = pure true)
    (hi : DI X F0 H0 W RR tg iter fi) (ok : BlkOk X.N X.env.scope scope own)
    (hg : ∀ (s : Shared) (H : Hp) (C : Addr) (cl : List (Str × Addr)) (fp : List Addr), DG (X.blk s H scope (compEnvC scope cl C X.env) fp) F0 H0 RR tg t js g) (hjs : ∀ j ∈ js, j ∈ own.map (·.2))
    (ht : ∀ (s : Shared) (H : Hp) (C : Addr) (cl : List (Str × Addr)) (fp : List Addr), DTs (X.blk s H scope (compEnvC scope cl C X.env) fp) F0 H0 WF ifs ft)
    (he : ∀ (s : Shared) (H : Hp) (C : Addr) (cl : List (Str × Addr)) (fp : List Addr), DE (X.blk s H scope (compEnvC scope cl C X.env) fp) F0 H0 WF elt fe) (hy : X.N[i]? = some y := by rfl) (hyl : X.env.scope.names.lookup y = some .local := by rfl) (hs : ∀ x, foldedSetIterable iter X.env x = pure x := by intro _; rfl) :
    DS X F0 H0 W (.Assign [.Name y py] (.ListComp elt [⟨tg, iter, ifs, 0⟩] scope pos) spos) (sAsg (gN i) (fLc fi g ft fe (own.map (·.2)))) := by
  obtain ⟨wi, hw, sem⟩ := hi.ex
  refine PS.imp (ps_setLc (tt := tDT X.K X.mg F0 H0 WF ft) (te := tD X.K X.mg F0 H0 WF fe) hc hN hy hyl hsw hw ok (fun s H C cl fp => (hg s H C cl fp).pg) (fun s H C cl fp => (ht s H C cl fp).run) (fun s H C cl fp => he s H C cl fp) hs) fun D σ H h => ?_
  have h2 : tAsg (tD X.K X.mg F0 H0 W (fLc fi g ft fe (own.map (·.2)))) (gName i) D σ H := tAsg_of (tg := .Name y py) (js := [i]) (fun F H ρ ρ' σ v d k r e Q q => by
    cases e
    exact q _ (k.setV r) (fun vs hv => wipe_set (hv i (by simp))) .set) D σ H h
  exact lc_of (tg := tg) (iter := iter) sem (hg X.s_0 X.H_0 0 [] []).sem hjs (lc_frz h2)
theorem ds_setLcO (i : Nat) (own : List (Str × Nat)) {y : Str} {py spos : Pos} (hc : X.calm = true) (hN : X.N.Nodup) (hsw : swapsWith (.ListComp elt [⟨tg, iter, ifs, 0⟩] scope pos) (some (.Name y py)) spos.line X.env = pure true)
    (hi : DI X F0 H0 W RR tg iter fi) (ok : BlkOk X.N X.env.scope scope own)
    (hg : ∀ (s : Shared) (H : Hp) (C : Addr) (cl : List (Str × Addr)) (fp : List Addr), DG (X.blk s H scope (compEnvC scope cl C X.env) fp) F0 H0 RR tg t js g) (hjs : ∀ j ∈ js, j ∈ own.map (·.2))
    (ht : ∀ (s : Shared) (H : Hp) (C : Addr) (cl : List (Str × Addr)) (fp : List Addr), DTs (X.blk s H scope (compEnvC scope cl C X.env) fp) F0 H0 WF ifs ft)
    (he : ∀ (s : Shared) (H : Hp) (C : Addr) (cl : List (Str × Addr)) (fp : List Addr), DE (X.blk s H scope (compEnvC scope cl C X.env) fp) F0 H0 WF elt fe) (hy : X.N[i]? = some y := by rfl) (hyl : X.env.scope.names.lookup y = some .local := by rfl) (hs : ∀ x, foldedSetIterable iter X.env x = pure x := by intro _; rfl) :
    DS X F0 H0 W (.Assign [.Name y py] (.ListComp elt [⟨tg, iter, ifs, 0⟩] scope pos) spos) (sSetO i (oLc fi g ft fe (own.map (·.2)))) := by
  obtain ⟨wi, hw, sem⟩ := hi.ex
  refine PS.imp (ps_setLc (tt := tDT X.K X.mg F0 H0 WF ft) (te := tD X.K X.mg F0 H0 WF fe) hc hN hy hyl hsw hw ok (fun s H C cl fp => (hg s H C cl fp).pg) (fun s H C cl fp => (ht s H C cl fp).run) (fun s H C cl fp => he s H C cl fp) hs) fun D σ H h => ?_
  have h2 := tSetO_of D σ H h
  exact lc_of (tg := tg) (iter := iter) sem (hg X.s_0 X.H_0 0 [] []).sem hjs (lc_own h2)
end
end
/-! ### defs -/
/-- a def's promise by its data -/
def spD (K : PySem.W.Frag) (mg : Str → Option Value) (n : Nat) (fn : List PyData → R PyData) : Sp := fun vs H Q E => ∃ F ds, Same F H ∧ RpAll K F vs ds ∧ ds.length = n ∧ match fn ds with
  | .ok d => ∀ v F' H', Stp F H F' H' → Rp K F' v d → Q v H'
  | .exc e => ∀ cls od F' H', Stp F H F' H' → ExIs K mg F' e cls od → E cls od H'
  | .bad => False
/-- the def x of the module keeps it, k calls deep at most -/
structure Def (P : Program) (w : World) (K : PySem.W.Frag) (mg : Str → Option Value) (base : Heap) (k : Nat) (x : Str) (n : Nat) (fn : List PyData → R PyData) : Prop where
  ex : ∃ f fd ps, FnOk P w K mg base (L2.CX P w) k f fd ps (spD K mg n fn) ∧ mg x = some (.ref f) ∧ PySem.W.keepIn K (.ref f) = true ∧ Binds K fd ps []
theorem Def.mono {P : Program} {w : World} {K : PySem.W.Frag} {mg : Str → Option Value} {base : Heap} {j k : Nat} {x : Str} {n : Nat} {fn : List PyData → R PyData} (d : Def P w K mg base j x n fn) (h : j ≤ k) : Def P w K mg base k x n fn := by
  obtain ⟨f, fd, ps, F, a⟩ := d.ex
  exact ⟨f, fd, ps, F.mono h, a⟩
/-- another function of the same answers -/
theorem Def.same {P : Program} {w : World} {K : PySem.W.Frag} {mg : Str → Option Value} {base : Heap} {k : Nat} {x : Str} {n : Nat} {fn fn' : List PyData → R PyData} (d : Def P w K mg base k x n fn) (h : ∀ ds, ds.length = n → fn' ds ≠ .bad → fn ds = fn' ds) : Def P w K mg base k x n fn' := by
  obtain ⟨f, fd, ps, F, a⟩ := d.ex
  refine ⟨f, fd, ps, F.imp fun vs H Q E q => ?_, a⟩
  obtain ⟨G, ds, s, r, hl, q⟩ := q
  refine ⟨G, ds, s, r, hl, ?_⟩
  have hn : fn' ds ≠ .bad := fun e => by rw [e] at q; exact q
  rw [h ds hl hn]
  exact q
/-- so many arguments -/
def AL (f : DEnv → R (List PyData)) (n : Nat) : Prop := ∀ ρ ds, f ρ = .ok ds → ds.length = n
theorem al_nil : AL fNil 0 := fun ρ ds h => by cases h; rfl
theorem al_cons {f : DEnv → R PyData} {g : DEnv → R (List PyData)} {n : Nat} (h : AL g n) : AL (fCons f g) (n + 1) := fun ρ ds e => by
  unfold fCons at e
  cases e1 : f ρ with
  | bad => rw [e1] at e; cases e
  | exc x => rw [e1] at e; cases e
  | ok d =>
    rw [e1, R.bind_ok] at e
    cases e2 : g ρ with
    | bad => rw [e2] at e; cases e
    | exc x => rw [e2] at e; cases e
    | ok es =>
      rw [e2, R.bind_ok] at e
      cases e
      simp [h ρ es e2]
section
variable {X : Cx} {F0 H0 : Hp} {W : WX}
theorem de_call {k : Nat} {x : Str} {n : Nat} {fn : List PyData → R PyData} {e : Expr} {es : List Expr} {f : DEnv → R (List PyData)} {p pos : Pos} (tk : Takes X W) (d : Def X.prog X.w X.K X.mg X.base k x n fn) (hr : Room k X.A) (hg : Gl X x) (ha : DA X F0 H0 W (e :: es) f) (hl : AL f n)
    (hdb : (x == ("__debug__" : Str)) = false := by decide) (he : starEach (e :: es) X.env = (false, eval e X.env) :: starEach es X.env := by rfl) (hpl : (backTo pos (starEach es X.env)).any (·.1) = false := by rfl) : DE X F0 H0 W (.Call (.Name x p) (e :: es) [] pos) (fA fn f) := by
  obtain ⟨g, fd, ps, F, hm, hk, hb⟩ := d.ex
  refine PE.imp (pe_callS (E := WE W) F hr hg hm hk hb (passAt tk) ha hdb he hpl) fun σ H Q h => ?_
  obtain ⟨G, ρ, k, h⟩ := h
  unfold fA at h
  refine ⟨G, ρ, k, ?_⟩
  cases e1 : f ρ with
  | bad => rw [e1] at h; exact h
  | exc x => rw [e1] at h; exact h
  | ok ds =>
    rw [e1, R.bind_ok] at h
    intro vs F1 H1 s1 r1
    refine ⟨F1, ds, s1.sub, r1, hl ρ ds e1, ?_⟩
    cases e2 : fn ds with
    | bad => rw [e2] at h; exact h
    | ok d => rw [e2] at h; exact fun v F2 H2 s2 r2 => h v F2 H2 (s1.trans s2) r2
    | exc x => rw [e2] at h; exact fun cls od F2 H2 s2 x2 => h cls od F2 H2 (s1.trans s2) x2
end
end DL
namespace DL
open PySem PySem.Spec PyProof.Rows L2
variable [TheW]
/-! ### a def by its body -/
def retD : SR → R PyData
  | .next _ => .ok .none
  | .ret d => .ok d
  | .exc e _ => .exc e
  | _ => .bad
@[simp] theorem retD_next (ρ : DEnv) : retD (.next ρ) = .ok .none := rfl
@[simp] theorem retD_ret (d : PyData) : retD (.ret d) = .ok d := rfl
@[simp] theorem retD_exc (e : Exn) (ρ : DEnv) : retD (.exc e ρ) = .exc e := rfl
@[simp] theorem retD_bad : retD .bad = .bad := rfl
/-- the slots at the entry -/
def startE (n : Nat) (ds : List PyData) : DEnv := ds.map .val ++ List.replicate (n - ds.length) .un
theorem ok_start {K : PySem.W.Frag} {F H : Hp} {vs : List V} {ds : List PyData} {N : List Str} (s : Same F H) (r : RpAll K F vs ds) : Ok K F H F (startE N.length ds) (L2.start N vs) H where
  st := .refl s
  len := by simp [startE, L2.start, r.length]
  val := fun i d e => by
    unfold startE at e
    by_cases hi : i < ds.length
    · rw [List.getElem?_append_left (by simpa using hi), List.getElem?_map] at e
      cases e2 : ds[i]? with
      | none => rw [e2] at e; cases e
      | some d' =>
        rw [e2] at e
        cases e
        obtain ⟨v, hv, rv⟩ := r.get e2
        refine ⟨v, ?_, rv⟩
        unfold L2.start
        rw [List.getElem?_append_left (by rw [List.length_map, r.length]; exact hi), List.getElem?_map, hv]
        rfl
    · rw [List.getElem?_append_right (by simpa using hi), List.getElem?_replicate] at e
      split at e <;> cases e
  own := fun i w e => by
    unfold startE at e
    by_cases hi : i < ds.length
    · rw [List.getElem?_append_left (by simpa using hi), List.getElem?_map] at e
      cases e2 : ds[i]? with
      | none => rw [e2] at e; cases e
      | some d' => rw [e2] at e; cases e
    · rw [List.getElem?_append_right (by simpa using hi), List.getElem?_replicate] at e
      split at e <;> cases e
  sep := fun i j w w' a e => by
    exfalso
    unfold startE at e
    by_cases hi : i < ds.length
    · rw [List.getElem?_append_left (by simpa using hi), List.getElem?_map] at e
      cases e2 : ds[i]? with
      | none => rw [e2] at e; cases e
      | some d' => rw [e2] at e; cases e
    · rw [List.getElem?_append_right (by simpa using hi), List.getElem?_replicate] at e
      split at e <;> cases e
section
variable {P : Program} {w : World} {K : PySem.W.Frag} {mg : Str → Option Value} {base : Heap}
abbrev wOut (E : XK) : WX := fun cls od _ H' => E cls od H'
theorem Def.of {x : Str} {st : Stmt} {f : Addr} {fd : FuncData} {N ps : List Str} {k : Nat} {fb : DEnv → SR} (F : Fun K x x st f fd) (hm : mg x = some (.ref f)) (S : FnScope N ps (defScope st)) (hb : Binds K fd ps [])
    (body : ∀ (cdv : Value) (A : Around) (outer : List Env) (s : Shared) (H : Hp) (E : XK) (F0 : Hp), Room k (A.deeper (envOfC x (defScope st) s.heap.objs.size f cdv)) →
      Takes (cxOf (L2.CX P w) P w K mg base N x (defScope st) f cdv A outer s H E) (wOut E) →
      DSs (cxOf (L2.CX P w) P w K mg base N x (defScope st) f cdv A outer s H E) F0 H (wOut E) (defBody st) fb) : Def P w K mg base (k + 1) x ps.length (fun ds => retD (fb (startE N.length ds))) := by
  refine ⟨f, fd, ps, F.okX S (fun vs H Q E h => ?_) (fun cdv A outer s H vs Q E hr h => ?_), hm, F.kp, hb⟩
  · obtain ⟨G, ds, _, r, hl, _⟩ := h
    rw [r.length, hl]
  · obtain ⟨G, ds, sG, r, hl, h⟩ := h
    refine ⟨_, body cdv A outer s H E G hr (takes_of rfl rfl rfl rfl), G, _, ok_start sG r, ?_⟩
    cases e : fb (startE N.length ds) with
    | next ρ =>
      have h : match retD (fb (startE N.length ds)) with
        | .ok d => ∀ v F' H', Stp G H F' H' → Rp K F' v d → Q v H'
        | .exc e => ∀ cls od F' H', Stp G H F' H' → ExIs K mg F' e cls od → E cls od H'
        | .bad => False := h
      rw [e] at h
      exact fun σ' F' H' s k => h .non F' H' k.st .non
    | ret d =>
      have h : match retD (fb (startE N.length ds)) with
        | .ok d => ∀ v F' H', Stp G H F' H' → Rp K F' v d → Q v H'
        | .exc e => ∀ cls od F' H', Stp G H F' H' → ExIs K mg F' e cls od → E cls od H'
        | .bad => False := h
      rw [e] at h
      exact h
    | exc x ρ =>
      have h : match retD (fb (startE N.length ds)) with
        | .ok d => ∀ v F' H', Stp G H F' H' → Rp K F' v d → Q v H'
        | .exc e => ∀ cls od F' H', Stp G H F' H' → ExIs K mg F' e cls od → E cls od H'
        | .bad => False := h
      rw [e] at h
      exact fun σ' F' H' cls od s k x => h cls od F' H' k.st x
    | brk ρ =>
      have h : match retD (fb (startE N.length ds)) with
        | .ok d => ∀ v F' H', Stp G H F' H' → Rp K F' v d → Q v H'
        | .exc e => ∀ cls od F' H', Stp G H F' H' → ExIs K mg F' e cls od → E cls od H'
        | .bad => False := h
      rw [e] at h
      exact h.elim
    | cont ρ =>
      have h : match retD (fb (startE N.length ds)) with
        | .ok d => ∀ v F' H', Stp G H F' H' → Rp K F' v d → Q v H'
        | .exc e => ∀ cls od F' H', Stp G H F' H' → ExIs K mg F' e cls od → E cls od H'
        | .bad => False := h
      rw [e] at h
      exact h.elim
    | bad =>
      have h : match retD (fb (startE N.length ds)) with
        | .ok d => ∀ v F' H', Stp G H F' H' → Rp K F' v d → Q v H'
        | .exc e => ∀ cls od F' H', Stp G H F' H' → ExIs K mg F' e cls od → E cls od H'
        | .bad => False := h
      rw [e] at h
      exact h.elim
/-- the def stands in the module -/
def Has (K : PySem.W.Frag) (mg : Str → Option Value) (x : Str) (st : Stmt) : Prop := ∃ f fd, Fun K x x st f fd ∧ mg x = some (.ref f)
/-- how its parameters bind, whatever is known of it but its text -/
def BindsAs (x : Str) (st : Stmt) (ps : List Str) : Prop := ∀ (kV doc pm : Value) (an : Option Addr) (cdv ct : Value) (us : List Value), us.length = ps.length → bindArgs (PySem.W.fnOf x x (defArgs st) (defBody st) (defScope st) .none kV doc pm an cdv ct) ⟨us, []⟩ = pure (ps.zip us)
theorem Has.def {x : Str} {st : Stmt} {N ps : List Str} {k : Nat} {fb : DEnv → SR} (h : Has K mg x st) (S : FnScope N ps (defScope st)) (hb : BindsAs x st ps)
    (body : ∀ (f : Addr) (cdv : Value) (A : Around) (outer : List Env) (s : Shared) (H : Hp) (E : XK) (F0 : Hp), Room k (A.deeper (envOfC x (defScope st) s.heap.objs.size f cdv)) →
      Takes (cxOf (L2.CX P w) P w K mg base N x (defScope st) f cdv A outer s H E) (wOut E) →
      DSs (cxOf (L2.CX P w) P w K mg base N x (defScope st) f cdv A outer s H E) F0 H (wOut E) (defBody st) fb) : Def P w K mg base (k + 1) x ps.length (fun ds => retD (fb (startE N.length ds))) := by
  obtain ⟨f, fd, F, hm⟩ := h
  exact Def.of F hm S (F.binds hb) (body f)
end
/-! ### raise X('..') -/
/-- an own class of exceptions without an __init__ of its own -/
def HasX (K : PySem.W.Frag) (mg : Str → Option Value) (x : Str) : Prop := ∃ C, mg x = some (.ref C) ∧ PySem.W.excIn K C [.type "ValueError", .type "Exception", .type "BaseException", .type "object"] "ValueError.__new__" = true ∧
  PySem.W.keepIn K (.ref C) = true ∧ PySem.W.subIn K (.ref C) (.type "BaseException") = some true ∧ PySem.W.typeIn K (.ref C) = some (.type "type")
section
variable {X : Cx} {F0 H0 : Hp} {W : WX}
theorem ds_raise {x m : Str} {j : Nat} {p p2 pos pos2 : Pos} (hc : X.calm = true) (tk : Takes X W) (h : HasX X.K X.mg x) (hg : Gl X x) (hdb : (x == ("__debug__" : Str)) = false := by decide) :
    DS X F0 H0 W (.Raise (some (.Call (.Name x p) [.Constant (.str m) j p2] [] pos)) none pos2) (fun ρ => .exc ⟨x, none⟩ ρ) := by
  obtain ⟨C, gC, xC, kC, bC, tC⟩ := h
  refine PS.imp (ps_raise hc tk (pmk_own PySem.F.excBase_ValueError xC gC kC (raises_own bC tC) hg hdb)) fun D σ H h => ?_
  obtain ⟨F, ρ, k, h⟩ := h
  exact h σ F H (.ref C) none (.refl _) k ⟨C, gC, rfl, trivial⟩
end
end DL
namespace DL
open PySem PySem.Spec PyProof.Rows L2
variable [TheW]
/-! ### room -/
section
variable {X : Cx} {k : Nat}
theorem hu1 (hr : Room k X.A) : X.A.units + 1 < cLine := by have := hr.un; omega
theorem hu20 (hr : Room k X.A) : X.A.units + 20 < cLine := by have := hr.un; omega
theorem hu64 (hr : Room k X.A) : X.A.units + 64 < cLine := by have := hr.un; omega
theorem hu66 (hr : Room k X.A) : X.A.units + 66 < cLine := by have := hr.un; omega
theorem hu80 (hr : Room k X.A) : X.A.units + 80 < cLine := by have := hr.un; omega
end
/-! ### constants of the module -/
def HasC (K : PySem.W.Frag) (mg : Str → Option Value) (x : Str) (d : PyData) : Prop := ∃ v u, mg x = some u ∧ RelV v u ∧ ∀ F, Rp K F v d
section
variable {X : Cx} {F0 H0 : Hp} {W : WX} {K : PySem.W.Frag} {mg : Str → Option Value}
theorem HasC.de {x : Str} {d : PyData} {pos : Pos} (h : HasC X.K X.mg x d) (hg : Gl X x) (hd : (x == ("__debug__" : Str)) = false := by decide) : DE X F0 H0 W (.Name x pos) (fC d) := by
  obtain ⟨v, u, hm, r, rp⟩ := h
  exact de_glob hg hm r rp hd
end
/-! ### a dict whose keys are tuples, read -/
section
variable {X : Cx} {pins : List (Addr × Obj)} {σ : L2.St} {F H : Hp} {s : Shared}
mutual
theorem nested_of (I : Inv X pins σ H s) : ∀ (k : NestedKey) (v : V) (u : Value), Rp X.K H v k.data → RelV v u → NestedIs s.heap k u
  | .none, _, _, r, q => by
    rw [show (NestedKey.none).data = .none by simp [NestedKey.data]] at r
    cases r
    cases (show _ = Value.none from q)
    exact .none
  | .num i, _, _, r, q => by
    rw [show (NestedKey.num i).data = .int i by simp [NestedKey.data]] at r
    cases r
    obtain ⟨t, rfl⟩ := q
    exact .int i t
  | .text x, _, _, r, q => by
    rw [show (NestedKey.text x).data = .str x by simp [NestedKey.data]] at r
    cases r
    obtain ⟨t, rfl⟩ := q
    exact .text x t
  | .tup ks, _, _, r, q => by
    rw [show (NestedKey.tup ks).data = .tuple (NestedKey.datas ks) by simp [NestedKey.data]] at r
    cases r with
    | tup hs z ra =>
      cases q
      obtain ⟨its, rv, ⟨o, h1, h2, n, h3⟩, _⟩ := I.tuple hs.sq
      exact .tup h1 h2 h3 (nesteds_of I ks _ _ ra (by simpa using rv))
theorem nesteds_of (I : Inv X pins σ H s) : ∀ (ks : List NestedKey) (vs : List V) (us : List Value), RpAll X.K H vs (NestedKey.datas ks) → Vals vs us → NestedAll s.heap ks us
  | [], _, _, r, q => by
    rw [show NestedKey.datas [] = [] by simp [NestedKey.datas]] at r
    cases r
    cases q
    exact .nil
  | k :: ks, _, _, r, q => by
    rw [show NestedKey.datas (k :: ks) = k.data :: NestedKey.datas ks by simp [NestedKey.datas]] at r
    cases r with
    | cons r rs =>
      cases q with
      | cons q qs => exact .cons (nested_of I k _ _ r q) (nesteds_of I ks _ _ rs qs)
end
theorem key_is (I : Inv X pins σ H s) {k : NestedKey} {b : Addr} (r : Rp X.K H (.ref b) k.data) (hd : k.depth ≤ 8) : (nestedKind X.prog X.w).is s.heap k b := ⟨nested_of I k (.ref b) (.ref b) r rfl, hd⟩
/-- an entry, its data -/
def RN (K : PySem.W.Frag) (F : Hp) (y : NestedKey × Addr × Value) (kv : PyData × PyData) : Prop := y.1.data = kv.1 ∧ y.1.depth ≤ 8 ∧ Rp K F (.ref y.2.1) kv.1 ∧ ∃ v, RelV v y.2.2 ∧ Rp K F v kv.2
theorem rn_of {K : PySem.W.Frag} : ∀ {xs : List (NestedKey × Addr × V)} {ys : List (NestedKey × Addr × Value)} {kvs : List (PyData × PyData)}, Paired RelN xs ys → RpN K F xs kvs → Paired (RN K F) ys kvs
  | _, _, _, .nil, r => by cases r; exact .nil
  | _, _, _, .cons (b := (y1, y2, y3)) e t, r => by
    cases r with
    | cons z hk hv rs =>
      obtain ⟨e1, e2, e3⟩ := e
      simp only at e1 e2 e3
      subst e1 e2
      exact .cons ⟨rfl, z, hk, _, e3, hv⟩ (rn_of t rs)
theorem RN.find {K : PySem.W.Frag} {k : NestedKey} : ∀ {ys : List (NestedKey × Addr × Value)} {kvs : List (PyData × PyData)}, Paired (RN K F) ys kvs → match dfind kvs k.data with
    | some d => ∃ p v, atKey ys k = some p ∧ RelV v p.2 ∧ Rp K F v d
    | none => atKey ys k = none
  | _, _, .nil => rfl
  | _, _, .cons (a := y) (b := kv) e t => by
    have ih := RN.find (k := k) t
    obtain ⟨e1, e2, e3, v, e4, e5⟩ := e
    unfold dfind at ih ⊢
    unfold atKey at ih ⊢
    rw [List.find?_cons, List.find?_cons, ← e1, keyEq_data, ← NestedKey.decide_eq]
    by_cases c : y.1 = k
    · rw [decide_eq_true c]
      exact ⟨_, v, rfl, e4, e5⟩
    · rw [decide_eq_false c]
      exact ih
/-- what stands at a in the heap -/
theorem readN (I : Inv X pins σ H s) (hw : X.w = TheW.w) (sF : Same F H) {a : Addr} {kvs : List (PyData × PyData)} (r : Rp X.K F (.ref a) (.dict kvs)) (hk : keysN kvs = true) :
    (a == sysModules) = false ∧ kvs.length ≤ sizeLine ∧ ∃ ys : List (NestedKey × Addr × Value), s.heap.DictOfH (nestedKind X.prog X.w) a ys ∧ Paired (RN X.K F) ys kvs := by
  cases r with
  | @dct _ o es _ hF z ra =>
    obtain ⟨rfl, rfl⟩ := ra.nilN hk
    obtain ⟨hx, hz, hs, vs, kv, o', es, ep, ho, hx', hdt, hkk, hp, hn⟩ := (show ObjOk X.prog X.w H s.heap a (.frz o (.dK [])) from I.hok a _ (sF _ _ hF))
    cases kv
    have e1 : ∀ l : List DictEntry, Pairs (mixKind X.prog X.w) l [] → l = [] := fun l h => by cases h; rfl
    have e0 : es = #[] := Array.toList_eq_nil_iff.mp (e1 _ hp)
    subst e0
    exact ⟨hs, Nat.zero_le _, [], ⟨o', #[], ep, ho, hx', hdt, rfl, (fun _ h => nomatch h), List.nodup_nil⟩, .nil⟩
  | @dctN _ o xs _ hF z hn ra =>
    obtain ⟨hx, ⟨hz, hs, ys, rel, o', es, ep, h1, h2, h3, h4, h5⟩, _⟩ := (show ObjOk X.prog X.w H s.heap a (.frz o (dNo a xs)) from I.hok a _ (sF _ _ hF))
    have rr := rn_of rel ra
    have hl := Paired.length rr
    have hl2 := Paired.length rel
    refine ⟨hs, by omega, ys, ⟨o', es, ep, h1, h2, h3, ?_, fun y hy => ?_, h5⟩, rr⟩
    · rw [h4]
      unfold dEnt PySem.entryOfKey
      rw [← hw]
      rfl
    · have all : ∀ {l : List (NestedKey × Addr × Value)} {m : List (PyData × PyData)}, Paired (RN X.K F) l m → ∀ y ∈ l, (nestedKind X.prog X.w).is s.heap y.1 y.2.1 := by
        intro l m q
        induction q with
        | nil => intro x hx; exact nomatch hx
        | @cons p q ps qs hq t ih =>
          intro x hx
          rcases List.mem_cons.mp hx with e | hx
          · subst e
            obtain ⟨e1, e2, e3, _⟩ := hq
            rw [← e1] at e3
            exact key_is I (e3.mono sF) e2
          · exact ih x hx
      exact all rr y hy
end
/-! ### d[k], k in d, d.get(k, x) -/
section
variable {X : Cx} {F0 H0 : Hp} {W : WX} {K : PySem.W.Frag} {mg : Str → Option Value}
theorem key_data {F : Hp} {x : V} {d : PyData} (r : Rp K F x d) (h : isNKey d = true) : ∃ (k : NestedKey) (b : Addr), x = .ref b ∧ k.data = d ∧ k.depth ≤ 8 := by
  obtain ⟨ks, e, z⟩ := nkey_of h
  subst e
  rw [show (NestedKey.tup ks).data = .tuple (NestedKey.datas ks) by simp [NestedKey.data]] at r
  cases r with
  | tup hs _ _ => exact ⟨.tup ks, _, rfl, by simp [NestedKey.data], z⟩
theorem room8 {A : Around} {P : Program} {w : World} (hu : A.units + 20 < cLine) : (nestedKind P w).room A.in1 := by
  show A.units + 1 + 8 < cLine
  omega
theorem room9 {A : Around} {P : Program} {w : World} (hu : A.units + 20 < cLine) : (nestedKind P w).room A.in1.in1 := by
  show A.units + 1 + 1 + 8 < cLine
  omega
/-- x and y are data: a dict of tuple keys, a key for it -/
def rN2 (K : PySem.W.Frag) (dict key : V) (H : Hp) (P : Hp → List (PyData × PyData) → PyData → Prop) : Prop := ∃ F kvs dk, Same F H ∧ Rp K F dict (.dict kvs) ∧ Rp K F key dk ∧ isNKey dk = true ∧ keysN kvs = true ∧ P F kvs dk
def rGetN (K : PySem.W.Frag) : R2 := fun x y H Q => rN2 K x y H fun F kvs dk => ∃ d, dfind kvs dk = some d ∧ ∀ v, Rp K F v d → Q v H
theorem ix_N (hw : X.w = TheW.w) (hu : X.A.units + 20 < cLine) : IxR X (rGetN X.K) := by
  intro value slice pins s σ H x y v u Q I rx ry h hs
  obtain ⟨F, kvs, dk, sF, rd, rk, hk, hks, d, hf, q⟩ := h
  obtain ⟨k, b, rfl, rfl, hdp⟩ := key_data rk hk
  cases rd with
  | dct h1 h2 h3 =>
    obtain ⟨_, rfl⟩ := h3.nilN hks
    cases hf
  | @dctN a o xs _ hF z hn ra =>
    obtain ⟨hsm, hz, ys, hD, rr⟩ := readN I hw sF (.dctN hF z hn ra) hks
    cases rx
    cases ry
    have f := RN.find (k := k) rr
    rw [hf] at f
    obtain ⟨p, v, hp, rv, rp⟩ := f
    have fin : EP X pins σ Q p.2 { s with toks := s.toks + (nestedKind X.prog X.w).draws k } := ⟨v, H, I.tok _, rv, q v rp⟩
    unfold subscriptTail
    refine wpAny_bind ?_
    rw [getitemInPython_of_ne hD.typeIs.not_modules]
    refine wpAny_bind (wpAny_specialOf hD.typeIs PySem.F.slot_dict_getitem.lookup ?_)
    have go : wpAny (model X.prog X.w) X.A (subscripted slice false (.ref a) (.ref b)) (fun r s₃ => wpAny (model X.prog X.w) X.A (letTemporaryGo value (.ref a) r >>= fun _ => pure r) (EP X pins σ Q) X.xe s₃) X.xe s := by
      rw [hs]
      exact wpAny_operating (wpAny_getItem_heap (room8 hu) (key_is I (rk.mono sF) hdp) hD hp (wpAny_bind (wpAny_letTemporaryGo (wpAny_pure fin))))
    first
      | exact wpAny_pure (wpAny_bind go)
      | exact wpAny_bind (wpAny_pure (wpAny_bind go))
      | exact wpAny_bind go
/-- d[k], k an int or a text -/
theorem ix_K (hu : X.A.units + 1 < cLine) : IxR X rDget := by
  intro value slice pins s σ H x y v u Q I rx ry h hs
  obtain ⟨a, z, rfl, g, q⟩ := h
  cases rx
  unfold subscriptTail
  refine wpAny_bind ?_
  have hT := dict_typeIs I g
  rw [getitemInPython_of_ne hT.not_modules]
  refine wpAny_bind (wpAny_specialOf hT PySem.F.slot_dict_getitem.lookup ?_)
  have go : wpAny (model X.prog X.w) X.A (subscripted slice false (.ref a) u) (fun r s₃ => wpAny (model X.prog X.w) X.A (letTemporaryGo value (.ref a) r >>= fun _ => pure r) (EP X pins σ Q) X.xe s₃) X.xe s := by
    rw [hs]
    exact wpAny_operating (d_getItem hu I g ry fun w' s' I' r' => wpAny_bind (wpAny_letTemporaryGo (wpAny_pure ⟨z, H, I', r', q⟩)))
  first
    | exact wpAny_pure (wpAny_bind go)
    | exact wpAny_bind (wpAny_pure (wpAny_bind go))
    | exact wpAny_bind go
/-- x[y], all kinds -/
def gIxA : PyData → PyData → R PyData
  | .dict kvs, k => if keyable kvs k = true then R.of (dfind kvs k) else .bad
  | x, y => gIx x y
def rIxA (K : PySem.W.Frag) : R2 := fun x y H Q => (rIx K x y H Q ∨ rDget x y H Q) ∨ rGetN K x y H Q
theorem ix_all (hw : X.w = TheW.w) (hu : X.A.units + 20 < cLine) : IxR X (rIxA X.K) := (ix_seq.or (ix_K (by omega))).or (ix_N hw hu)
theorem o_ixA : Op2 K (rIxA K) gIxA := fun F H x y dx dy d s rx ry h Q q => by
  cases dx with
  | dict kvs =>
    have h : (if keyable kvs dy = true then R.of (dfind kvs dy) else .bad) = .ok d := h
    split at h
    · rename_i hk
      unfold keyable at hk
      by_cases c : (isKey dy && keysK kvs) = true
      · refine .inl (.inr (o_dget F H x y _ dy d s rx ry ?_ Q q))
        show (if (isKey dy && keysK kvs) = true then R.of (dfind kvs dy) else .bad) = .ok d
        rw [if_pos c]
        exact h
      · rw [Bool.or_eq_true, or_iff_right c, Bool.and_eq_true] at hk
        cases e : dfind kvs dy with
        | none => rw [e] at h; cases h
        | some d' =>
          rw [e] at h
          cases h
          exact .inr ⟨F, kvs, dy, s, rx, ry, hk.1, hk.2, d, e, fun v rv => q v F H (.refl s) rv⟩
    · cases h
  | _ => exact .inl (.inl (o_ix F H x y _ dy d s rx ry h Q q))
theorem nx_ixA : NoX2 gIxA := fun a b e h => by
  unfold gIxA at h
  split at h
  · split at h
    · exact nx_of _ _ h
    · cases h
  · exact nx_ix _ _ _ h
/-! k in d -/
def rInN (K : PySem.W.Frag) (neg : Bool) : R2 := fun x y H Q => rN2 K y x H fun F kvs dk => Q (.bl (if neg then !(dfind kvs dk).isSome else (dfind kvs dk).isSome)) H
theorem find_isSome {F : Hp} {ys : List (NestedKey × Addr × Value)} {kvs : List (PyData × PyData)} {k : NestedKey} (rr : Paired (RN K F) ys kvs) : (atKey ys k).isSome = (dfind kvs k.data).isSome := by
  have f := RN.find (k := k) rr
  cases e : dfind kvs k.data with
  | none => rw [e] at f; rw [f]; rfl
  | some d => rw [e] at f; obtain ⟨p, v, hp, _⟩ := f; rw [hp]; rfl
theorem op_inN (hw : X.w = TheW.w) (hu : X.A.units + 20 < cLine) : OpR X (compareOp .In) (rInN X.K false) := by
  intro pins s σ H x y v u Q I rx ry h
  obtain ⟨F, kvs, dk, sF, rd, rk, hk, hks, q⟩ := h
  obtain ⟨k, b, rfl, rfl, hdp⟩ := key_data rk hk
  have ex : ∃ a, y = .ref a := by cases rd <;> exact ⟨_, rfl⟩
  obtain ⟨a, rfl⟩ := ex
  obtain ⟨hsm, hz, ys, hD, rr⟩ := readN I hw sF rd hks
  cases rx
  cases ry
  refine wpAny_in_heap (room8 hu) (key_is I (rk.mono sF) hdp) hsm hD ?_
  rw [find_isSome rr]
  exact ⟨.bl _, H, I.tok _, rfl, q⟩
theorem op_notInN (hw : X.w = TheW.w) (hu : X.A.units + 20 < cLine) : OpR X (compareOp .NotIn) (rInN X.K true) := by
  intro pins s σ H x y v u Q I rx ry h
  obtain ⟨F, kvs, dk, sF, rd, rk, hk, hks, q⟩ := h
  obtain ⟨k, b, rfl, rfl, hdp⟩ := key_data rk hk
  have ex : ∃ a, y = .ref a := by cases rd <;> exact ⟨_, rfl⟩
  obtain ⟨a, rfl⟩ := ex
  obtain ⟨hsm, hz, ys, hD, rr⟩ := readN I hw sF rd hks
  cases rx
  cases ry
  refine wpAny_notIn_heap (room8 hu) (key_is I (rk.mono sF) hdp) hsm hD ?_
  rw [find_isSome rr]
  exact ⟨.bl _, H, I.tok _, rfl, q⟩
/-- x in y, all kinds -/
def gInA (neg : Bool) : PyData → PyData → R PyData
  | k, .dict kvs => if keyable kvs k = true then .ok (.bool (if neg then !(dfind kvs k).isSome else (dfind kvs k).isSome)) else .bad
  | x, y => gIn neg x y
def rInA (K : PySem.W.Frag) (neg : Bool) : R2 := fun x y H Q => rInD K neg x y H Q ∨ rInN K neg x y H Q
theorem op_inA (hw : X.w = TheW.w) (hu : X.A.units + 20 < cLine) : OpR X (compareOp .In) (rInA X.K false) := (op_inD (by omega)).or (op_inN hw hu)
theorem op_notInA (hw : X.w = TheW.w) (hu : X.A.units + 20 < cLine) : OpR X (compareOp .NotIn) (rInA X.K true) := (op_notInD (by omega)).or (op_notInN hw hu)
theorem o_inA (neg : Bool) : Op2 K (rInA K neg) (gInA neg) := fun F H x y dx dy d s rx ry h Q q => by
  cases dy with
  | dict kvs =>
    have h : (if keyable kvs dx = true then R.ok (PyData.bool (if neg then !(dfind kvs dx).isSome else (dfind kvs dx).isSome)) else .bad) = .ok d := by
      cases dx <;> exact h
    split at h
    · rename_i hk
      cases h
      unfold keyable at hk
      by_cases c : (isKey dx && keysK kvs) = true
      · refine .inl (o_in neg F H x y dx _ _ s rx ry ?_ Q q)
        have : gIn neg dx (.dict kvs) = if (isKey dx && keysK kvs) = true then R.ok (PyData.bool (if neg then !(dfind kvs dx).isSome else (dfind kvs dx).isSome)) else .bad := by cases dx <;> rfl
        rw [this, if_pos c]
      · rw [Bool.or_eq_true, or_iff_right c, Bool.and_eq_true] at hk
        exact .inr ⟨F, kvs, dx, s, ry, rx, hk.1, hk.2, q _ F H (.refl s) (.bl _)⟩
    · cases h
  | _ => exact .inl (o_in neg F H x y dx _ d s rx ry (by cases dx <;> exact h) Q q)
theorem nx_inA (neg : Bool) : NoX2 (gInA neg) := fun a b e h => by
  unfold gInA at h
  split at h
  · split at h <;> cases h
  · exact nx_in _ _ _ _ h
end
end DL
namespace DL
open PySem PySem.Spec PyProof.Rows L2
variable [TheW]
/-! ### the keys of a dict of tuple keys -/
section
variable {X : Cx} {pins : List (Addr × Obj)} {σ : L2.St} {H : Hp} {s : Shared} {d : Addr} {o : Obj}
theorem frzN {xs : List (NestedKey × Addr × V)} (I : Inv X pins σ H s) (h : H d = some (.frz o (dNo d xs))) :
    (d == sysModules) = false ∧ s.heap.get? d = some o ∧ o.ExactDict ∧ ∃ (es : Array DictEntry) (ep : Nat), o.data = .dict es ep ∧ es.size = xs.length ∧
      ∀ (i : Nat) (k : NestedKey) (b : Addr) (v : V), xs[i]? = some (k, b, v) → ∃ en : DictEntry, es[i]? = some en ∧ en.key = .ref b ∧ RelV v en.val := by
  obtain ⟨hd, ⟨z, hs, ys, pr, o', es, ep, ho, hx, hdt, he, _⟩, _⟩ := (show ObjOk X.prog X.w H s.heap d (.frz o (dNo d xs)) from I.hok d _ h)
  rw [hd] at ho
  cases ho
  refine ⟨hs, hd, hx, es, ep, hdt, ?_, fun i k b v e => ?_⟩
  · have l1 : es.size = ys.length := by rw [← Array.length_toList, he, List.length_map]
    have l2 : xs.length = ys.length := Paired.length pr
    omega
  · obtain ⟨y, hy, e1, e2, e3⟩ := paired_get pr e
    refine ⟨dEnt y, ?_, by unfold dEnt; rw [← e2], e3⟩
    rw [← Array.getElem?_toList, he, List.getElem?_map, hy]
    rfl
end
def ItkN (d : Addr) (o : Obj) (xs : List (NestedKey × Addr × V)) : It :=
  ⟨fun i H => H d = some (.frz o (dNo d xs)) ∧ i < xs.length, fun i H x H' => H' = H ∧ ∃ (k : NestedKey) (b : Addr) (v : V), xs[i]? = some (k, b, v) ∧ x = .ref b, fun i H => H d = some (.frz o (dNo d xs)) ∧ xs.length ≤ i⟩
section
variable {P : Program} {w : World} {K : PySem.W.Frag} {tg : Expr} {d : Addr} {o : Obj} {es : Array DictEntry} {ep : Nat}
theorem turn_keysN {xs : List (NestedKey × Addr × V)} (it : Addr) (hod : o.data = .dict es ep) : Turn P w K tg (ItkN d o xs) [it] it (fun i h => h.IsKeyIter it d i xs.length ep) where
  mem := by simp
  obj := fun i h st b hb => by
    have e : b = it := by simpa using hb
    subst e
    obtain ⟨oi, e, c, dd⟩ := st
    exact ⟨oi, e, fun v z => by rw [dd] at z; cases z⟩
  keep := fun i h h' st k => st.at fun oi e => k it (by simp) oi e
  item := by
    intro X hP hw hK hc i pins s σ H E I hf st hg
    subst hP hw hK
    obtain ⟨hd, hi⟩ := hg
    obtain ⟨f0, f1, f2, f3, f4, f5⟩ := hf it (by simp)
    obtain ⟨hs, hgd, hx, es', ep', hdt, hsz, ent⟩ := frzN I hd
    obtain ⟨rfl, rfl⟩ := dict_ep hod hdt
    obtain ⟨⟨k, b, v⟩, hkv⟩ : ∃ p, xs[i]? = some p := ⟨xs[i], List.getElem?_eq_getElem hi⟩
    obtain ⟨en, hen, hkey, _⟩ := ent i k b v hkv
    refine next_key_item st hgd hdt hsz hen fun h' st' sb => ?_
    have I1 : Inv X pins σ H { s with heap := h' } := I.turned (t' := s.toks) (fun b ob hb e => (sb.2 b hb).trans e) f0 f1 f3 f4 f5
    obtain ⟨oi, e, c, dd⟩ := id st'
    exact ⟨en.key, rfl, go_of (s := { s with heap := h' }) e c dd (by decide) ⟨.ref b, H, I1, hkey, ⟨rfl, k, b, v, hkv, rfl⟩, st', fun b hb => (hf b hb).1⟩⟩
  done := by
    intro X hP hw hK hc i pins s σ H E I hf st hg
    subst hP hw hK
    obtain ⟨hd, hi⟩ := hg
    obtain ⟨f0, f1, f2, f3, f4, f5⟩ := hf it (by simp)
    obtain ⟨hs, hgd, hx, es', ep', hdt, hsz, ent⟩ := frzN I hd
    obtain ⟨rfl, rfl⟩ := dict_ep hod hdt
    exact next_key_end (I.ok.hd hc) st hgd hdt hsz hi fun h' eb => ⟨rfl, I.turned (t' := s.toks) (fun b ob hb e => eb b ob hb e) f0 f1 f3 f4 f5⟩
  self := fun A i s Q E st h => by
    refine wpAny_pyIter_slot st.typeIs PySem.F.slot_dict_keyiterator_iter (wpAny_call_entry PySem.F.slot_dict_keyiterator_iter st.typeIs PySem.F.entry_dict_keyiterator_iter ?_ (PySem.F.args_dict_keyiterator_iter_1 _))
    show wpAny _ _ (ret (.ref it)) _ _ s
    exact wpAny_pure ⟨_, rfl, "dict_keyiterator", _, st.typeIs, PySem.F.slot_dict_keyiterator_next.lookup, h⟩
end
section
variable {X : Cx} {F0 H0 : Hp} {W : WX} {K : PySem.W.Frag} {mg : Str → Option Value}
def iAnyN (K : PySem.W.Frag) (te : TE) : TI := fun σ H R => te σ H fun x H1 => ((∃ a, x = .ref a ∧ (∃ xs, SqL K H1 a xs) ∧ R (Itl K a) H1) ∨ (∃ a, x = .ref a ∧ (∃ xs, SqT K H1 a xs) ∧ R (Itt K a) H1) ∨ (∃ z, x = .str z ∧ R (Its z) H1) ∨
  ∃ d o kvs, x = .ref d ∧ H1 d = some (.frz o (.dK kvs)) ∧ R (Itk d o kvs) H1) ∨ ∃ d o xs, x = .ref d ∧ H1 d = some (.frz o (dNo d xs)) ∧ R (ItkN d o xs) H1
theorem pi_anyN {tg e : Expr} {te : TE} (he : PE X e te) : PI X tg e (iAnyN X.K te) := by
  refine ⟨fun pins s σ H R I h => ?_⟩
  refine thn (he.run pins s σ H _ I h) fun v s1 ⟨x, H1, I1, r1, q1⟩ => ?_
  rcases q1 with (⟨a, rfl, ⟨xs, hq⟩, q⟩ | ⟨a, rfl, ⟨xs, hq⟩, q⟩ | ⟨z, rfl, q⟩ | ⟨d, o, kvs, rfl, hd, q⟩) | ⟨d, o, xs, rfl, hd, q⟩
  · cases r1
    obtain ⟨its, rv, p, hz⟩ := I1.list hq
    refine wpAny_pyIter_list p.isList ?_
    refine ⟨s1.heap.objs.size, [s1.heap.objs.size], _, _, H1, rfl, I1.kept (t' := s1.toks) fun b o e => Heap.get?_push_of_some _ e, turn_list a _, ⟨_, Heap.get?_push_size _ rfl, rfl, rfl⟩, fun b hb => ?_, q⟩
    have e : b = s1.heap.objs.size := by simpa using hb
    subst e
    exact I1.fpOk (Nat.le_refl _) (I1.hok.fresh (Nat.le_refl _))
  · cases r1
    obtain ⟨its, rv, p, hz⟩ := I1.tuple hq
    refine wpAny_pyIter_tuple (show s1.heap.IsTuple a its.toArray from p) ?_
    refine ⟨s1.heap.objs.size, [s1.heap.objs.size], _, _, H1, rfl, I1.kept (t' := s1.toks) fun b o e => Heap.get?_push_of_some _ e, turn_tuple a _, ⟨_, Heap.get?_push_size _ rfl, rfl, rfl⟩, fun b hb => ?_, q⟩
    have e : b = s1.heap.objs.size := by simpa using hb
    subst e
    exact I1.fpOk (Nat.le_refl _) (I1.hok.fresh (Nat.le_refl _))
  · obtain ⟨t, rfl⟩ := r1
    cases ha : z.cps.all (· < 128)
    · exact wpAny_pyIter_wide ha (pi_one (tk := s1.toks) I1 _ (turn_str _ z t "str_iterator" (.inr rfl)) ⟨_, Heap.get?_push_size _ rfl, rfl, rfl⟩ q)
    · exact wpAny_pyIter_ascii ha (pi_one (tk := s1.toks) I1 _ (turn_str _ z t "str_ascii_iterator" (.inl rfl)) ⟨_, Heap.get?_push_size _ rfl, rfl, rfl⟩ q)
  · cases r1
    obtain ⟨hs, hgd, hx, es, ep, vs, hdt, hsz, kv, hm⟩ := I1.frzK hd
    refine iter_keys hs hgd hx hdt (pi_one (tk := s1.toks) I1 _ (turn_keys _ hdt) ⟨_, Heap.get?_push_size _ rfl, rfl, ?_⟩ q)
    rw [hsz] <;> rfl
  · cases r1
    obtain ⟨hs, hgd, hx, es, ep, hdt, hsz, ent⟩ := frzN I1 hd
    refine iter_keys hs hgd hx hdt (pi_one (tk := s1.toks) I1 _ (turn_keysN _ hdt) ⟨_, Heap.get?_push_size _ rfl, rfl, ?_⟩ q)
    rw [hsz] <;> rfl
theorem RpN.length {F : Hp} : ∀ {xs : List (NestedKey × Addr × V)} {kvs : List (PyData × PyData)}, RpN K F xs kvs → xs.length = kvs.length
  | _, _, .nil => rfl
  | _, _, .cons _ _ _ rs => by simp [RpN.length rs]
theorem RpN.at {F : Hp} : ∀ {xs : List (NestedKey × Addr × V)} {kvs : List (PyData × PyData)} {i : Nat} {k : NestedKey} {b : Addr} {v : V}, RpN K F xs kvs → xs[i]? = some (k, b, v) → ∃ d, kvs[i]? = some (k.data, d) ∧ Rp K F (.ref b) k.data ∧ Rp K F v d
  | _, _, _, _, _, _, .nil, h => by simp at h
  | _, _, 0, _, _, _, .cons z hk hv rs, h => by
    simp at h
    obtain ⟨rfl, rfl, rfl⟩ := h
    exact ⟨_, rfl, hk, hv⟩
  | _, _, i + 1, _, _, _, .cons z hk hv rs, h => RpN.at (i := i) rs (by simpa using h)
theorem itOk_keysN {F : Hp} {d : Addr} {o : Obj} {xs : List (NestedKey × Addr × V)} {kvs : List (PyData × PyData)} (hF : F d = some (.frz o (dNo d xs))) (zz : xs.length ≤ sizeLine) (r : RpN K F xs kvs) : ItOk (Rp K) (ItkN d o xs) F (kvs.map (·.1)) := by
  have hl := r.length
  refine ⟨by rw [List.length_map]; omega, fun i F1 H1 hi s1 s2 => ⟨s2 _ _ (s1 _ _ hF), by rw [List.length_map] at hi; omega⟩, fun F1 H1 s1 s2 => ⟨s2 _ _ (s1 _ _ hF), by rw [List.length_map]; omega⟩, fun i F1 H1 x H2 hi s1 s2 y => ?_⟩
  obtain ⟨rfl, k, b, v, hx, rfl⟩ := y
  obtain ⟨d', hd, hk, _⟩ := r.at hx
  exact ⟨F1, k.data, by rw [List.getElem?_map, hd]; rfl, .refl s2, hk.mono s1⟩
def itemsA (d : PyData) : R (List PyData) := match d with
  | .dict kvs => if (shortKeys kvs && keysK kvs) = true then .ok (kvs.map (·.1)) else if keysN kvs = true then .ok (kvs.map (·.1)) else .bad
  | d => itemsD d
def fItA (f : DEnv → R PyData) : DEnv → R (List PyData) := fun ρ => (f ρ).bind itemsA
theorem sem_anyA {f : DEnv → R PyData} : ∀ (σ : L2.St) (H : Hp) (Q : It → Hp → Prop), (∃ F ρ, Ok K F0 H0 F ρ σ H ∧ match fItA f ρ with
    | .ok items => ∀ J F' H', Stp F H F' H' → ItOk (Rp K) J F' items → Q J H'
    | .exc e => Exc K mg W F H σ e
    | .bad => False) → iAnyN K (tD K mg F0 H0 W f) σ H Q := fun σ H Q h => by
  obtain ⟨F, ρ, k, h⟩ := h
  unfold fItA at h
  refine ⟨F, ρ, k, ?_⟩
  cases e1 : f ρ with
  | bad => rw [e1] at h; exact h
  | exc x => rw [e1] at h; exact h
  | ok d =>
    rw [e1, R.bind_ok] at h
    intro x F1 H1 s1 r1
    cases r1 with
    | @lst a xs ds hs z ra => exact .inl (.inl ⟨a, rfl, ⟨xs, same_l s1.sub hs⟩, h _ F1 H1 s1 (itOk_at walk_list z ra fun F2 H2 s2 s3 => same_l (s2.trans s3) hs)⟩)
    | @tup a xs ds hs z ra => exact .inl (.inr (.inl ⟨a, rfl, ⟨xs, same_t s1.sub hs.sq⟩, h _ F1 H1 s1 (itOk_at walk_tup z ra fun F2 H2 s2 s3 => same_t (s2.trans s3) hs.sq)⟩))
    | str z hz => exact .inl (.inr (.inr (.inl ⟨z, rfl, h _ F1 H1 s1 (itOk_str hz)⟩)))
    | @dct a o es kvs hF zz ra =>
      have e : itemsA (.dict kvs) = if (shortKeys kvs && keysK kvs) = true then .ok (kvs.map (·.1)) else if keysN kvs = true then .ok (kvs.map (·.1)) else .bad := rfl
      rw [e] at h
      by_cases c : (shortKeys kvs && keysK kvs) = true
      · rw [if_pos c] at h
        rw [Bool.and_eq_true] at c
        exact .inl (.inr (.inr (.inr ⟨a, o, es, rfl, s1.sub _ _ hF, h _ F1 H1 s1 (itOk_keys hF zz ra c.1)⟩)))
      · rw [if_neg c] at h
        by_cases c2 : keysN kvs = true
        · obtain ⟨rfl, rfl⟩ := ra.nilN c2
          exact absurd rfl c
        · rw [if_neg c2] at h
          exact h.elim
    | @dctN a o xs kvs hF zz hn ra =>
      have e : itemsA (.dict kvs) = if (shortKeys kvs && keysK kvs) = true then .ok (kvs.map (·.1)) else if keysN kvs = true then .ok (kvs.map (·.1)) else .bad := rfl
      rw [e, ra.notKey hn, Bool.and_false, if_neg Bool.false_ne_true] at h
      by_cases c2 : keysN kvs = true
      · rw [if_pos c2] at h
        exact .inr ⟨a, o, xs, rfl, s1.sub _ _ hF, h _ F1 H1 s1 (itOk_keysN hF zz ra)⟩
      · rw [if_neg c2] at h
        exact h.elim
    | _ => exact h.elim
theorem di_anyA {tg e : Expr} {f : DEnv → R PyData} (he : DE X F0 H0 W e f) : DI X F0 H0 W (Rp X.K) tg e (fItA f) := ⟨_, pi_anyN he, sem_anyA⟩
/-! ### x op= e -/
def sAug (i : Nat) (g : PyData → PyData → R PyData) (f : DEnv → R PyData) : DEnv → SR := fun ρ => match ρ[i]? with
  | some (.val x) => match f ρ with
    | .ok y => match g x y with
      | .ok z => .next (ρ.set i (.val z))
      | _ => .bad
    | .exc e => .exc e ρ
    | .bad => .bad
  | _ => .bad
theorem ds_aug (i : Nat) {x : Str} {op : Operator} {r : R2} {g : PyData → PyData → R PyData} {e : Expr} {f : DEnv → R PyData} {pos pos' : Pos} (hN : X.N.Nodup) (ho : OpR X (inplaceOp op) r) (o : Op2 X.K r g) (nx : NoX2 g) (he : DE X F0 H0 W e f) (hi : X.N[i]? = some x := by rfl)
    (hx : Loc X.env.scope x := by first | exact .inl rfl | exact .inr rfl) (hf : X.fn x = true ∨ X.env.scope.names.lookup x = some .local := by first | exact .inl rfl | exact .inr rfl) : DS X F0 H0 W (.AugAssign (.Name x pos') op e pos) (sAug i g f) :=
  PS.imp (ps_aug (ti := r) hN hi hx he ho hf) fun D σ H h => by
    obtain ⟨F, ρ, k, h⟩ := h
    unfold sAug at h
    cases e0 : ρ[i]? with
    | none => rw [e0] at h; exact h.elim
    | some sl =>
      cases sl with
      | un => rw [e0] at h; exact h.elim
      | own w => rw [e0] at h; exact h.elim
      | val dx =>
        rw [e0] at h
        dsimp only at h
        obtain ⟨v, hv, rv⟩ := k.val i dx e0
        refine ⟨v, hv, F, ρ, k, ?_⟩
        cases e1 : f ρ with
        | bad => rw [e1] at h; exact h
        | exc x => rw [e1] at h; exact exc_of k h
        | ok dy =>
          rw [e1] at h
          dsimp only at h
          intro y F1 H1 s1 r1
          cases e2 : g dx dy with
          | bad => rw [e2] at h; exact h.elim
          | exc x => rw [e2] at h; exact h.elim
          | ok z =>
            rw [e2] at h
            dsimp only at h
            exact o F1 H1 v y dx dy z s1.sub (rv.mono s1.fr) r1 e2 _ fun v2 F2 H2 s2 r2 => h _ F2 H2 (s1.trans s2).fr (((k.step s1).step s2).setV r2)
def gAddI : PyData → PyData → R PyData
  | .int a, .int b => .ok (.int (a + b))
  | .str a, .str b => if a.length + b.length ≤ sizeLine then .ok (.str (a ++ b)) else .bad
  | _, _ => .bad
def rAddI : R2 := fun x y H Q => (∃ i j, x = .int i ∧ y = .int j ∧ Q (.int (i + j)) H) ∨ (∃ i j, x = .str i ∧ y = .str j ∧ i.length + j.length ≤ sizeLine ∧ Q (.str (i ++ j)) H)
theorem iop_addD : OpR X (inplaceOp .Add) rAddI := iop_add.or iop_add_str
theorem o_addI : Op2 K rAddI gAddI := fun F H x y dx dy d s rx ry h Q q => by
  cases rx with
  | int i =>
    cases ry with
    | int j => cases h; exact .inl ⟨i, j, rfl, rfl, q _ F H (.refl s) (.int _)⟩
    | _ => cases h
  | str i hi =>
    cases ry with
    | str j hj =>
      have h : (if i.length + j.length ≤ sizeLine then R.ok (PyData.str (i ++ j)) else .bad) = .ok d := h
      split at h
      · rename_i hz
        cases h
        exact .inr ⟨i, j, rfl, rfl, hz, q _ F H (.refl s) (.str _ (by rw [PySem.Str.length_append]; exact hz))⟩
      · cases h
    | _ => cases h
  | _ => cases h
theorem nx_addI : NoX2 gAddI := fun a b e h => by
  unfold gAddI at h
  split at h <;> first | cases h | (split at h <;> cases h)
theorem iop_mulW : OpR X (inplaceOp .Mult) (rI CMulW fun i j => .int (i * j)) := opI fun i j t u s Q E hc q => PyProof.Rows.imul_int q hc.ok
/-! ### d[k] = v, a dict of its own, tuple keys -/
def oDictN : DEnv → R Ow := fun _ => .ok (.dN [])
theorem dno_empty {P : Program} {w : World} {H : Hp} (h : Heap) (hb : sysModules < h.objs.size) : ObjOk P w H (h.push { cls := .type "dict", data := .dict #[] }) h.objs.size (dNo h.objs.size []) := by
  have hg : (h.push { cls := .type "dict", data := .dict #[] }).get? h.objs.size = some { cls := .type "dict", data := .dict #[] } := Heap.get?_push_size _ rfl
  refine ⟨⟨Nat.zero_le _, beq_eq_false_iff_ne.mpr (Ne.symm (Nat.ne_of_lt hb)), [], .nil, _, #[], 0, hg, ⟨rfl, rfl, rfl⟩, rfl, rfl, List.nodup_nil⟩, ⟨_, hg⟩, ?_⟩
  rintro h1 h2 ⟨z, hs, ys, rel, o, es, ep, ho, hr⟩ k
  exact ⟨z, hs, ys, rel, o, es, ep, k _ ho, hr⟩
theorem dow_dictN {pos : Pos} : DOw X F0 H0 W (.Dict [] [] pos) oDictN := ⟨fun pins s σ H Q I h => by
  obtain ⟨F, ρ, k, h⟩ := h
  have hn : H s.heap.objs.size = none := I.hok.fresh (Nat.le_refl _)
  have q : Q (.ref s.heap.objs.size) (upd H s.heap.objs.size (dNo s.heap.objs.size [])) := h _ _ _ (Stp.newOwn k.st.sub hn) hn (k.st.sub.free hn) ⟨[], upd_same, .nil⟩
  exact wpAny_Dict_empty ⟨.ref s.heap.objs.size, _, I.laid (a := s.heap.objs.size) (o := dNo s.heap.objs.size []) (t' := s.toks) (fun _ _ q => Heap.get?_push_of_some _ q) (Nat.le_refl _) (dno_empty s.heap I.big), rfl, q⟩⟩
/-- an own dict's entries in the heap -/
theorem ownN {pins : List (Addr × Obj)} {σ : L2.St} {F H : Hp} {s : Shared} (I : Inv X pins σ H s) (hw : X.w = TheW.w) (sF : Same F H) {a : Addr} {xs : List (NestedKey × Addr × V)} {kvs : List (PyData × PyData)} (h : H a = some (dNo a xs)) (ra : RpN X.K F xs kvs) :
    (a == sysModules) = false ∧ xs.length ≤ sizeLine ∧ ∃ ys : List (NestedKey × Addr × Value), s.heap.DictOfH (nestedKind X.prog X.w) a ys ∧ Paired RelN xs ys := by
  obtain ⟨⟨hz, hs, ys, rel, o', es, ep, h1, h2, h3, h4, h5⟩, _⟩ := (show ObjOk X.prog X.w H s.heap a (dNo a xs) from I.hok a _ h)
  have rr := rn_of rel ra
  refine ⟨hs, hz, ys, ⟨o', es, ep, h1, h2, h3, ?_, fun y hy => ?_, h5⟩, rel⟩
  · rw [h4]
    unfold dEnt PySem.entryOfKey
    rw [← hw]
    rfl
  · have all : ∀ {l : List (NestedKey × Addr × Value)} {m : List (PyData × PyData)}, Paired (RN X.K F) l m → ∀ y ∈ l, (nestedKind X.prog X.w).is s.heap y.1 y.2.1 := by
      intro l m q
      induction q with
      | nil => intro x hx; exact nomatch hx
      | @cons p q ps qs hq t ih =>
        intro x hx
        rcases List.mem_cons.mp hx with e | hx
        · subst e
          obtain ⟨e1, e2, e3, _⟩ := hq
          rw [← e1] at e3
          exact key_is I (e3.mono sF) e2
        · exact ih x hx
    exact all rr y hy
def putN (xs : List (NestedKey × Addr × V)) (k : NestedKey) (b : Addr) (v : V) : List (NestedKey × Addr × V) :=
  if (xs.any fun x => decide (x.1 = k)) then xs.map fun x => if x.1 = k then (x.1, x.2.1, v) else x else xs ++ [(k, b, v)]
theorem anyN {k : NestedKey} : ∀ {xs : List (NestedKey × Addr × V)} {ys : List (NestedKey × Addr × Value)}, Paired RelN xs ys → (xs.any fun x => decide (x.1 = k)) = (atKey ys k).isSome
  | _, _, .nil => rfl
  | _, _, .cons (a := x) (b := y) e t => by
    have ih := anyN (k := k) t
    unfold atKey at ih ⊢
    rw [List.any_cons, List.find?_cons, ih, e.1]
    by_cases c : y.1 = k
    · simp [c]
    · simp [c]
theorem relN_put {k : NestedKey} {b : Addr} {v : V} {u : Value} (rv : RelV v u) {xs : List (NestedKey × Addr × V)} {ys : List (NestedKey × Addr × Value)} (r : Paired RelN xs ys) : Paired RelN (putN xs k b v) (storedH ys k b u) := by
  unfold putN storedH
  rw [anyN r]
  cases (atKey ys k).isSome with
  | true =>
    show Paired RelN (xs.map _) (ys.map _)
    induction r with
    | nil => exact .nil
    | @cons x y xs ys e t ih =>
      rw [List.map_cons, List.map_cons]
      refine .cons ?_ ih
      obtain ⟨e1, e2, e3⟩ := e
      unfold putAt
      by_cases c : y.1 = k
      · rw [if_pos (e1.trans c), if_pos c]
        exact ⟨e1, e2, rv⟩
      · rw [if_neg (fun z => c (e1.symm.trans z)), if_neg c]
        exact ⟨e1, e2, e3⟩
  | false => exact Paired.snoc r ⟨rfl, rfl, rv⟩
theorem rpN_any {F : Hp} {k : NestedKey} : ∀ {xs : List (NestedKey × Addr × V)} {kvs : List (PyData × PyData)}, RpN K F xs kvs → (xs.any fun x => decide (x.1 = k)) = kvs.any fun kv => keyEq kv.1 k.data
  | _, _, .nil => rfl
  | _, _, .cons _ _ _ rs => by rw [List.any_cons, List.any_cons, rpN_any rs, keyEq_data, ← NestedKey.decide_eq]
theorem rpN_repl {F : Hp} {k : NestedKey} {v : V} {d : PyData} (r : Rp K F v d) : ∀ {xs : List (NestedKey × Addr × V)} {kvs : List (PyData × PyData)}, RpN K F xs kvs → RpN K F (xs.map fun x => if x.1 = k then (x.1, x.2.1, v) else x) (kvs.map fun kv => if keyEq kv.1 k.data then (kv.1, d) else kv)
  | _, _, .nil => .nil
  | _, _, .cons (k := k') z hk hv rs => by
    rw [List.map_cons, List.map_cons]
    have e : keyEq k'.data k.data = decide (k' = k) := by rw [keyEq_data, ← NestedKey.decide_eq]
    by_cases c : k' = k
    · subst c
      simp only [e, if_true, decide_true]
      exact .cons z hk r (rpN_repl r rs)
    · simp only [e, c, if_false, decide_false, Bool.false_eq_true]
      exact .cons z hk hv (rpN_repl r rs)
theorem rpN_snoc {F : Hp} {k : NestedKey} {b : Addr} {v : V} {d : PyData} (z : k.depth ≤ 8) (hk : Rp K F (.ref b) k.data) (r : Rp K F v d) : ∀ {xs : List (NestedKey × Addr × V)} {kvs : List (PyData × PyData)}, RpN K F xs kvs → RpN K F (xs ++ [(k, b, v)]) (kvs ++ [(k.data, d)])
  | _, _, .nil => .cons z hk r .nil
  | _, _, .cons z' hk' hv' rs => .cons z' hk' hv' (rpN_snoc z hk r rs)
theorem rpN_put {F : Hp} {k : NestedKey} {b : Addr} {v : V} {d : PyData} (z : k.depth ≤ 8) (hk : Rp K F (.ref b) k.data) (r : Rp K F v d) {xs : List (NestedKey × Addr × V)} {kvs : List (PyData × PyData)} (h : RpN K F xs kvs) : RpN K F (putN xs k b v) (dput kvs k.data d) := by
  unfold putN dput
  rw [rpN_any (k := k) h]
  cases (kvs.any fun kv => keyEq kv.1 k.data) with
  | true => exact rpN_repl r h
  | false => exact rpN_snoc z hk r h
theorem putN_length (xs : List (NestedKey × Addr × V)) (k : NestedKey) (b : Addr) (v : V) : (putN xs k b v).length ≤ xs.length + 1 := by
  unfold putN
  split <;> simp
theorem dno_ok {P : Program} {w : World} {H : Hp} {h : Heap} {a : Addr} {xs : List (NestedKey × Addr × V)} {ys : List (NestedKey × Addr × Value)} (hw : w = TheW.w) (hz : xs.length ≤ sizeLine) (hs : (a == sysModules) = false) (rel : Paired RelN xs ys) (dd : h.DictOfH (nestedKind P w) a ys) : ObjOk P w H h a (dNo a xs) := by
  obtain ⟨o, es, ep, ho, h2, h3, h4, _, h5⟩ := dd
  refine ⟨⟨hz, hs, ys, rel, o, es, ep, ho, h2, h3, ?_, h5⟩, ⟨o, ho⟩, ?_⟩
  · rw [h4]
    unfold dEnt PySem.entryOfKey
    rw [← hw]
    rfl
  · rintro h1 h2 ⟨z, hs, ys, rel, o, es, ep, ho, hr⟩ k
    exact ⟨z, hs, ys, rel, o, es, ep, k _ ho, hr⟩
def rSetN (K : PySem.W.Frag) (a : Addr) (y v : V) (H : Hp) (Q : Hp → Prop) : Prop := ∃ F xs kvs dk d, Same F H ∧ H a = some (dNo a xs) ∧ RpN K F xs kvs ∧ xs.length < sizeLine ∧ Rp K F y dk ∧ Rp K F v d ∧ isNKey dk = true ∧
  ∀ xs', RpN K F xs' (dput kvs dk d) → Q (upd H a (dNo a xs'))
theorem setN {pins : List (Addr × Obj)} {σ : L2.St} {H : Hp} {s : Shared} {a : Addr} {y v : V} {u r : Value} {E : Value → Shared → Prop} {Q : Hp → Prop} {Q2 : Unit → Shared → Prop} (hw : X.w = TheW.w) (hu : X.A.units + 20 < cLine) (I : Inv X pins σ H s) (h : rSetN X.K a y v H Q) (ry : RelV y u) (rv : RelV v r)
    (q : ∀ H' s', Inv X pins σ H' s' → Q H' → Q2 () s') : wpAny (model X.prog X.w) X.A (setItem (.ref a) u r) Q2 E s := by
  obtain ⟨F, xs, kvs, dk, d, sF, hH, ra, hl, rk, rd, hk, q1⟩ := h
  obtain ⟨k, b, rfl, rfl, hdp⟩ := key_data rk hk
  cases ry
  obtain ⟨hsm, hz, ys, hD, rel⟩ := ownN I hw sF hH ra
  have hl2 := Paired.length rel
  refine wpAny_setItem_heap (hsz := by omega) (room8 hu) (key_is I (rk.mono sF) hdp) hD fun h' dd' hs => ?_
  have he : ∃ q, h'.get? a = some q := let ⟨q, _, _, hq, _⟩ := dd'; ⟨q, hq⟩
  refine q (upd H a (dNo a (putN xs k b v))) _ (d_write I (by rw [hH]; exact True.intro) hs he (dno_ok hw ?_ hsm (relN_put rv rel) dd')) (q1 _ (rpN_put hdp rk rd ra))
  have := putN_length xs k b v
  omega
def sDPutN (K : PySem.W.Frag) (td ty tv : TE) : TS := fun D σ H => tv σ H fun v H1 => td σ H1 fun x H2 => ty σ H2 fun y H3 => ∃ a, x = .ref a ∧ rSetN K a y v H3 fun H4 => D.nx σ H4
theorem ps_dputN {o i value : Expr} {pos pos' : Pos} {td ty tv : TE} (hw : X.w = TheW.w) (hu : X.A.units + 20 < cLine) (ho : PE X o td) (hi : PE X i ty) (hv : PE X value tv) (hs : swapsWith value (some (.Subscript o i pos')) pos.line X.env = pure false) :
    PS X (.Assign [.Subscript o i pos'] value pos) (sDPutN X.K td ty tv) := by
  refine ⟨fun pins s σ H D I h => ?_⟩
  refine wpAny_Assign_Subscript (thn (hv.run pins s σ H _ I h) fun r s1 ⟨v, H1, I1, rv, q1⟩ => thn (ho.run pins s1 σ H1 _ I1 q1) fun u s2 ⟨x, H2, I2, rx, q2⟩ => thn (hi.run pins s2 σ H2 _ I2 q2) fun iv s3 ⟨y, H3, I3, ry, a, ex, q3⟩ => ?_) hs
  subst ex
  obtain rfl : u = Value.ref a := rx
  exact setN hw hu I3 q3 ry rv fun H4 s4 I4 q => ⟨σ, H4, I4, q⟩
def sPutN (i : Nat) (fk fv : DEnv → R PyData) : DEnv → SR := fun ρ => match ρ[i]? with
  | some (.own (.dN kvs)) => match fv ρ with
    | .ok v => match fk ρ with
      | .ok d => if isNKey d = true ∧ kvs.length < sizeLine then .next (ρ.set i (.own (.dN (dput kvs d v)))) else .bad
      | .exc e => .exc e ρ
      | .bad => .bad
    | .exc e => .exc e ρ
    | .bad => .bad
  | _ => .bad
theorem ds_putN (i : Nat) {x : Str} {ek ev : Expr} {fk fv : DEnv → R PyData} {p pos' pos : Pos} (hw : X.w = TheW.w) (hu : X.A.units + 20 < cLine) (hk : DE X F0 H0 W ek fk) (hv : DE X F0 H0 W ev fv) (hN : X.N[i]? = some x := by rfl)
    (hvis : Vis X.env.scope x := by first | exact Or.inl rfl | exact Or.inr (Or.inl rfl) | exact Or.inr (Or.inr rfl)) (hd : (x == ("__debug__" : Str)) = false := by decide) (hcd : (x == ("__classdict__" : Str)) = false := by decide)
    (hs : swapsWith ev (some (.Subscript (.Name x p) ek pos')) pos.line X.env = pure false := by rfl) : DS X F0 H0 W (.Assign [.Subscript (.Name x p) ek pos'] ev pos) (sPutN i fk fv) :=
  PS.imp (ps_dputN hw hu (pe_var hN hvis hd hcd) hk hv hs) fun D σ H h => by
    obtain ⟨F, ρ, k, h⟩ := h
    unfold sPutN at h
    cases e0 : ρ[i]? with
    | none => rw [e0] at h; exact h.elim
    | some sl =>
      cases sl with
      | un => rw [e0] at h; exact h.elim
      | val d => rw [e0] at h; exact h.elim
      | own w =>
        cases w with
        | lst kvs => rw [e0] at h; exact h.elim
        | dK kvs => rw [e0] at h; exact h.elim
        | dN kvs =>
          rw [e0] at h
          dsimp only at h
          refine ⟨F, ρ, k, ?_⟩
          cases e1 : fv ρ with
          | bad => rw [e1] at h; exact h
          | exc x => rw [e1] at h; exact exc_of k h
          | ok dv =>
            rw [e1] at h
            dsimp only at h
            intro v F1 H1 s1 r1
            have k1 := k.step s1
            obtain ⟨a, ha, hF, h0, _⟩ := k1.own i _ e0
            refine ⟨.ref a, ha, F1, ρ, k1, ?_⟩
            cases e2 : fk ρ with
            | bad => rw [e2] at h; exact h
            | exc x => rw [e2] at h; exact exc_of k1 (SPo.step s1.fr h)
            | ok dk =>
              rw [e2] at h
              dsimp only at h
              intro y F2 H2 s2 r2
              have k2 := k1.step s2
              split at h
              · rename_i hc
                obtain ⟨a', ha', hF', h0', es, hes, rs⟩ := k2.own i _ e0
                rw [ha] at ha'
                cases ha'
                refine ⟨a, rfl, F2, es, kvs, dk, dv, k2.st.sub, hes, rs, by rw [rs.length]; exact hc.2, r2, r1.mono s2.fr, hc.1, fun xs' rx' => ?_⟩
                exact h _ F2 _ (s1.trans s2).fr (k2.mut e0 ha hF' h0' ⟨xs', upd_same, rx'⟩)
              · exact h.elim
end
end DL
namespace DL
open PySem PySem.Spec PyProof.Rows L2
variable [TheW]
/-! ### sorting tuples of which some are empty -/
section
open PySem.W PySem.SeqAt
variable {prog : Program} {w : World} {A : Around} {E : Value → Shared → Prop} {s : Shared}
theorem call_tuple_lt {Q : Value → Shared → Prop} {l b : Addr} {items items2 : Array Value} {e r : Nat → Bool} (hl : s.heap.IsTuple l items) (hb : s.heap.IsTuple b items2)
    (he : ∀ j (h1 : j < items.size) (h2 : j < items2.size), EqAt A.in1 s items[j] items2[j] (e j)) (hr : ∀ j (h1 : j < items.size) (h2 : j < items2.size), e j = false → RcLt A.in1 s items[j] items2[j] (r j))
    (h : Q (.bool (firstLt e r (decide (items.size < items2.size)) (List.range (min items.size items2.size)))) s) : wpAny (model prog w) A (call (.builtin "tuple.__lt__") [.ref l, .ref b]) Q E s := by
  obtain ⟨⟨cls, dd, data, sl⟩, ho, hc, n, hd⟩ := id hl
  obtain ⟨⟨cls2, dd2, data2, sl2⟩, ho2, hc2, n2, hd2⟩ := id hb
  simp only at hc hd hc2 hd2
  subst hc hd hc2 hd2
  exact call_meets PySem.F.slot_tuple_lt ⟨_, ho, rfl⟩ PySem.F.entry_tuple_lt (PySem.F.args_tuple_lt_2 _ _) (tuple_ltAt l b items items2 n n2 dd dd2 sl sl2 e r) ⟨ho, ho2, he, hr, h⟩
theorem keyLt'_gen (x y : Value) : keyLt' general' x y = oneLt' false x y := rfl
theorem oneLt_tuples {f : Bool} {xs ys : List PyData} {a b : Value} {as bs : List Addr} {Q : Bool → Shared → Prop} (ra : Reads s.heap a (.tuple xs) as) (rb : Reads s.heap b (.tuple ys) bs) (h : alike (.tuple xs) (.tuple ys) = true)
    (hu : A.units + min (PyData.tuple xs).depth (PyData.tuple ys).depth < cLine) (hq : Q (dataLt (.tuple xs) (.tuple ys)) s) : wpAny (model prog w) A (oneLt' f a b) Q E s := by
  cases f with
  | false => exact oneLt_alike (f := false) (fun z => nomatch z) ra rb h (fun z => nomatch z) hu hq
  | true =>
    have hal : alikeAll xs ys = true := by simpa [alike] using h
    cases ra with
    | @tuple l o vs n _ as₁ h1 h2 h3 h4 =>
      cases rb with
      | @tuple l' o' vs' n' _ bs₁ k1 k2 k3 k4 =>
        have n1 : vs.size = xs.length := by simpa using SeqAt.ReadsAll.length _ _ _ h4
        have n2 : vs'.size = ys.length := by simpa using SeqAt.ReadsAll.length _ _ _ k4
        rw [dataLt_tuple, ← firstLt_toks xs ys hal, ← n1, ← n2] at hq
        rw [oneLt'_eq]
        simp only [if_true]
        refine wpAny_bind (wpAny_cRoomFor (room_here hu) ?_)
        refine wpAny_bind (wpAny_callSpecialIfBound?_slot (T := "tuple") ⟨_, h1, h2⟩ PySem.F.slot_tuple_lt (call_tuple_lt (e := pairEq xs ys) (r := fun j => dataLt (xs.getD j .none) (ys.getD j .none)) ⟨_, h1, h2, _, h3⟩ ⟨_, k1, k2, _, k3⟩ (fun j j1 j2 => ?_) (fun j j1 j2 hj => ?_) ?_))
        · have := eqAt_alikeAll xs ys A.in1 s vs.toList vs'.toList _ _ h4 k4 hal (room_in hu) j (by simpa using j1) (by simpa using j2)
          simpa using this
        · have := rcLt_alikeAll xs ys A.in1 s vs.toList vs'.toList _ _ h4 k4 hal (room_in hu) j (by simpa using j1) (by simpa using j2) hj
          simpa using this
        · exact wpAny_truthy_bool hq
def headD : PyData → Bool
  | .tuple (_ :: _) => true
  | _ => false
theorem firsts_any {M : Model} : ∀ {vs : List Value} {ds : List PyData} {Q : List (Option Value) → Shared → Prop}, EachIs (fun v d => ∃ as, Reads s.heap v d as) vs ds → (∀ d, d ∈ ds → ∃ xs, d = .tuple xs) →
    (∀ fs : List (Option Value), EachIs (fun f d => f.isSome = headD d) fs ds → Q fs s) → wpAny M A (vs.mapM firstOfTuple') Q E s
  | _, _, Q, .nil, _, h => by rw [List.mapM_nil]; exact wpAny_pure (h [] .nil)
  | _, _, Q, .cons (a := v) (b := d) ⟨as, r⟩ t, ht, h => by
    obtain ⟨xs, rfl⟩ := ht d (List.mem_cons_self ..)
    cases r with
    | @tuple a o vs n _ _ ho hc hd hr =>
      rw [List.mapM_cons]
      refine wpAny_bind ?_
      rw [kas_first_eq]
      refine wpAny_bind (Looks.here (show Looks M s.heap (typeOf (.ref a)) o.cls from (Looks.ld ho).andThen .now) ?_)
      rw [hc, if_neg (by first | decide | simp)]
      refine wpAny_bind (listItems_at ho hd (wpAny_pure ?_))
      refine wpAny_bind (firsts_any (Q := fun bs s' => wpAny M A (pure (vs[0]? :: bs)) Q E s') t (fun d hd => ht d (List.mem_cons_of_mem _ hd)) fun fs hfs => wpAny_pure (h _ (.cons ?_ hfs)))
      have hl : vs.toList.length = xs.length := SeqAt.ReadsAll.length _ _ _ hr
      rw [Array.length_toList] at hl
      cases xs with
      | nil => rw [Array.getElem?_eq_none (by rw [hl]; exact Nat.le_refl _)]; rfl
      | cons x xs => rw [Array.getElem?_eq_getElem (by rw [hl]; exact Nat.succ_pos _)]; rfl
theorem each_all {α β : Type} {R : α → β → Prop} {p : α → Bool} {q : β → Bool} (h : ∀ a b, R a b → p a = q b) : ∀ {as : List α} {bs : List β}, EachIs R as bs → as.all p = bs.all q
  | _, _, .nil => rfl
  | _, _, .cons r t => by rw [List.all_cons, List.all_cons, h _ _ r, each_all h t]
/-- tuples that read as alike data can be sorted -/
theorem SortsAt.tups {vs : List Value} {ds : List PyData} (e : EachIs (fun v d => ∃ as, Reads s.heap v d as) vs ds) (hal : AllAlike ds) (ht : ∀ d, d ∈ ds → ∃ xs, d = .tuple xs) (hu : ∀ d, d ∈ ds → A.units + d.depth < cLine) : SortsAt prog w A s (dataKind s.heap ds) vs := by
  by_cases hne : ds.all headD = true
  · exact SortsAt.data e hal (.inl fun d hd => by
      obtain ⟨xs, rfl⟩ := ht d hd
      have := List.all_eq_true.mp hne _ hd
      cases xs with
      | nil => cases this
      | cons x xs => exact ⟨x, xs, rfl⟩) hu
  · have room : ∀ {d d' : PyData}, d ∈ ds → A.units + min d.depth d'.depth < cLine := fun {d d'} hd => Nat.lt_of_le_of_lt (Nat.add_le_add_left (Nat.min_le_left _ _) _) (hu d hd)
    have lt : ∀ f kd, (∀ x y, keyLt' kd x y = oneLt' f x y) → H.LtAt prog w A s (dataKind s.heap ds) kd := by
      intro f kd hk E x y a b Q ha hb hq
      obtain ⟨d, as, hd, ra, rfl⟩ := dataKind_inv ha
      obtain ⟨d', as', hd', rb, rfl⟩ := dataKind_inv hb
      have hdd := hal d hd d' hd'
      have hroom := room (d' := d') hd
      obtain ⟨x1, rfl⟩ := ht d hd
      obtain ⟨x2, rfl⟩ := ht d' hd'
      rw [hk]
      exact oneLt_tuples ra rb hdd hroom hq
    refine ⟨fun v hv => ?_, ?_⟩
    · obtain ⟨d, hd, as, r⟩ := e.left v hv
      exact ⟨_, dataKind_some hal hd r⟩
    · cases ds with
      | nil => exact absurd rfl hne
      | cons d₀ ds₀ =>
        have keys : ∀ {E : Value → Shared → Prop} {Q : SortKind → Shared → Prop}, Q (if headD d₀ = true then general' else oneType') s → wpAny (model prog w) A (keyKind' vs.toArray) Q E s := by
          intro E Q hq
          rw [kat_kind_eq, List.mapM_toArray, map_eq_pure_bind]
          refine wpAny_bind (wpAny_bind (firsts_any e ht fun fs hfs => wpAny_pure ?_))
          have hall : (fs.toArray.all fun x => x.isSome) = false := by
            have q : fs.all (fun x => x.isSome) = (d₀ :: ds₀).all headD := each_all (fun _ _ h => h) hfs
            rw [List.all_toArray, q]
            cases c : (d₀ :: ds₀).all headD with
            | true => exact absurd c hne
            | false => rfl
          rw [hall]
          simp only [Bool.false_eq_true, if_false]
          cases hfs with
          | @cons f _ fs _ h0 hfs =>
            have e0 : ((f :: fs).toArray[0]?.bind id).isSome = headD d₀ := by
              simp [← h0]
            rw [e0]
            cases c : headD d₀ with
            | true =>
              rw [c] at hq
              simp only [if_true] at hq ⊢
              exact wpAny_pure hq
            | false =>
              rw [c] at hq
              simp only [Bool.false_eq_true, if_false] at hq ⊢
              rw [oneTypeOnly'_eq, List.mapM_toArray, map_eq_pure_bind]
              refine wpAny_bind (wpAny_bind (wpAny_bind (kas_mapM (r := Value.type "tuple") _ (fun v hv Q' hq => ?_) (wpAny_pure ?_))))
              · obtain ⟨d, hd, as, r⟩ := e.left v hv
                obtain ⟨xs, rfl⟩ := ht d hd
                exact (looks_reads r).here hq
              · cases e with
                | @cons v _ vs _ _ _ =>
                  have hall2 : ((List.map (fun _ => Value.type "tuple") (v :: vs)).toArray.all fun x => x == Value.type "tuple") = true := by
                    simp only [List.all_toArray, List.all_map, List.all_eq_true]
                    intro _ _
                    exact beq_self_eq_true _
                  have h0 : (List.map (fun _ => Value.type "tuple") (v :: vs)).toArray[0]? = some (Value.type "tuple") := by simp
                  rw [h0]
                  simp only [hall2, if_true]
                  exact wpAny_pure (wpAny_pure hq)
        cases c : headD d₀ with
        | true =>
          rw [c] at keys
          exact ⟨general', lt false _ keyLt'_gen, fun _ E Q hq => keys hq⟩
        | false =>
          rw [c] at keys
          exact ⟨oneType', lt true _ keyLt'_oneType, fun _ E Q hq => keys hq⟩
end
end DL
namespace DL
open PySem PySem.Spec PyProof.Rows L2
variable [TheW]
/-! ### sorted(..) -/
def plainD : PyData → Bool
  | .none => false
  | .tuple _ => false
  | _ => true
def okSort (ds : List PyData) : Bool := ds.all SeqAt.shaped && (ds.all fun d => ds.all fun d' => PySem.W.alike d d') && (ds.all isTupD || ds.all plainD)
def sortD (ds : List PyData) : List PyData := ds.mergeSort (PySem.W.dataLe false fun d : PyData => d)
section
open PySem.W
variable {X : Cx} {pins : List (Addr × Obj)} {σ : L2.St} {F H : Hp} {s : Shared}
theorem each_of (I : Inv X pins σ H s) (sF : Same F H) {h' : Heap} (hk : ∀ b o, s.heap.get? b = some o → h'.get? b = some o) : ∀ {ys : List V} {vs : List Value} {ds : List PyData}, RpAll X.K F ys ds → Vals ys vs → ds.all SeqAt.shaped = true →
    EachIs (fun v d => ∃ as, Reads h' v d as) vs ds ∧ EachIs (fun v d => ∃ x, RelV x v ∧ Rp X.K F x d) vs ds
  | _, _, _, .nil, r, _ => by cases r; exact ⟨.nil, .nil⟩
  | _, _, _, .cons h t, r, hs => by
    cases r with
    | cons r rs =>
      rw [List.all_cons, Bool.and_eq_true] at hs
      obtain ⟨e1, e2⟩ := each_of I sF hk t rs hs.2
      obtain ⟨as, rd⟩ := Dp.reads I _ _ _ (dp_of sF h hs.1) r
      exact ⟨.cons ⟨as, PyProof.Rows.Reads.keeps hk rd⟩ e1, .cons ⟨_, r, h⟩ e2⟩
theorem of_each {K : PySem.W.Frag} : ∀ {vs : List Value} {ds : List PyData}, EachIs (fun v d => ∃ x, RelV x v ∧ Rp K F x d) vs ds → ∃ ys, Vals ys vs ∧ RpAll K F ys ds
  | _, _, .nil => ⟨[], .nil, .nil⟩
  | _, _, .cons ⟨x, r, h⟩ t => by
    obtain ⟨ys, rv, ra⟩ := of_each t
    exact ⟨x :: ys, .cons r rv, .cons h ra⟩
theorem sorts_of (I : Inv X pins σ H s) (sF : Same F H) {ys : List V} {vs : List Value} {ds : List PyData} (ra : RpAll X.K F ys ds) (rv : Vals ys vs) (ok : okSort ds = true) {A : Around} (hu : A.units + 64 < cLine) (s' : Shared)
    (hk : ∀ b o, s.heap.get? b = some o → s'.heap.get? b = some o) : SortsAt X.prog X.w A s' (dataKind s'.heap ds) vs ∧ ∃ zs, Vals zs (sortVals (dataKind s'.heap ds) false vs vs) ∧ RpAll X.K F zs (sortD ds) := by
  unfold okSort at ok
  rw [Bool.and_eq_true, Bool.and_eq_true] at ok
  obtain ⟨⟨h1, h2⟩, h3⟩ := ok
  obtain ⟨e1, e2⟩ := each_of I sF hk ra rv h1
  have hal : AllAlike ds := fun d hd d' hd' => List.all_eq_true.mp (List.all_eq_true.mp h2 d hd) d' hd'
  have hd : ∀ d, d ∈ ds → A.units + d.depth < cLine := fun d hd => by
    have := SeqAt.depth_of_shaped (List.all_eq_true.mp h1 d hd)
    omega
  refine ⟨?_, ?_⟩
  · rcases (Bool.or_eq_true _ _).mp h3 with h | h
    · exact SortsAt.tups e1 hal (fun d hd => by
        have := List.all_eq_true.mp h d hd
        cases d with
        | tuple xs => exact ⟨xs, rfl⟩
        | _ => cases this) hd
    · exact SortsAt.data e1 hal (.inr fun d hd => by
        have := List.all_eq_true.mp h d hd
        cases d <;> simp [plainD] at this ⊢) hd
  · have e3 := sortVals_data (h' := s'.heap) (enc := fun d : PyData => d) false e2 e1 (by rw [List.map_id']; exact hal)
    rw [List.map_id'] at e3
    exact of_each e3
theorem sortD_length (ds : List PyData) : (sortD ds).length = ds.length := by unfold sortD; exact List.length_mergeSort ds
/-- the items of a thing that may be walked: a list, a dict's keys -/
def srcD : PyData → Option (List PyData)
  | .list ds => some ds
  | .tuple ds => some ds
  | .dict kvs => if ((shortKeys kvs && keysK kvs) || keysN kvs) = true then some (kvs.map (·.1)) else none
  | _ => none
/-- a frozen dict's object -/
theorem dict_raw (I : Inv X pins σ H s) (sF : Same F H) {a : Addr} {kvs : List (PyData × PyData)} (r : Rp X.K F (.ref a) (.dict kvs)) (hc : ((shortKeys kvs && keysK kvs) || keysN kvs) = true) :
    (a == sysModules) = false ∧ kvs.length ≤ sizeLine ∧ ∃ (o : Obj) (es : Array DictEntry) (ep : Nat), s.heap.get? a = some o ∧ o.ExactDict ∧ o.data = .dict es ep ∧ es.size = kvs.length ∧
      ∀ i, i < es.size → ∃ (en : DictEntry) (x : V) (d : PyData), es[i]? = some en ∧ (kvs.map (·.1))[i]? = some d ∧ RelV x en.key ∧ Rp X.K F x d := by
  cases r with
  | @dct _ o es _ hF z ra =>
    obtain ⟨hs, hgd, hx, es', ep, vs, hdt, hsz, kv, o', es'', ho', hx', hdt', hkk, hp, hn⟩ := I.frzK (sF _ _ hF)
    rw [hgd] at ho'
    cases ho'
    obtain ⟨e1, _⟩ := dict_ep hdt hdt'
    subst e1
    have hl := ra.length
    have hshort : shortKeys kvs = true := by
      rcases (Bool.or_eq_true _ _).mp hc with h | h
      · exact (Bool.and_eq_true_iff.mp h).1
      · obtain ⟨_, rfl⟩ := ra.nilN h; rfl
    refine ⟨hs, by omega, o, _, ep, hgd, hx, hdt, by omega, fun i hi => ?_⟩
    have hi2 : i < es.length := by omega
    obtain ⟨⟨k, v⟩, hkv⟩ : ∃ p, es[i]? = some p := ⟨es[i], List.getElem?_eq_getElem hi2⟩
    obtain ⟨u, hu, ru⟩ := kv_get kv hkv
    obtain ⟨d, hd, rd⟩ := ra.key hkv
    have key : ∀ (l : List DictEntry) (m : List (Key × Value)), Pairs (mixKind X.prog X.w) l m → ∀ (i : Nat) (k : Key) (u : Value), m[i]? = some (k, u) → ∃ en : DictEntry, l[i]? = some en ∧ (mixKind X.prog X.w).is k en.key = true := by
      intro l m hp
      induction hp with
      | nil => intro i k u h; simp at h
      | @cons en kv es kvs h1 h2 t ih =>
        intro i k u h
        cases i with
        | zero => simp at h; subst h; exact ⟨en, rfl, h1⟩
        | succ i => exact ih i k u (by simpa using h)
    obtain ⟨en, he, hk⟩ := key _ _ hp i k u hu
    refine ⟨en, kV k, keyD k, by rw [← Array.getElem?_toList]; exact he, by rw [List.getElem?_map, hd]; rfl, relV_key hk, rp_key (short_at hshort hd)⟩
  | @dctN _ o xs _ hF z hn ra =>
    obtain ⟨hs, hgd, hx, es, ep, hdt, hsz, ent⟩ := frzN I (sF _ _ hF)
    have hl := ra.length
    refine ⟨hs, by omega, o, es, ep, hgd, hx, hdt, by omega, fun i hi => ?_⟩
    obtain ⟨⟨k, b, v⟩, hkv⟩ : ∃ p, xs[i]? = some p := ⟨xs[i], List.getElem?_eq_getElem (by omega)⟩
    obtain ⟨en, hen, hkey, _⟩ := ent i k b v hkv
    obtain ⟨d, hd, rk, _⟩ := ra.at hkv
    exact ⟨en, .ref b, k.data, hen, by rw [List.getElem?_map, hd]; rfl, hkey, rk⟩
/-- the items that a walk of the dict has brought -/
theorem vals_items {K : PySem.W.Frag} {es : Array DictEntry} : ∀ {vs : List Value} {ds : List PyData} (j : Nat), vs.length = ds.length → (∀ i v, vs[i]? = some v → ∃ en : DictEntry, es[j + i]? = some en ∧ v = en.key) →
    (∀ i, i < ds.length → ∃ (en : DictEntry) (x : V) (d : PyData), es[j + i]? = some en ∧ ds[i]? = some d ∧ RelV x en.key ∧ Rp K F x d) → ∃ ys, Vals ys vs ∧ RpAll K F ys ds
  | [], [], _, _, _, _ => ⟨[], .nil, .nil⟩
  | [], _ :: _, _, h, _, _ => by simp at h
  | _ :: _, [], _, h, _, _ => by simp at h
  | v :: vs, d :: ds, j, hl, h1, h2 => by
    obtain ⟨en, e1, e2⟩ := h1 0 v rfl
    obtain ⟨en', x, d', e3, e4, e5, e6⟩ := h2 0 (by simp)
    rw [e1] at e3
    cases e3
    simp at e4
    subst e4
    obtain ⟨ys, rv, ra⟩ := vals_items (j + 1) (by simpa using hl) (fun i v h => by
      have := h1 (i + 1) v (by simpa using h)
      rwa [show j + (i + 1) = j + 1 + i by omega] at this) (fun i hi => by
      have := h2 (i + 1) (by simpa using hi)
      rw [show j + (i + 1) = j + 1 + i by omega] at this
      simpa using this)
    exact ⟨x :: ys, .cons (by rw [e2]; exact e5) rv, .cons e6 ra⟩
/-- list(x), sorted(x) of a dict: what they collect -/
theorem dict_walk (I : Inv X pins σ H s) (sF : Same F H) {a : Addr} {kvs : List (PyData × PyData)} (r : Rp X.K F (.ref a) (.dict kvs)) (hc : ((shortKeys kvs && keysK kvs) || keysN kvs) = true) :
    kvs.length ≤ sizeLine ∧ ∃ (o : Obj) (es : Array DictEntry) (ep : Nat), s.heap.get? a = some o ∧ es.size = kvs.length ∧ PySem.W.KdlSrc X.prog X.w "dict" a a es.size (fun i v => ∃ en : DictEntry, es[i]? = some en ∧ v = en.key) (fun h => h.get? a = some o) ∧
      ∀ acc : Array Value, ItemsOf (fun i v => ∃ en : DictEntry, es[i]? = some en ∧ v = en.key) acc es.size → ∃ ys, Vals ys acc.toList ∧ RpAll X.K F ys (kvs.map (·.1)) := by
  obtain ⟨hs, hz, o, es, ep, hgd, hx, hdt, hsz, ent⟩ := dict_raw I sF r hc
  refine ⟨hz, o, es, ep, hgd, hsz, kdl_raw hs hx hdt, fun acc hacc => ?_⟩
  refine vals_items (es := es) 0 (by rw [Array.length_toList, List.length_map, hacc.1, hsz]) (fun i v h => ?_) fun i hi => ?_
  · rw [Nat.zero_add]
    exact hacc.2 i v (by rw [← Array.getElem?_toList]; exact h)
  · rw [Nat.zero_add]
    exact ent i (by rw [hsz]; simpa using hi)
end
section
variable {X : Cx} {F0 H0 : Hp} {W : WX} {K : PySem.W.Frag} {mg : Str → Option Value}
def rSortedD (K : PySem.W.Frag) : List V → Hp → VK → Prop := fun xs H Q => ∃ F x d ds, xs = [x] ∧ Same F H ∧ Rp K F x d ∧ isTupD d = false ∧ srcD d = some ds ∧ okSort ds = true ∧ ∀ p ys, H p = none → RpAll K F ys (sortD ds) → ys.length ≤ sizeLine → Q (.ref p) (upd H p (.lst ys))
theorem call_sortedA (hcalm : X.calm = true) (hu : X.A.units + 80 < cLine) : CallR X (.builtin "sorted") (rSortedD X.K) := by
  intro pins s σ H xs us Q I r h
  obtain ⟨F, x, d, ds, rfl, sF, rx, hnt, hsrc, ok, q⟩ := h
  obtain ⟨u, rfl, ru⟩ := vals1 r
  cases rx with
  | @lst a ys ds' hs z ra =>
    cases hsrc
    cases ru
    obtain ⟨its, rv, hl, hz⟩ := I.list (same_l sF hs)
    obtain ⟨S, zs, rz, rp⟩ := sorts_of I sF ra rv ok (A := X.A.in1.in1) (by show X.A.units + 1 + 1 + 64 < cLine; omega) { s with heap := PySem.W.sortingHeap (PySem.W.copyHeap s.heap its) (s.heap.objs.size + 1) its } (fun b o e => PySem.W.sorting_copy_old e)
    have hlen : zs.length ≤ sizeLine := by rw [rp.length, sortD_length, ← ra.length]; exact z
    refine PySem.W.sorted_vals hl.isList S (by rw [← rv.length]; exact hz) ?_
    obtain ⟨e, he⟩ := sortedAll_at s.heap its (PySem.W.sortVals (PySem.W.dataKind (PySem.W.sortingHeap (PySem.W.copyHeap s.heap its) (s.heap.objs.size + 1) its) ds) false its its).toArray
    exact ⟨.ref (s.heap.objs.size + 1), upd H (s.heap.objs.size + 1) (.lst zs), I.laid (t' := s.toks) (fun b o e => sortedAll_old e) (Nat.le_succ _) (show ObjOk X.prog X.w _ _ _ (.lst zs) from ⟨hlen, _, e, rz, he⟩), rfl, q _ _ (I.hok.fresh (Nat.le_succ _)) rp hlen⟩
  | @dct a o es kvs hF z ra =>
    have hsrc : (if ((shortKeys kvs && keysK kvs) || keysN kvs) = true then some (kvs.map (·.1)) else none) = some ds := hsrc
    split at hsrc
    · rename_i hc
      cases hsrc
      cases ru
      exact go I sF (.dct hF z ra) hc ok q
    · cases hsrc
  | @dctN a o xs kvs hF z hn ra =>
    have hsrc : (if ((shortKeys kvs && keysK kvs) || keysN kvs) = true then some (kvs.map (·.1)) else none) = some ds := hsrc
    split at hsrc
    · rename_i hc
      cases hsrc
      cases ru
      exact go I sF (.dctN hF z hn ra) hc ok q
    · cases hsrc
  | tup _ _ _ => cases hnt
  | _ => cases hsrc
where
  go {pins : List (Addr × Obj)} {s : Shared} {σ : L2.St} {H F : Hp} {Q : VK} {a : Addr} {kvs : List (PyData × PyData)} (I : Inv X pins σ H s) (sF : Same F H) (r : Rp X.K F (.ref a) (.dict kvs)) (hc : ((shortKeys kvs && keysK kvs) || keysN kvs) = true) (ok : okSort (kvs.map (·.1)) = true)
    (q : ∀ p ys, H p = none → RpAll X.K F ys (sortD (kvs.map (·.1))) → ys.length ≤ sizeLine → Q (.ref p) (upd H p (.lst ys))) : wpAny (model X.prog X.w) X.A (call (.builtin "sorted") [.ref a]) (EP X pins σ Q) X.xe s := by
    obtain ⟨hz, o, es, ep, hgd, hsz, src, items⟩ := dict_walk I sF r hc
    refine Calls.call_function_entry PyProof.Rows.kind_sorted PyProof.Rows.plain_sorted PyProof.Rows.entry_sorted (PyProof.Rows.args_sorted1 _) ?_
    unfold Builtin.«sorted»
    refine wpAny_bind (m := checkCount "sorted" 1 1 _) (wpAny_pure ?_)
    refine wpAny_bind (PySem.W.kdu_collect (A := X.A.in1) src (I.ok.hd hcalm) hgd (by omega) fun h' tk acc hk hacc => ?_)
    obtain ⟨ys, rv, ra⟩ := items acc hacc
    have I1 : Inv X pins σ H { s with heap := h', toks := tk } := I.kept hk
    have hla : acc.toList.length ≤ sizeLine := by rw [← rv.length, ra.length, List.length_map]; exact hz
    refine wpAny_bind (wpAny_newList ?_ hla)
    have hoL : (h'.push (seqObj "list" acc.toList.toArray 0)).get? h'.objs.size = some (seqObj "list" acc.toList.toArray 0) := Heap.get?_push_size _ rfl
    show wpAny _ _ _ _ _ { s with heap := h'.push (seqObj "list" acc.toList.toArray 0), toks := tk }
    have hk2 : ∀ b o, h'.get? b = some o → (PySem.W.sortingHeap (h'.push (seqObj "list" acc.toList.toArray 0)) h'.objs.size acc.toList).get? b = some o := fun b o e => PySem.W.sortingHeap_old (Nat.ne_of_lt (Heap.lt_size e)) (Heap.get?_push_of_some _ e)
    obtain ⟨S, zs, rz, rp⟩ := sorts_of I1 sF ra rv ok (A := X.A.in1.in1) (by show X.A.units + 1 + 1 + 64 < cLine; omega) { s with heap := PySem.W.sortingHeap (h'.push (seqObj "list" acc.toList.toArray 0)) h'.objs.size acc.toList, toks := tk } hk2
    have hlen : zs.length ≤ sizeLine := by rw [rp.length, sortD_length, List.length_map]; exact hz
    refine wpAny_bind (wpAny_holding (wpAny_call_entry PyProof.Rows.slot_list_sort ⟨_, hoL, rfl⟩ PyProof.Rows.entry_list_sort
      (PySem.W.list_sort_vals (s := { s with heap := h'.push (seqObj "list" acc.toList.toArray 0), toks := tk }) hoL S hla ⟨_, rfl, ?_⟩) (PyProof.Rows.args_list_sort _)))
    obtain ⟨e', he'⟩ := PyProof.Rows.sortedHeap_at (vs := acc.toList) (out := (PySem.W.sortVals (PySem.W.dataKind (PySem.W.sortingHeap (h'.push (seqObj "list" acc.toList.toArray 0)) h'.objs.size acc.toList) (kvs.map (·.1))) false acc.toList acc.toList).toArray) hoL
    refine wpAny_pure ⟨_, rfl, .ref h'.objs.size, upd H h'.objs.size (.lst zs), I1.laid (t' := tk) (fun b u e => ?_) (Nat.le_refl _) (show ObjOk X.prog X.w _ _ _ (.lst zs) from ⟨hlen, _, e', rz, he'⟩), rfl, q _ zs (I1.hok.fresh (Nat.le_refl _)) rp hlen⟩
    have hb : b < h'.objs.size := Heap.lt_size e
    rw [PyProof.Rows.sortedHeap_old (Nat.ne_of_lt hb) (by rw [size_push']; exact Nat.lt_succ_of_lt hb)]
    exact Heap.get?_push_of_some _ e
def gSorted (d : PyData) : R PyData := if isTupD d = true then .bad else match srcD d with
  | some ds => if okSort ds = true then .ok (.list (sortD ds)) else .bad
  | none => .bad
theorem o_sorted : OpC K (rSortedD K) (g1 gSorted) := o_1 fun F H x dx d s r h Q q => by
  unfold gSorted at h
  split at h
  · cases h
  · rename_i ht
    split at h
    · rename_i ds e
      split at h
      · rename_i ok
        cases h
        refine ⟨F, x, dx, ds, rfl, s, r, by simpa using ht, e, ok, fun p ys hp ra hl => ?_⟩
        have s2 := Stp.new1 (o := .lst ys) s hp
        exact q _ _ _ s2 (.lst (.inl (.inl upd_same)) hl (ra.mono s2.fr))
      · cases h
    · cases h
theorem nx_sorted : ∀ a e, g1 gSorted a ≠ .exc e := nx_g1 fun a e h => by
  unfold gSorted at h
  split at h
  · cases h
  · split at h
    · split at h <;> cases h
    · cases h
/-! ### list(..) of a list, a tuple, a dict -/
def rListA (K : PySem.W.Frag) : List V → Hp → VK → Prop := fun xs H Q => ∃ F x d ds, xs = [x] ∧ Same F H ∧ Rp K F x d ∧ srcD d = some ds ∧ ∀ p ys, H p = none → RpAll K F ys ds → ys.length ≤ sizeLine → Q (.ref p) (upd H p (.lst ys))
theorem call_listA (hcalm : X.calm = true) : CallR X (.type "list") (rListA X.K) := by
  intro pins s σ H xs us Q I r h
  obtain ⟨F, x, d, ds, rfl, sF, rx, hsrc, q⟩ := h
  cases rx with
  | @lst a ys ds' hs z ra =>
    cases hsrc
    exact call_list_of pins s σ H _ us Q I r ⟨a, ys, rfl, .inl (same_l sF hs), fun l hl => q l ys hl ra z⟩
  | @tup a ys ds' hs z ra =>
    cases hsrc
    exact call_list_of pins s σ H _ us Q I r ⟨a, ys, rfl, .inr (same_t sF hs.sq), fun l hl => q l ys hl ra z⟩
  | @dct a o es kvs hF z ra =>
    have hsrc : (if ((shortKeys kvs && keysK kvs) || keysN kvs) = true then some (kvs.map (·.1)) else none) = some ds := hsrc
    split at hsrc
    · rename_i hc
      cases hsrc
      obtain ⟨u, rfl, ru⟩ := vals1 r
      cases ru
      exact go I sF (.dct hF z ra) hc q
    · cases hsrc
  | @dctN a o xs kvs hF z hn ra =>
    have hsrc : (if ((shortKeys kvs && keysK kvs) || keysN kvs) = true then some (kvs.map (·.1)) else none) = some ds := hsrc
    split at hsrc
    · rename_i hc
      cases hsrc
      obtain ⟨u, rfl, ru⟩ := vals1 r
      cases ru
      exact go I sF (.dctN hF z hn ra) hc q
    · cases hsrc
  | _ => cases hsrc
where
  go {pins : List (Addr × Obj)} {s : Shared} {σ : L2.St} {H F : Hp} {Q : VK} {a : Addr} {kvs : List (PyData × PyData)} (I : Inv X pins σ H s) (sF : Same F H) (r : Rp X.K F (.ref a) (.dict kvs)) (hc : ((shortKeys kvs && keysK kvs) || keysN kvs) = true)
    (q : ∀ p ys, H p = none → RpAll X.K F ys (kvs.map (·.1)) → ys.length ≤ sizeLine → Q (.ref p) (upd H p (.lst ys))) : wpAny (model X.prog X.w) X.A (call (.type "list") [.ref a]) (EP X pins σ Q) X.xe s := by
    obtain ⟨hz, o, es, ep, hgd, hsz, src, items⟩ := dict_walk I sF r hc
    refine PySem.W.kdl_call src (I.ok.hd hcalm) hgd (by omega) fun h' tk acc c' hk hD hacc => ?_
    obtain ⟨ys, rv, ra⟩ := items acc hacc
    have hl : ys.length ≤ sizeLine := by rw [ra.length, List.length_map]; exact hz
    exact ⟨.ref s.heap.objs.size, upd H s.heap.objs.size (.lst ys), I.laid (t' := tk) hk (Nat.le_refl _) (show ObjOk X.prog X.w _ _ _ (.lst ys) from ⟨hl, acc.toList, c', rv, by rw [Array.toArray_toList]; exact hD⟩), rfl, q _ ys (I.hok.fresh (Nat.le_refl _)) ra hl⟩
def gListA (d : PyData) : R PyData := match srcD d with
  | some ds => .ok (.list ds)
  | none => .bad
theorem o_listA : OpC K (rListA K) (g1 gListA) := o_1 fun F H x dx d s r h Q q => by
  unfold gListA at h
  split at h
  · rename_i ds e
    cases h
    refine ⟨F, x, dx, ds, rfl, s, r, e, fun p ys hp ra hl => ?_⟩
    have s2 := Stp.new1 (o := .lst ys) s hp
    exact q _ _ _ s2 (.lst (.inl (.inl upd_same)) hl (ra.mono s2.fr))
  · cases h
theorem nx_listA : ∀ a e, g1 gListA a ≠ .exc e := nx_g1 fun a e h => by
  unfold gListA at h
  split at h <;> cases h
end
end DL
namespace DL
open PySem PySem.Spec PyProof.Rows L2
variable [TheW]
/-! ### dict(..) of pairs -/
def pairsD : List PyData → Option (List (PyData × PyData))
  | [] => some []
  | .tuple [k, v] :: ds => (pairsD ds).map ((k, v) :: ·)
  | _ :: _ => none
def dmake (ps : List (PyData × PyData)) : List (PyData × PyData) := ps.foldl (fun acc p => dput acc p.1 p.2) []
section
variable {X : Cx} {pins : List (Addr × Obj)} {σ : L2.St} {F H : Hp} {s : Shared}
/-- a value's data, its abstract value unnamed -/
def RpX (K : PySem.W.Frag) (F : Hp) (u : Value) (d : PyData) : Prop := ∃ x, RelV x u ∧ Rp K F x d
theorem pairs_at (I : Inv X pins σ H s) (sF : Same F H) : ∀ {ys : List V} {its : List Value} {ds : List PyData} {ps : List (PyData × PyData)}, RpAll X.K F ys ds → Vals ys its → pairsD ds = some ps →
    ∃ (ts : List Addr) (prs : List (Value × Value)), its = ts.map Value.ref ∧ ts.length = prs.length ∧ (∀ (j : Nat) (k v : Value), prs[j]? = some (k, v) → ∃ t, ts[j]? = some t ∧ s.heap.IsTuple t #[k, v]) ∧
      Paired (fun pr p => RpX X.K F pr.1 p.1 ∧ RpX X.K F pr.2 p.2) prs ps
  | _, _, _, _, .nil, r, h => by
    cases r
    cases h
    exact ⟨[], [], rfl, rfl, (fun j k v e => by simp at e), .nil⟩
  | _, _, _, _, .cons (ds := ds) h t, r, hp => by
    cases r with
    | cons r rs =>
      unfold pairsD at hp
      split at hp
      · rename_i e; cases e
      · rename_i k v ds' e
        cases e
        cases e2 : pairsD ds with
        | none => rw [e2] at hp; cases hp
        | some ps =>
          rw [e2] at hp
          cases hp
          obtain ⟨ts, prs, h1, h2, h3, h4⟩ := pairs_at I sF t rs e2
          cases h with
          | tup hs z ra =>
            cases ra with
            | cons ra1 ra =>
              cases ra with
              | cons ra2 ra =>
                cases ra
                cases r
                obtain ⟨jts, rv, pt, _⟩ := I.tuple (same_t sF hs.sq)
                obtain ⟨u1, u2, rfl, r1, r2⟩ := vals2 rv
                rename_i a _ _ _ _
                refine ⟨_ :: ts, (u1, u2) :: prs, by rw [h1]; rfl, by simp [h2], fun j k v e => ?_, .cons ⟨⟨_, r1, ra1⟩, ⟨_, r2, ra2⟩⟩ h4⟩
                cases j with
                | zero => simp at e; obtain ⟨rfl, rfl⟩ := e; exact ⟨_, rfl, pt⟩
                | succ j => exact h3 j k v (by simpa using e)
      · cases hp
theorem pair_items {its : List Value} {ts : List Addr} {prs : List (Value × Value)} (h1 : its = ts.map Value.ref) (h2 : ts.length = prs.length) (h3 : ∀ (j : Nat) (k v : Value), prs[j]? = some (k, v) → ∃ t, ts[j]? = some t ∧ s.heap.IsTuple t #[k, v]) :
    PairItems s.heap its.toArray (fun j => ts.getD j 0) prs := by
  refine ⟨by rw [h1]; simp [h2], fun j k v e => ?_⟩
  obtain ⟨t, ht, hi⟩ := h3 j k v e
  have e1 : ts.getD j 0 = t := by rw [List.getD_eq_getElem?_getD, ht]; rfl
  refine ⟨?_, ?_⟩
  · rw [h1]
    show (ts.map Value.ref).toArray[j]? = _
    rw [List.getElem?_toArray, List.getElem?_map, ht]
    show some (Value.ref t) = some (Value.ref (ts.getD j 0))
    rw [e1]
  · show PairAt s.heap (ts.getD j 0) k v
    rw [e1]
    exact .inl hi
theorem pairs_K {K : PySem.W.Frag} {P : Program} {w : World} : ∀ {prs : List (Value × Value)} {ps : List (PyData × PyData)}, Paired (fun pr p => RpX K F pr.1 p.1 ∧ RpX K F pr.2 p.2) prs ps → keysK ps = true →
    ∃ (kvs : List (Key × V)) (rs : List (Key × Value)), KV kvs rs ∧ RpKV K F kvs ps ∧ rs.length = prs.length ∧ ∀ (i : Nat) (key v : Value), prs[i]? = some (key, v) → ∃ k : Key, rs[i]? = some (k, v) ∧ (mixKind P w).is k key = true
  | _, _, .nil, _ => ⟨[], [], .nil, .nil, rfl, fun i key v e => by simp at e⟩
  | _, _, .cons (a := pr) (b := p) ⟨⟨x, rx, hx⟩, ⟨y, ry, hy⟩⟩ t, hk => by
    unfold keysK at hk
    rw [List.all_cons, Bool.and_eq_true] at hk
    obtain ⟨kvs, rs, h1, h2, h3, h4⟩ := pairs_K t (show keysK _ = true from hk.2)
    obtain ⟨k, rfl, ek⟩ := key_of_data hx hk.1
    refine ⟨(k, y) :: kvs, (k, pr.2) :: rs, .cons ⟨rfl, ry⟩ h1, ?_, by simp [h3], fun i key v e => ?_⟩
    · have : p = (keyD k, p.2) := by rw [← ek]
      rw [this]
      exact .cons hy h2
    · cases i with
      | zero => simp at e; subst e; exact ⟨k, rfl, kV_is rx⟩
      | succ i => exact h4 i key v (by simpa using e)
theorem pairs_N {K : PySem.W.Frag} : ∀ {prs : List (Value × Value)} {ps : List (PyData × PyData)}, Paired (fun pr p => RpX K F pr.1 p.1 ∧ RpX K F pr.2 p.2) prs ps → keysN ps = true →
    ∃ (xs : List (NestedKey × Addr × V)) (rs : List (NestedKey × Addr × Value)), Paired RelN xs rs ∧ RpN K F xs ps ∧ rs.length = prs.length ∧ ∀ (i : Nat) (key v : Value), prs[i]? = some (key, v) → ∃ (k : NestedKey) (b : Addr), rs[i]? = some (k, b, v) ∧ key = Value.ref b
  | _, _, .nil, _ => ⟨[], [], .nil, .nil, rfl, fun i key v e => by simp at e⟩
  | _, _, .cons (a := pr) (b := p) ⟨⟨x, rx, hx⟩, ⟨y, ry, hy⟩⟩ t, hk => by
    unfold keysN at hk
    rw [List.all_cons, Bool.and_eq_true] at hk
    obtain ⟨xs, rs, h1, h2, h3, h4⟩ := pairs_N t (show keysN _ = true from hk.2)
    obtain ⟨k, b, rfl, ek, hd⟩ := key_data hx hk.1
    refine ⟨(k, b, y) :: xs, (k, b, pr.2) :: rs, .cons ⟨rfl, rfl, ry⟩ h1, ?_, by simp [h3], fun i key v e => ?_⟩
    · have : p = (k.data, p.2) := by rw [ek]
      rw [this]
      rw [← ek] at hx
      exact .cons hd hx hy h2
    · cases i with
      | zero => simp at e; subst e; exact ⟨k, b, rfl, rx⟩
      | succ i => exact h4 i key v (by simpa using e)
theorem rpKV_make {K : PySem.W.Frag} : ∀ {kvs : List (Key × V)} {ps : List (PyData × PyData)} {acc : List (Key × V)} {qs : List (PyData × PyData)}, RpKV K F kvs ps → RpKV K F acc qs → RpKV K F (mergeK acc kvs) (ps.foldl (fun acc p => dput acc p.1 p.2) qs)
  | _, _, _, _, .nil, h => h
  | _, _, _, _, .cons (k := k) r t, h => by
    have q := rpKV_make t (RpKV.put (k := k) r h)
    exact q
theorem relN_all : ∀ {xs : List (NestedKey × Addr × V)} {rs : List (NestedKey × Addr × Value)} {acc : List (NestedKey × Addr × V)} {qs : List (NestedKey × Addr × Value)}, Paired RelN xs rs → Paired RelN acc qs →
    Paired RelN (xs.foldl (fun acc x => putN acc x.1 x.2.1 x.2.2) acc) (storedAllH qs rs)
  | _, _, _, _, .nil, h => h
  | _, _, _, _, .cons (a := x) (b := y) ⟨e1, e2, e3⟩ t, h => by
    have := relN_put (k := x.1) (b := x.2.1) e3 h
    rw [e1, e2] at this
    have q := relN_all t this
    show Paired RelN (List.foldl _ (putN _ x.1 x.2.1 x.2.2) _) (storedAllH (storedH _ y.1 y.2.1 y.2.2) _)
    rw [e1, e2]
    exact q
theorem rpN_make {K : PySem.W.Frag} : ∀ {xs : List (NestedKey × Addr × V)} {ps : List (PyData × PyData)} {acc : List (NestedKey × Addr × V)} {qs : List (PyData × PyData)}, RpN K F xs ps → RpN K F acc qs →
    RpN K F (xs.foldl (fun acc x => putN acc x.1 x.2.1 x.2.2) acc) (ps.foldl (fun acc p => dput acc p.1 p.2) qs)
  | _, _, _, _, .nil, h => h
  | _, _, _, _, .cons z hk hv t, h => by
    have q := rpN_make t (rpN_put z hk hv h)
    exact q
theorem putN_ne (xs : List (NestedKey × Addr × V)) (k : NestedKey) (b : Addr) (v : V) : putN xs k b v ≠ [] := by
  unfold putN
  split
  · rename_i h
    cases xs with
    | nil => cases h
    | cons x xs => simp
  · simp
theorem foldN_ne : ∀ (xs acc : List (NestedKey × Addr × V)), acc ≠ [] ∨ xs ≠ [] → xs.foldl (fun acc x => putN acc x.1 x.2.1 x.2.2) acc ≠ []
  | [], acc, h => h.elim id fun z => absurd rfl z
  | x :: xs, acc, _ => foldN_ne xs _ (.inl (putN_ne _ _ _ _))
theorem foldN_le : ∀ (xs acc : List (NestedKey × Addr × V)), (xs.foldl (fun acc x => putN acc x.1 x.2.1 x.2.2) acc).length ≤ acc.length + xs.length
  | [], acc => Nat.le_refl _
  | x :: xs, acc => by
    have h1 := foldN_le xs (putN acc x.1 x.2.1 x.2.2)
    have h2 := putN_length acc x.1 x.2.1 x.2.2
    rw [List.foldl_cons, List.length_cons]
    omega
end
section
variable {X : Cx} {F0 H0 : Hp} {W : WX} {K : PySem.W.Frag} {mg : Str → Option Value}
/-- what dict(x) gives: a new dict (frozen at once) -/
def gDictOf : PyData → R PyData
  | .list ds => match pairsD ds with
    | some ps => if keysK ps = true then .ok (.dict (dmake ps)) else if keysN ps = true then .ok (.dict (dmake ps)) else .bad
    | none => .bad
  | .tuple ds => match pairsD ds with
    | some ps => if keysK ps = true then .ok (.dict (dmake ps)) else if keysN ps = true then .ok (.dict (dmake ps)) else .bad
    | none => .bad
  | .dict kvs => if keysK kvs = true then .ok (.dict kvs) else .bad
  | _ => .bad
def rDictOf (K : PySem.W.Frag) : List V → Hp → VK → Prop := fun xs H Q => ∃ F x d r, xs = [x] ∧ Same F H ∧ Rp K F x d ∧ gDictOf d = .ok r ∧ ∀ v F' H', Stp F H F' H' → Rp K F' v r → Q v H'
/-- a new dict, locked -/
theorem lay_K {pins : List (Addr × Obj)} {σ : L2.St} {F H : Hp} {s : Shared} {h' : Heap} {tk : Nat} {es : List (Key × V)} {kvs : List (PyData × PyData)} {rs : List (Key × Value)} (I : Inv X pins σ H s) (sF : Same F H) (hk : ∀ b o, s.heap.get? b = some o → h'.get? b = some o)
    (hD : h'.DictOf (mixKind X.prog X.w) s.heap.objs.size rs) (rel : KV es rs) (ra : RpKV X.K F es kvs) (hz : es.length ≤ sizeLine) {Q : VK} (q : ∀ v F' H', Stp F H F' H' → Rp X.K F' v (.dict kvs) → Q v H') : EP X pins σ Q (.ref s.heap.objs.size) { s with heap := h', toks := tk } := by
  have hm : (s.heap.objs.size == sysModules) = false := beq_eq_false_iff_ne.mpr (Nat.ne_of_gt I.big)
  have hn : H s.heap.objs.size = none := I.hok.fresh (Nat.le_refl _)
  have I1 : Inv X pins σ (upd H s.heap.objs.size (.dK es)) { s with heap := h', toks := tk } := I.laid (t' := tk) hk (Nat.le_refl _) (show ObjOk X.prog X.w _ _ _ (.dK es) from ⟨hz, hm, rs, rel, hD⟩)
  obtain ⟨od, I2⟩ := I1.lock upd_same trivial
  rw [upd_upd] at I2
  have s2 := Stp.new1 (o := .frz od (.dK es)) sF hn
  exact ⟨.ref s.heap.objs.size, _, I2, rfl, q _ _ _ s2 (.dct upd_same hz (ra.mono s2.fr))⟩
theorem lay_N {pins : List (Addr × Obj)} {σ : L2.St} {F H : Hp} {s : Shared} {h' : Heap} {tk : Nat} {es : List (NestedKey × Addr × V)} {kvs : List (PyData × PyData)} {rs : List (NestedKey × Addr × Value)} (hw : X.w = TheW.w) (I : Inv X pins σ H s) (sF : Same F H) (hk : ∀ b o, s.heap.get? b = some o → h'.get? b = some o)
    (hD : h'.DictOfH (nestedKind X.prog X.w) s.heap.objs.size rs) (rel : Paired RelN es rs) (ra : RpN X.K F es kvs) (hz : es.length ≤ sizeLine) (hne : es ≠ []) {Q : VK} (q : ∀ v F' H', Stp F H F' H' → Rp X.K F' v (.dict kvs) → Q v H') : EP X pins σ Q (.ref s.heap.objs.size) { s with heap := h', toks := tk } := by
  have hm : (s.heap.objs.size == sysModules) = false := beq_eq_false_iff_ne.mpr (Nat.ne_of_gt I.big)
  have hn : H s.heap.objs.size = none := I.hok.fresh (Nat.le_refl _)
  have I1 : Inv X pins σ (upd H s.heap.objs.size (dNo s.heap.objs.size es)) { s with heap := h', toks := tk } := I.laid (t' := tk) hk (Nat.le_refl _) (dno_ok hw hz hm rel hD)
  obtain ⟨od, I2⟩ := I1.lock upd_same trivial
  rw [upd_upd] at I2
  have s2 := Stp.new1 (o := .frz od (dNo s.heap.objs.size es)) sF hn
  exact ⟨.ref s.heap.objs.size, _, I2, rfl, q _ _ _ s2 (.dctN upd_same hz hne (ra.mono s2.fr))⟩
theorem call_dictA (hw : X.w = TheW.w) (hcalm : X.calm = true) (hu : X.A.units + 20 < cLine) : CallR X (.type "dict") (rDictOf X.K) := by
  intro pins s σ H xs us Q I r h
  obtain ⟨F, x, d, res, rfl, sF, rx, hg, q⟩ := h
  obtain ⟨u, rfl, ru⟩ := vals1 r
  have seq : ∀ {T : String} {a : Addr} {ys : List V} {its : List Value} {ds : List PyData} {ps : List (PyData × PyData)}, RpAll X.K F ys ds → Vals ys its → its.length ≤ sizeLine → pairsD ds = some ps →
      (∀ (Ts : Nat → Addr) (prs : List (Value × Value)), PairArg X.prog X.w T a (a :: (List.range prs.length).map Ts) [] prs.length (PairRel prs) (fun h => PlainSeq T h a its.toArray ∧ PairItems h its.toArray Ts prs)) → PlainSeq T s.heap a its.toArray →
      (if keysK ps = true then R.ok (.dict (dmake ps)) else if keysN ps = true then .ok (.dict (dmake ps)) else .bad) = .ok res → wpAny (model X.prog X.w) X.A (call (.type "dict") [.ref a]) (EP X pins σ Q) X.xe s := by
    intro T a ys its ds ps ra rv hz hp PA hpl hg
    obtain ⟨ts, prs, h1, h2, h3, h4⟩ := pairs_at I sF ra rv hp
    have hit := pair_items h1 h2 h3
    have hn : prs.length ≤ sizeLine := by rw [← h2, ← List.length_map (f := Value.ref), ← h1]; exact hz
    split at hg
    · rename_i hk
      cases hg
      obtain ⟨kvs, rs, g1, g2, g3, g4⟩ := pairs_K (P := X.prog) (w := X.w) h4 hk
      have hlen : (mergeK [] kvs).length ≤ sizeLine := by
        refine Nat.le_trans (length_mergeK kvs []) ?_
        rw [List.length_nil, Nat.zero_add, g1.length, g3]
        exact hn
      refine PySem.call_dict_pairs (knd := mixKind X.prog X.w) (kvs := rs) (PA _ prs) (I.ok.hd hcalm) ⟨hpl, hit⟩ ⟨g3, fun i key v e => g4 i key v e⟩ hn fun h' tk hD hk2 => ?_
      exact lay_K I sF (fun b o e => hk2 b o (fun z => nomatch z) e) hD (KV.merge g1 .nil) (rpKV_make g2 .nil) hlen q
    · split at hg
      · rename_i hnk hk
        cases hg
        obtain ⟨xs, rs, g1, g2, g3, g4⟩ := pairs_N h4 hk
        have hps : ps ≠ [] := fun z => hnk (by rw [z]; rfl)
        have hxl := g2.length
        have hxs : xs ≠ [] := fun z => hps (by rw [z] at hxl; exact (List.length_eq_zero_iff.mp hxl.symm))
        have hl2 := Paired.length g1
        have hlen := foldN_le xs []
        rw [List.length_nil, Nat.zero_add] at hlen
        have st : ∀ h' : Heap, (∀ b o, s.heap.get? b = some o → h'.get? b = some o) → ∀ x ∈ rs, (nestedKind X.prog X.w).is h' x.1 x.2.1 := by
          intro h' hk2
          have all : ∀ {l : List (NestedKey × Addr × V)} {m : List (NestedKey × Addr × Value)} {n : List (PyData × PyData)}, Paired RelN l m → RpN X.K F l n → ∀ y ∈ m, (nestedKind X.prog X.w).is s.heap y.1 y.2.1 := by
            intro l m n q r
            induction q generalizing n with
            | nil => intro x hx; exact nomatch hx
            | @cons p y ps qs hq t ih =>
              intro x hx
              cases r with
              | cons z hk hv rs' =>
                rcases List.mem_cons.mp hx with e | hx
                · subst e
                  obtain ⟨e1, e2, _⟩ := hq
                  simp only at e1 e2
                  rw [← e1, ← e2]
                  exact key_is I (hk.mono sF) z
                · exact ih rs' x hx
          intro x hx
          exact nestedKind_stays.stays (fun b o vs n e _ => hk2 b o e) (all g1 g2 x hx)
        refine call_dict_pairsH (knd := nestedKind X.prog X.w) (ps := rs) (PA _ prs) (I.ok.hd hcalm) (room9 hu) ⟨hpl, hit⟩ ⟨g3, fun i key v e => g4 i key v e⟩ (fun h' hk2 => st h' fun b o e => hk2 b o (Nat.ne_of_lt (Heap.lt_size e)) (fun z => nomatch z) e) hn fun h' tk hD hk2 => ?_
        exact lay_N hw I sF (fun b o e => hk2 b o (fun z => nomatch z) e) hD (relN_all g1 .nil) (rpN_make g2 .nil) (by omega) (foldN_ne _ _ (.inr hxs)) q
      · cases hg
  cases rx with
  | @lst a ys ds hs z ra =>
    cases ru
    obtain ⟨its, rv, pl, hz⟩ := I.list (same_l sF hs)
    have hg : (match pairsD ds with
      | some ps => if keysK ps = true then R.ok (PyData.dict (dmake ps)) else if keysN ps = true then .ok (.dict (dmake ps)) else .bad
      | none => .bad) = .ok res := hg
    split at hg
    · rename_i ps hp
      exact seq (T := "list") ra rv (by rw [← rv.length]; exact z) hp (fun Ts prs => PairArg.list a its.toArray Ts prs) pl hg
    · cases hg
  | @tup a ys ds hs z ra =>
    cases ru
    obtain ⟨its, rv, pl, hz⟩ := I.tuple (same_t sF hs.sq)
    have hg : (match pairsD ds with
      | some ps => if keysK ps = true then R.ok (PyData.dict (dmake ps)) else if keysN ps = true then .ok (.dict (dmake ps)) else .bad
      | none => .bad) = .ok res := hg
    have hpl : PlainSeq "tuple" s.heap a its.toArray := by
      obtain ⟨o, ho, hc, n, hd⟩ := pl
      refine ⟨o, n, ho, hc, ?_, hd⟩
      rcases hs with ⟨o', h1, h2⟩ | ⟨o', _, _, h1, _, h2, _⟩
      · have := (show ObjOk X.prog X.w H s.heap a (.frz o' (.tup ys)) from I.hok a _ (sF _ _ h1)).1
        rw [ho] at this
        cases this
        exact h2
      · have := I.kIn a _ h1
        rw [ho] at this
        cases this
        exact h2
    split at hg
    · rename_i ps hp
      exact seq (T := "tuple") ra rv (by rw [← rv.length]; exact z) hp (fun Ts prs => PairArg.tuple a its.toArray Ts prs) hpl hg
    · cases hg
  | @dct a o es kvs hF z ra =>
    have hg : (if keysK kvs = true then R.ok (PyData.dict kvs) else .bad) = .ok res := hg
    rw [if_pos ra.keys] at hg
    cases hg
    cases ru
    obtain ⟨z, lo, vs, rel, dd⟩ := dk_rd I.hok (.inr ⟨o, sF _ _ hF⟩)
    refine kt_call_dict lo dd (by rw [← rel.length]; exact z) fun h' d' hs => ?_
    exact lay_K (tk := s.toks) I sF (fun b u e => (hs.2 b (Nat.ne_of_lt (Heap.lt_size e))).trans (Heap.get?_push_of_some _ e)) d' rel ra z q
  | @dctN a o es kvs hF z hn ra =>
    have hg : (if keysK kvs = true then R.ok (PyData.dict kvs) else .bad) = .ok res := hg
    rw [ra.notKey hn, if_neg Bool.false_ne_true] at hg
    cases hg
  | _ => cases hg
theorem o_dictA : OpC K (rDictOf K) (g1 gDictOf) := o_1 fun F H x dx d s r h Q q => ⟨F, x, dx, d, rfl, s, r, h, q⟩
theorem nx_dictA : ∀ a e, g1 gDictOf a ≠ .exc e := nx_g1 fun a e h => by
  unfold gDictOf at h
  split at h
  · split at h
    · split at h
      · cases h
      · split at h <;> cases h
    · cases h
  · split at h
    · split at h
      · cases h
      · split at h <;> cases h
    · cases h
  · split at h <;> cases h
  · cases h
end
end DL
/-! dict comprehensions of two clauses: as the hand layer's list comprehensions of two clauses, the store a dict's -/
namespace DL
open PySem PySem.Spec PyProof.Rows L2
variable [TheW]
theorem compTurn2D_out (kx vx t0 i0 t1 i1 : Expr) (ifs0 ifs1 : List Expr) (scope : Scope) (pos : Pos) (it acc : Value) (env : Env) :
    compTurn (.DictComp kx vx [⟨t0, i0, ifs0, 0⟩, ⟨t1, i1, ifs1, 0⟩] scope pos) 0 it acc env = (do
      standAt i0.pos
      match ← pyNext it with
      | none => pure (.done .next)
      | some v =>
        letOwnedTupleGo t0 it v
        assign t0 env v
        let mut ok := true
        for c in ifs0 do
          if ok then ok ← isTrue c env (eval c env)
        if ok then
          let x ← eval i1 env
          standAt i1.pos
          let x ← foldedSetIterable i1 env x
          let _ ← runOwn (.compStart (.DictComp kx vx [⟨t0, i0, ifs0, 0⟩, ⟨t1, i1, ifs1, 0⟩] scope pos) 1 (← holding [x] (pyIter x)) acc env) env
        again (.compLoop (.DictComp kx vx [⟨t0, i0, ifs0, 0⟩, ⟨t1, i1, ifs1, 0⟩] scope pos) 0 it acc env)) := by rfl
theorem compTurn2D_in (kx vx t0 i0 t1 i1 : Expr) (ifs0 ifs1 : List Expr) (scope : Scope) (pos : Pos) (it : Value) (D : Addr) (env : Env) :
    compTurn (.DictComp kx vx [⟨t0, i0, ifs0, 0⟩, ⟨t1, i1, ifs1, 0⟩] scope pos) 1 it (.ref D) env = (do
      standAt i1.pos
      match ← pyNext it with
      | none => pure (.done .next)
      | some v =>
        letOwnedTupleGo t1 it v
        assign t1 env v
        let mut ok := true
        for c in ifs1 do
          if ok then ok ← isTrue c env (eval c env)
        if ok then
          (do
            let kv ← eval kx env
            let vv ← holding [kv] (eval vx env)
            standAt { kx.pos with endLine := vx.pos.endLine, endCol := vx.pos.endCol }
            holding [kv, vv] (dictSet D kv vv))
        again (.compLoop (.DictComp kx vx [⟨t0, i0, ifs0, 0⟩, ⟨t1, i1, ifs1, 0⟩] scope pos) 1 it (.ref D) env)) := by rfl

section
variable {prog : Program} {w : World} {A : Around} {R : Result → Shared → Prop} {s : Shared} {kx vx t0 i0 t1 i1 : Expr} {ifs0 ifs1 : List Expr} {scope : Scope} {pos : Pos} {it acc : Value} {env : Env}
/-- the loop of the first clause -/
theorem compLoop2D_out (hs : ∀ x, foldedSetIterable i1 env x = pure x) (I : Nat → Shared → Prop)
    (turn : ∀ n s, I n s → wpAny (model prog w) A (pyNext it) (fun r s₁ => match r with
      | none => R (.ok .next) s₁
      | some v => wpAny (model prog w) A (letOwnedTupleGo t0 it v) (fun _ s₁' => wpAny (model prog w) A (assign t0 env v) (fun _ s₂ =>
          wpAny (model prog w) A (forIn ifs0 true fun c r => if r = true then do let ok ← isTrue c env (eval c env); pure (ForInStep.yield ok) else pure (ForInStep.yield r)) (fun ok s₃ =>
            if ok = true then wpAny (model prog w) A (eval i1 env) (fun x s₄ => wpAny (model prog w) A (pyIter x) (fun it1 s₅ =>
              codeAny (model prog w) A (.compStart (.DictComp kx vx [⟨t0, i0, ifs0, 0⟩, ⟨t1, i1, ifs1, 0⟩] scope pos) 1 it1 acc env) (fun r s' => match r with
                | .ok _ => ∃ m, m < n ∧ I m s'
                | .error _ => False) s₅) (notedBy (model prog w) A env fun e s' => R (.error e) s') s₄) (notedBy (model prog w) A env fun e s' => R (.error e) s') s₃
            else ∃ m, m < n ∧ I m s₃) (notedBy (model prog w) A env fun e s' => R (.error e) s') s₂) (notedBy (model prog w) A env fun e s' => R (.error e) s') s₁') (notedBy (model prog w) A env fun e s' => R (.error e) s') s₁) (notedBy (model prog w) A env fun e s' => R (.error e) s') s)
    (n : Nat) (h : I n s) :
    codeAny (model prog w) A (.compLoop (.DictComp kx vx [⟨t0, i0, ifs0, 0⟩, ⟨t1, i1, ifs1, 0⟩] scope pos) 0 it acc env) R s := by
  refine codeAny_loop rfl I (fun n s hI => ?_) n h
  show wpAny _ A ((compTurn (.DictComp kx vx [⟨t0, i0, ifs0, 0⟩, ⟨t1, i1, ifs1, 0⟩] scope pos) 0 it acc env).onRaise (fun x => do noteFrame x env; theTreesLotGoes x)) _ _ s
  refine wpAny_noted ?_
  rw [compTurn2D_out]
  refine wpAny_bind (wpAny_standAt (wpAny_bind (wpAny_mono (turn n s hI) (fun r s₁ h₁ => ?_) fun _ _ h' => h')))
  cases r with
  | none => exact wpAny_pure h₁
  | some v =>
    refine wpAny_bind (wpAny_mono h₁ (fun _ s₁' h₁' => ?_) fun _ _ h' => h')
    refine wpAny_bind (wpAny_mono h₁' (fun _ s₂ h₂ => wpAny_bind (wpAny_mono h₂ (fun ok s₃ h₃ => ?_) fun _ _ h' => h')) fun _ _ h' => h')
    cases ok with
    | false => exact wpAny_pure ⟨rfl, h₃⟩
    | true =>
      refine wpAny_bind (wpAny_mono h₃ (fun x s₄ h₄ => ?_) fun _ _ h' => h')
      refine wpAny_bind (wpAny_standAt (wpAny_bind (wpAny_of_eq (hs x) (wpAny_bind (wpAny_holding (wpAny_mono h₄ (fun it1 s₅ h₅ => ?_) fun _ _ h' => h'))))))
      refine wpAny_bind (wpAny_runOwn ?_)
      rw [Around.mark_none]
      refine codeAny_mono h₅ fun r s' hr => ?_
      cases r with
      | ok f =>
        first
          | exact wpAny_pure ⟨rfl, hr⟩
          | exact wpAny_bind (wpAny_pure (wpAny_pure ⟨rfl, hr⟩))
      | error e => exact hr.elim
/-- the loop of the second -/
theorem compLoop2D_in {D : Addr} (I : Nat → Shared → Prop)
    (turn : ∀ n s, I n s → wpAny (model prog w) A (pyNext it) (fun r s₁ => match r with
      | none => R (.ok .next) s₁
      | some v => wpAny (model prog w) A (letOwnedTupleGo t1 it v) (fun _ s₁' => wpAny (model prog w) A (assign t1 env v) (fun _ s₂ =>
          wpAny (model prog w) A (forIn ifs1 true fun c r => if r = true then do let ok ← isTrue c env (eval c env); pure (ForInStep.yield ok) else pure (ForInStep.yield r)) (fun ok s₃ =>
            if ok = true then wpAny (model prog w) A (eval kx env) (fun kv s₄ => wpAny (model prog w) A (eval vx env) (fun vv s₅ =>
              wpAny (model prog w) A (dictSet D kv vv) (fun _ s₆ => ∃ m, m < n ∧ I m s₆) (notedBy (model prog w) A env fun e s' => R (.error e) s') s₅) (notedBy (model prog w) A env fun e s' => R (.error e) s') s₄) (notedBy (model prog w) A env fun e s' => R (.error e) s') s₃
            else ∃ m, m < n ∧ I m s₃) (notedBy (model prog w) A env fun e s' => R (.error e) s') s₂) (notedBy (model prog w) A env fun e s' => R (.error e) s') s₁') (notedBy (model prog w) A env fun e s' => R (.error e) s') s₁) (notedBy (model prog w) A env fun e s' => R (.error e) s') s)
    (n : Nat) (h : I n s) :
    codeAny (model prog w) A (.compLoop (.DictComp kx vx [⟨t0, i0, ifs0, 0⟩, ⟨t1, i1, ifs1, 0⟩] scope pos) 1 it (.ref D) env) R s := by
  refine codeAny_loop rfl I (fun n s hI => ?_) n h
  show wpAny _ A ((compTurn (.DictComp kx vx [⟨t0, i0, ifs0, 0⟩, ⟨t1, i1, ifs1, 0⟩] scope pos) 1 it (.ref D) env).onRaise (fun x => do noteFrame x env; theTreesLotGoes x)) _ _ s
  refine wpAny_noted ?_
  rw [compTurn2D_in]
  refine wpAny_bind (wpAny_standAt (wpAny_bind (wpAny_mono (turn n s hI) (fun r s₁ h₁ => ?_) fun _ _ h' => h')))
  cases r with
  | none => exact wpAny_pure h₁
  | some v =>
    refine wpAny_bind (wpAny_mono h₁ (fun _ s₁' h₁' => ?_) fun _ _ h' => h')
    refine wpAny_bind (wpAny_mono h₁' (fun _ s₂ h₂ => wpAny_bind (wpAny_mono h₂ (fun ok s₃ h₃ => ?_) fun _ _ h' => h')) fun _ _ h' => h')
    cases ok with
    | false => exact wpAny_pure ⟨rfl, h₃⟩
    | true =>
      exact wpAny_bind (wpAny_bind (wpAny_mono h₃ (fun kv s₄ h₄ => wpAny_bind (wpAny_holding (wpAny_mono h₄ (fun vv s₅ h₅ => wpAny_bind (wpAny_standAt (wpAny_holding (wpAny_mono h₅ (fun _ s₆ h₆ => wpAny_pure ⟨rfl, h₆⟩) fun _ _ h' => h')))) fun _ _ h' => h'))) fun _ _ h' => h'))
/-- the second clause's start -/
theorem compStart1D_ok (h0 : codeAny (model prog w) A (.compLoop (.DictComp kx vx [⟨t0, i0, ifs0, 0⟩, ⟨t1, i1, ifs1, 0⟩] scope pos) 1 it acc env) R s)
    (h : wpAny (model prog w) A (pyIter it) (fun it' s' => codeAny (model prog w) A (.compLoop (.DictComp kx vx [⟨t0, i0, ifs0, 0⟩, ⟨t1, i1, ifs1, 0⟩] scope pos) 1 it' acc env) R s')
      (notedBy (model prog w) A env fun x s' => R (.error x) s') s) :
    codeAny (model prog w) A (.compStart (.DictComp kx vx [⟨t0, i0, ifs0, 0⟩, ⟨t1, i1, ifs1, 0⟩] scope pos) 1 it acc env) R s := by
  refine codeAny_of_tree ?_
  show wpAny _ _ ((compStart (.DictComp kx vx [⟨t0, i0, ifs0, 0⟩, ⟨t1, i1, ifs1, 0⟩] scope pos) 1 it acc env).onRaise (fun x => do noteFrame x env; standAt theWindowsPlace)) _ _ s
  refine wpAny_notedAt ?_
  unfold compStart
  show wpAny _ _ (ask >>= _) _ _ s
  refine wpAny_bind (wpAny_askSetting (wpAny_ite ?_))
  split
  · first
      | exact wpAny_bind (wpAny_pure (wpAny_pure (And.intro rfl h0)))
      | exact wpAny_pure (And.intro rfl h0)
  · first
      | exact wpAny_bind (wpAny_rule (wpAny_bind (wpAny_standAt (wpAny_bind (wpAny_mono h (fun it' s' h' => wpAny_pure (And.intro rfl h')) fun _ _ x => x)))))
      | (refine wpAny_bind (wpAny_rule ?_); show wpAny _ _ (standAt i1.pos >>= _) _ _ s; exact wpAny_bind (wpAny_standAt (wpAny_bind (wpAny_mono h (fun it' s' h' => wpAny_pure (And.intro rfl h')) fun _ _ x => x))))
end

section
variable {X : Cx}
/-- [elt for tg in iter if .. for tg1 in iter1 if ..]: behind the first clause's store and tests the second source's own loop, from which Nx is reached. vs: the block's names; vs1: those of the second target -/
def tDc2 (wi : TI) (g : TG) (tt : TT) (wi1 : TI) (g1 : TG) (tt1 : TT) (tk te : TE) (vs vs1 : List Nat) : TE := fun σ H Q => wi σ H fun J H1 => ∀ D, H1 D = none → ∃ W : Nat → Nat → Hp → Prop, (∃ m, W 0 m (upd H1 D (.dK []))) ∧ ∀ i m H, W i m H →
  (J.stop i H ∧ Q (.ref D) H) ∨ (J.go i H ∧ ∃ Nx : Hp → Prop, (∀ H', Nx H' → ∃ m', m' < m ∧ W (i + 1) m' H') ∧ ∀ x H', J.yld i H x H' → g x (wipe σ vs) H' fun σ2 H2 => wipe σ2 vs = wipe σ vs ∧ tt σ2 H2 fun b H3 =>
    if b = true then wi1 σ2 H3 fun J1 H4 => ∃ W1 : Nat → Nat → Hp → Prop, (∃ m, W1 0 m H4) ∧ ∀ j k H, W1 j k H →
      (J1.stop j H ∧ Nx H) ∨ (J1.go j H ∧ ∃ Nx1 : Hp → Prop, (∀ H', Nx1 H' → ∃ k', k' < k ∧ W1 (j + 1) k' H') ∧ ∀ x H', J1.yld j H x H' → g1 x (wipe σ2 vs1) H' fun σ3 H5 => wipe σ3 vs1 = wipe σ2 vs1 ∧ tt1 σ3 H5 fun b H6 =>
        if b = true then tk σ3 H6 fun y H7 => te σ3 H7 fun z H8 => ∃ kvs k, y = kV k ∧ H8 D = some (.dK kvs) ∧ kvs.length < sizeLine ∧ Nx1 (upd H8 D (.dK (putK kvs k z))) else Nx1 H6)
    else Nx H3)
theorem dc2_core {pins : List (Addr × Obj)} {s : Shared} {σ : L2.St} {H : Hp} {Q : VK} {kx vx tg iter tg1 iter1 : Expr} {ifs ifs1 : List Expr} {scope : Scope} {own : List (Str × Nat)} {vs1 : List Nat} {pos pos' : Pos} {wi wi1 : TI} {g g1 : TG} {tt tt1 : TT} {tk te : TE} {use : Option (Value → Sem Unit)} {Qf : Value → Shared → Prop}
    (hc : X.calm = true) (hN : X.N.Nodup) (I : Inv X pins σ H s) (hi : PI X tg iter wi) (ok : BlkOk X.N X.env.scope scope own) (hv : ∀ i ∈ vs1, i ∈ own.map (·.2))
    (hg : ∀ (s : Shared) (H : Hp) (C : Addr) (cl : List (Str × Addr)) (fp : List Addr), PG (X.blk s H scope (compEnvC scope cl C X.env) fp) tg g) (ht : ∀ (s : Shared) (H : Hp) (C : Addr) (cl : List (Str × Addr)) (fp : List Addr), PTs (X.blk s H scope (compEnvC scope cl C X.env) fp) ifs tt)
    (hk : ∀ (s : Shared) (H : Hp) (C : Addr) (cl : List (Str × Addr)) (fp : List Addr), PE (X.blk s H scope (compEnvC scope cl C X.env) fp) kx tk)
    (he : ∀ (s : Shared) (H : Hp) (C : Addr) (cl : List (Str × Addr)) (fp : List Addr), PE (X.blk s H scope (compEnvC scope cl C X.env) fp) vx te) (hs : ∀ x, foldedSetIterable iter X.env x = pure x)
    (hi1 : ∀ (s : Shared) (H : Hp) (C : Addr) (cl : List (Str × Addr)) (fp : List Addr), PI (X.blk s H scope (compEnvC scope cl C X.env) fp) tg1 iter1 wi1)
    (hg1 : ∀ (s : Shared) (H : Hp) (C : Addr) (cl : List (Str × Addr)) (fp : List Addr), PG (X.blk s H scope (compEnvC scope cl C X.env) fp) tg1 g1)
    (ht1 : ∀ (s : Shared) (H : Hp) (C : Addr) (cl : List (Str × Addr)) (fp : List Addr), PTs (X.blk s H scope (compEnvC scope cl C X.env) fp) ifs1 tt1)
    (hs1 : ∀ env x, foldedSetIterable iter1 env x = pure x)
    (h : tDc2 wi g tt wi1 g1 tt1 tk te (own.map (·.2)) vs1 σ H Q)
    (hRR : ∀ D C s' m H', Inv X pins σ H' s' → Q (.ref D) H' → s'.heap.Ns C m → FpOk X pins H' C → compPost (model X.prog X.w) X.A X.xe use Qf (.ref D) C (.ok .next) s') :
    wpAny (model X.prog X.w) X.A (comprehension (.DictComp kx vx [⟨tg, iter, ifs, 0⟩, ⟨tg1, iter1, ifs1, 0⟩] scope pos) scope X.env pos' newDict false (eval iter X.env) use) Qf X.xe s := by
  have hfree : ∀ y ∈ scope.names, y.2 = .free → ∃ c, X.env.cells.lookup y.1 = some c := fun y hy e => by
    rcases ok.free y hy e with k | k
    · exact I.ok.has _ (.inl k)
    · exact I.ok.has _ (.inr k)
  refine wpAny_comprehension_free (use := use) rfl hs (closure_ok hfree) ok.kind (fun y hy e => by rw [ok.uniq y hy, e])
    (thn (hi.run pins s σ H _ I h) fun xv s1 hx => thn hx fun itv s2 h2 => ?_)
  obtain ⟨it, fp, tn, J, H2, e, I2, T, st2, f2, q⟩ := h2
  subst e
  refine wpAny_newObj_type (newEnv_comp ?_)
  generalize hD : s2.heap.objs.size = D
  have hDn : H2 D = none := I2.hok.fresh (Nat.le_of_eq hD)
  obtain ⟨W, ⟨m0, w0⟩, turn⟩ := q D hDn
  -- the new list
  generalize hs3 : ({ s2 with heap := s2.heap.push { cls := .type "dict", data := .dict #[] } } : Shared) = s3
  have I3 : Inv X pins σ (upd H2 D (.dK [])) s3 := by
    rw [← hs3]
    refine I2.laid (t' := s2.toks) (fun b o e => Heap.get?_push_of_some _ e) (Nat.le_of_eq hD) ?_
    rw [← hD]
    exact dk_empty s2.heap I2.big
  have h3 : s3.heap = s2.heap.push { cls := .type "dict", data := .dict #[] } := by rw [← hs3]
  have sz : ∀ b ∈ fp, b < s2.heap.objs.size := fun b hb => by
    obtain ⟨o, e, _⟩ := T.obj _ _ st2 b hb
    exact Heap.lt_size e
  have f3 : ∀ b ∈ fp, FpOk X pins (upd H2 D (.dK [])) b ∧ b < s3.heap.objs.size := fun b hb => by
    have hlt := sz b hb
    refine ⟨⟨?_, (f2 b hb).2⟩, by rw [h3, Heap.size_push]; exact Nat.lt_succ_of_lt hlt⟩
    rw [upd_ne (by rw [← hD]; exact Nat.ne_of_lt hlt)]
    exact (f2 b hb).1
  have st3 : tn 0 s3.heap := T.keep _ _ _ st2 fun b _ o e => by rw [h3]; exact Heap.get?_push_of_some _ e
  have I4 := block_start I3 ok hN f3
  have pg := hg s3 (upd H2 D (.dK [])) s3.heap.objs.size (cellsFrom (s3.heap.objs.size + 1) scope.names (cloFrom X.env.cells scope.names [])) fp
  have pt := ht s3 (upd H2 D (.dK [])) s3.heap.objs.size (cellsFrom (s3.heap.objs.size + 1) scope.names (cloFrom X.env.cells scope.names [])) fp
  have pk := hk s3 (upd H2 D (.dK [])) s3.heap.objs.size (cellsFrom (s3.heap.objs.size + 1) scope.names (cloFrom X.env.cells scope.names [])) fp
  have pe := he s3 (upd H2 D (.dK [])) s3.heap.objs.size (cellsFrom (s3.heap.objs.size + 1) scope.names (cloFrom X.env.cells scope.names [])) fp
  have pi1 := hi1 s3 (upd H2 D (.dK [])) s3.heap.objs.size (cellsFrom (s3.heap.objs.size + 1) scope.names (cloFrom X.env.cells scope.names [])) fp
  have pg1 := hg1 s3 (upd H2 D (.dK [])) s3.heap.objs.size (cellsFrom (s3.heap.objs.size + 1) scope.names (cloFrom X.env.cells scope.names [])) fp
  have pt1 := ht1 s3 (upd H2 D (.dK [])) s3.heap.objs.size (cellsFrom (s3.heap.objs.size + 1) scope.names (cloFrom X.env.cells scope.names [])) fp
  show codeAny _ _ (.compStart (.DictComp kx vx [⟨tg, iter, ifs, 0⟩, ⟨tg1, iter1, ifs1, 0⟩] scope pos) 0 (.ref it) (.ref D) (compEnvC scope (cellsFrom (s3.heap.objs.size + 1) scope.names (cloFrom X.env.cells scope.names [])) s3.heap.objs.size X.env)) (compPost (model X.prog X.w) X.A X.xe use Qf (.ref D) s3.heap.objs.size) { s3 with heap := pushCells (s3.heap.push { cls := .type "dict", data := .dict #[] }) scope.names }
  have nfp : ∀ b ∈ fp, (upd H2 D (.dK [])) b = none := fun b hb => (f3 b hb).1.1
  generalize hce : compEnvC scope (cellsFrom (s3.heap.objs.size + 1) scope.names (cloFrom X.env.cells scope.names [])) s3.heap.objs.size X.env = ce at I4 pg pt pk pe pi1 pg1 pt1 ⊢
  have cL : ce.locals = s3.heap.objs.size := by subst hce; rfl
  generalize hH3 : upd H2 D (.dK []) = H3 at I3 I4 pg pt pk pe pi1 pg1 pt1 w0 nfp f3
  generalize hs4 : ({ s3 with heap := pushCells (s3.heap.push { cls := .type "dict", data := .dict #[] }) scope.names } : Shared) = s4 at I4 ⊢
  have st4 : tn 0 s4.heap := T.keep _ _ _ st3 fun b _ o e => by rw [← hs4]; exact pushCells_keeps _ _ _ _ (Heap.get?_push_of_some _ e)
  have stat : ∀ {σ' : L2.St} {H' : Hp} {s' : Shared}, Inv (X.blk s3 H3 scope ce fp) [] σ' H' s' → (∀ b ∈ fp, H' b = none) → ∀ b ∈ fp, FpOk (X.blk s3 H3 scope ce fp) [] H' b := fun {σ' H' s'} I' hn b hb =>
    ⟨hn b hb, (I'.ok.exf b hb).1, I'.ok.exfs b hb, .inl hb, fun x c e => (I'.ok.exf b hb).2 x c e, fun p hp => absurd (show p ∈ ([] : List (Addr × Obj)) ++ [] from hp) (by simp)⟩
  have loop : codeAny (model X.prog X.w) X.A (.compLoop (.DictComp kx vx [⟨tg, iter, ifs, 0⟩, ⟨tg1, iter1, ifs1, 0⟩] scope pos) 0 (.ref it) (.ref D) ce) (compPost (model X.prog X.w) X.A X.xe use Qf (.ref D) s3.heap.objs.size) s4 := by
    refine compLoop2D_out (hs1 ce) (fun n s' => ∃ i H', Inv (X.blk s3 H3 scope ce fp) [] (wipe σ (own.map (·.2))) H' s' ∧ tn i s'.heap ∧ (∀ b ∈ fp, H' b = none) ∧ W i n H') ?_ m0 ⟨0, H3, I4, st4, nfp, w0⟩
    rintro n s5 ⟨i, H5, I5, st5, n5, w5⟩
    rcases turn i n H5 w5 with ⟨stop, qq⟩ | ⟨go, Nx, hNx, step⟩
    · have td := T.done (X.blk s3 H3 scope ce fp) rfl rfl rfl hc i [] s5 _ H5 (fun _ _ => False) I5 (stat I5 n5) st5 stop
      refine thnF td fun r s6 ⟨hr, I6⟩ => ?_
      subst hr
      -- back in the def's context
      have I7 : Inv X pins σ H5 s6 := I3.call' (ch := fp) I6.os I6.base I6.hok I6.bare fun b hb => ⟨(f3 b hb).1.2.2.2.1, (f3 b hb).1.2.1, (f3 b hb).1.2.2.2.2.1, (f3 b hb).1.2.2.2.2.2⟩
      have nC : H5 s3.heap.objs.size = none := by
        have z : H5 ce.locals = none := I6.free
        rw [cL] at z
        exact z
      obtain ⟨m, hn, _⟩ := I6.loc
      have hn : s6.heap.Ns ce.locals m := hn
      rw [cL] at hn
      exact hRR D s3.heap.objs.size s6 m H5 I7 qq hn (I3.fpOk (Nat.le_refl _) nC)
    · have ti := T.item (X.blk s3 H3 scope ce fp) rfl rfl rfl hc i [] s5 _ H5 (fun _ _ => False) I5 (stat I5 n5) st5 go
      refine thnF ti fun r s6 ⟨u, hr, h6⟩ => ?_
      subst hr
      refine thnF h6 fun _ s7 ⟨x, H7, I7, r7, y7, st7, n7⟩ => ?_
      have I7' := I7.pinned (stat I7 n7) (T.obj _ _ st7)
      refine thnF (pg.run _ s7 _ H7 x u _ I7' r7 (step x H7 y7)) fun _ s8 ⟨σ8, H8, I8, hw8, q8⟩ => ?_
      refine thnF (pt.run _ s8 σ8 H8 _ I8 q8) fun b s9 ⟨H9, I9, q9⟩ => ?_
      -- the turn's end, from any slots that know what the block knew at its start
      have fin : ∀ {σ9 : L2.St} {s' : Shared} {H' : Hp}, Inv (X.blk s3 H3 scope ce fp) ([] ++ pinsAt fp s7.heap) σ9 H' s' → (wipe σ (own.map (·.2))).length = σ9.length → (∀ (j : Nat) v, (wipe σ (own.map (·.2)))[j]? = some (some v) → σ9[j]? = some (some v)) → Nx H' →
          ∃ m, m < n ∧ ∃ i H', Inv (X.blk s3 H3 scope ce fp) [] (wipe σ (own.map (·.2))) H' s' ∧ tn i s'.heap ∧ (∀ b ∈ fp, H' b = none) ∧ W i m H' := fun {σ9 s' H'} I' hl hk nx => by
        obtain ⟨m', hm, w'⟩ := hNx H' nx
        have pin' : ∀ b ∈ fp, ∀ o, s7.heap.get? b = some o → s'.heap.get? b = some o ∧ H' b = none := fun b hb o e =>
          let z := I'.pin (b, o) (List.mem_append_right _ (List.mem_append_right _ (mem_pinsAt hb e)))
          ⟨z.1, z.2.1⟩
        refine ⟨m', hm, i + 1, H', (I'.unpinned (pins := [])).weak hl hk, T.keep _ _ _ st7 fun b hb o e => (pin' b hb o e).1, fun b hb => ?_, w'⟩
        obtain ⟨o, e, _⟩ := T.obj _ _ st7 b hb
        exact (pin' b hb o e).2
      have hl8 : (wipe σ (own.map (·.2))).length = σ8.length := by rw [← hw8, wipe_length]
      have hk8 : ∀ (j : Nat) v, (wipe σ (own.map (·.2)))[j]? = some (some v) → σ8[j]? = some (some v) := fun j v e => by
        rw [← hw8] at e
        exact (wipe_some e).1
      have hk9 : ∀ (j : Nat) v, (wipe σ (own.map (·.2)))[j]? = some (some v) → (wipe σ8 vs1)[j]? = some (some v) := fun j v e => by
        rw [← hw8] at e
        obtain ⟨e1, e2⟩ := wipe_some e
        rw [wipe_out fun z => e2 (hv j z)]
        exact e1
      cases b with
      | false =>
        simp only [Bool.false_eq_true, if_false] at q9 ⊢
        exact fin I9 hl8 hk8 q9
      | true =>
        simp only [if_true] at q9 ⊢
        refine thnF (pi1.run _ s9 σ8 H9 _ I9 q9) fun xv s10 hx => thnF hx fun itv s11 h11 => ?_
        obtain ⟨it1, fp1, tn1, J1, H11, e1, I11, T1, st11, f11, W1, ⟨m1, w1⟩, turn1⟩ := h11
        subst e1
        -- the inner loop
        have stat1 : ∀ {H' : Hp}, (∀ b ∈ fp1, H' b = none) → ∀ b ∈ fp1, FpOk (X.blk s3 H3 scope ce fp) ([] ++ pinsAt fp s7.heap) H' b := fun hn b hb => ⟨hn b hb, (f11 b hb).2⟩
        have loop1 : codeAny (model X.prog X.w) X.A (.compLoop (.DictComp kx vx [⟨tg, iter, ifs, 0⟩, ⟨tg1, iter1, ifs1, 0⟩] scope pos) 1 (.ref it1) (.ref D) ce)
            (fun r s' => match r with
              | .ok _ => ∃ m, m < n ∧ ∃ i H', Inv (X.blk s3 H3 scope ce fp) [] (wipe σ (own.map (·.2))) H' s' ∧ tn i s'.heap ∧ (∀ b ∈ fp, H' b = none) ∧ W i m H'
              | .error _ => False) s11 := by
          refine compLoop2D_in (fun k s' => ∃ j H', Inv (X.blk s3 H3 scope ce fp) ([] ++ pinsAt fp s7.heap) (wipe σ8 vs1) H' s' ∧ tn1 j s'.heap ∧ (∀ b ∈ fp1, H' b = none) ∧ W1 j k H') ?_ m1 ⟨0, H11, I11.weak (wipe_length _ _) (fun j v e => (wipe_some e).1), st11, fun b hb => (f11 b hb).1, w1⟩
          rintro k s12 ⟨j, H12, I12, st12, n12, w12⟩
          rcases turn1 j k H12 w12 with ⟨stop1, nx1⟩ | ⟨go1, Nx1, hNx1, step1⟩
          · refine thnF (T1.done (X.blk s3 H3 scope ce fp) rfl rfl rfl hc j _ s12 (wipe σ8 vs1) H12 (fun _ _ => False) I12 (stat1 n12) st12 stop1) fun r s13 ⟨hr, I13⟩ => ?_
            subst hr
            exact fin I13 (hl8.trans (wipe_length σ8 vs1).symm) hk9 nx1
          · refine thnF (T1.item (X.blk s3 H3 scope ce fp) rfl rfl rfl hc j _ s12 (wipe σ8 vs1) H12 (fun _ _ => False) I12 (stat1 n12) st12 go1) fun r s13 ⟨u1, hr, h13⟩ => ?_
            subst hr
            refine thnF h13 fun _ s14 ⟨x1, H14, I14, r14, y14, st14, n14⟩ => ?_
            have I14' := I14.pinned (stat1 n14) (T1.obj _ _ st14)
            refine thnF (pg1.run _ s14 (wipe σ8 vs1) H14 x1 u1 _ I14' r14 (step1 x1 H14 y14)) fun _ s15 ⟨σ15, H15, I15, hw15, q15⟩ => ?_
            refine thnF (pt1.run _ s15 σ15 H15 _ I15 q15) fun b1 s16 ⟨H16, I16, q16⟩ => ?_
            have fin1 : ∀ {s' : Shared} {H' : Hp}, Inv (X.blk s3 H3 scope ce fp) (([] ++ pinsAt fp s7.heap) ++ pinsAt fp1 s14.heap) σ15 H' s' → Nx1 H' → ∃ m, m < k ∧ ∃ j H', Inv (X.blk s3 H3 scope ce fp) ([] ++ pinsAt fp s7.heap) (wipe σ8 vs1) H' s' ∧ tn1 j s'.heap ∧ (∀ b ∈ fp1, H' b = none) ∧ W1 j m H' := fun {s' H'} I' nx => by
              obtain ⟨m', hm, w'⟩ := hNx1 H' nx
              have pin' : ∀ b ∈ fp1, ∀ o, s14.heap.get? b = some o → s'.heap.get? b = some o ∧ H' b = none := fun b hb o e =>
                let z := I'.pin (b, o) (List.mem_append_right _ (List.mem_append_right _ (mem_pinsAt hb e)))
                ⟨z.1, z.2.1⟩
              refine ⟨m', hm, j + 1, H', I'.unpinned.weak (by rw [← hw15, wipe_length]) (fun j v e => by rw [← hw15] at e; exact (wipe_some e).1), T1.keep _ _ _ st14 fun b hb o e => (pin' b hb o e).1, fun b hb => ?_, w'⟩
              obtain ⟨o, e, _⟩ := T1.obj _ _ st14 b hb
              exact (pin' b hb o e).2
            cases b1 with
            | false =>
              simp only [Bool.false_eq_true, if_false] at q16 ⊢
              exact fin1 I16 q16
            | true =>
              simp only [if_true] at q16 ⊢
              refine thnF (pk.run _ s16 σ15 H16 _ I16 q16) fun z s17 ⟨yk, H17, I17, r17, q17⟩ => ?_
              refine thnF (pe.run _ s17 σ15 H17 _ I17 q17) fun z2 s18 ⟨yv, H18, I18, r18, kvs, kk, ek, hD18, hz18, nx⟩ => ?_
              subst ek
              exact d_dictSet (X := X.blk s3 H3 scope ce fp) I18 hD18 hz18 r17 r18 fun s19 I19 => fin1 I19 nx
        exact compStart1D_ok loop1 (T1.self X.A 0 _ _ _ st11 loop1)
  exact codeAny_compStart_dict loop (T.self X.A 0 _ _ _ st4 loop)
/-- as a value -/
theorem pe_dc2 {kx vx tg iter tg1 iter1 : Expr} {ifs ifs1 : List Expr} {scope : Scope} {own : List (Str × Nat)} {vs1 : List Nat} {pos : Pos} {wi wi1 : TI} {g g1 : TG} {tt tt1 : TT} {tk te : TE} (hc : X.calm = true) (hN : X.N.Nodup) (hi : PI X tg iter wi) (ok : BlkOk X.N X.env.scope scope own) (hv : ∀ i ∈ vs1, i ∈ own.map (·.2))
    (hg : ∀ (s : Shared) (H : Hp) (C : Addr) (cl : List (Str × Addr)) (fp : List Addr), PG (X.blk s H scope (compEnvC scope cl C X.env) fp) tg g) (ht : ∀ (s : Shared) (H : Hp) (C : Addr) (cl : List (Str × Addr)) (fp : List Addr), PTs (X.blk s H scope (compEnvC scope cl C X.env) fp) ifs tt)
    (hi1 : ∀ (s : Shared) (H : Hp) (C : Addr) (cl : List (Str × Addr)) (fp : List Addr), PI (X.blk s H scope (compEnvC scope cl C X.env) fp) tg1 iter1 wi1)
    (hg1 : ∀ (s : Shared) (H : Hp) (C : Addr) (cl : List (Str × Addr)) (fp : List Addr), PG (X.blk s H scope (compEnvC scope cl C X.env) fp) tg1 g1) (ht1 : ∀ (s : Shared) (H : Hp) (C : Addr) (cl : List (Str × Addr)) (fp : List Addr), PTs (X.blk s H scope (compEnvC scope cl C X.env) fp) ifs1 tt1)
    (hk : ∀ (s : Shared) (H : Hp) (C : Addr) (cl : List (Str × Addr)) (fp : List Addr), PE (X.blk s H scope (compEnvC scope cl C X.env) fp) kx tk)
    (he : ∀ (s : Shared) (H : Hp) (C : Addr) (cl : List (Str × Addr)) (fp : List Addr), PE (X.blk s H scope (compEnvC scope cl C X.env) fp) vx te) (hs : ∀ x, foldedSetIterable iter X.env x = pure x := by intro _; rfl) (hs1 : ∀ env x, foldedSetIterable iter1 env x = pure x := by intro _ _; rfl) :
    PE X (.DictComp kx vx [⟨tg, iter, ifs, 0⟩, ⟨tg1, iter1, ifs1, 0⟩] scope pos) (tDc2 wi g tt wi1 g1 tt1 tk te (own.map (·.2)) vs1) := by
  refine ⟨fun pins s σ H Q I h => ?_⟩
  rw [arm_eval_DictComp]
  refine dc2_core hc hN I hi ok hv hg ht hk he hs hi1 hg1 ht1 hs1 h fun D C s' m H' I' q hn f => ⟨m, hn, fun h'' sb => ?_⟩
  obtain ⟨f0, f1, f2, f3, f4, f5⟩ := f
  exact ⟨.ref D, H', I'.turned (t' := s'.toks) (fun b o hb e => (sb.2 b hb).trans e) f0 f1 f3 f4 f5, rfl, q⟩
end
end DL
namespace DL
open PySem PySem.Spec PyProof.Rows L2
variable [TheW]
section
variable {X : Cx} {F0 H0 : Hp} {W : WX} {K : PySem.W.Frag} {mg : Str → Option Value}
/-! ### a new thing, frozen -/
def owD : Ow → PyData
  | .lst ds => .list ds
  | .dK kvs => .dict kvs
  | .dN kvs => .dict kvs
def fOwn (f : DEnv → R Ow) : DEnv → R PyData := fun ρ => (f ρ).bind fun w => .ok (owD w)
theorem de_own {e : Expr} {f : DEnv → R Ow} (h : DOw X F0 H0 W e f) : DE X F0 H0 W e (fOwn f) := ⟨fun pins s σ H Q I hw => by
  obtain ⟨F, ρ, k, hw⟩ := hw
  unfold fOwn at hw
  cases e1 : f ρ with
  | bad => rw [e1] at hw; exact hw.elim
  | exc x =>
    rw [e1] at hw
    exact h.run pins s σ H Q I ⟨F, ρ, k, by rw [e1]; exact hw⟩
  | ok w =>
    rw [e1, R.bind_ok] at hw
    have run := h.run pins s σ H (fun x H1 => ∃ p F1, x = .ref p ∧ Stp F H F1 H1 ∧ H p = none ∧ F1 p = none ∧ OwnAt X.K F1 H1 p w) I ⟨F, ρ, k, by rw [e1]; exact fun p F1 H1 s1 hp hF o => ⟨p, F1, rfl, s1, hp, hF, o⟩⟩
    refine thn run fun v s1 ⟨x, H1, I1, r1, p, F1, ex, st, hp, hF, o⟩ => ?_
    subst ex
    cases w with
    | lst ds =>
      obtain ⟨xs, hx, rx⟩ := o
      have hz := (I1.lstM hx).1
      have sF : Same F1 (upd F1 p (.lst xs)) := same_upd hF
      refine ⟨.ref p, H1, I1, r1, hw (.ref p) (upd F1 p (.lst xs)) H1 ⟨st.fr.trans sF, st.hp, fun b u e => ?_, fun b u e => ?_⟩ (.lst (.inl (.inl upd_same)) hz (rx.mono sF))⟩
      · by_cases hb : b = p
        · subst hb; rw [upd_same] at e; cases e; exact hx
        · rw [upd_ne hb] at e; exact st.sub b u e
      · by_cases hb : b = p
        · subst hb; exact .inr hp
        · rw [upd_ne hb] at e; exact st.new b u e
    | dK kvs =>
      obtain ⟨es, hes, rs⟩ := o
      have hz : es.length ≤ sizeLine := (I1.hok p _ hes).1
      obtain ⟨od, I2⟩ := I1.lock hes trivial
      have sF : Same F1 (upd F1 p (.frz od (.dK es))) := same_upd hF
      exact ⟨.ref p, _, I2, r1, hw _ _ _ (frz_stp st hp hF) (.dct upd_same hz (rs.mono sF))⟩
    | dN kvs =>
      obtain ⟨xs, hxs, rs⟩ := o
      have hz : xs.length ≤ sizeLine := (I1.hok p _ hxs).1.1
      cases rs with
      | nil =>
        obtain ⟨od, I2⟩ := lock_empty I1 hxs
        exact ⟨.ref p, _, I2, r1, hw _ _ _ (frz_stp st hp hF) (.dct upd_same hz .nil)⟩
      | @cons k' b v xs d kvs z hk hv rs =>
        obtain ⟨od, I2⟩ := I1.lock hxs trivial
        have sF : Same F1 (upd F1 p (.frz od (dNo p ((k', b, v) :: xs)))) := same_upd hF
        exact ⟨.ref p, _, I2, r1, hw _ _ _ (frz_stp st hp hF) (.dctN upd_same hz (fun z => nomatch z) (RpN.mono sF (.cons z hk hv rs)))⟩⟩
where
  frz_stp {F H F1 H1 : Hp} {p : Addr} {o : HO} (st : Stp F H F1 H1) (hp : H p = none) (hF : F1 p = none) : Stp F H (upd F1 p o) (upd H1 p o) := stp_frz st hp hF
/-! ### what is mutated elsewhere -/
theorem Ok.other {F H : Hp} {ρ : DEnv} {σ : L2.St} {D : Addr} {o : HO} (k : Ok K F0 H0 F ρ σ H) (hF : F D = none) (h0 : H0 D = none) (hn : ∀ (i : Nat) (w : Ow), ρ[i]? = some (.own w) → σ[i]? ≠ some (some (.ref D))) : Ok K F0 H0 F ρ σ (upd H D o) where
  st := ⟨k.st.fr, fun b u e => by rw [upd_ne (ne_of_none e h0)]; exact k.st.hp b u e, fun b u e => by rw [upd_ne (ne_of_none e hF)]; exact k.st.sub b u e, k.st.new⟩
  len := k.len
  val := k.val
  own := fun i w e => by
    obtain ⟨a, ha, hFa, h0a, oa⟩ := k.own i w e
    have hne : a ≠ D := fun z => hn i w e (by rw [ha, z])
    exact ⟨a, ha, hFa, h0a, oa.mono (.refl _) (upd_ne hne)⟩
  sep := k.sep
theorem wipeE_own {ρ : DEnv} {i : Nat} {w : Ow} : ∀ {vs : List Nat}, (wipeE ρ vs)[i]? = some (.own w) → ρ[i]? = some (.own w) ∧ i ∉ vs
  | [], h => ⟨h, by simp⟩
  | v :: vs, h => by
    unfold wipeE at h
    by_cases e : v = i
    · subst e
      have hl : v < (wipeE ρ vs).length := by
        have := (List.getElem?_eq_some_iff.mp h).1
        simpa using this
      rw [List.getElem?_set_self hl] at h
      cases h
    · rw [List.getElem?_set_ne e] at h
      obtain ⟨h1, h2⟩ := wipeE_own h
      exact ⟨h1, by rw [List.mem_cons, not_or]; exact ⟨fun z => e z.symm, h2⟩⟩
theorem wipe_at {σ : L2.St} {i : Nat} : ∀ {vs : List Nat}, i ∉ vs → (L2.wipe σ vs)[i]? = σ[i]?
  | [], _ => rfl
  | v :: vs, h => by
    rw [List.mem_cons, not_or] at h
    unfold L2.wipe
    rw [List.getElem?_set_ne (fun z => h.1 z.symm)]
    exact wipe_at h.2
/-- no name owns D -/
def Away (ρ : DEnv) (σ : L2.St) (D : Addr) : Prop := ∀ (i : Nat) (w : Ow), ρ[i]? = some (.own w) → σ[i]? ≠ some (some (.ref D))
theorem Away.wipe {ρ : DEnv} {σ : L2.St} {D : Addr} (h : Away ρ σ D) (vs : List Nat) : Away (wipeE ρ vs) (L2.wipe σ vs) D := fun i w e => by
  obtain ⟨h1, h2⟩ := wipeE_own e
  rw [wipe_at h2]
  exact h i w h1
theorem Away.kept {ρ ρ' : DEnv} {σ σ' : L2.St} {D : Addr} (h : Away ρ σ D) (k : OwnKept ρ σ ρ' σ') : Away ρ' σ' D := fun i w e => by
  obtain ⟨h1, h2⟩ := k i w e
  rw [h2]
  exact h i w h1
theorem Away.fresh {F H : Hp} {ρ : DEnv} {σ : L2.St} {D : Addr} (k : Ok K F0 H0 F ρ σ H) (h : H D = none) : Away ρ σ D := fun i w e q => by
  obtain ⟨a, ha, _, _, oa⟩ := k.own i w e
  rw [ha] at q
  cases q
  obtain ⟨u, hu⟩ := oa.some
  rw [h] at hu
  cases hu
/-- the heap in which D stands, something else having grown beside it -/
structure StpB (F1 H1 F H : Hp) (D : Addr) : Prop where
  st : Stp F1 H1 F H
  fr : F D = none
theorem StpB.step {F1 H1 F H F' H' : Hp} {D : Addr} {o : HO} (b : StpB F1 H1 F H D) (hD : H D = some o) (s : Stp F H F' H') : StpB F1 H1 F' H' D := ⟨b.st.trans s, by
  cases q : F' D with
  | none => rfl
  | some x =>
    rcases s.new D x q with z | z
    · rw [b.fr] at z; cases z
    · rw [hD] at z; cases z⟩
theorem StpB.put {F1 H1 F H : Hp} {D : Addr} {o : HO} (b : StpB F1 H1 F H D) (h1 : H1 D = none) : StpB F1 H1 F (upd H D o) D :=
  ⟨⟨b.st.fr, fun c u e => by rw [upd_ne (ne_of_none e h1)]; exact b.st.hp c u e, fun c u e => by rw [upd_ne (ne_of_none e b.fr)]; exact b.st.sub c u e, b.st.new⟩, b.fr⟩
/-! ### {k: v for x in xs if t for y in ys if u} -/
def dcIn (g : PyData → DEnv → Option DEnv) (ft : DEnv → R Bool) (fk fv : DEnv → R PyData) : List PyData → DEnv → List (PyData × PyData) → R (List (PyData × PyData))
  | [], _, acc => .ok acc
  | d :: ds, ρ, acc => match g d ρ with
    | none => .bad
    | some ρ1 => (ft ρ1).noX.bind fun b => if b = true then (fk ρ1).noX.bind fun k => (fv ρ1).noX.bind fun v => if isKey k = true ∧ acc.length < sizeLine then dcIn g ft fk fv ds ρ (dput acc k v) else .bad else dcIn g ft fk fv ds ρ acc
def dcOut (g : PyData → DEnv → Option DEnv) (ft : DEnv → R Bool) (fi : DEnv → R (List PyData)) (vs1 : List Nat) (inner : List PyData → DEnv → List (PyData × PyData) → R (List (PyData × PyData))) : List PyData → DEnv → List (PyData × PyData) → R (List (PyData × PyData))
  | [], _, acc => .ok acc
  | d :: ds, ρ, acc => match g d ρ with
    | none => .bad
    | some ρ1 => (ft ρ1).noX.bind fun b => if b = true then (fi ρ1).noX.bind fun items => (inner items (wipeE ρ1 vs1) acc).bind fun acc' => dcOut g ft fi vs1 inner ds ρ acc' else dcOut g ft fi vs1 inner ds ρ acc
theorem dcIn_nx {g : PyData → DEnv → Option DEnv} {ft : DEnv → R Bool} {fk fv : DEnv → R PyData} : ∀ {items : List PyData} {ρ : DEnv} {acc : List (PyData × PyData)} {x : Exn}, dcIn g ft fk fv items ρ acc ≠ .exc x
  | [], _, _, _, h => by cases h
  | d :: ds, ρ, acc, x, h => by
    unfold dcIn at h
    split at h
    · cases h
    · rename_i ρ1 e
      cases e1 : ft ρ1 with
      | bad => rw [e1] at h; cases h
      | exc x => rw [e1] at h; cases h
      | ok b =>
        rw [e1, R.noX_ok, R.bind_ok] at h
        cases b with
        | false => rw [if_neg Bool.false_ne_true] at h; exact dcIn_nx h
        | true =>
          rw [if_pos rfl] at h
          cases e2 : fk ρ1 with
          | bad => rw [e2] at h; cases h
          | exc x => rw [e2] at h; cases h
          | ok y =>
            rw [e2, R.noX_ok, R.bind_ok] at h
            cases e3 : fv ρ1 with
            | bad => rw [e3] at h; cases h
            | exc x => rw [e3] at h; cases h
            | ok z =>
              rw [e3, R.noX_ok, R.bind_ok] at h
              split at h
              · exact dcIn_nx h
              · cases h
theorem dcOut_nx {g : PyData → DEnv → Option DEnv} {ft : DEnv → R Bool} {fi : DEnv → R (List PyData)} {vs1 : List Nat} {inner : List PyData → DEnv → List (PyData × PyData) → R (List (PyData × PyData))} (hin : ∀ items ρ acc x, inner items ρ acc ≠ .exc x) :
    ∀ {items : List PyData} {ρ : DEnv} {acc : List (PyData × PyData)} {x : Exn}, dcOut g ft fi vs1 inner items ρ acc ≠ .exc x
  | [], _, _, _, h => by cases h
  | d :: ds, ρ, acc, x, h => by
    unfold dcOut at h
    split at h
    · cases h
    · rename_i ρ1 e
      cases e1 : ft ρ1 with
      | bad => rw [e1] at h; cases h
      | exc x => rw [e1] at h; cases h
      | ok b =>
        rw [e1, R.noX_ok, R.bind_ok] at h
        cases b with
        | false => rw [if_neg Bool.false_ne_true] at h; exact dcOut_nx hin h
        | true =>
          rw [if_pos rfl] at h
          cases e2 : fi ρ1 with
          | bad => rw [e2] at h; cases h
          | exc x => rw [e2] at h; cases h
          | ok y =>
            rw [e2, R.noX_ok, R.bind_ok] at h
            cases e3 : inner y (wipeE ρ1 vs1) acc with
            | bad => rw [e3] at h; cases h
            | exc x => exact hin _ _ _ _ e3
            | ok z => rw [e3, R.bind_ok] at h; exact dcOut_nx hin h
def oDc2 (fi : DEnv → R (List PyData)) (g : PyData → DEnv → Option DEnv) (ft : DEnv → R Bool) (fi1 : DEnv → R (List PyData)) (g1 : PyData → DEnv → Option DEnv) (ft1 : DEnv → R Bool) (fk fv : DEnv → R PyData) (vs vs1 : List Nat) : DEnv → R Ow :=
  fun ρ => (fi ρ).bind fun items => (dcOut g ft fi1 vs1 (dcIn g1 ft1 fk fv) items (wipeE ρ vs) []).bind fun kvs => .ok (.dK kvs)
/-- the readings of an iterable, of a target -/
def SemI (K : PySem.W.Frag) (mg : Str → Option Value) (F0 H0 : Hp) (W : WX) (RR : Hp → V → PyData → Prop) (f : DEnv → R (List PyData)) (wi : TI) : Prop := ∀ (σ : L2.St) (H : Hp) (Q : It → Hp → Prop), (∃ F ρ, Ok K F0 H0 F ρ σ H ∧ match f ρ with
    | .ok items => ∀ J F' H', Stp F H F' H' → ItOk RR J F' items → Q J H'
    | .exc e => Exc K mg W F H σ e
    | .bad => False) → wi σ H Q
def SemG (K : PySem.W.Frag) (F0 H0 : Hp) (RR : Hp → V → PyData → Prop) (js : List Nat) (g : PyData → DEnv → Option DEnv) (t : TG) : Prop := ∀ (F H : Hp) (ρ ρ' : DEnv) (σ : L2.St) (v : V) (d : PyData), Ok K F0 H0 F ρ σ H → RR F v d → g d ρ = some ρ' → ∀ Q : L2.St → Hp → Prop,
    (∀ σ', Ok K F0 H0 F ρ' σ' H → (∀ vs : List Nat, (∀ j ∈ js, j ∈ vs) → L2.wipe σ' vs = L2.wipe σ vs) → OwnKept ρ σ ρ' σ' → Q σ' H) → t v σ H Q
theorem drop_at {α : Type} {l : List α} {i : Nat} {d : α} (h : l[i]? = some d) : l.drop i = d :: l.drop (i + 1) := by
  obtain ⟨hi, e⟩ := List.getElem?_eq_some_iff.mp h
  rw [List.drop_eq_getElem_cons hi, e]
theorem dc2_of {RR RR1 : Hp → V → PyData → Prop} {fi fi1 : DEnv → R (List PyData)} {t t1 : TG} {js js1 : List Nat} {g g1 : PyData → DEnv → Option DEnv} {ft ft1 : DEnv → R Bool} {fk fv : DEnv → R PyData} {vs vs1 : List Nat} {wi wi1 : TI} {Q : VK} {σ : L2.St} {H : Hp}
    (sem : SemI K mg F0 H0 W RR fi wi) (hg : SemG K F0 H0 RR js g t) (hjs : ∀ j ∈ js, j ∈ vs) (sem1 : SemI K mg F0 H0 WF RR1 fi1 wi1) (hg1 : SemG K F0 H0 RR1 js1 g1 t1) (hjs1 : ∀ j ∈ js1, j ∈ vs1)
    (h : tOw K mg F0 H0 W (oDc2 fi g ft fi1 g1 ft1 fk fv vs vs1) σ H Q) : tDc2 wi t (tDT K mg F0 H0 WF ft) wi1 t1 (tDT K mg F0 H0 WF ft1) (tD K mg F0 H0 WF fk) (tD K mg F0 H0 WF fv) vs vs1 σ H Q := by
  obtain ⟨F, ρ, k, h⟩ := h
  unfold oDc2 at h
  refine sem σ H _ ⟨F, ρ, k, ?_⟩
  cases e1 : fi ρ with
  | bad => rw [e1] at h; exact h
  | exc x => rw [e1] at h; exact h
  | ok items =>
    rw [e1, R.bind_ok] at h
    intro J F1 H1 s1 itok
    have k1 := k.step s1
    cases e2 : dcOut g ft fi1 vs1 (dcIn g1 ft1 fk fv) items (wipeE ρ vs) [] with
    | bad => rw [e2] at h; exact h.elim
    | exc x => exact absurd e2 (dcOut_nx fun _ _ _ _ => dcIn_nx)
    | ok total =>
      rw [e2, R.bind_ok] at h
      intro D hD
      have h0D : H0 D = none := k1.st.hp.free hD
      have aw : Away (wipeE ρ vs) (L2.wipe σ vs) D := (Away.fresh k1 hD).wipe vs
      refine ⟨fun i m H => m = items.length - i ∧ i ≤ items.length ∧ ∃ Fi acc done, StpB F1 H1 Fi H D ∧ H D = some (.dK acc) ∧ RpKV K Fi acc done ∧ dcOut g ft fi1 vs1 (dcIn g1 ft1 fk fv) (items.drop i) (wipeE ρ vs) done = .ok total,
        ⟨items.length, by simp, Nat.zero_le _, F1, [], [], ⟨Stp.newOwn k1.st.sub hD, k1.st.sub.free hD⟩, upd_same, .nil, e2⟩, ?_⟩
      rintro i m H ⟨rfl, hi, Fi, acc, done, sb, hDa, ra, er⟩
      by_cases hlt : i < items.length
      · refine .inr ⟨itok.goes i Fi H hlt sb.st.fr sb.st.sub, fun H' => ∃ Fi acc done, StpB F1 H1 Fi H' D ∧ H' D = some (.dK acc) ∧ RpKV K Fi acc done ∧ dcOut g ft fi1 vs1 (dcIn g1 ft1 fk fv) (items.drop (i + 1)) (wipeE ρ vs) done = .ok total,
          fun H' q => ⟨items.length - (i + 1), by omega, rfl, hlt, q⟩, fun x H2 y => ?_⟩
        obtain ⟨F2, d, hd, s2, rd⟩ := itok.yields i Fi H x H2 hlt sb.st.fr sb.st.sub y
        have sb2 := sb.step hDa s2
        have hD2 : H2 D = some (.dK acc) := s2.hp D _ hDa
        rw [drop_at hd] at er
        unfold dcOut at er
        cases e3 : g d (wipeE ρ vs) with
        | none => rw [e3] at er; cases er
        | some ρ1 =>
          rw [e3] at er
          dsimp only at er
          have kw : Ok K F0 H0 F2 (wipeE ρ vs) (L2.wipe σ vs) H2 := (k1.step sb2.st).wipe vs
          refine hg F2 H2 (wipeE ρ vs) ρ1 (L2.wipe σ vs) x d kw rd e3 _ fun σ2 k2 w2 o2 => ⟨by rw [w2 vs hjs, wipe_wipe], F2, ρ1, k2, ?_⟩
          have aw2 := aw.kept o2
          cases e4 : ft ρ1 with
          | bad => rw [e4] at er; cases er
          | exc z => rw [e4] at er; cases er
          | ok b =>
            rw [e4, R.noX_ok, R.bind_ok] at er
            intro F3 H3 s3
            have sb3 := sb2.step hD2 s3
            have hD3 : H3 D = some (.dK acc) := s3.hp D _ hD2
            cases b with
            | false =>
              rw [if_neg Bool.false_ne_true] at er ⊢
              exact ⟨F3, acc, done, sb3, hD3, ra.mono (s2.trans s3).fr, er⟩
            | true =>
              rw [if_pos rfl] at er ⊢
              refine sem1 σ2 H3 _ ⟨F3, ρ1, k2.step s3, ?_⟩
              cases e5 : fi1 ρ1 with
              | bad => rw [e5] at er; cases er
              | exc z => rw [e5] at er; cases er
              | ok items1 =>
                rw [e5, R.noX_ok, R.bind_ok] at er
                cases e6 : dcIn g1 ft1 fk fv items1 (wipeE ρ1 vs1) done with
                | bad => rw [e6] at er; cases er
                | exc z => exact absurd e6 dcIn_nx
                | ok done1 =>
                  rw [e6, R.bind_ok] at er
                  intro J1 F4 H4 s4 itok1
                  have sb4 := sb3.step hD3 s4
                  have hD4 : H4 D = some (.dK acc) := s4.hp D _ hD3
                  have aw4 : Away (wipeE ρ1 vs1) (L2.wipe σ2 vs1) D := aw2.wipe vs1
                  have k4 : Ok K F0 H0 F4 (wipeE ρ1 vs1) (L2.wipe σ2 vs1) H4 := ((k2.step s3).step s4).wipe vs1
                  refine ⟨fun j m H => m = items1.length - j ∧ j ≤ items1.length ∧ ∃ Fj acc done, StpB F1 H1 Fj H D ∧ Same F4 Fj ∧ H D = some (.dK acc) ∧ RpKV K Fj acc done ∧ Ok K F0 H0 Fj (wipeE ρ1 vs1) (L2.wipe σ2 vs1) H ∧ dcIn g1 ft1 fk fv (items1.drop j) (wipeE ρ1 vs1) done = .ok done1,
                    ⟨items1.length, by simp, Nat.zero_le _, F4, acc, done, sb4, .refl _, hD4, ra.mono ((s2.trans s3).trans s4).fr, k4, e6⟩, ?_⟩
                  rintro j m H ⟨rfl, hj, Fj, acc, done, sj, sFj, hDj, raj, kj, ej⟩
                  by_cases hlt1 : j < items1.length
                  · refine .inr ⟨itok1.goes j Fj H hlt1 sFj sj.st.sub, fun H => ∃ Fj acc done, StpB F1 H1 Fj H D ∧ Same F4 Fj ∧ H D = some (.dK acc) ∧ RpKV K Fj acc done ∧ Ok K F0 H0 Fj (wipeE ρ1 vs1) (L2.wipe σ2 vs1) H ∧ dcIn g1 ft1 fk fv (items1.drop (j + 1)) (wipeE ρ1 vs1) done = .ok done1,
                      fun H' q => ⟨items1.length - (j + 1), by omega, rfl, hlt1, q⟩, fun x H5 y => ?_⟩
                    obtain ⟨F5, d1, hd1, s5, rd1⟩ := itok1.yields j Fj H x H5 hlt1 sFj sj.st.sub y
                    have sb5 := sj.step hDj s5
                    have hD5 : H5 D = some (.dK acc) := s5.hp D _ hDj
                    rw [drop_at hd1] at ej
                    unfold dcIn at ej
                    cases e7 : g1 d1 (wipeE ρ1 vs1) with
                    | none => rw [e7] at ej; cases ej
                    | some ρ2 =>
                      rw [e7] at ej
                      dsimp only at ej
                      refine hg1 F5 H5 (wipeE ρ1 vs1) ρ2 (L2.wipe σ2 vs1) x d1 (kj.step s5) rd1 e7 _ fun σ3 k5 w5 o5 => ⟨by rw [w5 vs1 hjs1, wipe_wipe], F5, ρ2, k5, ?_⟩
                      cases e8 : ft1 ρ2 with
                      | bad => rw [e8] at ej; cases ej
                      | exc z => rw [e8] at ej; cases ej
                      | ok b =>
                        rw [e8, R.noX_ok, R.bind_ok] at ej
                        intro F6 H6 s6
                        have sb6 := sb5.step hD5 s6
                        have hD6 : H6 D = some (.dK acc) := s6.hp D _ hD5
                        cases b with
                        | false =>
                          rw [if_neg Bool.false_ne_true] at ej ⊢
                          exact ⟨F6, acc, done, sb6, sFj.trans (s5.trans s6).fr, hD6, raj.mono (s5.trans s6).fr, kj.step (s5.trans s6), ej⟩
                        | true =>
                          rw [if_pos rfl] at ej ⊢
                          refine ⟨F6, ρ2, k5.step s6, ?_⟩
                          cases e9 : fk ρ2 with
                          | bad => rw [e9] at ej; cases ej
                          | exc z => rw [e9] at ej; cases ej
                          | ok dk =>
                            rw [e9, R.noX_ok, R.bind_ok] at ej
                            intro yk F7 H7 s7 r7
                            refine ⟨F7, ρ2, (k5.step s6).step s7, ?_⟩
                            cases e10 : fv ρ2 with
                            | bad => rw [e10] at ej; cases ej
                            | exc z => rw [e10] at ej; cases ej
                            | ok dv =>
                              rw [e10, R.noX_ok, R.bind_ok] at ej
                              split at ej
                              · rename_i hc
                                intro yv F8 H8 s8 r8
                                obtain ⟨key, rfl, rfl⟩ := key_of_data r7 hc.1
                                have s58 := ((s5.trans s6).trans s7).trans s8
                                have sb8 := sj.step hDj s58
                                have hD8 : H8 D = some (.dK acc) := s58.hp D _ hDj
                                have ra8 := raj.mono s58.fr
                                refine ⟨acc, key, rfl, hD8, by rw [ra8.length]; exact hc.2, F8, _, _, sb8.put hD, sFj.trans s58.fr, upd_same, RpKV.put r8 ra8, (kj.step s58).other sb8.fr h0D aw4, ej⟩
                              · cases ej
                  · have e : j = items1.length := by omega
                    subst e
                    rw [List.drop_length] at ej
                    cases ej
                    exact .inl ⟨itok1.stops Fj H sFj sj.st.sub, Fj, acc, done1, sj, hDj, raj, er⟩
      · have e : i = items.length := by omega
        subst e
        rw [List.drop_length] at er
        cases er
        exact .inl ⟨itok.stops Fi H sb.st.fr sb.st.sub, h D Fi H (s1.trans sb.st) (s1.hp.free hD) sb.fr ⟨acc, hDa, ra⟩⟩
section
variable {RR RR1 : Hp → V → PyData → Prop} {kx vx tg iter tg1 iter1 : Expr} {ifs ifs1 : List Expr} {scope : Scope} {own : List (Str × Nat)} {pos : Pos} {fi fi1 : DEnv → R (List PyData)} {t t1 : TG} {js js1 : List Nat} {g g1 : PyData → DEnv → Option DEnv} {ft ft1 : DEnv → R Bool} {fk fv : DEnv → R PyData}
theorem dow_dc2 (own : List (Str × Nat)) (vs1 : List Nat) (hc : X.calm = true) (hN : X.N.Nodup) (hi : DI X F0 H0 W RR tg iter fi) (ok : BlkOk X.N X.env.scope scope own) (hv : ∀ i ∈ vs1, i ∈ own.map (·.2))
    (hg : ∀ (s : Shared) (H : Hp) (C : Addr) (cl : List (Str × Addr)) (fp : List Addr), DG (X.blk s H scope (compEnvC scope cl C X.env) fp) F0 H0 RR tg t js g) (hjs : ∀ j ∈ js, j ∈ own.map (·.2))
    (ht : ∀ (s : Shared) (H : Hp) (C : Addr) (cl : List (Str × Addr)) (fp : List Addr), DTs (X.blk s H scope (compEnvC scope cl C X.env) fp) F0 H0 WF ifs ft)
    (hi1 : ∃ wi1, SemI X.K X.mg F0 H0 WF RR1 fi1 wi1 ∧ ∀ (s : Shared) (H : Hp) (C : Addr) (cl : List (Str × Addr)) (fp : List Addr), PI (X.blk s H scope (compEnvC scope cl C X.env) fp) tg1 iter1 wi1)
    (hg1 : ∀ (s : Shared) (H : Hp) (C : Addr) (cl : List (Str × Addr)) (fp : List Addr), DG (X.blk s H scope (compEnvC scope cl C X.env) fp) F0 H0 RR1 tg1 t1 js1 g1) (hjs1 : ∀ j ∈ js1, j ∈ vs1)
    (ht1 : ∀ (s : Shared) (H : Hp) (C : Addr) (cl : List (Str × Addr)) (fp : List Addr), DTs (X.blk s H scope (compEnvC scope cl C X.env) fp) F0 H0 WF ifs1 ft1)
    (hk : ∀ (s : Shared) (H : Hp) (C : Addr) (cl : List (Str × Addr)) (fp : List Addr), DE (X.blk s H scope (compEnvC scope cl C X.env) fp) F0 H0 WF kx fk)
    (he : ∀ (s : Shared) (H : Hp) (C : Addr) (cl : List (Str × Addr)) (fp : List Addr), DE (X.blk s H scope (compEnvC scope cl C X.env) fp) F0 H0 WF vx fv)
    (hs : ∀ x, foldedSetIterable iter X.env x = pure x := by intro _; rfl) (hs1 : ∀ env x, foldedSetIterable iter1 env x = pure x := by intro _ _; rfl) :
    DOw X F0 H0 W (.DictComp kx vx [⟨tg, iter, ifs, 0⟩, ⟨tg1, iter1, ifs1, 0⟩] scope pos) (oDc2 fi g ft fi1 g1 ft1 fk fv (own.map (·.2)) vs1) := by
  obtain ⟨wi, hw, sem⟩ := hi.ex
  obtain ⟨wi1, sem1, hw1⟩ := hi1
  refine PE.imp (pe_dc2 (tt := tDT X.K X.mg F0 H0 WF ft) (tt1 := tDT X.K X.mg F0 H0 WF ft1) (tk := tD X.K X.mg F0 H0 WF fk) (te := tD X.K X.mg F0 H0 WF fv) hc hN hw ok hv (fun s H C cl fp => (hg s H C cl fp).pg) (fun s H C cl fp => (ht s H C cl fp).run) hw1 (fun s H C cl fp => (hg1 s H C cl fp).pg) (fun s H C cl fp => (ht1 s H C cl fp).run) (fun s H C cl fp => hk s H C cl fp) (fun s H C cl fp => he s H C cl fp) hs hs1) fun σ H Q h => ?_
  exact dc2_of sem (hg X.s_0 X.H_0 0 [] []).sem hjs sem1 (hg1 X.s_0 X.H_0 0 [] []).sem hjs1 h
end
/-- the second clause's iterable: any list, tuple, text or dict -/
theorem di1_any {tg1 iter1 : Expr} {scope : Scope} {f : DEnv → R PyData} (he : ∀ (s : Shared) (H : Hp) (C : Addr) (cl : List (Str × Addr)) (fp : List Addr), DE (X.blk s H scope (compEnvC scope cl C X.env) fp) F0 H0 WF iter1 f) :
    ∃ wi1, SemI X.K X.mg F0 H0 WF (Rp X.K) (fItA f) wi1 ∧ ∀ (s : Shared) (H : Hp) (C : Addr) (cl : List (Str × Addr)) (fp : List Addr), PI (X.blk s H scope (compEnvC scope cl C X.env) fp) tg1 iter1 wi1 :=
  ⟨iAnyN X.K (tD X.K X.mg F0 H0 WF f), sem_anyA, fun s H C cl fp => pi_anyN (he s H C cl fp)⟩
end
end DL
/-! set(..) of a list of texts, walked: as the hand layer's sets of ints, the members texts (their hashes the world's) -/
namespace DL
open PySem PySem.Spec PyProof.Rows L2
variable [TheW]
def keyOfS (e : Int × Value) : Str := match e.2 with | .str k _ => k | _ => ⟨#[]⟩
def GoodS (w : World) (e : Int × Value) : Prop := ∃ k tk, e.2 = Value.str k tk ∧ e.1 = hashStr w k
/-- the set of texts at a: S its members, n their number -/
def SetRS (w : World) (h : Heap) (a : Addr) (S : Str → Bool) (n : Nat) : Prop :=
  ∃ o es ep t, h.get? a = some o ∧ o.ExactSet ∧ o.data = .set es ep t ∧ (∀ e ∈ es.toList, GoodS w e) ∧ (es.toList.map keyOfS).Nodup ∧ (∀ k, S k = true ↔ k ∈ es.toList.map keyOfS) ∧
    es.size < scanBound ∧ t.fits es.size = true ∧ es.size = n ∧ Ris t.place.toList ∧ (w.params.followText "set-order" = true ∨ t.led = true)
section
variable {P : Program} {w : World} {h h' : Heap} {a : Addr} {S : Str → Bool} {n : Nat}
theorem SetRS.at (R : SetRS w h a S n) (k : ∀ o, h.get? a = some o → h'.get? a = some o) : SetRS w h' a S n := by
  obtain ⟨o, es, ep, t, ho, r⟩ := R
  exact ⟨o, es, ep, t, k o ho, r⟩
theorem SetRS.congr {S' : Str → Bool} (R : SetRS w h a S n) (e : ∀ k, S' k = S k) : SetRS w h a S' n := by
  have q : S' = S := funext e
  rw [q]; exact R
theorem goodS_elems {l : List (Int × Value)} (g : ∀ e ∈ l, GoodS w e) : ElemsOf (PySem.strKind P w) l := fun e he => by
  obtain ⟨k, tk, h1, h2⟩ := g e he
  exact ⟨⟨k, by rw [h1]; exact strKind_is P w k tk, h2⟩, by rw [h1] <;> rfl⟩
theorem goodS_is {e : Int × Value} (g : GoodS w e) (k : Str) : (PySem.strKind P w).is k e.2 = true ↔ keyOfS e = k := by
  obtain ⟨k0, tk, h1, _⟩ := g
  unfold keyOfS
  rw [h1]
  constructor
  · intro h
    obtain ⟨t, e⟩ := Value.isStrOf_shape (x := k) (v := .str k0 tk) h
    cases e
    rfl
  · intro h
    have h : k0 = k := h
    subst h
    exact strKind_is P w k0 tk
theorem goodS_mem {l : List (Int × Value)} (g : ∀ e ∈ l, GoodS w e) (k : Str) : k ∈ l.map keyOfS ↔ ∃ e ∈ l, (PySem.strKind P w).is k e.2 = true := by
  rw [List.mem_map]
  constructor
  · rintro ⟨e, he, q⟩
    exact ⟨e, he, (goodS_is (g e he) k).2 q⟩
  · rintro ⟨e, he, q⟩
    exact ⟨e, he, (goodS_is (g e he) k).1 q⟩
end
theorem strs_len : ∀ {us : List Value} {ks : List Str}, StrsAre us ks → us.length = ks.length
  | _, _, .nil => rfl
  | _, _, .cons _ _ h => by simp [strs_len h]
theorem strs_get : ∀ {us : List Value} {ks : List Str} {i : Nat} {v : Value}, StrsAre us ks → us[i]? = some v → ∃ k t, ks[i]? = some k ∧ v = .str k t
  | _, _, _, _, .nil, h => by simp at h
  | _, _, 0, _, .cons x t h, e => by simp at e; exact ⟨x, t, rfl, e.symm⟩
  | _, _, i + 1, _, .cons x t h, e => strs_get (i := i) h (by simpa using e)
section
variable {P : Program} {w : World} {A : Around} {E : Value → Shared → Prop} {s : Shared} {a : Addr} {S : Str → Bool} {n : Nat}
theorem setRS_add_tail {g : Bool → Sem Unit} (hg : ∀ (b : Bool) (s₁ : Shared) (Q' : Unit → Shared → Prop), Q' () s₁ → wpAny (model P w) A (g b) Q' E s₁)
    {o : Obj} {es : Array (Int × Value)} {ep : Nat} {t : SetTable} (ho : s.heap.get? a = some o) (hex : o.ExactSet) (hd : o.data = .set es ep t)
    {es1 : Array (Int × Value)} {t2 : SetTable} {S' : Str → Bool} (g1 : ∀ e ∈ es1.toList, GoodS w e) (nd1 : (es1.toList.map keyOfS).Nodup) (m1 : ∀ k, S' k = true ↔ k ∈ es1.toList.map keyOfS)
    (hb1 : es1.size < scanBound) (hf2 : t2.fits es1.size = true) (hr : Ris t2.place.toList) (hl : w.params.followText "set-order" = true ∨ t2.led = true) {wasDummy : Bool} {R : Option Bool → Shared → Prop}
    (hR : ∀ h', Heap.SameBut a s.heap h' → SetRS w h' a S' es1.size → R (some true) { s with heap := h' }) :
    wpAny (model P w) A (do
        storeSet a es1 t2
        if (!wasDummy && t2.tooFull) = true then do
            g (relayAll t2 es1 (SetTable.grown es1.size)).2.2
            storeSet a (relayAll t2 es1 (SetTable.grown es1.size)).1 (relayAll t2 es1 (SetTable.grown es1.size)).2.1
            pure (some true)
          else pure (some true)) R E s := by
  refine wpAny_bind (wpAny_storeSet_of ho hd ?_ (fits_of_scanBound hb1))
  have ho1 := store_at (es' := es1) (t' := t2) ho hd
  have sb1 := Heap.SameBut.update s.heap a (Obj.putSet es1 t2)
  split
  · have pm := relayAll_perm t2 es1 (SetTable.grown es1.size)
    have hf3 := relayAll_fits t2 es1 (SetTable.grown es1.size)
    have hr3 := relayAll_ris t2 es1 (SetTable.grown es1.size)
    have hl3 := relayAll_led t2 es1 (SetTable.grown es1.size)
    generalize relayAll t2 es1 (SetTable.grown es1.size) = Z at pm hf3 hr3 hl3 ⊢
    obtain ⟨es2, t3, gave⟩ := Z
    dsimp only at pm hf3 hr3 hl3 ⊢
    have hsz : es2.size = es1.size := by rw [← Array.length_toList, pm.length_eq, Array.length_toList]
    have hb2 : es2.size < scanBound := by rw [hsz]; exact hb1
    refine wpAny_bind (hg _ _ _ ?_)
    refine wpAny_bind (wpAny_storeSet_of ho1 rfl ?_ (fits_of_scanBound hb2))
    have ho2 := store_at (es' := es2) (t' := t3) ho1 rfl
    refine wpAny_pure (hR _ (sb1.trans (Heap.SameBut.update _ a _)) ?_)
    exact ⟨_, es2, _, t3, ho2, hex, rfl, fun e he => g1 e (pm.mem_iff.mp he), (pm.map keyOfS).nodup_iff.mpr nd1, fun k => (m1 k).trans (pm.map keyOfS).mem_iff.symm, hb2, hf3, hsz, hr3,
      hl.imp id fun z => by rw [hl3]; exact z⟩
  · exact wpAny_pure (hR _ sb1 ⟨_, es1, _, t2, ho1, hex, rfl, g1, nd1, m1, hb1, hf2, rfl, hr, hl⟩)

theorem setRS_add_hashed {k : Str} {tk : Tok} {Q : Bool → Shared → Prop} (R : SetRS w s.heap a S n) (room : n + 1 < scanBound)
    (hQ : ∀ h', Heap.SameBut a s.heap h' → SetRS w h' a (fun j => S j || decide (j = k)) (if S k = true then n else n + 1) → Q (!S k) { s with heap := h' }) :
    wpAny (model P w) A (setAddHashed a (.str k tk) ((PySem.strKind P w).hash k)) Q E s := by
  obtain ⟨o, es, ep, t, ho, hex, hd, g, nd, hm, hb, hf, hn, hr, hl⟩ := R
  have hkey : (PySem.strKind P w).is k (.str k tk) = true := strKind_is P w k tk
  have hsc : (Value.str k tk).scannable = true := rfl
  have hel : ElemsOf (PySem.strKind P w) es.toList := goodS_elems g
  unfold setAddHashed setAddHashedIn
  refine wpAny_holding (wpAny_bind (wpAny_setState_of ho hd hf ?_))
  dsimp only
  rw [byScan_of hsc hb hel]
  simp only [↓reduceIte]
  unfold setAddByScan
  refine wpAny_bind ?_
  refine wpAny_bind (wpAny_rule ?_)
  refine wpAny_bind (wpAny_setScan_of hkey ho hd hf hel ?_)
  cases hfi : List.findIdx? (fun e => (PySem.strKind P w).is k e.2) es.toList with
  | some j =>
    dsimp only
    obtain ⟨hj, pj, _⟩ := List.findIdx?_eq_some_iff_getElem.mp hfi
    have hSk : S k = true := (hm k).2 ((goodS_mem (P := P) (w := w) g k).2 ⟨es.toList[j], List.getElem_mem hj, pj⟩)
    refine wpAny_pure (wpAny_pure ?_)
    have q := hQ s.heap (Heap.SameBut.refl a s.heap) ⟨o, es, ep, t, ho, hex, hd, g, nd, fun i => by
      rw [Bool.or_eq_true, decide_eq_true_eq, ← hm i]
      exact ⟨fun z => z.elim id (fun e => e ▸ hSk), .inl⟩, hb, hf, by rw [if_pos hSk]; exact hn, hr, hl⟩
    rw [hSk] at q
    exact q
  | none =>
    dsimp only
    have hnk : k ∉ es.toList.map keyOfS := fun z => by
      obtain ⟨e, he, q⟩ := (goodS_mem (P := P) (w := w) g k).1 z
      have c := List.findIdx?_eq_none_iff.mp hfi e he
      rw [q] at c
      cases c
    have hSk : S k = false := by
      cases q : S k with
      | false => rfl
      | true => exact absurd ((hm k).1 q) hnk
    have hgw : ∀ (b : Bool) {s₁ : Shared} {Q' : Unit → Shared → Prop}, Q' () s₁ → wpAny (model P w) A (match b with | true => rule "set.scan.the-table-gave-way" | false => pure ()) Q' E s₁ :=
      fun b s₁ Q' q => by cases b <;> first | exact wpAny_pure q | exact wpAny_rule q
    have pm := layNew_perm t es ((PySem.strKind P w).hash k) (.str k tk)
    have hf1 := layNew_fits t es ((PySem.strKind P w).hash k) (.str k tk)
    have hr1 := layNew_ris t es ((PySem.strKind P w).hash k) (.str k tk) hr
    have hl1 := layNew_led t es ((PySem.strKind P w).hash k) (.str k tk)
    generalize layNew t es ((PySem.strKind P w).hash k) (.str k tk) = Z at pm hf1 hr1 hl1 ⊢
    obtain ⟨es1, t1, wasDummy, gave⟩ := Z
    dsimp only at pm hf1 hr1 hl1 ⊢
    rw [Array.toList_push] at pm
    have pc : es1.toList.Perm (((PySem.strKind P w).hash k, Value.str k tk) :: es.toList) := pm.trans (List.perm_append_singleton _ _)
    have pk : (es1.toList.map keyOfS).Perm (k :: es.toList.map keyOfS) := pc.map keyOfS
    have g1 : ∀ e ∈ es1.toList, GoodS w e := fun e he => by
      rcases List.mem_cons.mp (pc.mem_iff.mp he) with z | z
      · rw [z]; exact ⟨k, tk, rfl, rfl⟩
      · exact g e z
    have nd1 : (es1.toList.map keyOfS).Nodup := pk.nodup_iff.mpr (List.nodup_cons.mpr ⟨hnk, nd⟩)
    have m1 : ∀ i, (S i || decide (i = k)) = true ↔ i ∈ es1.toList.map keyOfS := fun i => by
      rw [Bool.or_eq_true, decide_eq_true_eq, hm i, pk.mem_iff, List.mem_cons]
      exact Or.comm
    have hsz : es1.size = n + 1 := by rw [← Array.length_toList, pc.length_eq, List.length_cons, Array.length_toList, hn]
    have hb1 : es1.size < scanBound := by rw [hsz]; exact room
    have hled : w.params.followText "set-order" = true ∨ t1.led = true := hl.imp id fun z => by rw [hl1]; exact z
    have fin : ∀ h', Heap.SameBut a s.heap h' → SetRS w h' a (fun j => S j || decide (j = k)) es1.size → Q true { s with heap := h' } := fun h' sb r => by
      have q := hQ h' sb
      rw [hSk] at q
      rw [hsz] at r
      exact q r
    refine wpAny_bind (hgw _ ?_)
    split
    · refine wpAny_bind ?_
      rw [hashByValue_scannable 8 hsc]
      refine wpAny_pure ?_
      refine setRS_add_tail ?_ ho hex hd g1 nd1 m1 hb1 ?_ ?_ ?_ ?_
      · intro b s₁ Q' q; cases b <;> first | exact wpAny_pure q | exact wpAny_rule q
      · first | (split <;> first | exact hf1 | exact SetTable.fits_plain_off hf1) | exact hf1
      · first | (split <;> exact hr1) | exact hr1
      · first | (split <;> exact hled) | exact hled
      · intro h' sb r; dsimp only; exact wpAny_pure (fin h' sb r)
    · refine wpAny_bind (wpAny_pure ?_)
      simp only [↓reduceIte]
      refine setRS_add_tail ?_ ho hex hd g1 nd1 m1 hb1 hf1 hr1 hled ?_
      · intro b s₁ Q' q; cases b <;> first | exact wpAny_pure q | exact wpAny_rule q
      · intro h' sb r; dsimp only; exact wpAny_pure (fin h' sb r)

end
theorem setRS_new_at {w : World} {h : Heap} {a : Addr} {ns : List Str} (ho : h.get? a = some { cls := .type "set", dict := none, data := .set #[] 0 (.fresh 0 0 (!w.params.followText "set-order")) }) : SetRS w h a (fun j => decide (j ∈ ns.take 0)) 0 :=
  ⟨_, #[], 0, _, ho, ⟨rfl, rfl, rfl⟩, rfl, (fun e he => by simp at he), (by simp), (fun k => by simp), (by decide), (by rfl), rfl, List.Pairwise.nil, by
    show _ ∨ (!w.params.followText "set-order") = true
    cases w.params.followText "set-order"
    · exact .inr rfl
    · exact .inl rfl⟩
section
variable {P : Program} {w : World} {A : Around} {E : Value → Shared → Prop} {s : Shared}
theorem set_update_strs {I : Addr} {fp wr : List Addr} {G : Array GenState → Array GenState → Prop} {n : Nat} {Pv : Nat → Value → Prop} {St : Nat → Shared → Prop} {R : Result → Shared → Prop}
    (W : WalksS P w A.in1 I fp wr G n Pv St) (S : Addr) (hSf : S ∉ fp) (ns : List Str) (hn : n = ns.length) (hb : ns.length + 1 < scanBound) (hval : ∀ i v, Pv i v → ∃ k t, ns[i]? = some k ∧ v = .str k t) :
    ∀ (k i : Nat) (s : Shared), n - i = k → i ≤ n → St i s → (∃ c, c ≤ i ∧ SetRS w s.heap S (fun j => decide (j ∈ ns.take i)) c) →
      (∀ s' c, Moved (S :: wr) G s s' → c ≤ n → SetRS w s'.heap S (fun j => decide (j ∈ ns)) c → R (.ok (.ret .none)) s') →
      codeAny (model P w) A (.builtin "set.update.loop" ⟨[.ref S, .ref I], []⟩) R s := by
  have hSw : S ∉ wr := fun h => hSf (W.sub _ h)
  have hsub : ∀ b ∈ wr, b ∈ S :: wr := fun b hb => List.mem_cons_of_mem _ hb
  intro k
  induction k with
  | zero =>
    intro i s hk' hi hst ⟨c, hc, hS⟩ hR
    have hin : i = n := by omega
    subst hin
    refine codeAny_builtin F.entry_set_update_loop ?_
    rw [Around.under_plainId F.plain_set_update_loop _]
    show wpAny _ A.in1 (pyNext (.ref I) >>= _) _ _ s
    refine wpAny_bind (W.done s _ _ hst fun s' hm => ?_)
    show wpAny _ A.in1 (ret Value.none) _ _ s'
    have e : ns.take i = ns := List.take_of_length_le (by omega)
    rw [e] at hS
    exact wpAny_pure (hR s' c (hm.mono hsub) hc (hS.at fun o e => hm.heap S o hSw e))
  | succ k ih =>
    intro i s hk' hi hst ⟨c, hc, hS⟩ hR
    have hlt : i < n := by omega
    refine codeAny_builtin F.entry_set_update_loop ?_
    rw [Around.under_plainId F.plain_set_update_loop _]
    show wpAny _ A.in1 (pyNext (.ref I) >>= _) _ _ s
    refine wpAny_bind (W.item i s _ _ hlt hst fun v s' hP hst' hm => ?_)
    obtain ⟨z, t, hz, rfl⟩ := hval i v hP
    have hS' : SetRS w s'.heap S (fun j => decide (j ∈ ns.take i)) c := hS.at fun o e => hm.heap S o hSw e
    show wpAny _ A.in1 (holding [Value.str z t] (setAdd S (.str z t)) >>= _) _ _ s'
    refine wpAny_bind (wpAny_holding ?_)
    unfold setAdd
    refine wpAny_holding ?_
    refine wpAny_bind ((PySem.strKind P w).pyHash (k := z) (strKind_is _ _ _ _) ?_)
    refine setRS_add_hashed (s := { s' with toks := s'.toks + 1 }) hS' (by omega) fun h' hsb hS2 => ?_
    have hS3 : SetRS w h' S (fun j => decide (j ∈ ns.take (i + 1))) (if decide (z ∈ ns.take i) = true then c else c + 1) := hS2.congr fun j => by
      rw [List.take_add_one, hz]
      simp [List.mem_append]
    have hc3 : (if decide (z ∈ ns.take i) = true then c else c + 1) ≤ i + 1 := by
      split <;> omega
    refine wpAny_pure ⟨plainId_quiet F.plain_set_update_loop _, ih (i + 1) _ (by omega) hlt (W.frame _ s' _ _ hst' (Nat.le_succ _) fun b hb o e => ?_) ⟨_, hc3, hS3⟩ fun s'' c2 hm'' hc'' hS'' => ?_⟩
    · rw [hsb.2 b (fun h : b = S => hSf (by rw [← h]; exact hb))]; exact e
    · refine hR s'' c2 (Moved.trans W.gtrans ((hm.mono hsub).then_heap (Nat.le_succ _) fun b o hb e => ?_) hm'') hc'' hS''
      rw [hsb.2 b (fun h : b = S => hb (by rw [h]; exact List.mem_cons_self))]; exact e

set_option maxRecDepth 100000 in
set_option maxHeartbeats 3200000 in
theorem call_set_listT {l : Addr} {items : Array Value} (ns : List Str) {Q : Value → Shared → Prop} (hh : A.handled = none) (hl : s.heap.IsList l items) (hit : StrsAre items.toList ns) (hb : ns.length + 1 < scanBound)
    (h : ∀ (h' : Heap) (tk c : Nat), SetRS w h' s.heap.objs.size (fun j => decide (j ∈ ns)) c → c ≤ ns.length → (∀ b o, s.heap.get? b = some o → h'.get? b = some o) → Q (.ref s.heap.objs.size) { s with heap := h', toks := tk }) :
    wpAny (model P w) A (call (.type "set") [.ref l]) Q E s := by
  have hisz : items.size = ns.length := by
    have q := strs_len hit
    rw [Array.length_toList] at q
    exact q
  obtain ⟨c, tl, hmro⟩ := PySem.F.called_set.mro
  have hmade := PySem.F.called_set.made
  have hsub := PySem.F.called_set.sub
  refine wpAny_call (codeAny_of_tree ?_)
  show wpAny _ _ (callAny (.type "set") _) _ _ _
  refine wpAny_pure ⟨Code.quiet_builtin _ (by decide +kernel), codeAny_builtin PySem.F.entry_type_call ?_⟩
  rw [Around.under_plain (weight_type_call_type "set" [.ref l] []) rfl]
  have h1 := PySem.F.called_set.notType
  have h2 := PySem.F.called_set.canCreate
  have hct := PySem.F.typeCall_set_1 (.ref l)
  repeat (any_goals (first | assumption | wp_step))

  refine codeAny_mono (code_set_led1 (.ref l) (E := E) (Q₁ := fun obj s₁ => obj = .ref s.heap.objs.size ∧ s₁ = { s with heap := s.heap.push { cls := .type "set", dict := none, data := .set #[] 0 (.fresh 0 0 (!w.params.followText "set-order")) } }) ⟨rfl, rfl⟩) fun r s₁ hr => ?_
  cases r with
  | error e => exact hr
  | ok fl =>
    cases fl with
    | ret obj =>
      obtain ⟨rfl, rfl⟩ := hr
      have hS : (s.heap.push { cls := .type "set", dict := none, data := .set #[] 0 (.fresh 0 0 (!w.params.followText "set-order")) }).get? s.heap.objs.size = some { cls := .type "set", dict := none, data := .set #[] 0 (.fresh 0 0 (!w.params.followText "set-order")) } := Heap.get?_push_size _ rfl
      have hT : Shared.TypeIs { s with heap := s.heap.push { cls := .type "set", dict := none, data := .set #[] 0 (.fresh 0 0 (!w.params.followText "set-order")) } } (.ref s.heap.objs.size) "set" := ⟨_, hS, rfl⟩
      have hli := PySem.F.called_set.init.lookup
      have hbi := PySem.F.called_set.init.bind (.ref s.heap.objs.size)
      repeat (any_goals (first | assumption | wp_step))

      refine codeAny_mono (codeAny_call_builtin (R := wants (fun r s₂ => r = .none ∧ ∃ h' tk c, s₂ = { s with heap := h', toks := tk } ∧ SetRS w h' s.heap.objs.size (fun j => decide (j ∈ ns)) c ∧ c ≤ ns.length ∧
          (∀ b o, s.heap.get? b = some o → h'.get? b = some o)) E) PySem.F.called_set.init.plain PySem.F.entry_set_init (check_set_init_1 hT ?_)) fun r₂ s₂ hr₂ => ?_
      · obtain ⟨ol, hol, hcl, nl, hdl⟩ := hl
        obtain ⟨ocls, odict, odata, oslots⟩ := ol
        simp only at hcl hdl
        subst hcl; subst hdl
        have hol' : (s.heap.push { cls := .type "set", dict := none, data := .set #[] 0 (.fresh 0 0 (!w.params.followText "set-order")) }).get? l = some { cls := .type "list", dict := odict, data := .seq items nl, slots := oslots } := Heap.get?_push_of_some _ hol
        have hsls := PySem.F.sub_list_set
        have hslf := PySem.F.sub_list_frozenset
        have hne : (Value.type "list" == Value.type "dict") = false := by decide
        have hl1 : (s.heap.push { cls := .type "set", dict := none, data := .set #[] 0 (.fresh 0 0 (!w.params.followText "set-order")) }).IsList l items := ⟨_, hol', rfl, nl, rfl⟩
        unfold Builtin.«set.__init__» noKeywords Builtin.Frozenset.updateFrom
        generalize hPI : pyIter = PI
        wp_walk
        subst hPI

        refine wpAny_pyIter_list hl1 ?_
        refine wpAny_bind (wpAny_runValue ?_)
        have hlS : l < s.heap.objs.size := Heap.lt_size hol
        have hh3 : A.in1.in1.in1.handled = none := by simp [hh]
        have hz1 : (s.heap.push { cls := .type "set", dict := none, data := .set #[] 0 (.fresh 0 0 (!w.params.followText "set-order")) }).objs.size = s.heap.objs.size + 1 := Heap.size_push ..
        have hneI : l ≠ (s.heap.push { cls := .type "set", dict := none, data := .set #[] 0 (.fresh 0 0 (!w.params.followText "set-order")) }).objs.size := by
          rw [Heap.size_push]; exact Nat.ne_of_lt (Nat.lt_succ_of_lt hlS)
        have hSf : s.heap.objs.size ∉ [(s.heap.push { cls := .type "set", dict := none, data := .set #[] 0 (.fresh 0 0 (!w.params.followText "set-order")) }).objs.size, l] := by
          rw [Heap.size_push]; simp only [List.mem_cons, List.mem_singleton, List.not_mem_nil, or_false, not_or]
          exact ⟨Nat.ne_of_lt (Nat.lt_succ_self _), Nat.ne_of_gt hlS⟩
        have hval : ∀ (i : Nat) (v : Value), items[i]? = some v → ∃ k t, ns[i]? = some k ∧ v = .str k t := fun i v hv => by
          have hi : i < ns.length := by rw [← hisz]; exact (Array.getElem?_eq_some_iff.mp hv).1
          exact strs_get hit (by rw [Array.getElem?_toList]; exact hv)
        refine set_update_strs ((Walks.list hh3 _ l hneI items).toS) s.heap.objs.size
          hSf ns hisz hb hval (items.size - 0) 0 _ (by omega) (Nat.zero_le _)
          ⟨⟨_, Heap.get?_push_size _ rfl, rfl, rfl⟩, (hl1.push _)⟩ ?hS0 ?hR
        case hS0 =>
          have hget : ((s.heap.push { cls := .type "set", dict := none, data := .set #[] 0 (.fresh 0 0 (!w.params.followText "set-order")) }).push { cls := .type "list_iterator", data := .fields #[.ref l, .int 0 0] }).get? s.heap.objs.size
              = some { cls := .type "set", dict := none, data := .set #[] 0 (.fresh 0 0 (!w.params.followText "set-order")) } := Heap.get?_push_of_some _ hS
          exact ⟨0, Nat.le_refl 0, setRS_new_at hget⟩
        case hR =>
          intro s' c' hm hc' hS'
          obtain ⟨h', g2, d', tk', os'⟩ := s'
          have eg : g2 = s.gens := hm.gens
          have ed : d' = s.drawn := hm.drawn
          have eo : os' = s.os := hm.os
          subst eg; subst ed; subst eo
          show wpAny _ _ _ _ _ _
          refine wpAny_pure ?_
          show wpAny _ _ (ret Value.none) _ _ _
          rw [hisz] at hc'
          refine wpAny_pure ⟨rfl, h', tk', c', rfl, hS', hc', fun b o e => ?_⟩
          have hb0 : b < s.heap.objs.size := Heap.lt_size e
          have hb1 : b ≠ s.heap.objs.size := Nat.ne_of_lt hb0
          have hb2 : b ≠ (s.heap.push { cls := .type "set", dict := none, data := .set #[] 0 (.fresh 0 0 (!w.params.followText "set-order")) }).objs.size := by
            rw [Heap.size_push]; exact Nat.ne_of_lt (Nat.lt_succ_of_lt hb0)
          exact hm.heap b o (by simp only [List.mem_cons, List.mem_singleton, List.not_mem_nil, or_false, not_or]; exact ⟨hb1, hb2⟩) (Heap.get?_push_of_some _ (Heap.get?_push_of_some _ e))

      · cases r₂ with
        | error e => exact hr₂
        | ok fl₂ =>
          cases fl₂ with
          | ret r =>
            obtain ⟨rfl, h', tk, c', rfl, hS', hc', hk'⟩ := hr₂
            repeat (any_goals (first | assumption | wp_step))
            exact h _ _ _ hS' hc' hk'
          | _ => exact hr₂.elim
    | _ => exact hr.elim
end
end DL
namespace DL
open PySem PySem.Spec PyProof.Rows L2
variable [TheW]
/-! ### sorted(set(e)), e a list of texts -/
def strsD : List PyData → Option (List Str)
  | [] => some []
  | .str x :: ds => (strsD ds).map (x :: ·)
  | _ :: _ => none
def dedupS : List Str → List Str
  | [] => []
  | x :: xs => if x ∈ dedupS xs then dedupS xs else x :: dedupS xs
theorem dedupS_mem {x : Str} : ∀ {xs : List Str}, x ∈ dedupS xs ↔ x ∈ xs
  | [] => Iff.rfl
  | y :: ys => by
    unfold dedupS
    split
    · rename_i h
      rw [dedupS_mem, List.mem_cons]
      refine ⟨.inr, fun z => z.elim (fun e => ?_) id⟩
      subst e
      exact dedupS_mem.mp h
    · rw [List.mem_cons, List.mem_cons, dedupS_mem]
theorem dedupS_nodup : ∀ xs : List Str, (dedupS xs).Nodup
  | [] => List.nodup_nil
  | y :: ys => by
    unfold dedupS
    split
    · exact dedupS_nodup ys
    · rename_i h
      exact List.nodup_cons.mpr ⟨h, dedupS_nodup ys⟩
theorem dedupS_length : ∀ xs : List Str, (dedupS xs).length ≤ xs.length
  | [] => Nat.le_refl _
  | y :: ys => by
    unfold dedupS
    have := dedupS_length ys
    split
    · simp only [List.length_cons]; omega
    · simp only [List.length_cons]; omega
/-- the texts' order -/
def leS (x y : Str) : Bool := decide (x.cps.toList ≤ y.cps.toList)
theorem str_ext {x y : Str} (h : x.cps.toList = y.cps.toList) : x = y := PySem.W.str_of_cps h
theorem leS_total (x y : Str) : (leS x y || leS y x) = true := by
  unfold leS
  rcases List.le_total x.cps.toList y.cps.toList with h | h
  · simp [h]
  · simp [h]
theorem leS_trans (x y z : Str) (h : leS x y = true) (h' : leS y z = true) : leS x z = true := by
  unfold leS at *
  simp only [decide_eq_true_eq] at *
  exact List.le_trans h h'
theorem leS_anti (x y : Str) (h : leS x y = true) (h' : leS y x = true) : x = y := by
  unfold leS at *
  simp only [decide_eq_true_eq] at *
  exact str_ext (List.le_antisymm h h')
def sortS (xs : List Str) : List Str := xs.mergeSort leS
theorem sortS_perm (xs : List Str) : (sortS xs).Perm xs := List.mergeSort_perm xs leS
theorem sortS_sorted (xs : List Str) : (sortS xs).Pairwise (fun a b => leS a b = true) := List.pairwise_mergeSort leS_trans leS_total xs
/-- two sorted lists of the same members are one -/
theorem sorted_uniq {α : Type} {le : α → α → Prop} (anti : ∀ a b, le a b → le b a → a = b) : ∀ {l m : List α}, l.Pairwise le → m.Pairwise le → l.Perm m → l = m
  | [], m, _, _, h => h.nil_eq
  | x :: l, [], _, _, h => absurd h.length_eq (by simp)
  | x :: l, y :: m, hl, hm, h => by
    have e : x = y := by
      by_cases c : x = y
      · exact c
      · have h1 : x ∈ m := by
          rcases List.mem_cons.mp (h.mem_iff.mp (List.mem_cons_self (a := x) (l := l))) with q | q
          · exact absurd q c
          · exact q
        have h2 : y ∈ l := by
          rcases List.mem_cons.mp (h.mem_iff.mpr (List.mem_cons_self (a := y) (l := m))) with q | q
          · exact absurd q.symm c
          · exact q
        exact anti x y ((List.pairwise_cons.mp hl).1 y h2) ((List.pairwise_cons.mp hm).1 x h1)
    subst e
    rw [sorted_uniq anti (List.pairwise_cons.mp hl).2 (List.pairwise_cons.mp hm).2 h.cons_inv]
theorem perm_nodup {α : Type} [DecidableEq α] {l m : List α} (hl : l.Nodup) (hm : m.Nodup) (h : ∀ x, x ∈ l ↔ x ∈ m) : l.Perm m := by
  rw [List.perm_iff_count]
  intro a
  by_cases c : a ∈ l
  · rw [hl.count, hm.count, if_pos c, if_pos ((h a).mp c)]
  · rw [hl.count, hm.count, if_neg c, if_neg (fun z => c ((h a).mpr z))]
theorem sortS_perm_eq {l m : List Str} (h : l.Perm m) : sortS l = sortS m :=
  sorted_uniq (le := fun a b => leS a b = true) leS_anti (sortS_sorted l) (sortS_sorted m) ((sortS_perm l).trans (h.trans (sortS_perm m).symm))
theorem sortD_strs (xs : List Str) : sortD (xs.map .str) = (sortS xs).map .str := by
  unfold sortD sortS
  rw [List.map_mergeSort]
  intro a _ b _
  have e := congrFun (congrFun (PySem.W.dataLe_str (fun x : Str => x)) a) b
  unfold leS
  exact e.symm
section
variable {X : Cx} {F0 H0 : Hp} {W : WX} {K : PySem.W.Frag} {mg : Str → Option Value}
theorem strs_of {F : Hp} : ∀ {ys : List V} {us : List Value} {ds : List PyData} {xs : List Str}, RpAll K F ys ds → Vals ys us → strsD ds = some xs → StrsAre us xs
  | _, _, _, _, .nil, r, h => by cases r; cases h; exact .nil
  | _, _, _, _, .cons (d := d) (ds := ds) h t, r, e => by
    cases r with
    | cons r rs =>
      cases d with
      | str x =>
        have e : (strsD ds).map (x :: ·) = some _ := e
        cases e2 : strsD ds with
        | none => rw [e2] at e; cases e
        | some xs =>
          rw [e2] at e
          cases e
          cases h
          obtain ⟨t', rfl⟩ := r
          exact .cons x t' (strs_of t rs e2)
      | _ => cases e
theorem strsD_map : ∀ {ds : List PyData} {xs : List Str}, strsD ds = some xs → ds = xs.map .str
  | [], _, h => by cases h; rfl
  | d :: ds, _, h => by
    cases d with
    | str x =>
      have h : (strsD ds).map (x :: ·) = some _ := h
      cases e : strsD ds with
      | none => rw [e] at h; cases h
      | some xs =>
        rw [e] at h
        cases h
        rw [strsD_map e]
        rfl
    | _ => cases h
theorem shortS_of {F : Hp} : ∀ {ys : List V} {ds : List PyData} {xs : List Str}, RpAll K F ys ds → strsD ds = some xs → ∀ x ∈ xs, x.length ≤ sizeLine
  | _, _, _, .nil, h => by cases h; exact fun x hx => nomatch hx
  | _, _, _, .cons (d := d) (ds := ds) h t, e => by
    cases d with
    | str x =>
      have e : (strsD ds).map (x :: ·) = some _ := e
      cases e2 : strsD ds with
      | none => rw [e2] at e; cases e
      | some xs =>
        rw [e2] at e
        cases e
        intro y hy
        rcases List.mem_cons.mp hy with z | z
        · subst z; cases h with | str _ hl => exact hl
        · exact shortS_of t e2 y z
    | _ => cases e
def gSortSet : PyData → R PyData
  | .list ds => match strsD ds with
    | some xs => if xs.length < 1000 ∧ ds.all SeqAt.shaped = true then .ok (.list ((sortS (dedupS xs)).map .str)) else .bad
    | none => .bad
  | _ => .bad
def tSortSet (K : PySem.W.Frag) (te : TE) : TE := fun σ H Q => te σ H fun x H1 => ∃ F d r, Same F H1 ∧ Rp K F x d ∧ gSortSet d = .ok r ∧ ∀ v F' H', Stp F H1 F' H' → Rp K F' v r → Q v H'
theorem okSort_strs (xs : List Str) (hx : ∀ x ∈ xs, SeqAt.shaped (.str x) = true) : okSort (xs.map .str) = true := by
  unfold okSort
  rw [Bool.and_eq_true, Bool.and_eq_true]
  refine ⟨⟨List.all_eq_true.mpr fun d hd => ?_, List.all_eq_true.mpr fun d hd => List.all_eq_true.mpr fun d' hd' => ?_⟩, ?_⟩
  · obtain ⟨x, h, rfl⟩ := List.mem_map.mp hd
    exact hx x h
  · obtain ⟨x, _, rfl⟩ := List.mem_map.mp hd
    obtain ⟨y, _, rfl⟩ := List.mem_map.mp hd'
    rfl
  · rw [Bool.or_eq_true]
    refine .inr (List.all_eq_true.mpr fun d hd => ?_)
    obtain ⟨x, _, rfl⟩ := List.mem_map.mp hd
    rfl
theorem rpAll_strs {F : Hp} : ∀ {xs : List Str}, (∀ x ∈ xs, x.length ≤ sizeLine) → RpAll K F (xs.map V.str) (xs.map .str)
  | [], _ => .nil
  | x :: xs, h => .cons (.str x (h x List.mem_cons_self)) (rpAll_strs fun y hy => h y (List.mem_cons_of_mem _ hy))
theorem vals_strs : ∀ (l : List Value), (∀ v ∈ l, ∃ k tk, v = Value.str k tk) → ∃ xs : List Str, Vals (xs.map V.str) l ∧ l.map (fun v => keyOfS (0, v)) = xs
  | [], _ => ⟨[], .nil, rfl⟩
  | v :: l, h => by
    obtain ⟨k, tk, rfl⟩ := h v List.mem_cons_self
    obtain ⟨xs, h1, h2⟩ := vals_strs l fun u hu => h u (List.mem_cons_of_mem _ hu)
    exact ⟨k :: xs, .cons ⟨tk, rfl⟩ h1, by rw [List.map_cons, h2]; rfl⟩
theorem pe_sortSet {a : Expr} {ta : TE} {p p2 q pos : Pos} (hc : X.calm = true) (hu : X.A.units + 80 < cLine) (hg : Gl X "sorted") (hm : X.mg "sorted" = none) (hg2 : Gl X "set") (hm2 : X.mg "set" = none) (ha : PE X a ta)
    (na : starEach [a] X.env = (false, eval a X.env) :: starEach [] X.env := by rfl) (na2 : starEach [Expr.Call (.Name "set" p2) [a] [] q] X.env = (false, eval (Expr.Call (.Name "set" p2) [a] [] q) X.env) :: starEach [] X.env := by rfl) : PE X (.Call (.Name "sorted" p) [.Call (.Name "set" p2) [a] [] q] [] pos) (tSortSet X.K ta) := by
  refine ⟨fun pins s σ H Q I h => ?_⟩
  refine Call_ (ld_blt I hg hm (u := .builtin "sorted") (by first | rfl | decide +kernel) ?_ (by first | decide +kernel | decide) (by first | decide +kernel | decide))
  refine PyProof.Rows.callWith_builtin1 (PyProof.Rows.args_cons ?_ na2) na2 rfl
  refine Call_ (ld_blt I hg2 hm2 PyProof.Rows.boot_set ?_)
  refine PyProof.Rows.callWith_type1 (PyProof.Rows.args_cons (thn (ha.run pins s σ H _ I h) fun v s1 ⟨x, H1, I1, r1, q1⟩ => PyProof.Rows.args_nil ?_) na) na rfl
  obtain ⟨F, d, res, sF, rx, hg', q1⟩ := q1
  cases rx with
  | @lst l ys ds hs z ra =>
    have hg' : (match strsD ds with | some xs => if xs.length < 1000 ∧ ds.all SeqAt.shaped = true then R.ok (PyData.list ((sortS (dedupS xs)).map .str)) else .bad | none => .bad) = .ok res := hg'
    split at hg'
    · rename_i xs hxs
      split at hg'
      · rename_i hlt
        cases hg'
        cases r1
        obtain ⟨its, r, pl, hz⟩ := I1.list (same_l sF hs)
        obtain ⟨hlt, hsh⟩ := hlt
        refine call_set_listT xs (I1.ok.hd hc) pl.isList (by simpa using strs_of ra r hxs) (by unfold scanBound; omega) fun h' tk c hS hcl hk => ?_
        refine PyProof.Rows.args_nil ?_
        have I2 : Inv X pins σ H1 { s1 with heap := h', toks := tk } := I1.kept hk
        obtain ⟨o, es, ep, t, ho, hex, hd, g, nd, hmem, hb, hf, hn, hr, hl⟩ := hS
        refine Calls.call_function_entry kind_sorted plain_sorted entry_sorted (args_sorted1 _) ?_
        unfold Builtin.«sorted»
        refine wpAny_bind (m := checkCount "sorted" 1 1 _) (wpAny_pure ?_)
        refine wpAny_bind (collect_set (A := X.A.in1) (I1.ok.hd hc) ⟨o, ho, hex.1, hd⟩ hf hb hr hl fun s3 vs k3 hz3 g3 o3 pm => ?_)
        obtain ⟨ms, rv, hms⟩ := vals_strs vs fun v hv => by
          obtain ⟨e, he, q⟩ := List.mem_map.mp (pm.mem_iff.mp hv)
          obtain ⟨k, tk, h1, _⟩ := g e he
          exact ⟨k, tk, by rw [← q]; exact h1⟩
        have pk : ms.Perm (es.toList.map keyOfS) := by
          have q := pm.map (fun v => keyOfS (0, v))
          rw [hms, List.map_map] at q
          exact q
        have pd : ms.Perm (dedupS xs) := perm_nodup (pk.nodup_iff.mpr nd) (dedupS_nodup xs) fun x => by
          rw [pk.mem_iff, ← hmem x, decide_eq_true_eq, dedupS_mem]
        have hml : ms.length ≤ xs.length := by rw [pd.length_eq]; exact dedupS_length xs
        have hvl : vs.length = ms.length := by rw [← hms, List.length_map]
        have hsz : vs.length ≤ sizeLine := by rw [hvl, sizeLine_eq]; omega
        have short : ∀ x ∈ ms, x.length ≤ sizeLine := fun x hx => shortS_of ra hxs x (dedupS_mem.mp (pd.mem_iff.mp hx))
        have shp : ∀ x ∈ ms, SeqAt.shaped (.str x) = true := fun x hx => List.all_eq_true.mp hsh _ (by rw [strsD_map hxs]; exact List.mem_map.mpr ⟨x, dedupS_mem.mp (pd.mem_iff.mp hx), rfl⟩)
        have J := I2.call (ch := []) (H' := H1) (h' := s3.heap) (g' := s3.gens) (d' := s3.drawn) (t' := s3.toks) (Un.kept fun b u e => k3 b u e) (I2.hok.kept fun b u e => k3 b u e) (by rw [g3]; exact I2.bare) (fun _ z => nomatch z)
        have e3 : s3 = { ({ s1 with heap := h', toks := tk } : Shared) with heap := s3.heap, gens := s3.gens, drawn := s3.drawn, toks := s3.toks } := by
          cases s3
          cases s1
          cases o3
          rfl
        rw [← e3] at J
        refine wpAny_bind (wpAny_newList ?_ hsz)
        have hoL : (s3.heap.push (seqObj "list" vs.toArray 0)).get? s3.heap.objs.size = some (seqObj "list" vs.toArray 0) := Heap.get?_push_size _ rfl
        show wpAny _ _ _ _ _ { s3 with heap := s3.heap.push (seqObj "list" vs.toArray 0) }
        have hk2 : ∀ b o, s3.heap.get? b = some o → (PySem.W.sortingHeap (s3.heap.push (seqObj "list" vs.toArray 0)) s3.heap.objs.size vs).get? b = some o := fun b o e => PySem.W.sortingHeap_old (Nat.ne_of_lt (Heap.lt_size e)) (Heap.get?_push_of_some _ e)
        obtain ⟨S, zs, rz, rp⟩ := sorts_of (F := F) J sF (rpAll_strs short) rv (okSort_strs ms shp) (A := X.A.in1.in1) (by show X.A.units + 1 + 1 + 64 < cLine; omega) { s3 with heap := PySem.W.sortingHeap (s3.heap.push (seqObj "list" vs.toArray 0)) s3.heap.objs.size vs } hk2
        rw [sortD_strs, sortS_perm_eq pd] at rp
        have hlen : zs.length ≤ sizeLine := by
          rw [rp.length, List.length_map, (sortS_perm _).length_eq, ← pd.length_eq, ← hvl]; exact hsz
        refine wpAny_bind (wpAny_holding (wpAny_call_entry PyProof.Rows.slot_list_sort ⟨_, hoL, rfl⟩ PyProof.Rows.entry_list_sort
          (PySem.W.list_sort_vals (s := { s3 with heap := s3.heap.push (seqObj "list" vs.toArray 0) }) hoL S hsz ⟨_, rfl, ?_⟩) (PyProof.Rows.args_list_sort _)))
        obtain ⟨e', he'⟩ := PyProof.Rows.sortedHeap_at (vs := vs) (out := (PySem.W.sortVals (PySem.W.dataKind (PySem.W.sortingHeap (s3.heap.push (seqObj "list" vs.toArray 0)) s3.heap.objs.size vs) (ms.map .str)) false vs vs).toArray) hoL
        have hn : H1 s3.heap.objs.size = none := J.hok.fresh (Nat.le_refl _)
        have s2 := Stp.new1 (o := .lst zs) sF hn
        refine wpAny_pure ⟨_, rfl, .ref s3.heap.objs.size, upd H1 s3.heap.objs.size (.lst zs), J.laid (t' := s3.toks) (fun b u e => ?_) (Nat.le_refl _) (show ObjOk X.prog X.w _ _ _ (.lst zs) from ⟨hlen, _, e', rz, he'⟩), rfl,
          q1 _ _ _ s2 (.lst (.inl (.inl upd_same)) hlen (rp.mono s2.fr))⟩
        have hb : b < s3.heap.objs.size := Heap.lt_size e
        rw [PyProof.Rows.sortedHeap_old (Nat.ne_of_lt hb) (by rw [size_push']; exact Nat.lt_succ_of_lt hb)]
        exact Heap.get?_push_of_some _ e
      · cases hg'
    · cases hg'
  | _ => cases hg'
theorem nx_sortSet : ∀ a e, gSortSet a ≠ .exc e := fun a e h => by
  unfold gSortSet at h
  split at h
  · split at h
    · split at h <;> cases h
    · cases h
  · cases h
theorem de_sortSet {a : Expr} {f : DEnv → R PyData} {p p2 q pos : Pos} (hc : X.calm = true) (hu : X.A.units + 80 < cLine) (hg : Gl X "sorted") (hm : X.mg "sorted" = none) (hg2 : Gl X "set") (hm2 : X.mg "set" = none) (ha : DE X F0 H0 W a f)
    (na : starEach [a] X.env = (false, eval a X.env) :: starEach [] X.env := by rfl) (na2 : starEach [Expr.Call (.Name "set" p2) [a] [] q] X.env = (false, eval (Expr.Call (.Name "set" p2) [a] [] q) X.env) :: starEach [] X.env := by rfl) : DE X F0 H0 W (.Call (.Name "sorted" p) [.Call (.Name "set" p2) [a] [] q] [] pos) (f1 gSortSet f) :=
  PE.imp (pe_sortSet hc hu hg hm hg2 hm2 ha na na2) fun σ H Q h => by
    obtain ⟨F, ρ, k, h⟩ := h
    unfold f1 at h
    refine ⟨F, ρ, k, ?_⟩
    cases e1 : f ρ with
    | bad => rw [e1] at h; exact h
    | exc x => rw [e1] at h; exact h
    | ok d =>
      rw [e1, R.bind_ok] at h
      intro x F1 H1 s1 r1
      cases e2 : gSortSet d with
      | bad => rw [e2] at h; exact h.elim
      | exc x => exact absurd e2 (nx_sortSet _ _)
      | ok r =>
        rw [e2] at h
        exact ⟨F1, d, r, s1.sub, r1, e2, fun v F2 H2 s2 r2 => h v F2 H2 (s1.trans s2) r2⟩
end
end DL
namespace DL
open PySem PySem.Spec PyProof.Rows L2
variable [TheW]
/-! ### t[::-1] of a tuple -/
section
variable {prog : Program} {w : World} {A : Around} {E : Value → Shared → Prop} {s : Shared}
theorem adjust_rev (n : Nat) : Builtin.Slice.sliceAdjust none none (-1) (n : Int) = ((n : Int) - 1, -1) := by
  unfold Builtin.Slice.sliceAdjust
  simp
theorem places_rev (n : Nat) : Builtin.Slice.slicePlaces ((n : Int) - 1) (-1) (-1) = n := by
  unfold Builtin.Slice.slicePlaces
  cases n with
  | zero => simp
  | succ n =>
    simp
    try omega
theorem filterMap_same {α β : Type} {f g : α → Option β} : ∀ {l : List α}, (∀ x ∈ l, f x = g x) → l.filterMap f = l.filterMap g
  | [], _ => rfl
  | x :: l, h => by
    have ih := filterMap_same (l := l) fun y hy => h y (List.mem_cons_of_mem _ hy)
    rw [List.filterMap_cons, List.filterMap_cons, h x List.mem_cons_self, ih]
theorem pick_rev (xs : Array Value) : ((List.range xs.size).filterMap fun (m : Nat) => xs[(((xs.size : Int) - 1) + (m : Int) * (-1)).toNat]?).toArray = xs.toList.reverse.toArray := by
  have e : ∀ m ∈ List.range xs.size, xs[(((xs.size : Int) - 1) + (m : Int) * (-1)).toNat]? = xs[xs.size - 1 - m]? := fun m hm => by
    have : (((xs.size : Int) - 1) + (m : Int) * (-1)).toNat = xs.size - 1 - m := by omega
    rw [this]
  rw [filterMap_same e]
  have e2 : (fun m => xs[xs.size - 1 - m]?) = (fun k => xs[k]?) ∘ (fun m => xs.size - 1 - m) := rfl
  rw [e2, ← List.filterMap_map, PySem.W.krv_range, List.filterMap_reverse, PySem.W.krv_all]
theorem getItem_tuple_rev {t sl : Addr} {items : Array Value} {vk : Value} {Q : Value → Shared → Prop} (ht : IsTup s.heap t items) (hs : s.heap.IsSliceOf sl .none .none vk) (pk : IsPart vk (some (-1)))
    (h : Q (.ref s.heap.objs.size) { s with heap := s.heap.push { cls := .type "tuple", data := .seq items.toList.reverse.toArray } }) (hsz : items.size ≤ sizeLine) : wpAny (model prog w) A (getItem (.ref t) (.ref sl)) Q E s := by
  have htake : sizeOk (.seq items.toList.reverse.toArray) := by
    show items.toList.reverse.toArray.size ≤ sizeLine
    rw [List.size_toArray, List.length_reverse, Array.length_toList]
    exact hsz
  obtain ⟨os, hos, hcs, hds⟩ := id hs
  have hTs : s.TypeIs (.ref sl) "slice" := ⟨os, hos, hcs⟩
  unfold getItem
  try with_reducible refine wpAny_holding ?_
  first | refine wpAny_bind (wpAny_pure ?_) | skip
  refine wpAny_bind (wpAny_sequenceKey ht.typeIs (by decide) ?_)
  refine wpAny_bind (wpAny_callSpecial?_slot (name := Str.ofString "__getitem__") ht.typeIs PyProof.Rows.slot_tuple_getitem
    (wpAny_call_entry PyProof.Rows.slot_tuple_getitem ht.typeIs entry_tuple_getitem ?_ (args_tuple_getitem _ _)))
  show wpAny _ _ (Builtin.Tuple.tupleItemsOf (.ref t) >>= _) _ _ s
  refine wpAny_bind (tupleItemsOf_ ht ?_)
  refine wpAny_bind (wpAny_typeOf hTs ?_)
  rw [if_pos (by decide)]
  have app : ∀ {Q' : Int × Int × Nat → Shared → Prop}, Q' (((items.size : Int) - 1), -1, items.size) s → wpAny (model prog w) A.in1 (Builtin.Slice.sliceApplied (.ref sl) (pure (items.size : Int))) Q' E s := by
    intro Q' q
    unfold Builtin.Slice.sliceApplied Builtin.Slice.sliceFields
    refine wpAny_bind (wpAny_bind (wpAny_field hos hds (x := .none) rfl (wpAny_bind (wpAny_field hos hds (x := .none) rfl (wpAny_bind (wpAny_field hos hds (x := vk) rfl (wpAny_pure ?_)))))))
    refine wpAny_bind (HT.slicePart_ pk ?_)
    show wpAny _ _ (if ((-1 : Int) == 0) = true then _ else _) _ _ s
    rw [if_neg (by decide)]
    refine wpAny_bind (slicePart_none (wpAny_bind (slicePart_none (wpAny_bind (wpAny_pure ?_)))))
    show wpAny _ _ (match Builtin.Slice.sliceAdjust none none (-1) (items.size : Int) with | (lo, hi) => pure (lo, (-1 : Int), Builtin.Slice.slicePlaces lo hi (-1))) _ _ s
    rw [adjust_rev]
    show wpAny _ _ (pure (((items.size : Int) - 1), (-1 : Int), Builtin.Slice.slicePlaces ((items.size : Int) - 1) (-1) (-1))) _ _ s
    rw [places_rev]
    exact wpAny_pure q
  refine wpAny_bind (app ?_)
  have hno : ¬ ((((items.size : Int) - 1) == 0 && (-1 : Int) == 1 && items.size == items.size) = true) := by simp
  show wpAny _ _ (if (((items.size : Int) - 1) == 0 && (-1 : Int) == 1 && items.size == items.size) = true then _ else _) _ _ s
  rw [if_neg hno, pick_rev]
  first
    | exact wpAny_bind (m := Builtin.Tuple.tupleExact _) (wpAny_newObj_type (wpAny_pure ⟨_, rfl, wpAny_pure h⟩) htake)
    | exact wpAny_bind (m := Builtin.Tuple.tupleExact _) (wpAny_newObj_type (wpAny_bind (wpAny_pure (wpAny_pure ⟨_, rfl, wpAny_pure h⟩))) htake)
    | exact wpAny_bind (wpAny_bind (m := Builtin.Tuple.tupleExact _) (wpAny_newObj_type (wpAny_pure (wpAny_pure ⟨_, rfl, wpAny_pure h⟩)) htake))
    | exact wpAny_bind (wpAny_bind (m := Builtin.Tuple.tupleExact _) (wpAny_newObj_type (wpAny_pure ⟨_, rfl, wpAny_pure h⟩) htake))
end
section
variable {X : Cx} {F0 H0 : Hp} {W : WX} {K : PySem.W.Frag} {mg : Str → Option Value}
def tRevT (K : PySem.W.Frag) (te : TE) : TE := fun σ H Q => te σ H fun x H1 => (∃ a xs, x = .ref a ∧ SqT K H1 a xs ∧ ∀ p o, H1 p = none → o.dict = none → Q (.ref p) (upd H1 p (.frz o (.tup xs.reverse)))) ∨ ∃ a xs, x = .ref a ∧ SqL K H1 a xs ∧ ∀ p, H1 p = none → Q (.ref p) (upd H1 p (.lst xs.reverse))
theorem pe_revT {e : Expr} {te : TE} {k : Nat} {p1 p2 p3 pos : Pos} (he : PE X e te) : PE X (.Subscript e (.Slice none none (some (.UnaryOp .USub (.Constant (.int 1) k p1) p2)) p3) pos) (tRevT X.K te) := by
  refine ⟨fun pins s σ H Q I h => ?_⟩
  refine Subscript_ (thn (he.run pins s σ H _ I h) fun v s1 ⟨x, H1, I1, r1, q1⟩ => ?_)
  have hst : PO X (some (.UnaryOp .USub (.Constant (.int 1) k p1) p2)) (tPart (tUn (rU fun i => .int (-i)) (tC (.int 1)))) := po_some (pe_un un_neg pe_int)
  rw [show (wpAny (model X.prog X.w) X.A (eval (.Slice none none (some (.UnaryOp .USub (.Constant (.int 1) k p1) p2)) p3) X.env)) = wpAny (model X.prog X.w) X.A (eval (.Slice none none (some (.UnaryOp .USub (.Constant (.int 1) k p1) p2)) p3) X.env) from rfl]
  refine wpAny_Slice ?_
  rw [evalPart_none]
  refine wpAny_pure ?_
  refine wpAny_pure ?_
  refine thn (hst.run pins s1 σ H1 (fun o H4 => o = some (-1) ∧ H4 = H1) I1 ⟨1, rfl, -1, rfl, rfl, rfl⟩) fun vs s4 ⟨o, H4, I4, ps, eo, e4⟩ => ?_
  subst eo e4
  have I5 : Inv X pins σ H4 { s4 with heap := s4.heap.push { cls := .type "slice", data := .fields #[.none, .none, vs] } } := I4.kept (t' := s4.toks) fun b ob q => Heap.get?_push_of_some _ q
  rcases q1 with ⟨a, xs, rfl, hx, q⟩ | ⟨a, xs, rfl, hx, q⟩
  · cases r1
    obtain ⟨its, r, ht, hz⟩ := I5.tuple hx
    have hlen := r.length
    show wpAny (model X.prog X.w) X.A (subscriptTail e (.Slice none none (some (.UnaryOp .USub (.Constant (.int 1) k p1) p2)) p3) (.ref a) (.ref s4.heap.objs.size)) (EP X pins σ Q) X.xe { s4 with heap := s4.heap.push { cls := .type "slice", data := .fields #[.none, .none, vs] } }
    refine tail_any (ops := [.ref a, .ref s4.heap.objs.size]) ht.typeIs (PyProof.Rows.slot_tuple_getitem.lookup) ?_ (by with_unfolding_all rfl)
    refine getItem_tuple_rev ht (Heap.IsSliceOf.new _ .none .none vs) ps ?_ (by rw [List.size_toArray]; omega)
    obtain ⟨I2, hn⟩ := lay_tup (tk := s4.toks) I5 (xs := xs.reverse) (its := its.reverse) (by rw [List.length_reverse]; exact hz) r.reverse
    exact ⟨.ref _, _, I2, rfl, q _ _ hn rfl⟩
  · cases r1
    obtain ⟨its, r, ht, hz⟩ := I5.list hx
    have hlen := r.length
    show wpAny (model X.prog X.w) X.A (subscriptTail e (.Slice none none (some (.UnaryOp .USub (.Constant (.int 1) k p1) p2)) p3) (.ref a) (.ref s4.heap.objs.size)) (EP X pins σ Q) X.xe { s4 with heap := s4.heap.push { cls := .type "slice", data := .fields #[.none, .none, vs] } }
    refine tail_any (ops := [.ref a, .ref s4.heap.objs.size]) ht.isList.typeIs (PySem.slot_list_getitem.lookup) ?_ (by with_unfolding_all rfl)
    refine wpAny_getItem_list_slice ht.isList (Heap.IsSliceOf.new _ .none .none vs) .none .none ps (by decide) ?_ (by rw [List.size_toArray]; omega)
    rw [PySem.W.krv_pick]
    refine ⟨.ref _, _, I5.laid (t' := s4.toks) (o := .lst xs.reverse) (fun b ob q => Heap.get?_push_of_some _ q) (Nat.le_refl _) ?_, rfl, q _ (I5.hok.fresh (Nat.le_refl _))⟩
    exact ⟨by rw [List.length_reverse]; exact hz, _, 0, r.reverse, Heap.get?_push_size _ rfl⟩
def gRev : PyData → R PyData
  | .tuple ds => .ok (.tuple ds.reverse)
  | .list ds => .ok (.list ds.reverse)
  | _ => .bad
theorem de_rev {e : Expr} {f : DEnv → R PyData} {k : Nat} {p1 p2 p3 pos : Pos} (he : DE X F0 H0 W e f) : DE X F0 H0 W (.Subscript e (.Slice none none (some (.UnaryOp .USub (.Constant (.int 1) k p1) p2)) p3) pos) (f1 gRev f) := PE.imp (pe_revT he) fun σ H Q h => by
  obtain ⟨F, ρ, k, h⟩ := h
  unfold f1 at h
  refine ⟨F, ρ, k, ?_⟩
  cases e1 : f ρ with
  | bad => rw [e1] at h; exact h
  | exc x => rw [e1] at h; exact h
  | ok d =>
    rw [e1, R.bind_ok] at h
    intro x F1 H1 s1 r1
    cases r1 with
    | @tup a xs ds hs z ra =>
      refine .inl ⟨a, xs, rfl, same_t s1.sub hs.sq, fun p o hp hd => ?_⟩
      have s2 := Stp.new1 (o := .frz o (.tup xs.reverse)) s1.sub hp
      exact h _ _ _ (s1.trans s2) (.tup (.new hd) (by rw [List.length_reverse]; exact z) (ra.reverse.mono s2.fr))
    | @lst a xs ds hs z ra =>
      refine .inr ⟨a, xs, rfl, same_l s1.sub hs, fun p hp => ?_⟩
      have s2 := Stp.new1 (o := .lst xs.reverse) s1.sub hp
      exact h _ _ _ (s1.trans s2) (.lst (.inl (.inl upd_same)) (by rw [List.length_reverse]; exact z) (ra.reverse.mono s2.fr))
    | _ => exact h.elim
end
end DL
namespace DL
open PySem PySem.Spec PyProof.Rows L2
variable [TheW]
section
variable {X : Cx} {F0 H0 : Hp} {W : WX} {K : PySem.W.Frag} {mg : Str → Option Value}
/-! ### d.get(k, x) -/
def rGet2 (K : PySem.W.Frag) (x y z : V) (H : Hp) (Q : VK) : Prop := ∃ F kvs dk dz, Same F H ∧ Rp K F x (.dict kvs) ∧ Rp K F y dk ∧ Rp K F z dz ∧ keyable kvs dk = true ∧ ∀ v, Rp K F v ((dfind kvs dk).getD dz) → Q v H
def tGet2 (K : PySem.W.Frag) (td ty tx : TE) : TE := fun σ H Q => td σ H fun x H1 => (∃ F kvs, Same F H1 ∧ Rp K F x (.dict kvs)) ∧ ty σ H1 fun y H2 => tx σ H2 fun z H3 => rGet2 K x y z H3 Q
theorem dict_plain {pins : List (Addr × Obj)} {σ : L2.St} {F H : Hp} {s : Shared} {x : V} {u : Value} {kvs : List (PyData × PyData)} (I : Inv X pins σ H s) (sF : Same F H) (r : Rp X.K F x (.dict kvs)) (ru : RelV x u) :
    s.TypeIs u "dict" ∧ ∀ b, u = .ref b → ∃ ob, s.heap.get? b = some ob ∧ ob.dict = none := by
  cases r with
  | @dct a o es _ hF z ra =>
    cases ru
    obtain ⟨hs, hgd, hx, _⟩ := I.frzK (sF _ _ hF)
    exact ⟨⟨o, hgd, hx.1⟩, fun b e => by cases e; exact ⟨o, hgd, hx.2.1⟩⟩
  | @dctN a o xs _ hF z hn ra =>
    cases ru
    obtain ⟨hs, hgd, hx, _⟩ := frzN I (sF _ _ hF)
    exact ⟨⟨o, hgd, hx.1⟩, fun b e => by cases e; exact ⟨o, hgd, hx.2.1⟩⟩
theorem get2_run {pins : List (Addr × Obj)} {σ : L2.St} {H : Hp} {s : Shared} {x y z : V} {u v r : Value} {Q : VK} (hw : X.w = TheW.w) (hu : X.A.units + 20 < cLine) (I : Inv X pins σ H s) (rx : RelV x u) (ry : RelV y v) (rz : RelV z r) (h : rGet2 X.K x y z H Q) :
    wpAny (model X.prog X.w) X.A (call (.builtin "dict.get") [u, v, r]) (EP X pins σ Q) X.xe s := by
  obtain ⟨F, kvs, dk, dz, sF, rd, rk, rdz, hk, q⟩ := h
  unfold keyable at hk
  have ex : ∃ a, x = .ref a := by cases rd <;> exact ⟨_, rfl⟩
  obtain ⟨a, rfl⟩ := ex
  obtain rfl : u = Value.ref a := rx
  by_cases c : (isKey dk && keysK kvs) = true
  · rw [Bool.and_eq_true] at c
    cases rd with
    | @dct _ o es _ hF zz ra =>
      obtain ⟨k, rfl, rfl⟩ := key_of_data rk c.1
      have f := ra.find (k := k)
      refine d_get2 (by omega) I (dget_of sF hF) ry rz fun w' s' I' r' => ?_
      cases e : dfind kvs (keyD k) with
      | none =>
        rw [e] at f q
        rw [f] at r'
        exact ⟨z, H, I', r', q z rdz⟩
      | some d =>
        rw [e] at f q
        obtain ⟨v', hv, rv⟩ := f
        rw [hv] at r'
        exact ⟨v', H, I', r', q v' rv⟩
    | @dctN _ o xs _ hF zz hn ra =>
      rw [ra.notKey hn] at c
      cases c.2
  · rw [Bool.or_eq_true, or_iff_right c, Bool.and_eq_true] at hk
    obtain ⟨k, b, rfl, rfl, hdp⟩ := key_data rk hk.1
    obtain ⟨hsm, hz, ys, hD, rr⟩ := readN I hw sF rd hk.2
    obtain rfl : v = Value.ref b := ry
    refine call_meetsIn PySem.F.slot_dict_get hD.typeIs PySem.F.entry_dict_get (PySem.F.args_dict_get_3 _ _ _) (meetsH_dict_get_default (nestedKind X.prog X.w) a b hsm r) ⟨room8 hu, k, ys, key_is I (rk.mono sF) hdp, hD, ?_⟩
    have f := RN.find (k := k) rr
    cases e : dfind kvs k.data with
    | none =>
      rw [e] at f q
      rw [f]
      exact ⟨z, H, I.tok _, rz, q z rdz⟩
    | some d =>
      rw [e] at f q
      obtain ⟨p, v', hp, rv, rp⟩ := f
      rw [hp]
      exact ⟨v', H, I.tok _, rv, q v' rp⟩
theorem pe_get2 {o e f : Expr} {apos cpos : Pos} {td ty tx : TE} (hw : X.w = TheW.w) (hu : X.A.units + 20 < cLine) (ho : PE X o td) (he : PE X e ty) (hf : PE X f tx) (m : M2 X o "get" apos e f cpos) : PE X (.Call (.Attribute o "get" apos) [e, f] [] cpos) (tGet2 X.K td ty tx) := by
  refine ⟨fun pins s σ H Q I h => ?_⟩
  refine wpAny_Call_method m.base m.few m.line PySem.F.plainAttrs_dict PySem.F.slot_dict_get PySem.F.type_dict_get (thn (ho.run pins s σ H _ I h) fun u s1 ⟨x, H1, I1, rx, ⟨F, kvs, sF, rd⟩, q1⟩ => ?_)
  obtain ⟨t1, t2⟩ := dict_plain I1 sF rd rx
  refine ⟨t1, t2, ?_⟩
  rw [m.trees]
  refine Calls.callWith_builtin rfl (Calls.evalArgs_plain (Calls.spliced_cons (thn (he.run pins s1 σ H1 _ I1 q1) fun iv s2 ⟨y, H2, I2, ry, q2⟩ =>
    Calls.spliced_cons (thn (hf.run pins s2 σ H2 _ I2 q2) fun fv s3 ⟨z, H3, I3, rz, q3⟩ => Calls.spliced_nil ?_))))
  exact get2_run hw hu I3 rx ry rz q3
def fGet2 (fo fk fz : DEnv → R PyData) : DEnv → R PyData := fun ρ => (fo ρ).bind fun d => match d with
  | .dict kvs => (fk ρ).bind fun k => (fz ρ).bind fun z => if keyable kvs k = true then .ok ((dfind kvs k).getD z) else .bad
  | _ => .bad
theorem de_get2 {o e f : Expr} {apos cpos : Pos} {fo fk fz : DEnv → R PyData} (hw : X.w = TheW.w) (hu : X.A.units + 20 < cLine) (ho : DE X F0 H0 W o fo) (he : DE X F0 H0 W e fk) (hf : DE X F0 H0 W f fz) (m : M2 X o "get" apos e f cpos) :
    DE X F0 H0 W (.Call (.Attribute o "get" apos) [e, f] [] cpos) (fGet2 fo fk fz) := PE.imp (pe_get2 hw hu ho he hf m) fun σ H Q h => by
  obtain ⟨F, ρ, k, h⟩ := h
  unfold fGet2 at h
  refine ⟨F, ρ, k, ?_⟩
  cases e1 : fo ρ with
  | bad => rw [e1] at h; exact h
  | exc x => rw [e1] at h; exact h
  | ok d =>
    rw [e1, R.bind_ok] at h
    cases d with
    | dict kvs =>
      intro x F1 H1 s1 r1
      refine ⟨⟨F1, kvs, s1.sub, r1⟩, F1, ρ, k.step s1, ?_⟩
      cases e2 : fk ρ with
      | bad => rw [e2] at h; exact h
      | exc x => rw [e2] at h; exact h.step s1
      | ok dk =>
        rw [e2] at h
        intro y F2 H2 s2 r2
        refine ⟨F2, ρ, k.step (s1.trans s2), ?_⟩
        cases e3 : fz ρ with
        | bad => rw [e3] at h; exact h
        | exc x => rw [e3] at h; exact h.step (s1.trans s2)
        | ok dz =>
          rw [e3] at h
          intro z F3 H3 s3 r3
          dsimp only [R.bind_ok] at h
          by_cases c : keyable kvs dk = true
          · rw [if_pos c] at h
            exact ⟨F3, kvs, dk, dz, s3.sub, r1.mono (s2.trans s3).fr, r2.mono s3.fr, r3, c, fun v rv => h v F3 H3 ((s1.trans s2).trans s3) rv⟩
          · rw [if_neg c] at h; exact h.elim
    | _ => exact h.elim
/-! ### list(d.values()) -/
def tListVals (td : TE) : TE := fun σ H Q => td σ H fun x H1 => ∃ a kvs, x = V.ref a ∧ Rd H1 a (.dK kvs) ∧ ∀ p, H1 p = none → Q (.ref p) (upd H1 p (.lst (kvs.map (·.2))))
theorem pe_listVals {o : Expr} {p pos apos mpos : Pos} {td : TE} (hc : X.calm = true) (hg : Gl X "list") (hm : X.mg "list" = none) (hd : PE X o td) (hbase : attributeBase o "values" X.env (eval o X.env) = eval o X.env := by rfl) (hline : (apos.endLine == mpos.line) = true := by rfl)
    (hse : starEach [Expr.Call (.Attribute o "values" apos) [] [] mpos] X.env = (false, eval (Expr.Call (.Attribute o "values" apos) [] [] mpos) X.env) :: starEach [] X.env := by rfl) :
    PE X (.Call (.Name "list" p) [.Call (.Attribute o "values" apos) [] [] mpos] [] pos) (tListVals td) := by
  refine ⟨fun pins s σ H Q I h => ?_⟩
  refine Call_ (ld_blt I hg hm boot_list (PyProof.Rows.callWith_type1 (args_cons ?_ hse) hse))
  refine wpAny_Call_method0_late hbase hline (thn (hd.run pins s σ H _ I h) fun v s1 ⟨x, H1, I1, r1, a, kvs, ex, ha, q⟩ => ?_)
  subst ex
  obtain rfl : v = Value.ref a := r1
  obtain ⟨hz, hsys, vs, rel, dof⟩ := dk_rd I1.hok ha
  obtain ⟨ep, dat⟩ := dof.dictAt
  have dat' := dat
  obtain ⟨ob, es, ho, ex, hdat, hko, hpr, hnd⟩ := dat'
  refine ⟨"dict", "dict.values", PySem.F.plainAttrs_dict, PySem.F.slot_dict_values, PySem.F.type_dict_values, ⟨ob, ho, ex.1⟩, fun b e => ?_, Calls.callWith_builtin rfl (PySem.evalArgs_none ?_)⟩
  · cases e
    exact ⟨ob, ho, ex.2.1⟩
  refine call_meetsIn PySem.F.slot_dict_values ⟨ob, ho, ex.1⟩ PySem.F.entry_dict_values (PySem.F.args_dict_values_1 _) (meets_dict_values (mixKind X.prog X.w) a hsys) ⟨⟨vs, dof⟩, ?_⟩
  have k1 : ∀ b u, s1.heap.get? b = some u → (s1.heap.push { cls := .type "dict_values", data := .fields #[.ref a] }).get? b = some u := fun b u e => Heap.get?_push_of_some _ e
  have dat1 : (s1.heap.push { cls := .type "dict_values", data := .fields #[.ref a] }).DictAt (mixKind X.prog X.w) a vs ep := dat.keep k1
  have I2 : Inv X pins σ H1 { s1 with heap := s1.heap.push { cls := .type "dict_values", data := .fields #[.ref a] } } := I1.kept (t' := s1.toks) k1
  refine args_nil ?_
  have hl : vs.length = kvs.length := rel.length.symm
  refine PySem.W.kdl_call (s := { s1 with heap := s1.heap.push { cls := .type "dict_values", data := .fields #[.ref a] } }) (PySem.W.kdl_values (knd := mixKind X.prog X.w) (r := s1.heap.objs.size) (d := a) (kvs := vs) (ep := ep)) (I.ok.hd hc) ⟨⟨_, Heap.get?_push_size _ rfl, rfl, rfl⟩, dat1⟩ (by omega) fun h' tk acc c' hk hD hacc => ?_
  have hv : Vals (kvs.map (·.2)) acc.toList := by
    have hla : acc.toList.length = kvs.length := by rw [Array.length_toList, hacc.1, hl]
    refine vals_of_at (by rw [List.length_map, hla]) fun j x u h1 h2 => ?_
    obtain ⟨k, hku⟩ := hacc.2 j u (by rw [← Array.getElem?_toList]; exact h2)
    obtain ⟨x', hx', rx'⟩ := KV.at' rel hku
    rw [List.getElem?_map, hx'] at h1
    cases h1
    exact rx'
  exact ⟨.ref _, _, I2.laid (t' := tk) (o := .lst (kvs.map (·.2))) hk (Nat.le_refl _) ⟨by rw [List.length_map]; exact hz, acc.toList, c', hv, by rw [Array.toArray_toList]; exact hD⟩, rfl, q _ (I2.hok.fresh (Nat.le_refl _))⟩
theorem RpKV.vals {F : Hp} : ∀ {es : List (Key × V)} {kvs : List (PyData × PyData)}, RpKV K F es kvs → RpAll K F (es.map (·.2)) (kvs.map (·.2))
  | _, _, .nil => .nil
  | _, _, .cons r rs => .cons r (RpKV.vals rs)
def gVals : PyData → R PyData
  | .dict kvs => if keysK kvs = true then .ok (.list (kvs.map (·.2))) else .bad
  | _ => .bad
theorem de_listVals {o : Expr} {f : DEnv → R PyData} {p pos apos mpos : Pos} (hc : X.calm = true) (hg : Gl X "list") (hm : X.mg "list" = none) (hd : DE X F0 H0 W o f) (hbase : attributeBase o "values" X.env (eval o X.env) = eval o X.env := by rfl) (hline : (apos.endLine == mpos.line) = true := by rfl)
    (hse : starEach [Expr.Call (.Attribute o "values" apos) [] [] mpos] X.env = (false, eval (Expr.Call (.Attribute o "values" apos) [] [] mpos) X.env) :: starEach [] X.env := by rfl) :
    DE X F0 H0 W (.Call (.Name "list" p) [.Call (.Attribute o "values" apos) [] [] mpos] [] pos) (f1 gVals f) := PE.imp (pe_listVals hc hg hm hd hbase hline hse) fun σ H Q h => by
  obtain ⟨F, ρ, k, h⟩ := h
  unfold f1 at h
  refine ⟨F, ρ, k, ?_⟩
  cases e1 : f ρ with
  | bad => rw [e1] at h; exact h
  | exc x => rw [e1] at h; exact h
  | ok d =>
    rw [e1, R.bind_ok] at h
    intro x F1 H1 s1 r1
    cases r1 with
    | @dct a o es kvs hF z ra =>
      have e2 : gVals (.dict kvs) = if keysK kvs = true then .ok (.list (kvs.map (·.2))) else .bad := rfl
      rw [e2, if_pos ra.keys] at h
      refine ⟨a, es, rfl, .inr ⟨o, s1.sub _ _ hF⟩, fun p hp => ?_⟩
      have s2 := Stp.new1 (o := .lst (es.map (·.2))) s1.sub hp
      exact h _ _ _ (s1.trans s2) (.lst (.inl (.inl upd_same)) (by rw [List.length_map]; exact z) (ra.vals.mono s2.fr))
    | @dctN a o xs kvs hF z hn ra =>
      have e2 : gVals (.dict kvs) = if keysK kvs = true then .ok (.list (kvs.map (·.2))) else .bad := rfl
      rw [e2, ra.notKey hn, if_neg Bool.false_ne_true] at h
      exact h.elim
    | _ => exact h.elim
/-! ### [..] * n -/
def fRep (fa : DEnv → R (List PyData)) (fn : DEnv → R PyData) : DEnv → R PyData := fun ρ => (fa ρ).bind fun ds => if ds.length ≤ sizeLine then (fn ρ).bind fun n => match n with
  | .int k => if (0 ≤ k ∧ k < 2 ^ 63) ∧ ds.length * k.toNat ≤ sizeLine then .ok (.list (List.replicate k.toNat ds).flatten) else .bad
  | _ => .bad
  else .bad
theorem RpAll.rep {F : Hp} {xs : List V} {ds : List PyData} (r : RpAll K F xs ds) : ∀ n : Nat, RpAll K F (List.replicate n xs).flatten (List.replicate n ds).flatten
  | 0 => .nil
  | n + 1 => by
    rw [List.replicate_succ, List.replicate_succ, List.flatten_cons, List.flatten_cons]
    exact r.append (r.rep n)
theorem de_rep {es : List Expr} {n : Expr} {fa : DEnv → R (List PyData)} {fn : DEnv → R PyData} {p pos : Pos} (ha : DA X F0 H0 W es fa) (hn : DE X F0 H0 W n fn) : DE X F0 H0 W (.BinOp (.List es p) .Mult n pos) (fRep fa fn) :=
  PE.imp (pe_op op_rep (pe_lst ha) hn) fun σ H Q h => by
    obtain ⟨F, ρ, k, h⟩ := h
    unfold fRep at h
    refine ⟨F, ρ, k, ?_⟩
    cases e1 : fa ρ with
    | bad => rw [e1] at h; exact h
    | exc x => rw [e1] at h; exact h
    | ok ds =>
      rw [e1, R.bind_ok] at h
      intro vs F1 H1 s1 r1
      by_cases hz : ds.length ≤ sizeLine
      · rw [if_pos hz] at h
        refine ⟨by rw [r1.length]; exact hz, fun q hq => ?_⟩
        have s2 := Stp.newOwn (o := .lst vs) s1.sub hq
        have k2 := k.step (s1.trans s2)
        refine ⟨F1, ρ, k2, ?_⟩
        cases e2 : fn ρ with
        | bad => rw [e2] at h; exact h
        | exc x => rw [e2] at h; exact h.step (s1.trans s2)
        | ok n =>
          rw [e2, R.bind_ok] at h
          intro y F3 H3 s3 r3
          cases n with
          | int i =>
            cases r3
            have h : (match (if (0 ≤ i ∧ i < 2 ^ 63) ∧ ds.length * i.toNat ≤ sizeLine then R.ok (PyData.list (List.replicate i.toNat ds).flatten) else .bad) with
              | .ok d => ∀ v F' H', Stp F H F' H' → Rp X.K F' v d → Q v H'
              | .exc e => Exc X.K X.mg W F H σ e
              | .bad => False) := h
            by_cases c : (0 ≤ i ∧ i < 2 ^ 63) ∧ ds.length * i.toNat ≤ sizeLine
            · rw [if_pos c] at h
              have hl : vs.length * i.toNat ≤ sizeLine := by rw [r1.length]; exact c.2
              refine ⟨q, i, vs, rfl, rfl, s3.hp q _ upd_same, by omega, c.1.2, hl, fun p hp => ?_⟩
              have s4 := Stp.new1 (o := .lst (List.replicate i.toNat vs).flatten) s3.sub hp
              have hl2 : (List.replicate i.toNat vs).flatten.length ≤ sizeLine := by
                rw [PyProof.Rows.lm_len_rep_flat, Nat.mul_comm]; exact hl
              exact h _ _ _ (((s1.trans s2).trans s3).trans s4) (.lst (.inl (.inl upd_same)) hl2 (((r1.mono (s2.trans s3).fr).rep _).mono s4.fr))
            · rw [if_neg c] at h; exact h.elim
          | _ => exact h.elim
      · rw [if_neg hz] at h; exact h.elim
/-! ### a op b op' c op'' d, a test -/
def fChain3 (g g' g'' : PyData → PyData → R PyData) (fa fb fc fd : DEnv → R PyData) : DEnv → R Bool := fun ρ => (fa ρ).bind fun x => (fb ρ).bind fun y => ((g x y).bind boolD).bind fun k => if k = true then
  (fc ρ).bind fun z => ((g' y z).bind boolD).bind fun k' => if k' = true then (fd ρ).bind fun u => (g'' z u).bind boolD else .ok false else .ok false
def tChain3 (r r' r'' : R2) (ta tb tc td : TE) : TT := fun σ H Q => ta σ H fun x H1 => tb σ H1 fun y H2 => r x y H2 fun z H3 => ∃ k, z = .bl k ∧
  (if k = true then tc σ H3 fun w' H4 => r' y w' H4 fun z2 H5 => ∃ k2, z2 = .bl k2 ∧ (if k2 = true then td σ H5 fun w2 H6 => r'' w' w2 H6 fun z3 H7 => ∃ k3, z3 = .bl k3 ∧ Q k3 H7 else Q false H5) else Q false H3)
section
variable {op op' op'' : CmpOp} {r r' r'' : R2} {g g' g'' : PyData → PyData → R PyData} {a b c d : Expr} {fa fb fc fd : DEnv → R PyData} {ta tb tc td : TE} {pos : Pos}
theorem pt_chain3 (ho : OpR X (compareOp op) r) (ho' : OpR X (compareOp op') r') (ho'' : OpR X (compareOp op'') r'') (ha : PE X a ta) (hb : PE X b tb) (hc : PE X c tc) (hd : PE X d td)
    (hm : lastMarks [op, op', op''] [b, c, d] = false := by with_unfolding_all rfl) : PT X (.Compare a [op, op', op''] [b, c, d] pos) (tChain3 r r' r'' ta tb tc td) := by
  refine ⟨fun pins s σ H Q I h => ?_⟩
  refine isTrue_chain (thn (ha.run pins s σ H _ I h) fun v s1 ⟨x, H1, I1, r1, q1⟩ => test_link (thn (hb.run pins s1 σ H1 _ I1 q1) fun u s2 ⟨y, H2, I2, r2, q2⟩ =>
    thn (ho pins s2 σ H2 x y v u _ I2 r1 r2 q2) fun d' s3 ⟨z, H3, I3, r3, k, e, q3⟩ => ?_)) hm
  subst e
  cases r3
  refine wpAny_truthy_bool ?_
  cases k with
  | false => exact ite_ff ⟨H3, I3, q3⟩
  | true =>
    refine ite_tt (test_link (thn (hc.run pins s3 σ H3 _ I3 q3) fun w' s4 ⟨z', H4, I4, r4, q4⟩ => thn (ho' pins s4 σ H4 y z' u w' _ I4 r2 r4 q4) fun d' s5 ⟨z2, H5, I5, r5, k2, e2, q5⟩ => ?_))
    subst e2
    cases r5
    refine wpAny_truthy_bool ?_
    cases k2 with
    | false => exact ite_ff ⟨H5, I5, q5⟩
    | true =>
      refine ite_tt (test_last (thn (hd.run pins s5 σ H5 _ I5 q5) fun w2 s6 ⟨z3, H6, I6, r6, q6⟩ => thn (ho'' pins s6 σ H6 z' z3 w' w2 _ I6 r4 r6 q6) fun d' s7 ⟨z4, H7, I7, r7, k3, e3, q7⟩ => ?_))
      subst e3
      cases r7
      exact wpAny_truthy_bool ⟨H7, I7, q7⟩
theorem dt_chain3 (ho : OpR X (compareOp op) r) (o : Op2 X.K r g) (nx : NoX2 g) (ho' : OpR X (compareOp op') r') (o' : Op2 X.K r' g') (nx' : NoX2 g') (ho'' : OpR X (compareOp op'') r'') (o'' : Op2 X.K r'' g'') (nx'' : NoX2 g'')
    (ha : DE X F0 H0 W a fa) (hb : DE X F0 H0 W b fb) (hc : DE X F0 H0 W c fc) (hd : DE X F0 H0 W d fd) (hm : lastMarks [op, op', op''] [b, c, d] = false := by with_unfolding_all rfl) :
    DT X F0 H0 W (.Compare a [op, op', op''] [b, c, d] pos) (fChain3 g g' g'' fa fb fc fd) := PT.imp (pt_chain3 ho ho' ho'' ha hb hc hd hm) fun σ H Q h => by
  obtain ⟨F, ρ, k, h⟩ := h
  unfold fChain3 at h
  refine ⟨F, ρ, k, ?_⟩
  cases e1 : fa ρ with
  | bad => rw [e1] at h; exact h
  | exc x => rw [e1] at h; exact h
  | ok dx =>
    rw [e1, R.bind_ok] at h
    refine fun x F1 H1 s1 r1 => ⟨F1, ρ, k.step s1, ?_⟩
    cases e2 : fb ρ with
    | bad => rw [e2] at h; exact h
    | exc x => rw [e2] at h; exact h.step s1
    | ok dy =>
      rw [e2, R.bind_ok] at h
      intro y F2 H2 s2 r2
      cases e3 : g dx dy with
      | bad => rw [e3] at h; exact h.elim
      | exc z => exact absurd e3 (nx _ _ _)
      | ok d1 =>
        rw [e3, R.bind_ok] at h
        refine o F2 H2 x y dx dy d1 s2.sub (r1.mono s2.fr) r2 e3 _ fun v F3 H3 s3 r3 => ?_
        cases d1 with
        | bool c1 =>
          cases r3
          refine ⟨c1, rfl, ?_⟩
          have h : match (if c1 = true then (fc ρ).bind fun z => ((g' dy z).bind boolD).bind fun k' => if k' = true then (fd ρ).bind fun u => (g'' z u).bind boolD else .ok false else .ok false) with
            | .ok b => ∀ F' H', Stp F H F' H' → Q b H' | .exc e => Exc X.K X.mg W F H σ e | .bad => False := h
          have s13 := (s1.trans s2).trans s3
          cases c1 with
          | false =>
            rw [if_neg Bool.false_ne_true] at h ⊢
            exact h F3 H3 s13
          | true =>
            rw [if_pos rfl] at h ⊢
            refine ⟨F3, ρ, k.step s13, ?_⟩
            cases e4 : fc ρ with
            | bad => rw [e4] at h; exact h
            | exc x => rw [e4] at h; exact h.step s13
            | ok dz =>
              rw [e4, R.bind_ok] at h
              intro z F4 H4 s4 r4
              cases e5 : g' dy dz with
              | bad => rw [e5] at h; exact h.elim
              | exc z => exact absurd e5 (nx' _ _ _)
              | ok d2 =>
                rw [e5, R.bind_ok] at h
                refine o' F4 H4 y z dy dz d2 s4.sub (r2.mono (s3.trans s4).fr) r4 e5 _ fun v F5 H5 s5 r5 => ?_
                cases d2 with
                | bool c2 =>
                  cases r5
                  refine ⟨c2, rfl, ?_⟩
                  have h : match (if c2 = true then (fd ρ).bind fun u => (g'' dz u).bind boolD else .ok false) with
                    | .ok b => ∀ F' H', Stp F H F' H' → Q b H' | .exc e => Exc X.K X.mg W F H σ e | .bad => False := h
                  have s15 := (s13.trans s4).trans s5
                  cases c2 with
                  | false =>
                    rw [if_neg Bool.false_ne_true] at h ⊢
                    exact h F5 H5 s15
                  | true =>
                    rw [if_pos rfl] at h ⊢
                    refine ⟨F5, ρ, k.step s15, ?_⟩
                    cases e6 : fd ρ with
                    | bad => rw [e6] at h; exact h
                    | exc x => rw [e6] at h; exact h.step s15
                    | ok du =>
                      rw [e6, R.bind_ok] at h
                      intro u F6 H6 s6 r6
                      cases e7 : g'' dz du with
                      | bad => rw [e7] at h; exact h.elim
                      | exc z => exact absurd e7 (nx'' _ _ _)
                      | ok d3 =>
                        rw [e7, R.bind_ok] at h
                        refine o'' F6 H6 z u dz du d3 s6.sub (r4.mono (s5.trans s6).fr) r6 e7 _ fun v F7 H7 s7 r7 => ?_
                        cases d3 with
                        | bool c3 =>
                          cases r7
                          exact ⟨c3, rfl, h F7 H7 ((s15.trans s6).trans s7)⟩
                        | _ => exact h.elim
                | _ => exact h.elim
        | _ => exact h.elim
end
end
end DL
namespace DL
open PySem PySem.Spec PyProof.Rows L2
variable [TheW]
section
variable {X : Cx} {F0 H0 : Hp} {W : WX} {K : PySem.W.Frag} {mg : Str → Option Value}
/-! ### a, b = x, y with plain local names -/
def sPar2 (i j : Nat) (f : DEnv → R (List PyData)) : DEnv → SR := fun ρ => match f ρ with
  | .ok [a, b] => .next ((ρ.set i (.val a)).set j (.val b))
  | .ok _ => .bad
  | .exc e => .exc e ρ
  | .bad => .bad
theorem ds_par2 (i j : Nat) {x y : Str} {a b : Expr} {f : DEnv → R (List PyData)} {px py pt pos : Pos} {kt k2 pt2} (hc : X.calm = true) (hN : X.N.Nodup) (ha : DA X F0 H0 W [a, b] f) (hi : X.N[i]? = some x := by rfl) (hj : X.N[j]? = some y := by rfl) (hij : i ≠ j := by decide)
    (hx : X.env.scope.names.lookup x = some .local := by rfl) (hy : X.env.scope.names.lookup y = some .local := by rfl)
    (hw : swappedStores [.Tuple [.Name x px, .Name y py] kt pt] (.Tuple [a, b] k2 pt2) X.env = pure (some [x, y]) := by rfl)
    (hs : swapsWithSole [.Tuple [.Name x px, .Name y py] kt pt] (.Tuple [a, b] k2 pt2) pos.line X.env = pure false := by rfl) :
    DS X F0 H0 W (.Assign [.Tuple [.Name x px, .Name y py] kt pt] (.Tuple [a, b] k2 pt2) pos) (sPar2 i j f) := PS.imp (ps_par hc hN hi hj hij hx hy ha hw hs) fun D σ H h => by
  obtain ⟨F, ρ, k, h⟩ := h
  unfold sPar2 at h
  refine ⟨F, ρ, k, ?_⟩
  cases e1 : f ρ with
  | bad => rw [e1] at h; exact h
  | exc x => rw [e1] at h; exact exc_of k h
  | ok ds =>
    rw [e1] at h
    intro vs F' H' s r
    match ds, r, h with
    | [d1, d2], .cons r1 (.cons r2 .nil), h => exact ⟨_, _, rfl, h _ F' H' s.fr (((k.step s).setV r1).setV r2)⟩
    | [], _, h => exact h.elim
    | [_], _, h => exact h.elim
    | _ :: _ :: _ :: _, _, h => exact h.elim
/-! ### a, b, c = x, y, z in which one name is read in a function inside; z stays c's own -/
def sPar3O (i j l : Nat) (fa fb : DEnv → R PyData) (fo : DEnv → R Ow) : DEnv → SR := fun ρ => match fa ρ with
  | .ok a => match fb ρ with
    | .ok b => match fo ρ with
      | .ok o => .next (((ρ.set i (.val a)).set j (.val b)).set l (.own o))
      | .exc e => .exc e ρ
      | .bad => .bad
    | .exc e => .exc e ρ
    | .bad => .bad
  | .exc e => .exc e ρ
  | .bad => .bad
theorem ds_par3O (i j l : Nat) {x y z : Str} {a b c : Expr} {fa fb : DEnv → R PyData} {fo : DEnv → R Ow} {px py pz pt pos : Pos} {kt k2 pt2} (K : PySem.W.Frag) (hK : X.K = K) (hc : X.calm = true) (hN : X.N.Nodup) (ha : DE X F0 H0 W a fa) (hb : DE X F0 H0 W b fb) (ho : DOw X F0 H0 W c fo)
    (hi : X.N[i]? = some x := by rfl) (hj : X.N[j]? = some y := by rfl) (hl : X.N[l]? = some z := by rfl) (hil : i ≠ l := by decide) (hjl : j ≠ l := by decide)
    (hx : Loc X.env.scope x := by first | exact .inl rfl | exact .inr rfl) (hy : Loc X.env.scope y := by first | exact .inl rfl | exact .inr rfl) (hz : Loc X.env.scope z := by first | exact .inl rfl | exact .inr rfl)
    (hfx : X.fn x = true ∨ X.env.scope.names.lookup x = some .local := by first | exact .inl rfl | exact .inr rfl) (hfy : X.fn y = true ∨ X.env.scope.names.lookup y = some .local := by first | exact .inl rfl | exact .inr rfl) (hfz : X.fn z = true ∨ X.env.scope.names.lookup z = some .local := by first | exact .inl rfl | exact .inr rfl)
    (hs : swapsWithSole [.Tuple [.Name x px, .Name y py, .Name z pz] kt pt] (.Tuple [a, b, c] k2 pt2) pos.line X.env = pure false := by rfl)
    (hw : swappedStores [.Tuple [.Name x px, .Name y py, .Name z pz] kt pt] (.Tuple [a, b, c] k2 pt2) X.env = pure none := by rfl)
    (s1 : starEach [a, b, c] X.env = (false, eval a X.env) :: starEach [b, c] X.env := by rfl) (s2 : starEach [b, c] X.env = (false, eval b X.env) :: starEach [c] X.env := by rfl) (s3 : starEach [c] X.env = (false, eval c X.env) :: starEach [] X.env := by rfl) :
    DS X F0 H0 W (.Assign [.Tuple [.Name x px, .Name y py, .Name z pz] kt pt] (.Tuple [a, b, c] k2 pt2) pos) (sPar3O i j l fa fb fo) := by
  subst hK
  refine PS.imp (ps_asg (pe_tup (pa_cons ha (pa_cons hb (pa_cons ho pa_nil s3) s2) s1)) (pg_tup (n := 3) hc (pgs_cons (pg_name hN hi hx hfx) (pgs_cons (pg_name hN hj hy hfy) (pgs_cons (pg_name hN hl hz hfz) pgs_nil)))) hs hw rfl) fun D σ H h => ?_
  obtain ⟨F, ρ, k, h⟩ := h
  unfold sPar3O at h
  refine ⟨F, ρ, k, ?_⟩
  cases e1 : fa ρ with
  | bad => rw [e1] at h; exact h
  | exc x => rw [e1] at h; exact exc_of k h
  | ok d1 =>
    rw [e1] at h
    intro v1 F1 H1 t1 r1
    have k1 := k.step t1
    refine ⟨F1, ρ, k1, ?_⟩
    cases e2 : fb ρ with
    | bad => rw [e2] at h; exact h
    | exc x => rw [e2] at h; exact exc_of k1 (SPo.step t1.fr h)
    | ok d2 =>
      rw [e2] at h
      intro v2 F2 H2 t2 r2
      have k2 := k1.step t2
      refine ⟨F2, ρ, k2, ?_⟩
      cases e3 : fo ρ with
      | bad => rw [e3] at h; exact h
      | exc x => rw [e3] at h; exact exc_of k2 (SPo.step (t1.trans t2).fr h)
      | ok w =>
        rw [e3] at h
        intro q F3 H3 t3 hq hF o
        have k3 := k2.step t3
        refine ⟨by show 3 ≤ sizeLine; decide, fun p hp => ⟨p, _, rfl, .inl (.inl upd_same), rfl, v1, _, rfl, v2, _, rfl, .ref q, _, rfl, rfl, ?_⟩⟩
        have t4 := Stp.newOwn (o := .tup [v1, v2, .ref q]) k3.st.sub hp
        have k4 := k3.step t4
        obtain ⟨u, hu⟩ := o.some
        have o4 := o.mono (.refl _) ((t4.hp q u hu).trans hu.symm)
        have k5 := k4.setO (i := l) hF (k2.st.hp.free hq) o4 fun j' w' hj' hρ hσ => by
          obtain ⟨a', ha', _, _, oa⟩ := k2.own j' w' hρ
          rw [ha'] at hσ
          cases hσ
          obtain ⟨u', hu'⟩ := oa.some
          rw [hq] at hu'
          cases hu'
        have k6 := (k5.setV (i := i) (r1.mono (t2.trans (t3.trans t4)).fr)).setV (i := j) (r2.mono (t3.trans t4).fr)
        rw [List.set_comm _ _ (Ne.symm hil), List.set_comm _ _ (Ne.symm hjl), List.set_comm _ _ (Ne.symm hil), List.set_comm _ _ (Ne.symm hjl)] at k6
        exact h _ _ _ (t1.trans (t2.trans (t3.trans t4))).fr k6
end
end DL
set_option maxHeartbeats 2000000
/-! raise Lacks(x): an own error whose __init__ calls super().__init__('..' + str(x)), then keeps x. -/
namespace PySem
namespace LackX
open PySem.W PySem.Calls PyProof.Rows PySem.HandSPX
structure IPos where
  (p0 p1 p2 p3 p4 p5 p6 p7 p8 p9 q1 q2 q3 q4 : Pos)
def iB (m : Str) (j : Nat) (P : IPos) : List Stmt := [.Expr (.Call (.Attribute (.Call (.Name "super" P.p0) [] [] P.p1) "__init__" P.p2) [.BinOp (.Constant (.str m) j P.p3) .Add (.Call (.Name "str" P.p4) [.Name "name" P.p5] [] P.p6) P.p7] [] P.p8) P.p9,
  .Assign [.Attribute (.Name "self" P.q1) "name" P.q2] (.Name "name" P.q3) P.q4]
def iS : Scope := { kind := .function, names := [(PySem.Str.ofString "self", .local), (PySem.Str.ofString "name", .local), (PySem.Str.ofString "__class__", .free), (PySem.Str.ofString "super", .globalImplicit), (PySem.Str.ofString "str", .globalImplicit)], isGenerator := false, isCoroutine := false, more := [] }
theorem iS_cell : ∀ y ∈ iS.names, y.2 ≠ NameKind.cell := by decide
theorem boot_super : bootBuiltins "super" = some (.type "super") := by decide +kernel
theorem boot_str : bootBuiltins "str" = some (.type "str") := by decide +kernel
def iA (p1 p2 : Pos) : Arguments := { posonlyargs := [], args := [{ arg := "self", annotation := none, pos := p1 }, { arg := "name", annotation := none, pos := p2 }], vararg := none, kwonlyargs := [], kw_defaults := [], kwarg := none, defaults := [] }
/-- what the written part says of the class at C, and of its __init__, at fI -/
structure LackTxt (prog : Program) (K : Frag) (mg : Str → Option Value) (m : Str) (C fI : Addr) : Prop where
  cls : ∃ nm q N bs bm sn sub ab col dd k0 k1 k2 k3 k5, K.lookup C = some (excClassObj nm q C N bs bm true sn sub ab col dd k0 k1 k2 k3 k5 "ValueError.__new__") ∧ refsVE bm = true
  sa : findIn K (.ref C) "__setattr__" = some (some (.builtin "object.__setattr__"))
  noN : findIn K (.ref C) "name" = some none
  iC : findIn K (.ref C) "__init__" = some (some (.ref fI))
  tC : typeIn K (.ref fI) = some (.type "function")
  kC : keepIn K (.ref C) = true
  exC : subIn K (.ref C) (.type "BaseException") = some true
  veC : subIn K (.ref C) (.type "ValueError") = some true
  tyC : typeIn K (.ref C) = some (.type "type")
  mro : mroIn K C (.ref C) = some true
  sup : ks_superIn K C C "__init__" = some (some (.builtin "ValueError.__init__"))
  opq : nsIn K cStatics "thirdparty.any" = some none
  msup : mg "super" = none
  mstr : mg "str" = none
  top : (prog.main.scope.names.lookup ("super" : Str)).isSome = false
  ml : m.length ≤ 100
  fn : ∃ (oc : Value) (od : Option Addr) (doc pm : Value) (an : Option Addr) (cda cc : Addr) (ct : Value) (osl : Array (Option Value)) (p1 p2 : Pos) (P : IPos) (j : Nat) (ccl : Value) (cdd : Option Addr) (vs : Array Value) (ccs : Array (Option Value)) (file : Str) (tf : Tok) (cl : Value) (cld : Option Addr) (csl : Array (Option Value)),
    K.lookup fI = some ⟨oc, od, .func (ksFn "__init__" "Lacks.__init__" (iA p1 p2) (iB m j P) iS .none .none doc pm an (.ref cda) ct cc), osl⟩ ∧ codeIn K (.ref cda) "Lacks.__init__" = true ∧ K.lookup cda = some ⟨ccl, cdd, .fields vs, ccs⟩ ∧ vs[2]? = some (.str file tf) ∧ ((prog.main.file : Str) == file) = true ∧ (P.p2.endLine == P.p8.line) = true ∧
    K.lookup cc = some ⟨cl, cld, .cell (some (.ref C)), csl⟩
/-- what __init__ leaves of a fresh exception at x -/
structure InitEnd (h h' : Heap) (x C dx t1 : Addr) (v : Value) : Prop where
  keep : ∀ b o, b ≠ x → h.get? b = some o → h'.get? b = some o
  obj : h'.get? x = some { cls := .ref C, dict := some dx, data := .fields #[.ref t1, .none, .none, .none, .bool false, .none] }
  dbig : h.objs.size ≤ dx
  dne : dx ≠ x
  ns : h'.Ns1 dx (fun y => if y = "name" then some v else none)
theorem keepX {K : Frag} {h h' : Heap} {x : Addr} (X : K.In h) (hx : K.lookup x = none) (k : ∀ b o, b ≠ x → h.get? b = some o → h'.get? b = some o) : K.In h' := fun a o e =>
  k a o (fun z => by rw [z, hx] at e; cases e) (X a o e)
section
variable {prog : Program} {w : World} {A : Around} {E : Value → Shared → Prop} {R : Result → Shared → Prop} {s : Shared} {K : Frag} {mg mb : Str → Option Value} {C fI : Addr}
/-- super().__init__(text) called -/
theorem mw_call {u x t0 : Addr} {dv : Option Addr} {nm q : Str} {N : Addr} {bs bm : List Value} {hdct : Bool} {sn : List Str} {sub : List Value} {ab : Bool} {col : Option Bool} {dd : Option Addr} {k0 k1 k2 k3 k5 : Option Value} {rest : List Value} {Q : Value → Shared → Prop}
    (hC : s.heap.get? C = some (excClassObj nm q C N bs bm hdct sn sub ab col dd k0 k1 k2 k3 k5 "ValueError.__new__")) (hu : s.heap.get? u = some (kxs_mw "ValueError.__init__" x)) (he : s.heap.get? x = some (excObj C t0 dv .none)) (hz : rest.length ≤ sizeLine)
    (h : ∀ t1 h', (∀ b o, b ≠ x → s.heap.get? b = some o → h'.get? b = some o) → h'.get? x = some (excObj C t1 dv .none) → Q .none { s with heap := h' }) :
    wpAny (model prog w) A (call (.ref u) rest) Q E s := by
  obtain ⟨hh, g, d, tk, os⟩ := s
  refine wpAny_call (codeAny_of_tree ?_)
  show wpAny _ A.in1 (callAny (.ref u) ⟨rest, []⟩) _ _ _
  simp only [callAny]
  refine wpAny_bind (wpAny_load hu ?_)
  simp only [kxs_mw, show (Value.type "method-wrapper" == Value.type "method" || Value.type "method-wrapper" == Value.type "builtin_function_or_method" || Value.type "method-wrapper" == Value.type "method-wrapper") = true by decide, if_true]
  refine KFB.if_so (by decide) ?_
  refine wpAny_bind (check_bound_init F.excBase_ValueError.toExcCallFacts hC he rfl ?_)
  refine wpAny_bind (wpAny_pure (wpAny_pure ?_))
  refine ⟨plainId_quiet F.excBase_ValueError.init.plain _, codeAny_builtin F.excBase_ValueError.initEntry ?_⟩
  exact exc_init_tree (cls := .ref C) (t0 := t0) (dv := dv) (c2 := .none) (c3 := .none) (b4 := .bool false) he hz fun h' k e' _ => h _ h' k e'
theorem mcall_eq {o : Expr} {name : Str} {apos pos : Pos} {a : Expr} {env : Env} (hp : (apos.endLine == pos.line) = true) (hs : methodCallForm ([a].length + ([] : List Keyword).length) (backTo pos (starEach [a] env)) (backToKw pos (keywordEach [] env)) = true) :
    eval (.Call (.Attribute o name apos) [a] [] pos) env = (do
      let ov ← attributeBase o name env (eval o env)
      standAt apos.atName
      let (f, first) ← holding [ov] (getMethod ov name (do return (← importBound o env).getD true))
      callWith pos f first (backTo pos (starEach [a] env)) []) := by
  show (do
    let ov ← attributeBase o name env (eval o env)
    standAt apos.atName
    methodCall o name apos pos env ov ([a].length + ([] : List Keyword).length) (backTo pos (starEach [a] env)) (backToKw pos (keywordEach [] env))) = _
  unfold methodCall
  rw [hs]
  have h1 : methodCallPos true o env apos pos = pure pos := by
    unfold methodCallPos
    rw [hp] <;> rfl
  rw [h1]
  rfl
theorem sup_of {cd : ClassData} {n : Str} {r : Option (Option Value)} (hc : clsIn K C = some cd) (h : ks_superIn K C C n = r) : alongIn K n ((cd.mro.dropWhile (· != .ref C)).drop 1) = r := by
  unfold ks_superIn at h
  rw [hc] at h
  exact h
theorem isI {M : Model} {h : Heap} {x t : Addr} {B : String} (hx : h.get? x = some (excO C t)) (X : K.In h) (hB : subIn K (.ref C) (.type B) = some true) : Looks M h (isInstance (.ref x) (.type B)) true :=
  (InstAt.type (show InstAt h x (excO C t) C none from ⟨hx, rfl, rfl, trivial⟩)).andThen (looks_subIn X hB)
theorem lack_init {m : Str} (T : LackTxt prog K mg m C fI) {x t0 : Addr} {y : Str} {ty : Tok} (X : K.In s.heap) (G : s.heap.Ns mainGlobals mg) (B : s.heap.Ns builtinsNs mb) (hb : ∀ z : Str, z ≠ "__name__" → mb z = bootBuiltins z) (hlim : s.heap.NoLimit)
    (hx : s.heap.get? x = some (excO C t0)) (hnx : K.lookup x = none) (hroom : A.depth < recursionLimit) (hy : y.length ≤ 1000)
    (hq : ∀ h' tk dx t1, InitEnd s.heap h' x C dx t1 (.str y ty) → R (.ok (.ret .none)) { s with heap := h', toks := tk }) :
    codeAny (model prog w) A (.call (.ref fI) ⟨[.ref x, .str y ty], []⟩) R s := by
  obtain ⟨oc, od, doc, pm, an, cda, cc, ct, osl, p1, p2, P, j, ccl, cdd, vs, ccs, file, tf, cl, cld, csl, ho, hcd, hcda, hvs, hfile, hpos, hcc⟩ := T.fn
  obtain ⟨nm, q, N, bs, bm, sn, sub, ab, col, dd, k0, k1, k2, k3, k5, hC, hbm⟩ := T.cls
  have hcl : clsIn K C = some { name := nm, bases := bs, mro := .ref C :: bm, ns := N, qualname := q, hasDict := true, slotNames := sn, subclasses := sub, abstract := ab, collection := col, hasDel := false } := by unfold clsIn; rw [hC] <;> rfl
  refine ks_codeAny_call_defAt (body := iB m j P) (binds := [("self", .ref x), ("name", .str y ty)]) hroom (X _ _ ho) rfl hlim (codeRec_of X hcd) rfl (BindsTo.of_eq (by first | rfl | with_unfolding_all rfl)) iS_cell (fun y hy => by rcases List.mem_cons.mp hy with rfl | hy <;> first | rfl | (rcases List.mem_cons.mp hy with rfl | hy <;> first | rfl | cases hy)) (fun h₁ hns hk => ?_) rfl rfl rfl
  have X₁ : K.In h₁ := X.keeps hk
  have lt1 : s.heap.objs.size < h₁.objs.size := hns.lt
  have xL : x ≠ s.heap.objs.size := Nat.ne_of_lt (Heap.lt_size hx)
  have hx₁ := hk _ _ hx
  have hC₁ := X₁ _ _ hC
  show _root_.PySem.wpAt (model prog w) (A.deeper (ksEnv "Lacks.__init__" iS s.heap.objs.size fI (.ref cda) cc)) (.func (iB m j P) (ksEnv "Lacks.__init__" iS s.heap.objs.size fI (.ref cda) cc)) (execs (iB m j P) (ksEnv "Lacks.__init__" iS s.heap.objs.size fI (.ref cda) cc)) _ _ _
  refine ks_wpAt_execs_cons (ks_wpAt_Expr_any (ks_wpAt_MethodCall (pl := do return (← importBound (.Call (.Name "super" P.p0) [] [] P.p1) (ksEnv "Lacks.__init__" iS s.heap.objs.size fI (.ref cda) cc)).getD true) ?_ (mcall_eq hpos rfl)) rfl rfl)
  refine ks_wpAt_super_base (env := ksEnv "Lacks.__init__" iS s.heap.objs.size fI (.ref cda) cc) rfl rfl rfl rfl (X₁ _ _ ho) rfl rfl rfl (X₁ _ _ hcda) rfl hvs hfile T.top ?_
  refine ks_loadName_global rfl rfl (loadGlobal_builtin (env := ksEnv "Lacks.__init__" iS s.heap.objs.size fI (.ref cda) cc) (G.keeps hk) T.msup (B.keeps hk) ((hb "super" (by decide)).trans boot_super) ⟨rfl, ?_⟩)
  refine wpAny_loadName_free rfl rfl rfl ⟨_, X₁ _ _ hcc, rfl⟩ ?_
  refine wpAny_loadName_local rfl rfl hns (v := .ref x) (by first | rfl | with_unfolding_all rfl | kernel_rfl) ?_
  refine ks_wpAny_isType_cls hC₁ rfl ⟨rfl, ?_⟩
  refine ks_wpAny_call_super hC₁ rfl hx₁ rfl (fun c e => by cases e) (looks_mroIn X₁ T.mro) (fun h₂ eso k₂ => ?_)
  have X₂ : K.In h₂ := X₁.keeps k₂
  have hx₂ := k₂ _ _ hx₁
  have xC : x ≠ C := fun z => by rw [z, hC] at hnx; cases hnx
  refine kxs_getMethod kxs_ValueError eso (looks_opaque X₂ T.opq) ((looks_clsIn X₂ hcl).andThen .now) rfl X₂ (sup_of hcl T.sup) (isI hx₂ X₂ T.veC) xC (by decide) ?_
  refine kxs_callWith (i := "ValueError.__init__") (x := x) rfl (evalArgs_plain ?_)
  show wpAny _ _ (spliced ((false, eval (.BinOp (.Constant (.str m) j P.p3) .Add (.Call (.Name "str" P.p4) [.Name "name" P.p5] [] P.p6) P.p7) (ksEnv "Lacks.__init__" iS s.heap.objs.size fI (.ref cda) cc)) :: [])) _ _ _
  refine Calls.spliced_cons (wpAny_BinOp (wpAny_Constant_str ?_))
  refine wpAny_Call_Name_kw (Calls.Name_function_global rfl rfl (loadGlobal_builtin (env := ksEnv "Lacks.__init__" iS s.heap.objs.size fI (.ref cda) cc) ?_ T.mstr ?_ ((hb "str" (by decide)).trans boot_str) ?_))
  · exact (G.keeps hk).keeps fun b o e => Heap.get?_push_of_some _ (k₂ _ _ e)
  · exact (B.keeps hk).keeps fun b o e => Heap.get?_push_of_some _ (k₂ _ _ e)
  have hns₂ : (h₂.push (kxs_mw "ValueError.__init__" x)).Ns s.heap.objs.size fun x_1 => List.lookup x_1 [(Str.ofString "self", Value.ref x), (Str.ofString "name", Value.str y ty)].reverse := hns.keeps fun b o e => Heap.get?_push_of_some _ (k₂ _ _ e)
  refine PyProof.Rows.callWith_type1 (Calls.spliced_cons (wpAny_Name (wpAny_loadName_local rfl rfl hns₂ (v := .str y ty) (by first | rfl | with_unfolding_all rfl | kernel_rfl) ?_)))
  refine Calls.spliced_nil (PySem.P.str_of_str ?_)
  refine PyProof.Rows.add_str (fun t' tk => ?_) (by have := T.ml; rw [sizeLine_eq]; omega)
  refine Calls.spliced_nil ⟨Heap.get?_push_size _ rfl, ?_⟩
  have k₃ : ∀ b o, s.heap.get? b = some o → (h₂.push (kxs_mw "ValueError.__init__" x)).get? b = some o := fun b o e => Heap.get?_push_of_some _ (k₂ _ _ (hk _ _ e))
  refine mw_call (t0 := t0) (dv := none) (k₃ _ _ (X _ _ hC)) (Heap.get?_push_size _ rfl) (k₃ _ _ hx) (by rw [sizeLine_eq]; exact (by decide : 1 ≤ 16777216)) fun t1 h₄ k₄ hx₄ => ?_
  have k₅ : ∀ b o, b ≠ x → s.heap.get? b = some o → h₄.get? b = some o := fun b o hb e => k₄ _ _ hb (k₃ _ _ e)
  have X₄ : K.In h₄ := keepX X hnx k₅
  have hns₄ : h₄.Ns s.heap.objs.size fun x_1 => List.lookup x_1 [(Str.ofString "self", Value.ref x), (Str.ofString "name", Value.str y ty)].reverse := by
    obtain ⟨oL, es, ep, hL, r⟩ := hns₂
    exact ⟨oL, es, ep, k₄ _ _ (Ne.symm xL) hL, r⟩
  refine ks_wpAt_execs_cons (ks_wpAt_Assign_Attr (wpAt_of_wpAny (wpAny_Name (wpAny_loadName_local rfl rfl hns₄ (v := .str y ty) (by first | rfl | with_unfolding_all rfl | kernel_rfl) ?_))) rfl)
  refine wpAny_Name (wpAny_loadName_local rfl rfl hns₄ (v := .ref x) (by first | rfl | with_unfolding_all rfl | kernel_rfl) ?_)
  refine set_plain X₄ (ox := excO C t1) (od := none) ⟨hx₄, rfl, rfl, trivial⟩ T.sa ?_
  refine exc_osa X₄ hx₄ hcl (show refsVE (.ref C :: bm) = true from hbm) rfl T.noN (fun h₆ tk₆ dx k₆ dn dne hx₆ hn₆ => ?_)
  refine wpAt_of_wpAny (wpAny_execs_nil ?_)
  refine hq h₆ tk₆ dx t1 ⟨fun b o hb e => k₆ b o hb (k₅ b o hb e), hx₆, ?_, dne, hn₆⟩
  obtain ⟨oL, _, _, hL, _⟩ := hns₄
  exact Nat.le_of_lt (Nat.lt_of_lt_of_le (Heap.lt_size hL) dn)
/-- a made Lacks -/
structure LackMade (h h' : Heap) (e C d : Addr) (v : Value) : Prop where
  keep : ∀ b o, h.get? b = some o → h'.get? b = some o
  new : h.objs.size ≤ e
  obj : ∃ oe vs, h'.get? e = some oe ∧ oe.cls = .ref C ∧ oe.dict = some d ∧ oe.data = .fields vs ∧ vs[1]? = some .none
  dbig : h.objs.size ≤ d
  dne : d ≠ e
  ns : h'.Ns1 d (fun y => if y = "name" then some v else none)
theorem lack_made {m : Str} (T : LackTxt prog K mg m C fI) {y : Str} {ty : Tok} (X : K.In s.heap) (G : s.heap.Ns mainGlobals mg) (B : s.heap.Ns builtinsNs mb) (hb : ∀ z : Str, z ≠ "__name__" → mb z = bootBuiltins z) (hlim : s.heap.NoLimit) (hroom : A.depth + 1 < recursionLimit) (hy : y.length ≤ 1000)
    (hq : ∀ h' tk e d, LackMade s.heap h' e C d (.str y ty) → R (.ok (.ret (.ref e))) { s with heap := h', toks := tk }) :
    codeAny (model prog w) A (.call (.ref C) ⟨[.str y ty], []⟩) R s := by
  obtain ⟨nm, q, N, bs, bm, sn, sub, ab, col, dd, k0, k1, k2, k3, k5, hC, hbm⟩ := T.cls
  obtain ⟨hp, g, dr, tk, os⟩ := s
  have k : ∀ b o, hp.get? b = some o → ((hp.push (kdv_tup [.str y ty])).push (excO C hp.objs.size)).get? b = some o := fun b o e => Heap.get?_push_of_some _ (Heap.get?_push_of_some _ e)
  have hget : ((hp.push (kdv_tup [.str y ty])).push (excO C hp.objs.size)).get? (hp.objs.size + 1) = some (excO C hp.objs.size) := by heap_get
  have hnx : K.lookup (hp.objs.size + 1) = none := by
    cases e : K.lookup (hp.objs.size + 1) with
    | none => rfl
    | some o =>
      have z : hp.get? (hp.objs.size + 1) = some o := X _ _ e
      exact absurd (Nat.lt_of_succ_lt (Heap.lt_size z)) (Nat.lt_irrefl _)
  refine call_own F.excBase_ValueError (fun X => refsVE_contains X bm hbm) (X _ _ hC) (looks_findIn X T.iC) (fun self => bind_fn X self T.tC) (by rw [sizeLine_eq]; exact (by decide : 1 ≤ 16777216)) ?_
  refine lack_init (s := ⟨(hp.push (kdv_tup [.str y ty])).push (excO C hp.objs.size), g, dr, tk, os⟩) T (X.keeps k) (G.keeps k) (B.keeps k) hb (hlim.keeps k) hget hnx ?_ hy fun h' tk' dx t1 ⟨k', hx, dn, dne, hns⟩ => ?_
  · show A.depth + 1 < recursionLimit
    exact hroom
  · have old : ∀ b o, hp.get? b = some o → h'.get? b = some o := fun b o e => k' b o (Nat.ne_of_lt (Nat.lt_succ_of_lt (Heap.lt_size e))) (k b o e)
    have z : hp.objs.size + 1 + 1 ≤ dx := by
      first
        | (simpa only [Heap.size_push] using dn)
        | exact dn
        | (have q := dn; rw [Heap.size_push, Heap.size_push] at q; exact q)
    exact ⟨rfl, hq h' tk' (hp.objs.size + 1) dx ⟨old, Nat.le_succ _, ⟨_, _, hx, rfl, rfl, rfl, rfl⟩, Nat.le_trans (Nat.le_trans (Nat.le_succ _) (Nat.le_succ _)) z, dne, hns⟩⟩
end
end LackX
end PySem
namespace DL
open PySem PySem.Spec PyProof.Rows L2
theorem relO_name {v : V} {v' : Value} (r : RelV v v') (f : Str) : RelO (List.lookup f [(("name" : Str), v)]) (if f = "name" then some v' else none) := by
  by_cases hw : f = "name"
  · subst hw
    rw [if_pos rfl]
    have q : List.lookup ("name" : Str) [(("name" : Str), v)] = some v := by simp [List.lookup]
    rw [q]
    exact r
  · rw [if_neg hw]
    have qw : (f == ("name" : Str)) = false := by simpa using hw
    have q2 : List.lookup f [(("name" : Str), v)] = none := by simp [List.lookup, qw]
    rw [q2]
    trivial
section
variable {X : Cx} {C fI : Addr} {m : Str}
/-- Lacks(e) -/
def tMkL (C : Addr) (te : TE) : L2.St → Hp → XK → Prop := fun σ H Q => te σ H fun x H1 => ∃ v y, [x] = [v] ∧ v = .str y ∧ y.length ≤ 1000 ∧ ∀ d, H1 d = none → Q (.ref C) (some d) (upd H1 d (.xd [(("name" : Str), v)]))
theorem pmk_lack {x : Str} {a : Expr} {te : TE} {p pos : Pos} {k : Nat} (T : PySem.LackX.LackTxt X.prog X.K X.mg m C fI) (hm : X.mg x = some (.ref C)) (hr : Room k X.A) (ha : PE X a te) (hg : Gl X x) (hdb : (x == ("__debug__" : Str)) = false := by decide)
    (he : starEach (a :: []) X.env = (false, eval a X.env) :: starEach [] X.env := by rfl) (hpl : (backTo pos (starEach [] X.env)).any (·.1) = false := by rfl) :
    PMk X (.Call (.Name x p) [a] [] pos) (tMkL C te) := by
  intro pins s σ H Q I h
  refine wpAny_Call_Name_kw (ld_glob I hg hm ?_ hdb)
  refine PySem.W.callWith_K (h₀ := X.base) I.ok.mod.kin T.kC (thn ((pa_cons ha pa_nil he).run pos pins s σ H (fun vs H1 => ∃ v y, vs = [v] ∧ v = .str y ∧ y.length ≤ 1000 ∧ ∀ d, H1 d = none → Q (.ref C) (some d) (upd H1 d (.xd [(("name" : Str), v)]))) I h) fun us s1 hh => ?_) he hpl
  obtain ⟨vs, H1, I1, r1, v, y, ev, ey, hy, q1⟩ := hh
  subst ev
  refine ⟨I1.kIn, ?_⟩
  cases r1 with
  | cons rv rn =>
    rename_i v' us'
    cases rn
    subst ey
    obtain ⟨ty, rfl⟩ := rv
    show wpAny _ _ (call (.ref C) [.str y ty]) _ _ _
    have hlim := I1.nolimit
    obtain ⟨mb, hmb, hbt⟩ := I1.ok.mod.blt
    have bs : ∀ b o, X.base.get? b = some o → s1.heap.get? b = some o := fun b o e => (I1.env0.bs b o e).1
    have G := I1.ok.mod.glob.keeps bs
    have B := hmb.keeps bs
    obtain ⟨hp, g, dr, tk, os⟩ := s1
    refine wpAny_call (PySem.LackX.lack_made T I1.kIn G B hbt hlim (by have := hr.dp; omega) hy fun h' tk' e d M => ?_)
    show MkP X pins σ Q (.ref e) ⟨h', g, dr, tk', os⟩
    obtain ⟨oe, fv, hoe, hc, hd, hdat, h1⟩ := M.obj
    have hns := M.ns
    obtain ⟨G', g1, g2⟩ := restrict h' fun b => decide (b ≠ e)
    have gk : ∀ b, b ≠ e → G'.get? b = h'.get? b := fun b hb => g1 b (decide_eq_true hb)
    have ge : G'.get? e = none := g2 e (by simp)
    have old : ∀ b o, hp.get? b = some o → G'.get? b = some o := fun b o q => (gk b (Nat.ne_of_lt (Nat.lt_of_lt_of_le (Heap.lt_size q) M.new))).trans (M.keep b o q)
    have ob : ObjOk X.prog X.w (upd H1 d (.xd [(("name" : Str), V.str y)])) G' d (.xd [(("name" : Str), V.str y)]) :=
      ⟨_, hns.at (fun o q => (gk d M.dne).trans q), fun f => relO_name (v := .str y) (v' := .str y ty) ⟨ty, rfl⟩ f⟩
    have J : Inv X pins σ (upd H1 d (.xd [(("name" : Str), V.str y)])) ⟨G', g, dr, tk', os⟩ := I1.laid (t' := tk') old M.dbig ob
    refine ⟨e, oe, fv, ⟨G', g, dr, tk', os⟩, _, .ref C, some d, rfl, J, fun b o q => ?_, ge, hoe, ⟨hc, hd⟩, hdat, h1, ?_, rfl, I1.bare, raises_own T.exC T.tyC, q1 d (I1.hok.fresh M.dbig)⟩
    · by_cases hb : b = e
      · have q' : G'.get? b = some o := q
        rw [hb, ge] at q'; cases q'
      · exact (gk b hb).symm.trans q
    · rw [upd_ne (Ne.symm M.dne)]
      exact I1.hok.fresh M.new
/-- the class stands in the module -/
def HasL (P : Program) (K : PySem.W.Frag) (mg : Str → Option Value) (x m : Str) : Prop := ∃ C fI, mg x = some (.ref C) ∧ PySem.LackX.LackTxt P K mg m C fI
def sRaiseL (x : Str) (f : DEnv → R PyData) : DEnv → SR := fun ρ => match f ρ with
  | .ok (.str y) => if y.length ≤ 1000 then .exc ⟨x, some [("name", .str y)]⟩ ρ else .bad
  | .ok _ => .bad
  | .exc e => .exc e ρ
  | .bad => .bad
end
section
variable [TheW] {X : Cx} {F0 H0 : Hp} {W : WX}
theorem ds_raiseL {x m : Str} {e : Expr} {f : DEnv → R PyData} {p pos pos2 : Pos} {k : Nat} (hc : X.calm = true) (tk : Takes X W) (h : HasL X.prog X.K X.mg x m) (hr : Room k X.A) (he : DE X F0 H0 W e f) (hg : Gl X x) (hdb : (x == ("__debug__" : Str)) = false := by decide)
    (hs : starEach (e :: []) X.env = (false, eval e X.env) :: starEach [] X.env := by rfl) (hpl : (backTo pos (starEach [] X.env)).any (·.1) = false := by rfl) :
    DS X F0 H0 W (.Raise (some (.Call (.Name x p) [e] [] pos)) none pos2) (sRaiseL x f) := by
  obtain ⟨C, fI, gC, T⟩ := h
  refine PS.imp (ps_raise hc tk (pmk_lack T gC hr he hg hdb hs hpl)) fun D σ H h => ?_
  obtain ⟨F, ρ, k, h⟩ := h
  unfold sRaiseL at h
  refine ⟨F, ρ, k, ?_⟩
  cases e1 : f ρ with
  | bad => rw [e1] at h; exact h
  | exc x => rw [e1] at h; exact exc_of k h
  | ok d =>
    rw [e1] at h
    intro v F' H' s r
    cases r with
    | str y hy =>
      have h : SPo X.K X.mg F0 H0 W D F (if y.length ≤ 1000 then .exc ⟨x, some [("name", .str y)]⟩ ρ else .bad) := h
      by_cases hl : y.length ≤ 1000
      · rw [if_pos hl] at h
        refine ⟨.str y, y, rfl, rfl, hl, fun d hd => ?_⟩
        have s2 := Stp.new1 (o := .xd [(("name" : Str), V.str y)]) s.sub hd
        refine h σ (upd F' d _) _ (.ref C) (some d) (s.trans s2).fr (k.step (s.trans s2)) ⟨C, gC, rfl, d, _, rfl, upd_same, fun z dt hz => ?_⟩
        by_cases hn : z = "name"
        · subst hn
          have q : List.lookup ("name" : Str) [(("name" : Str), PyData.str y)] = some (.str y) := by simp [List.lookup]
          rw [q] at hz
          cases hz
          exact ⟨.str y, by simp [List.lookup], .str y hy⟩
        · have qw : (z == ("name" : Str)) = false := by simpa using hn
          have q2 : List.lookup z [(("name" : Str), PyData.str y)] = none := by simp [List.lookup, qw]
          rw [q2] at hz
          cases hz
      · rw [if_neg hl] at h; exact h.elim
    | _ => exact h.elim
end
end DL
/-! several except clauses, some of which name the exception (the library's HandS.TryMany and HandS.Exc know the two apart only). -/
namespace DL
open PySem PySem.Spec PyProof.Rows L2
/-- where the suite of 'except .. as n' ends: slot i is emptied -/
def gone (i : Nat) (D : Ends) : Ends := { nx := fun σ' H' => D.nx (σ'.set i none) H', rt := D.rt, bk := fun σ' H' => D.bk (σ'.set i none) H', ct := fun σ' H' => D.ct (σ'.set i none) H' }
inductive HdsMix (X : Cx) : List ExceptHandler → List (Value × (Addr → Value → Option Addr → TS)) → Prop
  | nil : HdsMix X [] []
  | cons {x : Str} {c : Value} {ts : Addr → Value → Option Addr → TS} {b₀ : Stmt} {suite : List Stmt} {np pos' : Pos} {hds : List ExceptHandler} {l : List (Value × (Addr → Value → Option Addr → TS))} (hc : Names X x c)
      (hsu : ∀ (a : Addr) (oe : Obj) (cls : Value) (d : Option Addr) (pn : List (Addr × Obj)), Zc cls d oe → (∃ vs, oe.data = .fields vs) → PSs (X.suite a ((a, oe) :: pn)) (b₀ :: suite) (ts a cls d)) (r : HdsMix X hds l) :
      HdsMix X (.ExceptHandler (some (.Name x np)) none (b₀ :: suite) pos' :: hds) ((c, ts) :: l)
  | consAs {x n : Str} {c : Value} {i : Nat} {ts : Addr → Value → Option Addr → TS} {b₀ : Stmt} {suite : List Stmt} {np pos' : Pos} {hds : List ExceptHandler} {l : List (Value × (Addr → Value → Option Addr → TS))} (hN : X.N.Nodup) (hi : X.N[i]? = some n) (hln : X.env.kindOf n = some .local) (hc : Names X x c)
      (hsu : ∀ (a : Addr) (oe : Obj) (cls : Value) (d : Option Addr) (pn : List (Addr × Obj)), Zc cls d oe → (∃ vs, oe.data = .fields vs) → PSs (X.suite a ((a, oe) :: pn)) (b₀ :: suite) (ts a cls d)) (r : HdsMix X hds l) :
      HdsMix X (.ExceptHandler (some (.Name x np)) (some n) (b₀ :: suite) pos' :: hds) ((c, fun a cls d D σ H => ts a cls d (gone i D) (σ.set i (some (.ref a))) H) :: l)
section
variable {X : Cx} {body : List Stmt} {h₀ : ExceptHandler} {hds : List ExceptHandler} {l : List (Value × (Addr → Value → Option Addr → TS))} {pos : Pos} {tb : WX → TS} {Wout : WX}
theorem ps_try_mix (hs : X.stack = X.env :: X.outer) (hf : X.env.frame = some X.env.locals) (tk : Takes X Wout)
    (hb : ∀ (W : WX) (pn : List (Addr × Obj)) (xe : Value → Shared → Prop), Takes (X.tr pn xe) W → PassesOwn (model X.prog X.w) X.A X.env xe → PSs (X.tr pn xe) body (tb W))
    (hh : HdsMix X (h₀ :: hds) l) : PS X (.Try body (h₀ :: hds) [] [] pos) (fun D σ H => tb (wMany X.K Wout D l) D σ H) := by
  refine ⟨fun pins s σ H D I h => ?_⟩
  have ok := I.ok
  have hfr : X.A.frames = some (X.env :: X.outer) := by rw [ok.frames, hs]
  refine wpAny_Try_except ?_
  refine wpAny_mono ((hb (wMany X.K Wout D l) (X.pn ++ pins) (fun e s₁ => wpAny (model X.prog X.w) X.A (noteFrame e X.env) (fun _ s₂ => wpAny (model X.prog X.w) X.A (setFlight e none) (fun _ s₃ =>
    wpAny (model X.prog X.w) X.A (handleBy e X.env (h₀ :: hds)) (SP X pins D) X.xe s₃) X.xe s₂) X.xe s₁) (fun u s' xx => ?_) PassesOwn.looking).run [] s σ H D (I.toTry _) h) (fun f s1 hsp => ?_) (fun e s1 he => he)
  · -- the catch
    obtain ⟨a, B, sI, pins', σ', H', cls, d, rfl, J', nb, up, sky, na, os, ag, w⟩ := xx
    have J : Inv X pins σ' H' sI := J'.ofTry ok
    have sky' : Sky B (X.env :: X.outer) a (Zc cls d) X.env.locals s'.heap := by rw [← hs]; exact sky
    show wpAny (model X.prog X.w) X.A (noteFrame (.ref a) X.env) _ _ _
    refine Sky.land Zc.steady hfr hf sky' fun h3 fl3 up3 => ?_
    have J3 : Inv X pins σ' H' { s' with heap := h3 } := J.landed nb fl3.1 (up.trans up3) os ag
    obtain ⟨oe3, vs3, he3, hz3, hd3⟩ := fl3.there
    have notFr : ∀ {h : Heap} {o : Obj} {vs : Array Value}, h.FunFrames B (X.env :: X.outer) → h.get? a = some o → o.data = .fields vs → a ∉ frs (X.env :: X.outer) := fun {h o vs} ff e dd hm => by
      obtain ⟨_, o', e', hnf⟩ := ff.mem hm
      rw [e] at e'; cases e'
      exact hnf _ dd
    have nfr := notFr fl3.2.2.1 he3 hd3
    have nL : a ≠ X.env.locals := fun z => nfr (List.mem_filterMap.mpr ⟨X.env, List.mem_cons_self, by rw [hf, z]⟩)
    have nF : a ∉ X.fs := fun hm => by
      obtain ⟨e, he, q⟩ := List.mem_filterMap.mp hm
      exact nfr (List.mem_filterMap.mpr ⟨e, List.mem_cons_of_mem _ he, q⟩)
    have S3 := J3.suite he3 hd3 na nL nF
    have go : ∀ {hds' : List ExceptHandler} {l' : List (Value × (Addr → Value → Option Addr → TS))}, HdsMix X hds' l' → wMany X.K Wout D l' cls d σ' H' →
        wpAny (model X.prog X.w) X.A (handleBy (.ref a) X.env hds') (SP X pins D) X.xe { s' with heap := h3 } := by
      intro hds' l' hk
      induction hk with
      | nil =>
        intro w
        refine wpAny_handleBy_nil ?_
        obtain ⟨k1, k2, k3, oe, vs, T, oT, ts', he, hz, hd, h1, hr⟩ := id fl3
        unfold PySem.passOn
        refine wpAny_bind (wpAny_field he hd h1 ?_)
        rw [if_neg (show ¬ ((Value.ref T == Value.none) = true) from by simp)]
        have fin : wpAny (model X.prog X.w) X.A (setFlight (.ref a) X.env.frame) (fun _ s4 => wpAny (model X.prog X.w) X.A (throw (.ref a) : Sem Flow) (SP X pins D) X.xe s4) X.xe { s' with heap := h3 } := by
          rw [hf]
          refine HandSPX.setFlight_upZ fl3 fun h4 hh4 up4 => wpAny_throw (tk _ _ ?_)
          exact ⟨a, B, sI, pins, σ', H', cls, d, rfl, J, nb, (up.trans up3).trans up4, .inr (.inr (by rw [hs]; exact hh4)), na, os, ag, w⟩
        first
          | exact wpAny_bind (wpAny_pure (wpAny_bind fin))
          | exact wpAny_bind fin
      | @cons x c ts b₀ suite np pos' hds2 l2 hc hsu r ih =>
        intro w
        obtain ⟨b, hb1, hyes, hno⟩ := w
        refine wpAny_handleBy_cons (codeAny_handlers_test ?_) (by intro q; cases q)
        have LT : PySem.W.Looks (model X.prog X.w) h3 (typeOf (.ref a)) cls := fun A Q E s k q => wpAny_typeOf_ref (k _ _ he3) (by rw [hz3.1]; exact q)
        have LM := PySem.W.exm_one (M := model X.prog X.w) (J3.kIn) LT hb1
        have test : ∀ {Q : Value → Shared → Prop} {E : Value → Shared → Prop}, Q c { s' with heap := h3 } → wpAny (model X.prog X.w) (X.A.mark (some (.ref a))) (eval (.Name x np) X.env) Q E { s' with heap := h3 } := fun {Q E} q => by
          obtain ⟨hg, hdbg, hm | ⟨hm, hv, hnn⟩⟩ := hc
          · exact ld_glob (X := X.suite a ((a, oe3) :: (X.pn ++ pins))) S3 hg hm q hdbg
          · exact ld_blt (X := X.suite a ((a, oe3) :: (X.pn ++ pins))) S3 hg hm hv q hnn hdbg
        refine test (LM.here ?_)
        cases b with
        | true =>
          refine codeAny_handlers_suite ?_
          refine HandSPX.lands_againZ fl3 fun h4 fl4 up4 => ?_
          have J4 : Inv X pins σ' H' { s' with heap := h4 } := J.landed nb fl4.1 ((up.trans up3).trans up4) os ag
          obtain ⟨oe4, vs4, he4, hz4, hd4⟩ := fl4.there
          have S4 := J4.suite he4 hd4 na nL nF
          refine wpAny_mono ((hsu a oe4 cls d (X.pn ++ pins) hz4 ⟨_, hd4⟩).run [] _ _ H' _ S4 (hyes rfl a na)) (fun f s6 hsp => ?_) (fun _ _ z => False.elim z)
          cases f with
          | next =>
            obtain ⟨σ6, H6, S6, q6⟩ := hsp
            exact ⟨_, _, S6.unsuite ok, q6⟩
          | brk =>
            obtain ⟨σ6, H6, S6, q6⟩ := hsp
            exact ⟨_, _, S6.unsuite ok, q6⟩
          | cont =>
            obtain ⟨σ6, H6, S6, q6⟩ := hsp
            exact ⟨_, _, S6.unsuite ok, q6⟩
          | ret u =>
            obtain ⟨v6, σ6, H6, S6, r6, q6⟩ := hsp
            exact ⟨_, _, _, S6.unsuite ok, r6, q6⟩
        | false =>
          show wpAny _ X.A (handleBy (.ref a) X.env hds2) _ _ _
          exact ih (hno rfl)
      | @consAs x n c i ts b₀ suite np pos' hds2 l2 hN hi hln hc hsu r ih =>
        intro w
        obtain ⟨b, hb1, hyes, hno⟩ := w
        refine wpAny_handleBy_cons (codeAny_handlers_test ?_) (by intro q; cases q)
        have LT : PySem.W.Looks (model X.prog X.w) h3 (typeOf (.ref a)) cls := fun A Q E s k q => wpAny_typeOf_ref (k _ _ he3) (by rw [hz3.1]; exact q)
        have LM := PySem.W.exm_one (M := model X.prog X.w) (J3.kIn) LT hb1
        have test : ∀ {Q : Value → Shared → Prop} {E : Value → Shared → Prop}, Q c { s' with heap := h3 } → wpAny (model X.prog X.w) (X.A.mark (some (.ref a))) (eval (.Name x np) X.env) Q E { s' with heap := h3 } := fun {Q E} q => by
          obtain ⟨hg, hdbg, hm | ⟨hm, hv, hnn⟩⟩ := hc
          · exact ld_glob (X := X.suite a ((a, oe3) :: (X.pn ++ pins))) S3 hg hm q hdbg
          · exact ld_blt (X := X.suite a ((a, oe3) :: (X.pn ++ pins))) S3 hg hm hv q hnn hdbg
        refine test (LM.here ?_)
        cases b with
        | true =>
          refine codeAny_handlers_suite_as ?_
          refine HandSPX.lands_againZ fl3 fun h4 fl4 up4 => ?_
          have J4 : Inv X pins σ' H' { s' with heap := h4 } := J.landed nb fl4.1 ((up.trans up3).trans up4) os ag
          obtain ⟨oe4, vs4, he4, hz4, hd4⟩ := fl4.there
          have S4 := J4.suite he4 hd4 na nL nF
          have hloc : Loc X.env.scope n := .inl hln
          refine store_ok (X := X.suite a ((a, oe4) :: (X.pn ++ pins))) (v := .ref a) S4 hN hi hloc rfl (fun s5 S5 => ?_) (.inr hln)
          refine wpAny_mono ((hsu a oe4 cls d (X.pn ++ pins) hz4 ⟨_, hd4⟩).run [] s5 _ H' _ S5 (hyes rfl a na)) (fun f s6 hsp => ?_) (fun _ _ z => False.elim z)
          have end_ : ∀ {σ6 : L2.St} {H6 : Hp} {Q : Shared → Prop}, Inv (X.suite a ((a, oe4) :: (X.pn ++ pins))) [] σ6 H6 s6 → (∀ s7, Inv X pins (σ6.set i none) H6 s7 → Q s7) →
              wpAny (model X.prog X.w) X.A (do bindName X.env n .none; unbindBehindTheSuite X.env n pos') (fun _ s7 => Q s7) X.xe s6 := fun {σ6 H6 Q} S6 hq => gone_ok (S6.unsuite ok) hN hi hln hq
          cases f with
          | next =>
            obtain ⟨σ6, H6, S6, q6⟩ := hsp
            exact end_ S6 fun s7 J7 => ⟨_, _, J7, q6⟩
          | brk =>
            obtain ⟨σ6, H6, S6, q6⟩ := hsp
            exact end_ S6 fun s7 J7 => ⟨_, _, J7, q6⟩
          | cont =>
            obtain ⟨σ6, H6, S6, q6⟩ := hsp
            exact end_ S6 fun s7 J7 => ⟨_, _, J7, q6⟩
          | ret u =>
            obtain ⟨v6, σ6, H6, S6, r6, q6⟩ := hsp
            exact end_ S6 fun s7 J7 => ⟨_, _, _, J7, r6, q6⟩
        | false =>
          show wpAny _ X.A (handleBy (.ref a) X.env hds2) _ _ _
          exact ih (hno rfl)
    exact go hh w
  · cases f with
    | next =>
      obtain ⟨σ', H', J', q⟩ := hsp
      exact wpAny_execs_nil ⟨σ', H', J'.ofTry ok, q⟩
    | brk =>
      obtain ⟨σ', H', J', q⟩ := hsp
      exact ⟨σ', H', J'.ofTry ok, q⟩
    | cont =>
      obtain ⟨σ', H', J', q⟩ := hsp
      exact ⟨σ', H', J'.ofTry ok, q⟩
    | ret u =>
      obtain ⟨v, σ', H', J', r, q⟩ := hsp
      exact ⟨v, σ', H', J'.ofTry ok, r, q⟩
end
end DL
namespace DL
open PySem PySem.Spec PyProof.Rows L2
variable [TheW]
/-- what an except clause makes of an exception -/
abbrev HK := Exn → DEnv → SR
def noX : SR → SR
  | .exc _ _ => .bad
  | r => r
def tryH : List (List Str × HK) → Exn → DEnv → SR
  | [], e, ρ => .exc e ρ
  | (ms, g) :: r, e, ρ => if ms.contains e.cls = true then noX (g e ρ) else tryH r e ρ
/-- try: body / except ..: ..; ys: the classes whose subclass order is known -/
def sTry (ys : List Str) (fb : DEnv → SR) (l : List (List Str × HK)) : DEnv → SR := fun ρ => match fb ρ with
  | .exc e ρ' => if ys.contains e.cls = true then tryH l e ρ' else .bad
  | .next ρ' => .next ρ'
  | .ret d => .ret d
  | .brk ρ' => .brk ρ'
  | .cont ρ' => .cont ρ'
  | .bad => .bad
/-- of the classes ys those in ms are x's -/
def HasT (K : PySem.W.Frag) (mg : Str → Option Value) (ys : List Str) (x : Str) (ms : List Str) : Prop := ∃ D : Addr, mg x = some (.ref D) ∧ ∀ y ∈ ys, ∃ C : Addr, mg y = some (.ref C) ∧ PySem.W.exmOne K (.ref C) (.ref D) = some (ms.contains y)
/-- a field of an own error at C is read plainly -/
structure AttrC (K : PySem.W.Frag) (C : Addr) (f : Str) : Prop where
  ga : PySem.W.findIn K (.ref C) "__getattribute__" = some (some (.builtin "BaseException.__getattribute__"))
  gg : PySem.W.findIn K (.ref C) "__getattr__" = some none
  exC : PySem.W.subIn K (.ref C) (.type "BaseException") = some true
  hd : PySem.W.hasDictIn K C = true
  no : PySem.W.findIn K (.ref C) f = some none
def HasA (K : PySem.W.Frag) (mg : Str → Option Value) (x f : Str) : Prop := ∃ C, mg x = some (.ref C) ∧ AttrC K C f
section
variable {X : Cx} {F0 H0 : Hp} {W : WX} {ys : List Str}
def DHds (X : Cx) (F0 H0 : Hp) (ys : List Str) (hds : List ExceptHandler) (l : List (List Str × HK)) : Prop := ∃ L, HdsMix X hds L ∧ ∀ (D : Ends) (W : WX) (e : Exn) (cls : Value) (d : Option Addr) (σ : L2.St) (H F : Hp) (ρ : DEnv),
  ys.contains e.cls = true → Ok X.K F0 H0 F ρ σ H → ExIs X.K X.mg F e cls d → SPo X.K X.mg F0 H0 W D F (tryH l e ρ) → wMany X.K W D L cls d σ H
theorem dhds_nil : DHds X F0 H0 ys [] [] := ⟨[], .nil, fun D W e cls d σ H F ρ _ k x h => h σ F H cls d (.refl _) k x⟩
theorem HasT.exm {K : PySem.W.Frag} {mg : Str → Option Value} {x : Str} {ms : List Str} (h : HasT K mg ys x ms) : ∃ D : Addr, mg x = some (.ref D) ∧ ∀ (F : Hp) (e : Exn) (cls : Value) (d : Option Addr), ys.contains e.cls = true → ExIs K mg F e cls d → PySem.W.exmOne K cls (.ref D) = some (ms.contains e.cls) := by
  obtain ⟨D, hD, h⟩ := h
  refine ⟨D, hD, fun F e cls d hy x => ?_⟩
  obtain ⟨C, hC, hm⟩ := h e.cls (List.contains_iff_mem.mp hy)
  obtain ⟨C', hC', rfl, _⟩ := x
  rw [hC] at hC'
  cases hC'
  exact hm
theorem dhds_cons {x : Str} {ms : List Str} {b₀ : Stmt} {suite : List Stmt} {np pos' : Pos} {hds : List ExceptHandler} {l : List (List Str × HK)} {g : DEnv → SR} (t : HasT X.K X.mg ys x ms) (hg : Gl X x) (hdb : (x == ("__debug__" : Str)) = false)
    (hsu : ∀ (a : Addr) (pn : List (Addr × Obj)), DSs (X.suite a pn) F0 H0 (fun _ _ _ _ => False) (b₀ :: suite) g) (r : DHds X F0 H0 ys hds l) :
    DHds X F0 H0 ys (.ExceptHandler (some (.Name x np)) none (b₀ :: suite) pos' :: hds) ((ms, fun _ ρ => g ρ) :: l) := by
  obtain ⟨c, hm, hx⟩ := t.exm
  obtain ⟨L, hL, conv⟩ := r
  refine ⟨_, .cons (c := .ref c) (ts := fun _ _ _ => tDS X.K X.mg F0 H0 (fun _ _ _ _ => False) g) ⟨hg, hdb, .inl hm⟩ (fun a oe cls d pn _ _ => hsu a _) hL, fun D W e cls d σ H F ρ hy k xx h => ?_⟩
  refine ⟨_, hx F e cls d hy xx, fun hb a ha => ?_, fun hb => ?_⟩
  · refine ⟨F, ρ, k, ?_⟩
    have h : SPo X.K X.mg F0 H0 W D F (if ms.contains e.cls = true then noX (g ρ) else tryH l e ρ) := h
    rw [if_pos hb] at h
    cases e1 : g ρ with
    | next ρ' => rw [e1] at h; exact h
    | ret d => rw [e1] at h; exact h
    | brk ρ' => rw [e1] at h; exact h
    | cont ρ' => rw [e1] at h; exact h
    | exc e ρ' => rw [e1] at h; exact h.elim
    | bad => rw [e1] at h; exact h.elim
  · have h : SPo X.K X.mg F0 H0 W D F (if ms.contains e.cls = true then noX (g ρ) else tryH l e ρ) := h
    rw [if_neg (by rw [hb]; exact Bool.false_ne_true)] at h
    exact conv D W e cls d σ H F ρ hy k xx h
/-- n.f, n the exception that the suite holds -/
def tByE (K : PySem.W.Frag) (a : Addr) (cls : Value) (d : Option Addr) (f : Str) (te : TE) : TE := fun σ H Q => te σ H fun x H1 => x = .ref a ∧ ∃ (C dd : Addr) (fs : List (Str × V)) (v : V), cls = .ref C ∧ AttrC K C f ∧ d = some dd ∧ H1 dd = some (.xd fs) ∧ fs.lookup f = some v ∧ Q v H1
theorem pe_byE {a : Addr} {oe : Obj} {cls : Value} {d : Option Addr} {pn : List (Addr × Obj)} {e : Expr} {te : TE} {pos : Pos} {f : Str} (hz : Zc cls d oe) (hf : ∃ vs, oe.data = .fields vs) (he : PE (X.suite a ((a, oe) :: pn)) e te)
    (hb : attributeBase e f X.env (eval e X.env) = eval e X.env) :
    PE (X.suite a ((a, oe) :: pn)) (.Attribute e f pos) (tByE X.K a cls d f te) := by
  refine ⟨fun pins s σ H Q I h => ?_⟩
  refine attr_of hb (thn (he.run pins s σ H _ I h) fun u s1 hh => ?_)
  obtain ⟨x, H1, I1, rx, ex, C, dd, fs, v, ec, T, ed, ea, hl, q⟩ := hh
  subst ex
  obtain rfl : u = Value.ref a := rx
  subst ec
  subst ed
  obtain ⟨ha, _⟩ := I1.pin (a, oe) (List.mem_append_left _ List.mem_cons_self)
  obtain ⟨vs, hd⟩ := hf
  have hx : ObjOk X.prog X.w H1 s1.heap dd (.xd fs) := I1.hok dd _ ea
  obtain ⟨mA, hns, hr⟩ := hx
  obtain ⟨od, ho, hk⟩ := lookIn_ns hns
  obtain ⟨u, hu, ru⟩ := RelO.some_of (v := v) (o := mA f) (by rw [← hl]; exact hr f)
  have J : PySem.W.InstAt s1.heap a oe C (some od) := ⟨ha, hz.1, by unfold PySem.W.notCls; rw [hd] <;> rfl, by rw [hz.2]; exact ho⟩
  exact HandSPX.exc_get I1.kIn J T.ga T.gg T.exC (PySem.W.findObj_own T.hd T.no rfl (by rw [hk, hu])) (handed_of ru) ⟨v, H1, I1.tok _, ru, q⟩
/-- except x as n: return n.f -/
def hRetA (i : Nat) (f : Str) : HK := fun e ρ => match e.fs with
  | some ps => match ps.lookup f with
    | some dt => if i < ρ.length then .ret dt else .bad
    | none => .bad
  | none => .bad
theorem dhds_retA (i : Nat) {x n f : Str} {np pos' p1 p2 p3 : Pos} {hds : List ExceptHandler} {l : List (List Str × HK)} (hN : X.N.Nodup) (t : HasT X.K X.mg ys x [x]) (A : HasA X.K X.mg x f) (hg : Gl X x) (hdb : (x == ("__debug__" : Str)) = false) (hi : X.N[i]? = some n) (hln : X.env.kindOf n = some .local)
    (hv : Vis X.env.scope n) (hd : (n == ("__debug__" : Str)) = false) (hcd : (n == ("__classdict__" : Str)) = false) (hb : attributeBase (.Name n p1) f X.env (eval (.Name n p1) X.env) = eval (.Name n p1) X.env) (r : DHds X F0 H0 ys hds l) :
    DHds X F0 H0 ys (.ExceptHandler (some (.Name x np)) (some n) [.Return (some (.Attribute (.Name n p1) f p2)) p3] pos' :: hds) (([x], hRetA i f) :: l) := by
  obtain ⟨c, hm, hx⟩ := t.exm
  obtain ⟨L, hL, conv⟩ := r
  obtain ⟨C, hC, T⟩ := A
  rw [hC] at hm
  cases hm
  refine ⟨_, .consAs (c := .ref c) (i := i) hN hi hln ⟨hg, hdb, .inl hC⟩ (fun a oe cls d pn hz hf => pss_one (ps_ret (pe_byE hz hf (pe_var (X := X.suite a ((a, oe) :: pn)) hi hv hd hcd) hb))) hL, fun D W e cls d σ H F ρ hy k xx h => ?_⟩
  refine ⟨_, hx F e cls d hy xx, fun hb a ha => ?_, fun hb => ?_⟩
  · have h : SPo X.K X.mg F0 H0 W D F (if [x].contains e.cls = true then noX (hRetA i f e ρ) else tryH l e ρ) := h
    rw [if_pos hb] at h
    have ex : e.cls = x := by simpa using List.contains_iff_mem.mp hb
    obtain ⟨C', hC', rfl, h3⟩ := xx
    rw [ex, hC] at hC'
    cases hC'
    unfold hRetA at h
    cases e1 : e.fs with
    | none => rw [e1] at h; exact h.elim
    | some ps =>
      rw [e1] at h h3
      dsimp only at h h3
      cases e2 : ps.lookup f with
      | none => rw [e2] at h; exact h.elim
      | some dt =>
        rw [e2] at h
        dsimp only at h
        by_cases hl : i < ρ.length
        · rw [if_pos hl] at h
          obtain ⟨dd, fs, rfl, hF, hfs⟩ := h3
          obtain ⟨v, hv, rv⟩ := hfs f dt e2
          refine ⟨.ref a, List.getElem?_set_self (by rw [← k.len]; exact hl), rfl, c, dd, fs, v, rfl, T, rfl, k.st.sub _ _ hF, hv, ?_⟩
          exact h v F H k.st rv
        · rw [if_neg hl] at h; exact h.elim
  · have h : SPo X.K X.mg F0 H0 W D F (if [x].contains e.cls = true then noX (hRetA i f e ρ) else tryH l e ρ) := h
    rw [if_neg (by rw [hb]; exact Bool.false_ne_true)] at h
    exact conv D W e cls d σ H F ρ hy k xx h
theorem ds_try {body : List Stmt} {h₀ : ExceptHandler} {hds : List ExceptHandler} {l : List (List Str × HK)} {fb : DEnv → SR} {pos : Pos} (hs : X.stack = X.env :: X.outer) (hf : X.env.frame = some X.env.locals) (tk : Takes X W)
    (hb : ∀ (W' : WX) (pn : List (Addr × Obj)) (xe : Value → Shared → Prop), Takes (X.tr pn xe) W' → PassesOwn (model X.prog X.w) X.A X.env xe → DSs (X.tr pn xe) F0 H0 W' body fb)
    (hh : DHds X F0 H0 ys (h₀ :: hds) l) : DS X F0 H0 W (.Try body (h₀ :: hds) [] [] pos) (sTry ys fb l) := by
  obtain ⟨L, hL, conv⟩ := hh
  refine PS.imp (ps_try_mix (tb := fun W' => tDS X.K X.mg F0 H0 W' fb) hs hf tk (fun W' pn xe t p => hb W' pn xe t p) hL) fun D σ H h => ?_
  obtain ⟨F, ρ, k, h⟩ := h
  unfold sTry at h
  refine ⟨F, ρ, k, ?_⟩
  cases e1 : fb ρ with
  | next ρ' => rw [e1] at h; exact h
  | ret d => rw [e1] at h; exact h
  | brk ρ' => rw [e1] at h; exact h
  | cont ρ' => rw [e1] at h; exact h
  | bad => rw [e1] at h; exact h
  | exc e ρ' =>
    rw [e1] at h
    have h : SPo X.K X.mg F0 H0 W D F (if ys.contains e.cls = true then tryH l e ρ' else .bad) := h
    by_cases hy : ys.contains e.cls = true
    · rw [if_pos hy] at h
      exact fun σ' F' H' cls od s k' x => conv D W e cls od σ' H' F' ρ' hy k' x (h.step s)
    · rw [if_neg hy] at h; exact h.elim
end
end DL
/-! the joint: what the top has written, and the law's own head. -/
namespace DL
open PySem PySem.Spec PyProof.Rows L2
variable [TheW]
section
variable {P : Program} {w : World} {K : PySem.W.Frag} {mg : Str → Option Value} {base : Heap}
theorem fnok_of {x : Str} {st : Stmt} {f : Addr} {fd : FuncData} {N ps : List Str} {k : Nat} {fb : DEnv → SR} (F : Fun K x x st f fd) (S : FnScope N ps (defScope st))
    (body : ∀ (cdv : Value) (A : Around) (outer : List Env) (s : Shared) (H : Hp) (E : XK) (F0 : Hp), Room k (A.deeper (envOfC x (defScope st) s.heap.objs.size f cdv)) →
      Takes (cxOf (L2.CX P w) P w K mg base N x (defScope st) f cdv A outer s H E) (wOut E) →
      DSs (cxOf (L2.CX P w) P w K mg base N x (defScope st) f cdv A outer s H E) F0 H (wOut E) (defBody st) fb) : FnOk P w K mg base (L2.CX P w) (k + 1) f fd ps (spD K mg ps.length (fun ds => retD (fb (startE N.length ds)))) := by
  refine F.okX S (fun vs H Q E h => ?_) (fun cdv A outer s H vs Q E hr h => ?_)
  · obtain ⟨G, ds, _, r, hl, _⟩ := h
    rw [r.length, hl]
  · obtain ⟨G, ds, sG, r, hl, h⟩ := h
    refine ⟨_, body cdv A outer s H E G hr (takes_of rfl rfl rfl rfl), G, _, ok_start sG r, ?_⟩
    cases e : fb (startE N.length ds) with
    | next ρ =>
      have h : match retD (fb (startE N.length ds)) with
        | .ok d => ∀ v F' H', Stp G H F' H' → Rp K F' v d → Q v H'
        | .exc e => ∀ cls od F' H', Stp G H F' H' → ExIs K mg F' e cls od → E cls od H'
        | .bad => False := h
      rw [e] at h
      exact fun σ' F' H' s k => h .non F' H' k.st .non
    | ret d =>
      have h : match retD (fb (startE N.length ds)) with
        | .ok d => ∀ v F' H', Stp G H F' H' → Rp K F' v d → Q v H'
        | .exc e => ∀ cls od F' H', Stp G H F' H' → ExIs K mg F' e cls od → E cls od H'
        | .bad => False := h
      rw [e] at h
      exact h
    | exc x ρ =>
      have h : match retD (fb (startE N.length ds)) with
        | .ok d => ∀ v F' H', Stp G H F' H' → Rp K F' v d → Q v H'
        | .exc e => ∀ cls od F' H', Stp G H F' H' → ExIs K mg F' e cls od → E cls od H'
        | .bad => False := h
      rw [e] at h
      exact fun σ' F' H' cls od s k x => h cls od F' H' k.st x
    | brk ρ =>
      have h : match retD (fb (startE N.length ds)) with
        | .ok d => ∀ v F' H', Stp G H F' H' → Rp K F' v d → Q v H'
        | .exc e => ∀ cls od F' H', Stp G H F' H' → ExIs K mg F' e cls od → E cls od H'
        | .bad => False := h
      rw [e] at h
      exact h.elim
    | cont ρ =>
      have h : match retD (fb (startE N.length ds)) with
        | .ok d => ∀ v F' H', Stp G H F' H' → Rp K F' v d → Q v H'
        | .exc e => ∀ cls od F' H', Stp G H F' H' → ExIs K mg F' e cls od → E cls od H'
        | .bad => False := h
      rw [e] at h
      exact h.elim
    | bad =>
      have h : match retD (fb (startE N.length ds)) with
        | .ok d => ∀ v F' H', Stp G H F' H' → Rp K F' v d → Q v H'
        | .exc e => ∀ cls od F' H', Stp G H F' H' → ExIs K mg F' e cls od → E cls od H'
        | .bad => False := h
      rw [e] at h
      exact h.elim
end
section
variable {P : Program} {K : PySem.W.Frag} {h : Heap} {mg : Str → Option Value}
theorem has_mk {x : Str} {st : Stmt} {f : Addr} {oc : Value} {od an : Option Addr} {osl : Array (Option Value)} {kV doc pm cdv ct : Value} (X : K.In h) (G : h.Ns mainGlobals mg) (a : PySem.W.nsIn K mainGlobals x = some (some (.ref f))) (l : K.lookup f = some ⟨oc, od, .func (PySem.W.fnOf x x (defArgs st) (defBody st) (defScope st) .none kV doc pm an cdv ct), osl⟩)
    (c : PySem.W.codeIn K cdv x = true) (k : PySem.W.keepIn K (.ref f) = true) : Has K mg x st := ⟨f, _, fun_mk l c k, PySem.W.mg_of X G a⟩
theorem hasC_int {x : Str} {i : Int} {t : Tok} (X : K.In h) (G : h.Ns mainGlobals mg) (a : PySem.W.nsIn K mainGlobals x = some (some (.int i t))) : HasC K mg x (.int i) := ⟨.int i, _, PySem.W.mg_of X G a, ⟨t, rfl⟩, fun F => .int i⟩
theorem hasC_str {x y : Str} {t : Tok} (X : K.In h) (G : h.Ns mainGlobals mg) (a : PySem.W.nsIn K mainGlobals x = some (some (.str y t))) (z : y.length ≤ sizeLine) : HasC K mg x (.str y) := ⟨.str y, _, PySem.W.mg_of X G a, ⟨t, rfl⟩, fun F => .str y z⟩
theorem hasC_tup1 {x y : Str} {c : Addr} {t : Tok} {n : Nat} {sl : Array (Option Value)} (X : K.In h) (G : h.Ns mainGlobals mg) (a : PySem.W.nsIn K mainGlobals x = some (some (.ref c))) (l : K.lookup c = some ⟨.type "tuple", none, .seq #[.str y t] n, sl⟩) (z : y.length ≤ sizeLine) : HasC K mg x (.tuple [.str y]) :=
  ⟨.ref c, _, PySem.W.mg_of X G a, rfl, fun F => .tup (xs := [.str y]) (.inr ⟨_, #[.str y t], n, l, rfl, rfl, rfl, by show 1 ≤ sizeLine; decide, .cons ⟨t, rfl⟩ .nil⟩) (by show 1 ≤ sizeLine; decide) (.cons (.str y z) .nil)⟩
theorem hasX_mk {x : Str} {C : Addr} (X : K.In h) (G : h.Ns mainGlobals mg) (a : PySem.W.nsIn K mainGlobals x = some (some (.ref C))) (b : PySem.W.excIn K C [.type "ValueError", .type "Exception", .type "BaseException", .type "object"] "ValueError.__new__" = true)
    (k : PySem.W.keepIn K (.ref C) = true) (s : PySem.W.subIn K (.ref C) (.type "BaseException") = some true) (t : PySem.W.typeIn K (.ref C) = some (.type "type")) : HasX K mg x := ⟨C, PySem.W.mg_of X G a, b, k, s, t⟩
theorem hasA_mk {x f : Str} {C : Addr} (X : K.In h) (G : h.Ns mainGlobals mg) (a : PySem.W.nsIn K mainGlobals x = some (some (.ref C))) (b : PySem.W.findIn K (.ref C) "__getattribute__" = some (some (.builtin "BaseException.__getattribute__"))) (c : PySem.W.findIn K (.ref C) "__getattr__" = some none)
    (s : PySem.W.subIn K (.ref C) (.type "BaseException") = some true) (d : PySem.W.hasDictIn K C = true) (e : PySem.W.findIn K (.ref C) f = some none) : HasA K mg x f := ⟨C, PySem.W.mg_of X G a, b, c, s, d, e⟩
theorem exm_of {C D : Addr} {b : Bool} (h1 : PySem.W.subIn K (.ref D) (.type "BaseException") = some true) (h2 : PySem.W.isClsIn K D = true) (h3 : PySem.W.typeIn K (.ref D) = some (.type "type")) (h4 : PySem.W.subIn K (.ref C) (.ref D) = some b) :
    PySem.W.exmOne K (.ref C) (.ref D) = some b := by
  have e1 : (PySem.W.subIn K (.ref D) (.type "BaseException") == some true) = true := by rw [h1] <;> rfl
  have e2 : ((PySem.W.clsIn K D).isSome && PySem.W.typeIn K (.ref D) == some (.type "type")) = true := by
    have h2' : (PySem.W.clsIn K D).isSome = true := h2
    rw [h2', h3] <;> rfl
  show (if (PySem.W.subIn K (.ref D) (.type "BaseException") == some true) = true then (if ((PySem.W.clsIn K D).isSome && PySem.W.typeIn K (.ref D) == some (.type "type")) = true then PySem.W.subIn K (.ref C) (.ref D) else none) else none) = some b
  rw [if_pos e1, if_pos e2]
  exact h4
inductive SubsAt (K : PySem.W.Frag) (mg : Str → Option Value) (D : Addr) (ms : List Str) : List Str → Prop
  | nil : SubsAt K mg D ms []
  | cons {y : Str} {ys : List Str} {C : Addr} (a : mg y = some (.ref C)) (e : PySem.W.subIn K (.ref C) (.ref D) = some (ms.contains y)) (r : SubsAt K mg D ms ys) : SubsAt K mg D ms (y :: ys)
theorem hasT_mk {x : Str} {D : Addr} {ys ms : List Str} (X : K.In h) (G : h.Ns mainGlobals mg) (a : PySem.W.nsIn K mainGlobals x = some (some (.ref D))) (h1 : PySem.W.subIn K (.ref D) (.type "BaseException") = some true) (h2 : PySem.W.isClsIn K D = true) (h3 : PySem.W.typeIn K (.ref D) = some (.type "type"))
    (s : SubsAt K mg D ms ys) : HasT K mg ys x ms := by
  refine ⟨D, PySem.W.mg_of X G a, fun y hy => ?_⟩
  induction s with
  | nil => simp at hy
  | cons a e r ih =>
    rcases List.mem_cons.mp hy with rfl | hy
    · exact ⟨_, a, exm_of h1 h2 h3 e⟩
    · exact ih hy
theorem subsAt_cons {D : Addr} {ms : List Str} {y : Str} {ys : List Str} {C : Addr} {b : Bool} (X : K.In h) (G : h.Ns mainGlobals mg) (a : PySem.W.nsIn K mainGlobals y = some (some (.ref C))) (e : PySem.W.subIn K (.ref C) (.ref D) = some b) (r : SubsAt K mg D ms ys) (hb : ms.contains y = b) : SubsAt K mg D ms (y :: ys) := by
  subst hb
  exact .cons (PySem.W.mg_of X G a) e r
theorem hasL_mk {x m : Str} {C fI cda cc : Addr} {nm q : Str} {N : Addr} {bs bm : List Value} {sn : List Str} {sub : List Value} {ab : Bool} {col : Option Bool} {dd : Option Addr} {m0 m1 m2 m3 m5 : Option Value} {oc : Value} {od : Option Addr} {doc pm : Value} {an : Option Addr} {ct : Value} {osl : Array (Option Value)}
    {p1 p2 r0 r1 r2 r3 r4 r5 r6 r7 r8 r9 q1 q2 q3 q4 : Pos} {j : Nat} {ccl : Value} {cdd : Option Addr} {vs : Array Value} {ccs : Array (Option Value)} {file : Str} {tf : Tok} {cl : Value} {cld : Option Addr} {csl : Array (Option Value)} (X : K.In h) (G : h.Ns mainGlobals mg)
    (a : PySem.W.nsIn K mainGlobals x = some (some (.ref C))) (xL : K.lookup C = some (excClassObj nm q C N bs bm true sn sub ab col dd m0 m1 m2 m3 m5 "ValueError.__new__")) (sa : PySem.W.findIn K (.ref C) "__setattr__" = some (some (.builtin "object.__setattr__"))) (nn : PySem.W.findIn K (.ref C) "name" = some none)
    (a1 : PySem.W.findIn K (.ref C) "__init__" = some (some (.ref fI))) (t1 : PySem.W.typeIn K (.ref fI) = some (.type "function"))
    (l1 : K.lookup fI = some ⟨oc, od, .func (PySem.W.ksFn "__init__" "Lacks.__init__" (PySem.LackX.iA p1 p2) (PySem.LackX.iB m j ⟨r0, r1, r2, r3, r4, r5, r6, r7, r8, r9, q1, q2, q3, q4⟩) PySem.LackX.iS .none .none doc pm an (.ref cda) ct cc), osl⟩)
    (c1 : PySem.W.codeIn K (.ref cda) "Lacks.__init__" = true) (l2 : K.lookup cda = some ⟨ccl, cdd, .fields vs, ccs⟩) (l3 : K.lookup cc = some ⟨cl, cld, .cell (some (.ref C)), csl⟩)
    (kC : PySem.W.keepIn K (.ref C) = true) (eC : PySem.W.subIn K (.ref C) (.type "BaseException") = some true) (vC : PySem.W.subIn K (.ref C) (.type "ValueError") = some true) (tC : PySem.W.typeIn K (.ref C) = some (.type "type")) (mC : PySem.W.mroIn K C (.ref C) = some true)
    (sC : PySem.W.ks_superIn K C C "__init__" = some (some (.builtin "ValueError.__init__"))) (oq : PySem.W.nsIn K cStatics "thirdparty.any" = some none) (z1 : PySem.W.nsIn K mainGlobals "super" = some none) (z2 : PySem.W.nsIn K mainGlobals "str" = some none)
    (rv : PySem.HandSPX.refsVE bm = true) (hvs : vs[2]? = some (.str file tf)) (hfile : ((P.main.file : Str) == file) = true) (top : (P.main.scope.names.lookup ("super" : Str)).isSome = false) (hm : m.length ≤ 100) (hp : (r2.endLine == r8.line) = true) : HasL P K mg x m :=
  ⟨C, fI, PySem.W.mg_of X G a, ⟨⟨nm, q, N, bs, bm, sn, sub, ab, col, dd, m0, m1, m2, m3, m5, xL, rv⟩, sa, nn, a1, t1, kC, eC, vC, tC, mC, sC, oq, PySem.W.mg_none_of X G z1, PySem.W.mg_none_of X G z2, top, hm,
    ⟨oc, od, doc, pm, an, cda, cc, ct, osl, p1, p2, _, j, ccl, cdd, vs, ccs, file, tf, cl, cld, csl, l1, c1, l2, hvs, hfile, hp, l3⟩⟩⟩
/-- the law's promise -/
def spL (K : PySem.W.Frag) (n : Nat) : Sp := fun vs H Q _ => ∃ (a : Addr) (ns : List Int), vs = [.ref a] ∧ SqL K H a (ns.map V.int) ∧ ns.length ≤ n ∧ ∀ H', Q (.bl true) H'
theorem rp_ints {F : Hp} : ∀ ns : List Int, RpAll K F (ns.map V.int) (ns.map PyData.int)
  | [] => .nil
  | n :: ns => .cons (.int n) (rp_ints ns)
theorem law_mk {w : World} {x y : Str} {st : Stmt} {n k : Nat} {N : List Str} {fb : DEnv → SR} {fa : Addr} (hn : n ≤ sizeLine) (hfa : mg x = some (.ref fa)) (H : Has K mg x st) (S : FnScope N [y] (defScope st)) (hb : BindsAs x st [y])
    (body : ∀ (base : Heap) (f : Addr) (cdv : Value) (A : Around) (outer : List Env) (s : Shared) (H : Hp) (E : XK) (F0 : Hp), Room k (A.deeper (envOfC x (defScope st) s.heap.objs.size f cdv)) →
      Takes (cxOf (L2.CX P w) P w K mg base N x (defScope st) f cdv A outer s H E) (wOut E) →
      DSs (cxOf (L2.CX P w) P w K mg base N x (defScope st) f cdv A outer s H E) F0 H (wOut E) (defBody st) fb)
    (law : ∀ ns : List Int, ns.length ≤ n → retD (fb (startE N.length [.list (ns.map .int)])) = .ok (.bool true)) :
    ∃ fd : FuncData, (∀ (s : Shared) (v : Value), BindsTo s fd ⟨[v], []⟩ [(y, v)]) ∧ ∀ base : Heap, K.In base → base.Ns mainGlobals mg → FnOk P w K mg base (L2.CX P w) (k + 1) fa fd [y] (spL K n) := by
  obtain ⟨f, fd, F, hm⟩ := H
  rw [hfa] at hm
  cases hm
  have F' := F
  obtain ⟨oc, od, kV, doc, pm, an, cdv, ct, osl, e, l, c⟩ := F.ex
  refine ⟨fd, fun s v => ?_, fun base _ _ => ?_⟩
  · rw [e]
    exact .of_eq (hb kV doc pm an cdv ct [v] rfl)
  · refine (fnok_of F S (body base fa)).imp fun vs H Q E h => ?_
    obtain ⟨a, ns, rfl, hs, hl, q⟩ := h
    refine ⟨H, [.list (ns.map .int)], .refl _, .cons (.lst hs (by rw [List.length_map]; omega) (rp_ints ns)) .nil, rfl, ?_⟩
    dsimp only
    rw [law ns hl]
    intro v F' H' _ r
    cases r
    exact q H'
end
end DL
/-! sorted(..) in a form that computes. -/
namespace DL
open PySem PySem.Spec PyProof.Rows L2
variable [TheW]
abbrev leD : PyData → PyData → Bool := PySem.W.dataLe false fun d : PyData => d
def sortedB : List PyData → Bool
  | [] => true
  | d :: ds => ds.all (leD d) && sortedB ds
theorem sortedB_pw : ∀ {ds : List PyData}, sortedB ds = true → ds.Pairwise fun a b => leD a b = true
  | [], _ => .nil
  | d :: ds, h => by
    rw [sortedB, Bool.and_eq_true] at h
    exact .cons (List.all_eq_true.mp h.1) (sortedB_pw h.2)
def sortB (ds : List PyData) : List PyData := if sortedB ds = true then ds else sortD ds
theorem sortB_eq (ds : List PyData) : sortB ds = sortD ds := by
  unfold sortB
  split
  · rename_i h
    exact (List.mergeSort_of_pairwise (sortedB_pw h)).symm
  · rfl
def gSortedB (d : PyData) : R PyData := if isTupD d = true then .bad else match srcD d with
  | some ds => if okSort ds = true then .ok (.list (sortB ds)) else .bad
  | none => .bad
theorem gSorted_eqB : gSorted = gSortedB := by
  have e : sortD = sortB := (funext sortB_eq).symm
  funext d
  unfold gSorted gSortedB
  rw [e] <;> rfl
theorem o_sortedB {K : PySem.W.Frag} : OpC K (rSortedD K) (g1 gSortedB) := gSorted_eqB ▸ o_sorted
theorem nx_sortedB : ∀ a e, g1 gSortedB a ≠ .exc e := gSorted_eqB ▸ nx_sorted
/-- texts, by insertion -/
def insS (x : Str) : List Str → List Str
  | [] => [x]
  | y :: ys => if leS x y = true then x :: y :: ys else y :: insS x ys
def sortI : List Str → List Str
  | [] => []
  | x :: xs => insS x (sortI xs)
theorem insS_perm (x : Str) : ∀ ys : List Str, (insS x ys).Perm (x :: ys)
  | [] => .refl _
  | y :: ys => by
    unfold insS
    split
    · exact .refl _
    · exact ((insS_perm x ys).cons y).trans (.swap _ _ _)
theorem sortI_perm : ∀ xs : List Str, (sortI xs).Perm xs
  | [] => .refl _
  | x :: xs => (insS_perm x _).trans ((sortI_perm xs).cons x)
theorem insS_sorted (x : Str) : ∀ {ys : List Str}, ys.Pairwise (fun a b => leS a b = true) → (insS x ys).Pairwise fun a b => leS a b = true
  | [], _ => by unfold insS; simp
  | y :: ys, h => by
    unfold insS
    cases h with
    | cons h1 h2 =>
      split
      · rename_i hx
        refine .cons (fun z hz => ?_) (.cons h1 h2)
        rcases List.mem_cons.mp hz with rfl | hz
        · exact hx
        · exact leS_trans _ _ _ hx (h1 z hz)
      · rename_i hx
        have hyx : leS y x = true := by
          have t := leS_total x y
          rw [Bool.or_eq_true] at t
          exact t.resolve_left hx
        refine .cons (fun z hz => ?_) (insS_sorted x h2)
        rcases List.mem_cons.mp ((insS_perm x ys).mem_iff.mp hz) with rfl | hz
        · exact hyx
        · exact h1 z hz
theorem sortI_sorted : ∀ xs : List Str, (sortI xs).Pairwise fun a b => leS a b = true
  | [] => .nil
  | x :: xs => insS_sorted x (sortI_sorted xs)
theorem sortS_I (xs : List Str) : sortS xs = sortI xs := sorted_uniq (le := fun a b => leS a b = true) leS_anti (sortS_sorted xs) (sortI_sorted xs) ((sortS_perm xs).trans (sortI_perm xs).symm)
def gSortSetI : PyData → R PyData
  | .list ds => match strsD ds with
    | some xs => if xs.length < 1000 ∧ ds.all SeqAt.shaped = true then .ok (.list ((sortI (dedupS xs)).map .str)) else .bad
    | none => .bad
  | _ => .bad
theorem gSortSet_I : gSortSet = gSortSetI := by
  have e : sortS = sortI := funext sortS_I
  funext d
  unfold gSortSet gSortSetI
  rw [e] <;> rfl
section
variable {X : Cx} {F0 H0 : Hp} {W : WX}
theorem de_sortSetI {a : Expr} {f : DEnv → R PyData} {p p2 q pos : Pos} (hc : X.calm = true) (hu : X.A.units + 80 < cLine) (hg : Gl X "sorted") (hm : X.mg "sorted" = none) (hg2 : Gl X "set") (hm2 : X.mg "set" = none) (ha : DE X F0 H0 W a f)
    (na : starEach [a] X.env = (false, eval a X.env) :: starEach [] X.env := by rfl) (na2 : starEach [Expr.Call (.Name "set" p2) [a] [] q] X.env = (false, eval (Expr.Call (.Name "set" p2) [a] [] q) X.env) :: starEach [] X.env := by rfl) : DE X F0 H0 W (.Call (.Name "sorted" p) [.Call (.Name "set" p2) [a] [] q] [] pos) (f1 gSortSetI f) :=
  gSortSet_I ▸ de_sortSet hc hu hg hm hg2 hm2 ha na na2
end
end DL
namespace DL
open PySem PySem.Spec PyProof.Rows L2
variable [TheW]
def topS (i : Nat) : Stmt := PySem.Challenge.pw_sizestold_k64_whole_polynomials.main.body.getD i (.Pass ⟨0, 0, 0, 0⟩)
def errs : List Str := ["BadWorths", "Lacks", "TooMany", "BadPolynomial"]
structure Top (P : Program) (K : PySem.W.Frag) (mg : Str → Option Value) : Prop where
  z_abs : mg "abs" = none
  z_all : mg "all" = none
  z_bool : mg "bool" = none
  z_dict : mg "dict" = none
  z_enumerate : mg "enumerate" = none
  z_int : mg "int" = none
  z_isinstance : mg "isinstance" = none
  z_len : mg "len" = none
  z_list : mg "list" = none
  z_max : mg "max" = none
  z_min : mg "min" = none
  z_range : mg "range" = none
  z_set : mg "set" = none
  z_sorted : mg "sorted" = none
  z_str : mg "str" = none
  z_sum : mg "sum" = none
  z_tuple : mg "tuple" = none
  z_zip : mg "zip" = none
  a_Lacks_name : HasA K mg "Lacks" "name"
  c_FIGURES : HasC K mg "FIGURES" (.str "0123456789")
  c_FORM : HasC K mg "FORM" (.tuple [(.str "form")])
  c_LETTERS : HasC K mg "LETTERS" (.str "abcdefghijklmnopqrstuvwxyz")
  c_MOST_DEGREE : HasC K mg "MOST_DEGREE" (.int 12)
  c_MOST_NAME : HasC K mg "MOST_NAME" (.int 8)
  c_MOST_PAIRS : HasC K mg "MOST_PAIRS" (.int 400)
  x_BadPolynomial : HasX K mg "BadPolynomial"
  x_BadWorths : HasX K mg "BadWorths"
  x_TooMany : HasX K mg "TooMany"
  l_Lacks : HasL P K mg "Lacks" "lacks "
  t_BadPolynomial : HasT K mg errs "BadPolynomial" ["BadPolynomial"]
  t_BadWorths : HasT K mg errs "BadWorths" ["BadWorths"]
  t_Lacks : HasT K mg errs "Lacks" ["Lacks"]
  d_is_integer : Has K mg "is_integer" (topS 11)
  d_is_whole : Has K mg "is_whole" (topS 12)
  d_is_name : Has K mg "is_name" (topS 13)
  d_are_rows : Has K mg "are_rows" (topS 14)
  d_worths_of : Has K mg "worths_of" (topS 15)
  d_degree_of_term : Has K mg "degree_of_term" (topS 19)
  d__is_term : Has K mg "_is_term" (topS 20)
  d_polynomial_fault : Has K mg "polynomial_fault" (topS 21)
  d_check_polynomial : Has K mg "check_polynomial" (topS 22)
  d_made_polynomial : Has K mg "made_polynomial" (topS 23)
  d_choose_worth : Has K mg "choose_worth" (topS 24)
  d_worth_of_term : Has K mg "worth_of_term" (topS 25)
  d_worth_by_polynomial : Has K mg "worth_by_polynomial" (topS 26)
  d_polynomial_worth : Has K mg "polynomial_worth" (topS 27)
  d_degree_of : Has K mg "degree_of" (topS 28)
  d_chosen_of : Has K mg "chosen_of" (topS 29)
  d_lesser_of : Has K mg "lesser_of" (topS 30)
  d_greater_of : Has K mg "greater_of" (topS 31)
  d__law_draws : Has K mg "_law_draws" (topS 33)
  d__law_choose : Has K mg "_law_choose" (topS 34)
  d__law_poly_worth : Has K mg "_law_poly_worth" (topS 35)
  d__law_poly : Has K mg "_law_poly" (topS 36)
  d__law_is_term : Has K mg "_law_is_term" (topS 37)
  d__law_fault : Has K mg "_law_fault" (topS 38)
  d__law_told : Has K mg "_law_told" (topS 39)
  d_law : Has K mg "law" (topS 40)
def b_is_integer : DEnv → SR := (sRet (fAndV (f1 (gIsi "int") (fVar 0)) (fNotV (f1 (gIsi "bool") (fVar 0)))))
def is_integer (ds : List PyData) : R PyData := retD (b_is_integer (startE 1 ds))
abbrev s_is_integer : Stmt := topS 11
theorem sc_is_integer : FnScope ["value"] ["value"] (defScope s_is_integer) := ⟨rfl, rfl, rfl, by decide +kernel, rfl, by decide +kernel, by decide +kernel⟩
theorem bd_is_integer : BindsAs "is_integer" s_is_integer ["value"] := fun _ _ _ _ _ _ us hl => match us, hl with | [_], _ => rfl
theorem d_is_integer {P : Program} {K : PySem.W.Frag} {mg : Str → Option Value} {base : Heap} (T : Top P K mg) : Def P TheW.w K mg base 1 "is_integer" 1 is_integer :=
  have nd := sc_is_integer.nd
  T.d_is_integer.def sc_is_integer bd_is_integer fun f cdv A outer s H E F0 hr tk => (dss_one (ds_ret (de_and (de_isi ty_int (de_var 0) (by rfl) T.z_isinstance (by rfl) T.z_int (by decide +kernel)) (de_one (de_not (de_isi ty_bool (de_var 0) (by rfl) T.z_isinstance (by rfl) T.z_bool (by decide +kernel)))))))
def b_is_whole : DEnv → SR := (sRet (fAndV (fA is_integer (fCons (fVar 0) fNil)) (fChain (gOrd .le) (gOrd .le) (fVar 1) (fVar 0) (fVar 2))))
def is_whole (ds : List PyData) : R PyData := retD (b_is_whole (startE 3 ds))
abbrev s_is_whole : Stmt := topS 12
theorem sc_is_whole : FnScope ["value", "least", "most"] ["value", "least", "most"] (defScope s_is_whole) := ⟨rfl, rfl, rfl, by decide +kernel, rfl, by decide +kernel, by decide +kernel⟩
theorem bd_is_whole : BindsAs "is_whole" s_is_whole ["value", "least", "most"] := fun _ _ _ _ _ _ us hl => match us, hl with | [_, _, _], _ => rfl
theorem d_is_whole {P : Program} {K : PySem.W.Frag} {mg : Str → Option Value} {base : Heap} (T : Top P K mg) : Def P TheW.w K mg base 2 "is_whole" 3 is_whole :=
  have nd := sc_is_whole.nd
  T.d_is_whole.def sc_is_whole bd_is_whole fun f cdv A outer s H E F0 hr tk => (dss_one (ds_ret (de_and (de_call tk (d_is_integer T) (hr.mono (by decide)) (by rfl) (da_cons (de_var 0) da_nil) (al_cons al_nil)) (de_one (de_chain (op_ord .le (hu66 hr)) (o_ord .le) (nx_ord .le) (op_ord .le (hu66 hr)) (o_ord .le) (nx_ord .le) (de_var 1) (de_var 0) (de_var 2))))))
def b_is_name : DEnv → SR := (sSeq (sIf (fOr (fNot (fTr (f1 (gIsi "str") (fVar 0)))) (fOr (fNot (fB (fChain (gOrd .le) (gOrd .le) (fC (.int 1)) (fA (g1 gLen) (fCons (fVar 0) fNil)) (fC (.int 8))))) (fB (f2 (gInA true) (f2 gIxA (fVar 0) (fC (.int 0))) (fC (.str "abcdefghijklmnopqrstuvwxyz")))))) (sRet (fC (.bool false))) sNext)
    (sRet (fA (g1 gAll) (fCons (fLc (fItA (fVar 0)) (gN 1) fYes (fOrV (f2 (gInA false) (fVar 1) (fC (.str "abcdefghijklmnopqrstuvwxyz"))) (f2 (gInA false) (fVar 1) (fC (.str "0123456789")))) [1]) fNil))))
def is_name (ds : List PyData) : R PyData := retD (b_is_name (startE 2 ds))
abbrev s_is_name : Stmt := topS 13
theorem sc_is_name : FnScope ["value", "sign"] ["value"] (defScope s_is_name) := ⟨rfl, rfl, rfl, by decide +kernel, rfl, by decide +kernel, by decide +kernel⟩
theorem bd_is_name : BindsAs "is_name" s_is_name ["value"] := fun _ _ _ _ _ _ us hl => match us, hl with | [_], _ => rfl
theorem d_is_name {P : Program} {K : PySem.W.Frag} {mg : Str → Option Value} {base : Heap} (T : Top P K mg) : Def P TheW.w K mg base 1 "is_name" 1 is_name :=
  have nd := sc_is_name.nd
  T.d_is_name.def sc_is_name bd_is_name fun f cdv A outer s H E F0 hr tk => (dss_cons (ds_if (dt_w (dw_or (dt_not (dt_truth (de_isi ty_str (de_var 0) (by rfl) T.z_isinstance (by rfl) T.z_str (by decide +kernel)))) (dw_or (dt_not (dt_chain (op_ord .le (hu66 hr)) (o_ord .le) (nx_ord .le) (op_ord .le (hu66 hr)) (o_ord .le) (nx_ord .le) de_int (de_callB call_lenD o_len nx_len (by rfl) T.z_len (by decide +kernel) (da_cons (de_var 0) da_nil)) (T.c_MOST_NAME.de (by rfl)))) (dw_or1 (dt_cmp (op_notInA rfl (hu20 hr)) (o_inA true) (nx_inA true) (de_ix (ix_all rfl (hu20 hr)) o_ixA nx_ixA (de_var 0) de_int (fun _ _ => rfl)) (T.c_LETTERS.de (by rfl)) rfl))))) (dss_one (ds_ret de_bl)) dss_nil)
    (dss_one (ds_ret (de_callB (cr_all rfl) o_all nx_all (by rfl) T.z_all (by decide +kernel) (da_cons (de_lc [("sign", 1)] rfl nd (di_anyA (de_var 0)) (blkOk_by (by rfl)) (fun _ _ _ _ _ => (dg_name 1 nd)) (by decide) (fun _ _ _ _ _ => dts_nil) (fun _ _ _ _ _ => (de_or (de_cmp (op_inA rfl (hu20 hr)) (o_inA false) (nx_inA false) (de_var 1) (T.c_LETTERS.de (by rfl)) rfl) (de_one (de_cmp (op_inA rfl (hu20 hr)) (o_inA false) (nx_inA false) (de_var 1) (T.c_FIGURES.de (by rfl)) rfl))))) da_nil)))))
def b_are_rows : DEnv → SR := (sSeq (sIf (fOr (fNot (fTr (f1 (gIsi "tuple") (fVar 0)))) (fNot (fTr (fA (g1 gAll) (fCons (fLc (fItA (fVar 0)) (gN 1) fYes (fAndV (f1 (gIsi "tuple") (fVar 1)) (f2 gEq (fA (g1 gLen) (fCons (fVar 1) fNil)) (fC (.int 2)))) [1]) fNil))))) (sRet (fC (.bool false))) sNext)
    (sSeq (sIf (fNot (fTr (fA (g1 gAll) (fCons (fLc (fItA (fVar 0)) (gN 1) fYes (fA is_name (fCons (f2 gIxA (fVar 1) (fC (.int 0))) fNil)) [1]) fNil)))) (sRet (fC (.bool false))) sNext)
    (sRet (fA (g1 gAll) (fCons (fLc (fZip (fCons (fVar 0) (fCons (fSl (fVar 0) (fPart (fC (.int 1))) fNo) fNil))) (gT (gsCons (gN 1) (gsCons (gN 2) gsNil))) fYes (f2 (gOrd .lt) (f2 gIxA (fVar 1) (fC (.int 0))) (f2 gIxA (fVar 2) (fC (.int 0)))) [1, 2]) fNil)))))
def are_rows (ds : List PyData) : R PyData := retD (b_are_rows (startE 3 ds))
abbrev s_are_rows : Stmt := topS 14
theorem sc_are_rows : FnScope ["value", "one", "other"] ["value"] (defScope s_are_rows) := ⟨rfl, rfl, rfl, by decide +kernel, rfl, by decide +kernel, by decide +kernel⟩
theorem bd_are_rows : BindsAs "are_rows" s_are_rows ["value"] := fun _ _ _ _ _ _ us hl => match us, hl with | [_], _ => rfl
theorem d_are_rows {P : Program} {K : PySem.W.Frag} {mg : Str → Option Value} {base : Heap} (T : Top P K mg) : Def P TheW.w K mg base 2 "are_rows" 1 are_rows :=
  have nd := sc_are_rows.nd
  T.d_are_rows.def sc_are_rows bd_are_rows fun f cdv A outer s H E F0 hr tk => (dss_cons (ds_if (dt_w (dw_or (dt_not (dt_truth (de_isi ty_tuple (de_var 0) (by rfl) T.z_isinstance (by rfl) T.z_tuple (by decide +kernel)))) (dw_or1 (dt_not (dt_truth (de_callB (cr_all rfl) o_all nx_all (by rfl) T.z_all (by decide +kernel) (da_cons (de_lc [("one", 1)] rfl nd (di_anyA (de_var 0)) (blkOk_by (by rfl)) (fun _ _ _ _ _ => (dg_name 1 nd)) (by decide) (fun _ _ _ _ _ => dts_nil) (fun _ _ _ _ _ => (de_and (de_isi ty_tuple (de_var 1) (by rfl) T.z_isinstance (by rfl) T.z_tuple (by decide +kernel)) (de_one (de_cmp (op_eqD (hu64 hr)) o_eq nx_eq (de_callB call_lenD o_len nx_len (by rfl) T.z_len (by decide +kernel) (da_cons (de_var 1) da_nil)) de_int (nomark _)))))) da_nil))))))) (dss_one (ds_ret de_bl)) dss_nil)
    (dss_cons (ds_if (dt_not (dt_truth (de_callB (cr_all rfl) o_all nx_all (by rfl) T.z_all (by decide +kernel) (da_cons (de_lc [("one", 1)] rfl nd (di_anyA (de_var 0)) (blkOk_by (by rfl)) (fun _ _ _ _ _ => (dg_name 1 nd)) (by decide) (fun _ _ _ _ _ => dts_nil) (fun _ _ _ _ _ => (de_call takes0 (d_is_name T) (hr.mono (by decide)) (by rfl) (da_cons (de_ix (ix_all rfl (hu20 hr)) o_ixA nx_ixA (de_var 1) de_int (fun _ _ => rfl)) da_nil) (al_cons al_nil)))) da_nil)))) (dss_one (ds_ret de_bl)) dss_nil)
    (dss_one (ds_ret (de_callB (cr_all rfl) o_all nx_all (by rfl) T.z_all (by decide +kernel) (da_cons (de_lc [("one", 1), ("other", 2)] rfl nd (di_zip (by rfl) T.z_zip (da_cons (de_var 0) (da_cons (de_slice (de_var 0) (do_some de_int) do_none) da_nil))) (blkOk_by (by rfl)) (fun _ _ _ _ _ => (dg_tup K rfl rfl (dgs_cons (dg_name 1 nd) (dgs_cons (dg_name 2 nd) dgs_nil)))) (by decide) (fun _ _ _ _ _ => dts_nil) (fun _ _ _ _ _ => (de_cmp (op_ord .lt (hu66 hr)) (o_ord .lt) (nx_ord .lt) (de_ix (ix_all rfl (hu20 hr)) o_ixA nx_ixA (de_var 1) de_int (fun _ _ => rfl)) (de_ix (ix_all rfl (hu20 hr)) o_ixA nx_ixA (de_var 2) de_int (fun _ _ => rfl)) (nomark _)))) da_nil))))))
def b_worths_of : DEnv → SR := (sSeq (sIf (fOr (fNot (fTr (fA are_rows (fCons (fVar 0) fNil)))) (fNot (fTr (fA (g1 gAll) (fCons (fLc (fItA (fVar 0)) (gN 1) fYes (fA is_integer (fCons (f2 gIxA (fVar 1) (fC (.int 1))) fNil)) [1]) fNil))))) (fun ρ => .exc ⟨"BadWorths", none⟩ ρ) sNext)
    (sRet (fA (g1 gDictOf) (fCons (fVar 0) fNil))))
def worths_of (ds : List PyData) : R PyData := retD (b_worths_of (startE 2 ds))
abbrev s_worths_of : Stmt := topS 15
theorem sc_worths_of : FnScope ["value", "one"] ["value"] (defScope s_worths_of) := ⟨rfl, rfl, rfl, by decide +kernel, rfl, by decide +kernel, by decide +kernel⟩
theorem bd_worths_of : BindsAs "worths_of" s_worths_of ["value"] := fun _ _ _ _ _ _ us hl => match us, hl with | [_], _ => rfl
theorem d_worths_of {P : Program} {K : PySem.W.Frag} {mg : Str → Option Value} {base : Heap} (T : Top P K mg) : Def P TheW.w K mg base 3 "worths_of" 1 worths_of :=
  have nd := sc_worths_of.nd
  T.d_worths_of.def sc_worths_of bd_worths_of fun f cdv A outer s H E F0 hr tk => (dss_cons (ds_if (dt_w (dw_or (dt_not (dt_truth (de_call tk (d_are_rows T) (hr.mono (by decide)) (by rfl) (da_cons (de_var 0) da_nil) (al_cons al_nil)))) (dw_or1 (dt_not (dt_truth (de_callB (cr_all rfl) o_all nx_all (by rfl) T.z_all (by decide +kernel) (da_cons (de_lc [("one", 1)] rfl nd (di_anyA (de_var 0)) (blkOk_by (by rfl)) (fun _ _ _ _ _ => (dg_name 1 nd)) (by decide) (fun _ _ _ _ _ => dts_nil) (fun _ _ _ _ _ => (de_call takes0 (d_is_integer T) (hr.mono (by decide)) (by rfl) (da_cons (de_ix (ix_all rfl (hu20 hr)) o_ixA nx_ixA (de_var 1) de_int (fun _ _ => rfl)) da_nil) (al_cons al_nil)))) da_nil))))))) (dss_one (ds_raise rfl tk T.x_BadWorths (by rfl))) dss_nil)
    (dss_one (ds_ret (de_callTy (call_dictA rfl rfl (hu20 hr)) o_dictA nx_dictA (by rfl) T.z_dict (by decide +kernel) (da_cons (de_var 0) da_nil)))))
def b_degree_of_term : DEnv → SR := (sRet (fA (g1 gSum) (fCons (fLc (fItA (fVar 0)) (gT (gsCons (gN 1) (gsCons (gN 2) gsNil))) fYes (fVar 2) [1, 2]) fNil)))
def degree_of_term (ds : List PyData) : R PyData := retD (b_degree_of_term (startE 3 ds))
abbrev s_degree_of_term : Stmt := topS 19
theorem sc_degree_of_term : FnScope ["term", "_name", "k"] ["term"] (defScope s_degree_of_term) := ⟨rfl, rfl, rfl, by decide +kernel, rfl, by decide +kernel, by decide +kernel⟩
theorem bd_degree_of_term : BindsAs "degree_of_term" s_degree_of_term ["term"] := fun _ _ _ _ _ _ us hl => match us, hl with | [_], _ => rfl
theorem d_degree_of_term {P : Program} {K : PySem.W.Frag} {mg : Str → Option Value} {base : Heap} (T : Top P K mg) : Def P TheW.w K mg base 1 "degree_of_term" 1 degree_of_term :=
  have nd := sc_degree_of_term.nd
  T.d_degree_of_term.def sc_degree_of_term bd_degree_of_term fun f cdv A outer s H E F0 hr tk => (dss_one (ds_ret (de_callB (cr_sum rfl) o_sum nx_sum (by rfl) T.z_sum (by decide +kernel) (da_cons (de_lc [("_name", 1), ("k", 2)] rfl nd (di_anyA (de_var 0)) (blkOk_by (by rfl)) (fun _ _ _ _ _ => (dg_tup K rfl rfl (dgs_cons (dg_name 1 nd) (dgs_cons (dg_name 2 nd) dgs_nil)))) (by decide) (fun _ _ _ _ _ => dts_nil) (fun _ _ _ _ _ => (de_var 2))) da_nil))))
def b__is_term : DEnv → SR := (sSeq (sIf (fOr (fNot (fTr (fA are_rows (fCons (fVar 0) fNil)))) (fNot (fTr (fA (g1 gAll) (fCons (fLc (fItA (fVar 0)) (gT (gsCons (gN 1) (gsCons (gN 2) gsNil))) fYes (fA is_whole (fCons (fVar 2) (fCons (fC (.int 1)) (fCons (fC (.int 12)) fNil)))) [1, 2]) fNil))))) (sRet (fC (.bool false))) sNext)
    (sRet (f2 (gOrd .le) (fA degree_of_term (fCons (fVar 0) fNil)) (fC (.int 12)))))
def _is_term (ds : List PyData) : R PyData := retD (b__is_term (startE 3 ds))
abbrev s__is_term : Stmt := topS 20
theorem sc__is_term : FnScope ["value", "_name", "k"] ["value"] (defScope s__is_term) := ⟨rfl, rfl, rfl, by decide +kernel, rfl, by decide +kernel, by decide +kernel⟩
theorem bd__is_term : BindsAs "_is_term" s__is_term ["value"] := fun _ _ _ _ _ _ us hl => match us, hl with | [_], _ => rfl
theorem d__is_term {P : Program} {K : PySem.W.Frag} {mg : Str → Option Value} {base : Heap} (T : Top P K mg) : Def P TheW.w K mg base 3 "_is_term" 1 _is_term :=
  have nd := sc__is_term.nd
  T.d__is_term.def sc__is_term bd__is_term fun f cdv A outer s H E F0 hr tk => (dss_cons (ds_if (dt_w (dw_or (dt_not (dt_truth (de_call tk (d_are_rows T) (hr.mono (by decide)) (by rfl) (da_cons (de_var 0) da_nil) (al_cons al_nil)))) (dw_or1 (dt_not (dt_truth (de_callB (cr_all rfl) o_all nx_all (by rfl) T.z_all (by decide +kernel) (da_cons (de_lc [("_name", 1), ("k", 2)] rfl nd (di_anyA (de_var 0)) (blkOk_by (by rfl)) (fun _ _ _ _ _ => (dg_tup K rfl rfl (dgs_cons (dg_name 1 nd) (dgs_cons (dg_name 2 nd) dgs_nil)))) (by decide) (fun _ _ _ _ _ => dts_nil) (fun _ _ _ _ _ => (de_call takes0 (d_is_whole T) (hr.mono (by decide)) (by rfl) (da_cons (de_var 2) (da_cons de_int (da_cons (T.c_MOST_DEGREE.de (by rfl)) da_nil))) (al_cons (al_cons (al_cons al_nil)))))) da_nil))))))) (dss_one (ds_ret de_bl)) dss_nil)
    (dss_one (ds_ret (de_cmp (op_ord .le (hu66 hr)) (o_ord .le) (nx_ord .le) (de_call tk (d_degree_of_term T) (hr.mono (by decide)) (by rfl) (da_cons (de_var 0) da_nil) (al_cons al_nil)) (T.c_MOST_DEGREE.de (by rfl)) (nomark _)))))
def b_polynomial_fault : DEnv → SR := (sSeq (sIf (fNot (fTr (f1 (gIsi "tuple") (fVar 0)))) (sRet (fC (.tuple [(.str "form")]))) sNext)
    (sSeq (sFor (fEnum (fCons (fVar 0) fNil)) (gT (gsCons (gN 1) (gsCons (gN 2) gsNil))) (sSeq (sIf (fOr (fNot (fTr (f1 (gIsi "tuple") (fVar 2)))) (fOr (fB (f2 gNe (fA (g1 gLen) (fCons (fVar 2) fNil)) (fC (.int 2)))) (fNot (fTr (fA _is_term (fCons (f2 gIxA (fVar 2) (fC (.int 0))) fNil)))))) (sRet (fTup (fCons (fC (.str "pair")) (fCons (fVar 1) fNil)))) sNext)
    (sIf (fOr (fNot (fTr (fA is_integer (fCons (f2 gIxA (fVar 2) (fC (.int 1))) fNil)))) (fOr (fB (f2 gEq (f2 gIxA (fVar 2) (fC (.int 1))) (fC (.int 0)))) (fAnd (fB (f2 (gOrd .gt) (fVar 1) (fC (.int 0)))) (fB (f2 (gOrd .le) (f2 gIxA (fVar 2) (fC (.int 0))) (f2 gIxA (f2 gIxA (fVar 0) (f2 gSub (fVar 1) (fC (.int 1)))) (fC (.int 0)))))))) (sRet (fTup (fCons (fC (.str "pair")) (fCons (fVar 1) fNil)))) sNext)))
    (sRet (fC .none))))
def polynomial_fault (ds : List PyData) : R PyData := retD (b_polynomial_fault (startE 3 ds))
abbrev s_polynomial_fault : Stmt := topS 21
theorem sc_polynomial_fault : FnScope ["value", "number", "one"] ["value"] (defScope s_polynomial_fault) := ⟨rfl, rfl, rfl, by decide +kernel, rfl, by decide +kernel, by decide +kernel⟩
theorem bd_polynomial_fault : BindsAs "polynomial_fault" s_polynomial_fault ["value"] := fun _ _ _ _ _ _ us hl => match us, hl with | [_], _ => rfl
theorem d_polynomial_fault {P : Program} {K : PySem.W.Frag} {mg : Str → Option Value} {base : Heap} (T : Top P K mg) : Def P TheW.w K mg base 4 "polynomial_fault" 1 polynomial_fault :=
  have nd := sc_polynomial_fault.nd
  T.d_polynomial_fault.def sc_polynomial_fault bd_polynomial_fault fun f cdv A outer s H E F0 hr tk => (dss_cons (ds_if (dt_not (dt_truth (de_isi ty_tuple (de_var 0) (by rfl) T.z_isinstance (by rfl) T.z_tuple (by decide +kernel)))) (dss_one (ds_ret (T.c_FORM.de (by rfl)))) dss_nil)
    (dss_cons (ds_for (passes_of rfl) rfl (di_enum (by rfl) T.z_enumerate (da_cons (de_var 0) da_nil)) (dg_tup K rfl rfl (dgs_cons (dg_name 1 nd) (dgs_cons (dg_name 2 nd) dgs_nil))) (dss_cons (ds_if (dt_w (dw_or (dt_not (dt_truth (de_isi ty_tuple (de_var 2) (by rfl) T.z_isinstance (by rfl) T.z_tuple (by decide +kernel)))) (dw_or (dt_cmp (op_neD (hu64 hr)) o_ne nx_ne (de_callB call_lenD o_len nx_len (by rfl) T.z_len (by decide +kernel) (da_cons (de_var 2) da_nil)) de_int (nomark _)) (dw_or1 (dt_not (dt_truth (de_call tk (d__is_term T) (hr.mono (by decide)) (by rfl) (da_cons (de_ix (ix_all rfl (hu20 hr)) o_ixA nx_ixA (de_var 2) de_int (fun _ _ => rfl)) da_nil) (al_cons al_nil)))))))) (dss_one (ds_ret (de_tup (da_cons de_str (da_cons (de_var 1) da_nil))))) dss_nil)
    (dss_one (ds_if (dt_w (dw_or (dt_not (dt_truth (de_call tk (d_is_integer T) (hr.mono (by decide)) (by rfl) (da_cons (de_ix (ix_all rfl (hu20 hr)) o_ixA nx_ixA (de_var 2) de_int (fun _ _ => rfl)) da_nil) (al_cons al_nil)))) (dw_or (dt_cmp (op_eqD (hu64 hr)) o_eq nx_eq (de_ix (ix_all rfl (hu20 hr)) o_ixA nx_ixA (de_var 2) de_int (fun _ _ => rfl)) de_int (nomark _)) (dw_or1 (dt_w (dw_and (dt_cmp (op_ord .gt (hu66 hr)) (o_ord .gt) (nx_ord .gt) (de_var 1) de_int (nomark _)) (dw_and1 (dt_cmp (op_ord .le (hu66 hr)) (o_ord .le) (nx_ord .le) (de_ix (ix_all rfl (hu20 hr)) o_ixA nx_ixA (de_var 2) de_int (fun _ _ => rfl)) (de_ix (ix_all rfl (hu20 hr)) o_ixA nx_ixA (de_ix (ix_all rfl (hu20 hr)) o_ixA nx_ixA (de_var 0) (de_op op_sub o_sub nx_sub (de_var 1) de_int) (fun _ _ => rfl)) de_int (fun _ _ => rfl)) (nomark _))))))))) (dss_one (ds_ret (de_tup (da_cons de_str (da_cons (de_var 1) da_nil))))) dss_nil))))
    (dss_one (ds_ret de_non))))
def b_check_polynomial : DEnv → SR := (sIf (fB (f2 gNotN (fA polynomial_fault (fCons (fVar 0) fNil)) (fC .none))) (fun ρ => .exc ⟨"BadPolynomial", none⟩ ρ) sNext)
def check_polynomial (ds : List PyData) : R PyData := retD (b_check_polynomial (startE 1 ds))
abbrev s_check_polynomial : Stmt := topS 22
theorem sc_check_polynomial : FnScope ["value"] ["value"] (defScope s_check_polynomial) := ⟨rfl, rfl, rfl, by decide +kernel, rfl, by decide +kernel, by decide +kernel⟩
theorem bd_check_polynomial : BindsAs "check_polynomial" s_check_polynomial ["value"] := fun _ _ _ _ _ _ us hl => match us, hl with | [_], _ => rfl
theorem d_check_polynomial {P : Program} {K : PySem.W.Frag} {mg : Str → Option Value} {base : Heap} (T : Top P K mg) : Def P TheW.w K mg base 5 "check_polynomial" 1 check_polynomial :=
  have nd := sc_check_polynomial.nd
  T.d_check_polynomial.def sc_check_polynomial bd_check_polynomial fun f cdv A outer s H E F0 hr tk => (dss_one (ds_if (dt_cmp op_notN o_notN nx_notN (de_call tk (d_polynomial_fault T) (hr.mono (by decide)) (by rfl) (da_cons (de_var 0) da_nil) (al_cons al_nil)) de_non (nomark _)) (dss_one (ds_raise rfl tk T.x_BadPolynomial (by rfl))) dss_nil))
def b_made_polynomial : DEnv → SR := (sSeq (sAsg (gN 1) (fA (g1 gTuple) (fCons (fLc (fItA (fA (g1 gSortedB) (fCons (fVar 0) fNil))) (gN 2) (fB (f2 gNe (f2 gIxA (fVar 0) (fVar 2)) (fC (.int 0)))) (fTup (fCons (fVar 2) (fCons (f2 gIxA (fVar 0) (fVar 2)) fNil))) [2]) fNil)))
    (sSeq (sIf (fOr (fB (f2 (gOrd .gt) (fA (g1 gLen) (fCons (fVar 1) fNil)) (fC (.int 400)))) (fB (f2 (gOrd .gt) (fA (gMM maxI) (fCons (f2 gAdd (fLst (fCons (fC (.int 0)) fNil)) (fLc (fItA (fVar 1)) (gT (gsCons (gN 2) (gsCons (gN 3) gsNil))) fYes (fA degree_of_term (fCons (fVar 2) fNil)) [2, 3])) fNil)) (fC (.int 12))))) (fun ρ => .exc ⟨"TooMany", none⟩ ρ) sNext)
    (sRet (fVar 1))))
def made_polynomial (ds : List PyData) : R PyData := retD (b_made_polynomial (startE 4 ds))
abbrev s_made_polynomial : Stmt := topS 23
theorem sc_made_polynomial : FnScope ["factors", "found", "term", "_factor"] ["factors"] (defScope s_made_polynomial) := ⟨rfl, rfl, rfl, by decide +kernel, rfl, by decide +kernel, by decide +kernel⟩
theorem bd_made_polynomial : BindsAs "made_polynomial" s_made_polynomial ["factors"] := fun _ _ _ _ _ _ us hl => match us, hl with | [_], _ => rfl
theorem d_made_polynomial {P : Program} {K : PySem.W.Frag} {mg : Str → Option Value} {base : Heap} (T : Top P K mg) : Def P TheW.w K mg base 2 "made_polynomial" 1 made_polynomial :=
  have nd := sc_made_polynomial.nd
  T.d_made_polynomial.def sc_made_polynomial bd_made_polynomial fun f cdv A outer s H E F0 hr tk => (dss_cons (ds_set 1 nd (de_callTy call_tupleF o_tuple nx_tuple (by rfl) T.z_tuple (by decide +kernel) (da_cons (de_lc [("term", 2)] rfl nd (di_anyA (de_callB (call_sortedA rfl (hu80 hr)) o_sortedB nx_sortedB (by rfl) T.z_sorted (by decide +kernel) (da_cons (de_var 0) da_nil))) (blkOk_by (by rfl)) (fun _ _ _ _ _ => (dg_name 2 nd)) (by decide) (fun _ _ _ _ _ => (dts_one (dt_cmp (op_neD (hu64 hr)) o_ne nx_ne (de_ix (ix_all rfl (hu20 hr)) o_ixA nx_ixA (de_var 0) (de_var 2) (fun _ _ => rfl)) de_int (nomark _)))) (fun _ _ _ _ _ => (de_tup (da_cons (de_var 2) (da_cons (de_ix (ix_all rfl (hu20 hr)) o_ixA nx_ixA (de_var 0) (de_var 2) (fun _ _ => rfl)) da_nil))))) da_nil)))
    (dss_cons (ds_if (dt_w (dw_or (dt_cmp (op_ord .gt (hu66 hr)) (o_ord .gt) (nx_ord .gt) (de_callB call_lenD o_len nx_len (by rfl) T.z_len (by decide +kernel) (da_cons (de_var 1) da_nil)) (T.c_MOST_PAIRS.de (by rfl)) (nomark _)) (dw_or1 (dt_cmp (op_ord .gt (hu66 hr)) (o_ord .gt) (nx_ord .gt) (de_callB (call_maxD rfl (hu64 hr)) (o_mm rfl) nx_mm (by rfl) T.z_max (by decide +kernel) (da_cons (de_op op_addD o_add nx_add (de_lst (da_cons de_int da_nil)) (de_lc [("term", 2), ("_factor", 3)] rfl nd (di_anyA (de_var 1)) (blkOk_by (by rfl)) (fun _ _ _ _ _ => (dg_tup K rfl rfl (dgs_cons (dg_name 2 nd) (dgs_cons (dg_name 3 nd) dgs_nil)))) (by decide) (fun _ _ _ _ _ => dts_nil) (fun _ _ _ _ _ => (de_call takes0 (d_degree_of_term T) (hr.mono (by decide)) (by rfl) (da_cons (de_var 2) da_nil) (al_cons al_nil))))) da_nil)) (T.c_MOST_DEGREE.de (by rfl)) (nomark _))))) (dss_one (ds_raise rfl tk T.x_TooMany (by rfl))) dss_nil)
    (dss_one (ds_ret (de_var 1)))))
def b_choose_worth : DEnv → SR := (sSeq (sAsg (gN 2) (fC (.int 1)))
    (sSeq (sFor (fRange1 (fCons (fVar 1) fNil)) (gN 3) (sAsg (gN 2) (f2 gFdiv (f2 gMul (fVar 2) (f2 gSub (fVar 0) (fVar 3))) (f2 gAdd (fVar 3) (fC (.int 1))))))
    (sRet (fVar 2))))
def choose_worth (ds : List PyData) : R PyData := retD (b_choose_worth (startE 4 ds))
abbrev s_choose_worth : Stmt := topS 24
theorem sc_choose_worth : FnScope ["number", "k", "found", "turn"] ["number", "k"] (defScope s_choose_worth) := ⟨rfl, rfl, rfl, by decide +kernel, rfl, by decide +kernel, by decide +kernel⟩
theorem bd_choose_worth : BindsAs "choose_worth" s_choose_worth ["number", "k"] := fun _ _ _ _ _ _ us hl => match us, hl with | [_, _], _ => rfl
theorem d_choose_worth {P : Program} {K : PySem.W.Frag} {mg : Str → Option Value} {base : Heap} (T : Top P K mg) : Def P TheW.w K mg base 1 "choose_worth" 2 choose_worth :=
  have nd := sc_choose_worth.nd
  T.d_choose_worth.def sc_choose_worth bd_choose_worth fun f cdv A outer s H E F0 hr tk => (dss_cons (ds_set 2 nd de_int)
    (dss_cons (ds_for (passes_of rfl) rfl (di_range1 (by rfl) T.z_range (da_cons (de_var 1) da_nil)) (dg_name 3 nd) (dss_one (ds_set 2 nd (de_op op_fdivW o_fdiv nx_fdiv (de_op op_mulW o_mul nx_mul (de_var 2) (de_op op_sub o_sub nx_sub (de_var 0) (de_var 3))) (de_op op_addD o_add nx_add (de_var 3) de_int)))))
    (dss_one (ds_ret (de_var 2)))))
def b_worth_of_term : DEnv → SR := (sSeq (sAsg (gN 2) (fC (.int 1)))
    (sSeq (sFor (fItA (fVar 0)) (gT (gsCons (gN 3) (gsCons (gN 4) gsNil))) (sAug 2 gMul (fA choose_worth (fCons (f2 gIxA (fVar 1) (fVar 3)) (fCons (fVar 4) fNil)))))
    (sRet (fVar 2))))
def worth_of_term (ds : List PyData) : R PyData := retD (b_worth_of_term (startE 5 ds))
abbrev s_worth_of_term : Stmt := topS 25
theorem sc_worth_of_term : FnScope ["term", "worths", "found", "name", "k"] ["term", "worths"] (defScope s_worth_of_term) := ⟨rfl, rfl, rfl, by decide +kernel, rfl, by decide +kernel, by decide +kernel⟩
theorem bd_worth_of_term : BindsAs "worth_of_term" s_worth_of_term ["term", "worths"] := fun _ _ _ _ _ _ us hl => match us, hl with | [_, _], _ => rfl
theorem d_worth_of_term {P : Program} {K : PySem.W.Frag} {mg : Str → Option Value} {base : Heap} (T : Top P K mg) : Def P TheW.w K mg base 2 "worth_of_term" 2 worth_of_term :=
  have nd := sc_worth_of_term.nd
  T.d_worth_of_term.def sc_worth_of_term bd_worth_of_term fun f cdv A outer s H E F0 hr tk => (dss_cons (ds_set 2 nd de_int)
    (dss_cons (ds_for (passes_of rfl) rfl (di_anyA (de_var 0)) (dg_tup K rfl rfl (dgs_cons (dg_name 3 nd) (dgs_cons (dg_name 4 nd) dgs_nil))) (dss_one (ds_aug 2 nd iop_mulW o_mul nx_mul (de_call tk (d_choose_worth T) (hr.mono (by decide)) (by rfl) (da_cons (de_ix (ix_all rfl (hu20 hr)) o_ixA nx_ixA (de_var 1) (de_var 3) (fun _ _ => rfl)) (da_cons (de_var 4) da_nil)) (al_cons (al_cons al_nil))))))
    (dss_one (ds_ret (de_var 2)))))
def b_worth_by_polynomial : DEnv → SR := (sRet (fA (g1 gSum) (fCons (fLc (fItA (fVar 0)) (gT (gsCons (gN 2) (gsCons (gN 3) gsNil))) fYes (f2 gMul (fVar 3) (fA worth_of_term (fCons (fVar 2) (fCons (fVar 1) fNil)))) [2, 3]) fNil)))
def worth_by_polynomial (ds : List PyData) : R PyData := retD (b_worth_by_polynomial (startE 4 ds))
abbrev s_worth_by_polynomial : Stmt := topS 26
theorem sc_worth_by_polynomial : FnScope ["polynomial", "worths", "term", "factor"] ["polynomial", "worths"] (defScope s_worth_by_polynomial) := ⟨rfl, rfl, rfl, by decide +kernel, rfl, by decide +kernel, by decide +kernel⟩
theorem bd_worth_by_polynomial : BindsAs "worth_by_polynomial" s_worth_by_polynomial ["polynomial", "worths"] := fun _ _ _ _ _ _ us hl => match us, hl with | [_, _], _ => rfl
theorem d_worth_by_polynomial {P : Program} {K : PySem.W.Frag} {mg : Str → Option Value} {base : Heap} (T : Top P K mg) : Def P TheW.w K mg base 3 "worth_by_polynomial" 2 worth_by_polynomial :=
  have nd := sc_worth_by_polynomial.nd
  T.d_worth_by_polynomial.def sc_worth_by_polynomial bd_worth_by_polynomial fun f cdv A outer s H E F0 hr tk => (dss_one (ds_ret (de_callB (cr_sum rfl) o_sum nx_sum (by rfl) T.z_sum (by decide +kernel) (da_cons (de_lc [("term", 2), ("factor", 3)] rfl nd (di_anyA (de_var 0)) (blkOk_by (by rfl)) (fun _ _ _ _ _ => (dg_tup K rfl rfl (dgs_cons (dg_name 2 nd) (dgs_cons (dg_name 3 nd) dgs_nil)))) (by decide) (fun _ _ _ _ _ => dts_nil) (fun _ _ _ _ _ => (de_op op_mulW o_mul nx_mul (de_var 3) (de_call takes0 (d_worth_of_term T) (hr.mono (by decide)) (by rfl) (da_cons (de_var 2) (da_cons (de_var 1) da_nil)) (al_cons (al_cons al_nil)))))) da_nil))))
def b_polynomial_worth : DEnv → SR := (sSeq (sDrop (fA check_polynomial (fCons (fVar 0) fNil)))
    (sSeq (sAsg (gN 2) (fA worths_of (fCons (fVar 1) fNil)))
    (sSeq (sAsg (gN 3) (fA (g1 gSortedB) (fCons (fOwn (oDc2 (fItA (fVar 0)) (gT (gsCons (gN 5) (gsCons (gN 6) gsNil))) fYes (fItA (fVar 5)) (gT (gsCons (gN 4) (gsCons (gN 7) gsNil))) fYes (fVar 4) (fC (.bool true)) [5, 6, 4, 7] [4, 7])) fNil)))
    (sSeq (sFor (fItA (fVar 3)) (gN 4) (sIf (fB (f2 (gInA true) (fVar 4) (fVar 2))) (sRaiseL "Lacks" (fVar 4)) sNext))
    (sRet (fA worth_by_polynomial (fCons (fVar 0) (fCons (fVar 2) fNil))))))))
def polynomial_worth (ds : List PyData) : R PyData := retD (b_polynomial_worth (startE 8 ds))
abbrev s_polynomial_worth : Stmt := topS 27
theorem sc_polynomial_worth : FnScope ["polynomial", "worths", "known", "names", "name", "term", "_factor", "_k"] ["polynomial", "worths"] (defScope s_polynomial_worth) := ⟨rfl, rfl, rfl, by decide +kernel, rfl, by decide +kernel, by decide +kernel⟩
theorem bd_polynomial_worth : BindsAs "polynomial_worth" s_polynomial_worth ["polynomial", "worths"] := fun _ _ _ _ _ _ us hl => match us, hl with | [_, _], _ => rfl
theorem d_polynomial_worth {P : Program} {K : PySem.W.Frag} {mg : Str → Option Value} {base : Heap} (T : Top P K mg) : Def P TheW.w K mg base 6 "polynomial_worth" 2 polynomial_worth :=
  have nd := sc_polynomial_worth.nd
  T.d_polynomial_worth.def sc_polynomial_worth bd_polynomial_worth fun f cdv A outer s H E F0 hr tk => (dss_cons (ds_expr (de_call tk (d_check_polynomial T) (hr.mono (by decide)) (by rfl) (da_cons (de_var 0) da_nil) (al_cons al_nil)))
    (dss_cons (ds_set 2 nd (de_call tk (d_worths_of T) (hr.mono (by decide)) (by rfl) (da_cons (de_var 1) da_nil) (al_cons al_nil)))
    (dss_cons (ds_set 3 nd (de_callB (call_sortedA rfl (hu80 hr)) o_sortedB nx_sortedB (by rfl) T.z_sorted (by decide +kernel) (da_cons (de_own (dow_dc2 [("term", 5), ("_factor", 6), ("name", 4), ("_k", 7)] [4, 7] rfl nd (di_anyA (de_var 0)) (blkOk_by (by rfl)) (by decide) (fun _ _ _ _ _ => (dg_tup K rfl rfl (dgs_cons (dg_name 5 nd) (dgs_cons (dg_name 6 nd) dgs_nil)))) (by decide) (fun _ _ _ _ _ => dts_nil) (di1_any (fun _ _ _ _ _ => (de_var 5))) (fun _ _ _ _ _ => (dg_tup K rfl rfl (dgs_cons (dg_name 4 nd) (dgs_cons (dg_name 7 nd) dgs_nil)))) (by decide) (fun _ _ _ _ _ => dts_nil) (fun _ _ _ _ _ => (de_var 4)) (fun _ _ _ _ _ => de_bl))) da_nil)))
    (dss_cons (ds_for (passes_of rfl) rfl (di_anyA (de_var 3)) (dg_name 4 nd) (dss_one (ds_if (dt_cmp (op_notInA rfl (hu20 hr)) (o_inA true) (nx_inA true) (de_var 4) (de_var 2) rfl) (dss_one (ds_raiseL rfl tk T.l_Lacks hr (de_var 4) (by rfl))) dss_nil)))
    (dss_one (ds_ret (de_call tk (d_worth_by_polynomial T) (hr.mono (by decide)) (by rfl) (da_cons (de_var 0) (da_cons (de_var 2) da_nil)) (al_cons (al_cons al_nil)))))))))
def b_degree_of : DEnv → SR := (sSeq (sDrop (fA check_polynomial (fCons (fVar 0) fNil)))
    (sRet (fA (gMM maxI) (fCons (f2 gAdd (fLst (fCons (f1 gNeg (fC (.int 1))) fNil)) (fLc (fItA (fVar 0)) (gT (gsCons (gN 1) (gsCons (gN 2) gsNil))) fYes (fA degree_of_term (fCons (fVar 1) fNil)) [1, 2])) fNil))))
def degree_of (ds : List PyData) : R PyData := retD (b_degree_of (startE 3 ds))
abbrev s_degree_of : Stmt := topS 28
theorem sc_degree_of : FnScope ["polynomial", "term", "_factor"] ["polynomial"] (defScope s_degree_of) := ⟨rfl, rfl, rfl, by decide +kernel, rfl, by decide +kernel, by decide +kernel⟩
theorem bd_degree_of : BindsAs "degree_of" s_degree_of ["polynomial"] := fun _ _ _ _ _ _ us hl => match us, hl with | [_], _ => rfl
theorem d_degree_of {P : Program} {K : PySem.W.Frag} {mg : Str → Option Value} {base : Heap} (T : Top P K mg) : Def P TheW.w K mg base 6 "degree_of" 1 degree_of :=
  have nd := sc_degree_of.nd
  T.d_degree_of.def sc_degree_of bd_degree_of fun f cdv A outer s H E F0 hr tk => (dss_cons (ds_expr (de_call tk (d_check_polynomial T) (hr.mono (by decide)) (by rfl) (da_cons (de_var 0) da_nil) (al_cons al_nil)))
    (dss_one (ds_ret (de_callB (call_maxD rfl (hu64 hr)) (o_mm rfl) nx_mm (by rfl) T.z_max (by decide +kernel) (da_cons (de_op op_addD o_add nx_add (de_lst (da_cons (de_un un_neg o_neg nx_neg de_int) da_nil)) (de_lc [("term", 1), ("_factor", 2)] rfl nd (di_anyA (de_var 0)) (blkOk_by (by rfl)) (fun _ _ _ _ _ => (dg_tup K rfl rfl (dgs_cons (dg_name 1 nd) (dgs_cons (dg_name 2 nd) dgs_nil)))) (by decide) (fun _ _ _ _ _ => dts_nil) (fun _ _ _ _ _ => (de_call takes0 (d_degree_of_term T) (hr.mono (by decide)) (by rfl) (da_cons (de_var 1) da_nil) (al_cons al_nil))))) da_nil)))))
def b_chosen_of : DEnv → SR := (sSeq (sPar3O 3 4 5 (fA (g1 gDictOf) (fCons (fVar 0) fNil)) (fA (g1 gDictOf) (fCons (fVar 1) fNil)) oDictN)
    (sSeq (sFor (fItA (f2 gAdd (fA (g1 gListA) (fCons (fVar 3) fNil)) (fLc (fItA (fVar 4)) (gN 8) (fB (f2 (gInA true) (fVar 8) (fVar 3))) (fVar 8) [8]))) (gN 6) (sSeq (sAsg (gN 7) (fTup (fCons (fGet2 (fVar 3) (fVar 6) (fC (.int 0))) (fCons (fGet2 (fVar 4) (fVar 6) (fC (.int 0))) fNil))))
    (sPutN 5 (fVar 6) (fIf (fTr (fVar 2)) (fA (gMM minI) (fCons (fVar 7) fNil)) (fA (gMM maxI) (fCons (fVar 7) fNil))))))
    (fun ρ => (sRet (fA made_polynomial (fCons (fVar 5) fNil))) (frzE 5 ρ))))
def chosen_of (ds : List PyData) : R PyData := retD (b_chosen_of (startE 9 ds))
abbrev s_chosen_of : Stmt := topS 29
theorem sc_chosen_of : FnScope ["one", "other", "is_lesser", "first", "second", "found", "term", "pair", "own"] ["one", "other", "is_lesser"] (defScope s_chosen_of) := ⟨rfl, rfl, rfl, by decide +kernel, rfl, by decide +kernel, by decide +kernel⟩
theorem bd_chosen_of : BindsAs "chosen_of" s_chosen_of ["one", "other", "is_lesser"] := fun _ _ _ _ _ _ us hl => match us, hl with | [_, _, _], _ => rfl
theorem d_chosen_of {P : Program} {K : PySem.W.Frag} {mg : Str → Option Value} {base : Heap} (T : Top P K mg) : Def P TheW.w K mg base 3 "chosen_of" 3 chosen_of :=
  have nd := sc_chosen_of.nd
  T.d_chosen_of.def sc_chosen_of bd_chosen_of fun f cdv A outer s H E F0 hr tk => (dss_cons (ds_par3O 3 4 5 K rfl rfl nd (de_callTy (call_dictA rfl rfl (hu20 hr)) o_dictA nx_dictA (by rfl) T.z_dict (by decide +kernel) (da_cons (de_var 0) da_nil)) (de_callTy (call_dictA rfl rfl (hu20 hr)) o_dictA nx_dictA (by rfl) T.z_dict (by decide +kernel) (da_cons (de_var 1) da_nil)) dow_dictN)
    (dss_cons (ds_for (passes_of rfl) rfl (di_anyA (de_op op_addD o_add nx_add (de_callTy (call_listA rfl) o_listA nx_listA (by rfl) T.z_list (by decide +kernel) (da_cons (de_var 3) da_nil)) (de_lc [("own", 8)] rfl nd (di_anyA (de_var 4)) (blkOk_by (by rfl)) (fun _ _ _ _ _ => (dg_name 8 nd)) (by decide) (fun _ _ _ _ _ => (dts_one (dt_cmp (op_notInA rfl (hu20 hr)) (o_inA true) (nx_inA true) (de_var 8) (de_var 3) rfl))) (fun _ _ _ _ _ => (de_var 8))))) (dg_name 6 nd) (dss_cons (ds_set 7 nd (de_tup (da_cons (de_get2 rfl (hu20 hr) (de_var 3) (de_var 6) de_int ⟨by rfl, by rfl, by rfl, by rfl⟩) (da_cons (de_get2 rfl (hu20 hr) (de_var 4) (de_var 6) de_int ⟨by rfl, by rfl, by rfl, by rfl⟩) da_nil))))
    (dss_one (ds_putN 5 rfl (hu20 hr) (de_var 6) (de_if (dt_truth (de_var 2)) (de_callB (call_minD rfl (hu64 hr)) (o_mm rfl) nx_mm (by rfl) T.z_min (by decide +kernel) (da_cons (de_var 7) da_nil)) (de_callB (call_maxD rfl (hu64 hr)) (o_mm rfl) nx_mm (by rfl) T.z_max (by decide +kernel) (da_cons (de_var 7) da_nil)))))))
    (dss_one (ds_frz 5 (ds_ret (de_call tk (d_made_polynomial T) (hr.mono (by decide)) (by rfl) (da_cons (de_var 5) da_nil) (al_cons al_nil)))))))
def b_lesser_of : DEnv → SR := (sSeq (sDrop (fA check_polynomial (fCons (fVar 0) fNil)))
    (sSeq (sDrop (fA check_polynomial (fCons (fVar 1) fNil)))
    (sRet (fA chosen_of (fCons (fVar 0) (fCons (fVar 1) (fCons (fC (.bool true)) fNil)))))))
def lesser_of (ds : List PyData) : R PyData := retD (b_lesser_of (startE 2 ds))
abbrev s_lesser_of : Stmt := topS 30
theorem sc_lesser_of : FnScope ["one", "other"] ["one", "other"] (defScope s_lesser_of) := ⟨rfl, rfl, rfl, by decide +kernel, rfl, by decide +kernel, by decide +kernel⟩
theorem bd_lesser_of : BindsAs "lesser_of" s_lesser_of ["one", "other"] := fun _ _ _ _ _ _ us hl => match us, hl with | [_, _], _ => rfl
theorem d_lesser_of {P : Program} {K : PySem.W.Frag} {mg : Str → Option Value} {base : Heap} (T : Top P K mg) : Def P TheW.w K mg base 6 "lesser_of" 2 lesser_of :=
  have nd := sc_lesser_of.nd
  T.d_lesser_of.def sc_lesser_of bd_lesser_of fun f cdv A outer s H E F0 hr tk => (dss_cons (ds_expr (de_call tk (d_check_polynomial T) (hr.mono (by decide)) (by rfl) (da_cons (de_var 0) da_nil) (al_cons al_nil)))
    (dss_cons (ds_expr (de_call tk (d_check_polynomial T) (hr.mono (by decide)) (by rfl) (da_cons (de_var 1) da_nil) (al_cons al_nil)))
    (dss_one (ds_ret (de_call tk (d_chosen_of T) (hr.mono (by decide)) (by rfl) (da_cons (de_var 0) (da_cons (de_var 1) (da_cons de_bl da_nil))) (al_cons (al_cons (al_cons al_nil))))))))
def b_greater_of : DEnv → SR := (sSeq (sDrop (fA check_polynomial (fCons (fVar 0) fNil)))
    (sSeq (sDrop (fA check_polynomial (fCons (fVar 1) fNil)))
    (sRet (fA chosen_of (fCons (fVar 0) (fCons (fVar 1) (fCons (fC (.bool false)) fNil)))))))
def greater_of (ds : List PyData) : R PyData := retD (b_greater_of (startE 2 ds))
abbrev s_greater_of : Stmt := topS 31
theorem sc_greater_of : FnScope ["one", "other"] ["one", "other"] (defScope s_greater_of) := ⟨rfl, rfl, rfl, by decide +kernel, rfl, by decide +kernel, by decide +kernel⟩
theorem bd_greater_of : BindsAs "greater_of" s_greater_of ["one", "other"] := fun _ _ _ _ _ _ us hl => match us, hl with | [_, _], _ => rfl
theorem d_greater_of {P : Program} {K : PySem.W.Frag} {mg : Str → Option Value} {base : Heap} (T : Top P K mg) : Def P TheW.w K mg base 6 "greater_of" 2 greater_of :=
  have nd := sc_greater_of.nd
  T.d_greater_of.def sc_greater_of bd_greater_of fun f cdv A outer s H E F0 hr tk => (dss_cons (ds_expr (de_call tk (d_check_polynomial T) (hr.mono (by decide)) (by rfl) (da_cons (de_var 0) da_nil) (al_cons al_nil)))
    (dss_cons (ds_expr (de_call tk (d_check_polynomial T) (hr.mono (by decide)) (by rfl) (da_cons (de_var 1) da_nil) (al_cons al_nil)))
    (dss_one (ds_ret (de_call tk (d_chosen_of T) (hr.mono (by decide)) (by rfl) (da_cons (de_var 0) (da_cons (de_var 1) (da_cons de_bl da_nil))) (al_cons (al_cons (al_cons al_nil))))))))
def b__law_draws : DEnv → SR := (sSeq (sSetO 2 (oLst fNil))
    (sSeq (sAsg (gN 3) (fC (.int 7)))
    (sSeq (sFor (fItA (fSl (fVar 0) fNo (fPart (fC (.int 63))))) (gN 4) (sSeq (sAsg (gN 5) (fA (g1 gAbs) (fCons (fVar 4) fNil)))
    (sSeq (sAsg (gN 3) (f2 gMod (fA (g1 gInt) (fCons (f2 gAdd (f2 gAdd (f2 gMul (fVar 3) (fC (.int 48271))) (fVar 5)) (fC (.int 11))) fNil)) (fC (.int 2147483647))))
    (sIf (fB (f2 (gOrd .ge) (fVar 5) (f2 gPow (fC (.int 10)) (fC (.int 18))))) (sFor (fRange1 (fCons (fC (.int 60)) fNil)) (gN 6) (sIf (fB (f2 (gOrd .gt) (fVar 5) (fC (.int 0)))) (sSeq (sApp 2 (f2 gMod (fA (g1 gInt) (fCons (fVar 5) fNil)) (fC (.int 1009))))
    (sAsg (gN 5) (f2 gFdiv (fVar 5) (fC (.int 1009))))) sNext)) (sApp 2 (f2 gMod (f2 gFdiv (fA (g1 gInt) (fCons (f2 gAdd (f2 gMul (fVar 3) (fC (.int 16807))) (fC (.int 5))) fNil)) (fC (.int 3))) (fC (.int 65521))))))))
    (sSeq (sFor (fRange1 (fCons (fVar 1) fNil)) (gN 6) (sIf (fB (f2 (gOrd .lt) (fLenO 2) (fVar 1))) (sSeq (sAsg (gN 3) (f2 gMod (fA (g1 gInt) (fCons (f2 gAdd (f2 gAdd (f2 gMul (fVar 3) (fC (.int 69621))) (fVar 6)) (fC (.int 1))) fNil)) (fC (.int 2147483647))))
    (sApp 2 (f2 gMod (f2 gFdiv (fA (g1 gInt) (fCons (fVar 3) fNil)) (fC (.int 7))) (fC (.int 65521))))) sNext))
    (fun ρ => (sRet (fSl (fVar 2) fNo (fPart (fVar 1)))) (frzE 2 ρ))))))
def _law_draws (ds : List PyData) : R PyData := retD (b__law_draws (startE 7 ds))
abbrev s__law_draws : Stmt := topS 33
theorem sc__law_draws : FnScope ["script", "many", "draws", "seed", "cell", "number", "k"] ["script", "many"] (defScope s__law_draws) := ⟨rfl, rfl, rfl, by decide +kernel, rfl, by decide +kernel, by decide +kernel⟩
theorem bd__law_draws : BindsAs "_law_draws" s__law_draws ["script", "many"] := fun _ _ _ _ _ _ us hl => match us, hl with | [_, _], _ => rfl
theorem d__law_draws {P : Program} {K : PySem.W.Frag} {mg : Str → Option Value} {base : Heap} (T : Top P K mg) : Def P TheW.w K mg base 1 "_law_draws" 2 _law_draws :=
  have nd := sc__law_draws.nd
  T.d__law_draws.def sc__law_draws bd__law_draws fun f cdv A outer s H E F0 hr tk => (dss_cons (ds_setO 2 nd (dow_lst da_nil))
    (dss_cons (ds_set 3 nd de_int)
    (dss_cons (ds_for (passes_of rfl) rfl (di_anyA (de_slice (de_var 0) do_none (do_some de_int))) (dg_name 4 nd) (dss_cons (ds_set 5 nd (de_callB call_abs o_abs nx_abs (by rfl) T.z_abs (by decide +kernel) (da_cons (de_var 4) da_nil)))
    (dss_cons (ds_set 3 nd (de_op op_mod o_mod nx_mod (de_callTy call_int1 o_int1 nx_int1 (by rfl) T.z_int (by decide +kernel) (da_cons (de_op op_addD o_add nx_add (de_op op_addD o_add nx_add (de_op op_mulW o_mul nx_mul (de_var 3) de_int) (de_var 5)) de_int) da_nil)) de_int))
    (dss_one (ds_if (dt_cmp (op_ord .ge (hu66 hr)) (o_ord .ge) (nx_ord .ge) (de_var 5) (de_op op_pow o_pow nx_pow de_int de_int) (nomark _)) (dss_one (ds_for (passes_of rfl) rfl (di_range1 (by rfl) T.z_range (da_cons de_int da_nil)) (dg_name 6 nd) (dss_one (ds_if (dt_cmp (op_ord .gt (hu66 hr)) (o_ord .gt) (nx_ord .gt) (de_var 5) de_int (nomark _)) (dss_cons (ds_append 2 (de_op op_mod o_mod nx_mod (de_callTy call_int1 o_int1 nx_int1 (by rfl) T.z_int (by decide +kernel) (da_cons (de_var 5) da_nil)) de_int))
    (dss_one (ds_set 5 nd (de_op op_fdivW o_fdiv nx_fdiv (de_var 5) de_int)))) dss_nil)))) (dss_one (ds_append 2 (de_op op_mod o_mod nx_mod (de_op op_fdivW o_fdiv nx_fdiv (de_callTy call_int1 o_int1 nx_int1 (by rfl) T.z_int (by decide +kernel) (da_cons (de_op op_addD o_add nx_add (de_op op_mulW o_mul nx_mul (de_var 3) de_int) de_int) da_nil)) de_int) de_int))))))))
    (dss_cons (ds_for (passes_of rfl) rfl (di_range1 (by rfl) T.z_range (da_cons (de_var 1) da_nil)) (dg_name 6 nd) (dss_one (ds_if (dt_cmp (op_ord .lt (hu66 hr)) (o_ord .lt) (nx_ord .lt) (de_lenO 2 (by rfl) T.z_len) (de_var 1) (nomark _)) (dss_cons (ds_set 3 nd (de_op op_mod o_mod nx_mod (de_callTy call_int1 o_int1 nx_int1 (by rfl) T.z_int (by decide +kernel) (da_cons (de_op op_addD o_add nx_add (de_op op_addD o_add nx_add (de_op op_mulW o_mul nx_mul (de_var 3) de_int) (de_var 6)) de_int) da_nil)) de_int))
    (dss_one (ds_append 2 (de_op op_mod o_mod nx_mod (de_op op_fdivW o_fdiv nx_fdiv (de_callTy call_int1 o_int1 nx_int1 (by rfl) T.z_int (by decide +kernel) (da_cons (de_var 3) da_nil)) de_int) de_int)))) dss_nil)))
    (dss_one (ds_frz 2 (ds_ret (de_slice (de_var 2) do_none (do_some (de_var 1))))))))))
def b__law_choose : DEnv → SR := (sSeq (sAsg (gN 2) (fC (.int 1)))
    (sSeq (sFor (fRange1 (fCons (fVar 1) fNil)) (gN 3) (sAsg (gN 2) (f2 gMul (fVar 2) (f2 gSub (fVar 0) (fVar 3)))))
    (sSeq (sFor (fRange1 (fCons (fVar 1) fNil)) (gN 3) (sAsg (gN 2) (f2 gFdiv (fVar 2) (f2 gAdd (fVar 3) (fC (.int 1))))))
    (sRet (fVar 2)))))
def _law_choose (ds : List PyData) : R PyData := retD (b__law_choose (startE 4 ds))
abbrev s__law_choose : Stmt := topS 34
theorem sc__law_choose : FnScope ["number", "k", "found", "turn"] ["number", "k"] (defScope s__law_choose) := ⟨rfl, rfl, rfl, by decide +kernel, rfl, by decide +kernel, by decide +kernel⟩
theorem bd__law_choose : BindsAs "_law_choose" s__law_choose ["number", "k"] := fun _ _ _ _ _ _ us hl => match us, hl with | [_, _], _ => rfl
theorem d__law_choose {P : Program} {K : PySem.W.Frag} {mg : Str → Option Value} {base : Heap} (T : Top P K mg) : Def P TheW.w K mg base 1 "_law_choose" 2 _law_choose :=
  have nd := sc__law_choose.nd
  T.d__law_choose.def sc__law_choose bd__law_choose fun f cdv A outer s H E F0 hr tk => (dss_cons (ds_set 2 nd de_int)
    (dss_cons (ds_for (passes_of rfl) rfl (di_range1 (by rfl) T.z_range (da_cons (de_var 1) da_nil)) (dg_name 3 nd) (dss_one (ds_set 2 nd (de_op op_mulW o_mul nx_mul (de_var 2) (de_op op_sub o_sub nx_sub (de_var 0) (de_var 3))))))
    (dss_cons (ds_for (passes_of rfl) rfl (di_range1 (by rfl) T.z_range (da_cons (de_var 1) da_nil)) (dg_name 3 nd) (dss_one (ds_set 2 nd (de_op op_fdivW o_fdiv nx_fdiv (de_var 2) (de_op op_addD o_add nx_add (de_var 3) de_int)))))
    (dss_one (ds_ret (de_var 2))))))
def b__law_poly_worth : DEnv → SR := (sSeq (sAsg (gN 2) (fC (.int 0)))
    (sSeq (sFor (fItA (fVar 0)) (gT (gsCons (gN 3) (gsCons (gN 4) gsNil))) (sSeq (sAsg (gN 5) (fVar 4))
    (sSeq (sFor (fItA (fVar 3)) (gT (gsCons (gN 6) (gsCons (gN 7) gsNil))) (sAsg (gN 5) (f2 gMul (fVar 5) (fA _law_choose (fCons (f2 gIxA (fVar 1) (fVar 6)) (fCons (fVar 7) fNil))))))
    (sAsg (gN 2) (f2 gAdd (fVar 2) (fVar 5))))))
    (sRet (fVar 2))))
def _law_poly_worth (ds : List PyData) : R PyData := retD (b__law_poly_worth (startE 8 ds))
abbrev s__law_poly_worth : Stmt := topS 35
theorem sc__law_poly_worth : FnScope ["polynomial", "worths", "total", "term", "factor", "own", "name", "k"] ["polynomial", "worths"] (defScope s__law_poly_worth) := ⟨rfl, rfl, rfl, by decide +kernel, rfl, by decide +kernel, by decide +kernel⟩
theorem bd__law_poly_worth : BindsAs "_law_poly_worth" s__law_poly_worth ["polynomial", "worths"] := fun _ _ _ _ _ _ us hl => match us, hl with | [_, _], _ => rfl
theorem d__law_poly_worth {P : Program} {K : PySem.W.Frag} {mg : Str → Option Value} {base : Heap} (T : Top P K mg) : Def P TheW.w K mg base 2 "_law_poly_worth" 2 _law_poly_worth :=
  have nd := sc__law_poly_worth.nd
  T.d__law_poly_worth.def sc__law_poly_worth bd__law_poly_worth fun f cdv A outer s H E F0 hr tk => (dss_cons (ds_set 2 nd de_int)
    (dss_cons (ds_for (passes_of rfl) rfl (di_anyA (de_var 0)) (dg_tup K rfl rfl (dgs_cons (dg_name 3 nd) (dgs_cons (dg_name 4 nd) dgs_nil))) (dss_cons (ds_set 5 nd (de_var 4))
    (dss_cons (ds_for (passes_of rfl) rfl (di_anyA (de_var 3)) (dg_tup K rfl rfl (dgs_cons (dg_name 6 nd) (dgs_cons (dg_name 7 nd) dgs_nil))) (dss_one (ds_set 5 nd (de_op op_mulW o_mul nx_mul (de_var 5) (de_call tk (d__law_choose T) (hr.mono (by decide)) (by rfl) (da_cons (de_ix (ix_all rfl (hu20 hr)) o_ixA nx_ixA (de_var 1) (de_var 6) (fun _ _ => rfl)) (da_cons (de_var 7) da_nil)) (al_cons (al_cons al_nil)))))))
    (dss_one (ds_set 2 nd (de_op op_addD o_add nx_add (de_var 2) (de_var 5)))))))
    (dss_one (ds_ret (de_var 2)))))
def b__law_poly : DEnv → SR := (sSeq (sSetO 3 oDictN)
    (sSeq (sFor (fRange1 (fCons (f2 gMod (fA (g1 gInt) (fCons (f2 gIxA (fVar 0) (fC (.int 0))) fNil)) (f2 gAdd (fVar 2) (fC (.int 1)))) fNil)) (gN 4) (sSeq (sAsg (gN 5) (fA (g1 gTuple) (fCons (fLc (fEnum (fCons (fVar 1) fNil)) (gT (gsCons (gN 6) (gsCons (gN 7) gsNil))) fYes (fTup (fCons (fVar 7) (fCons (f2 gMod (fA (g1 gInt) (fCons (f2 gIxA (fVar 0) (f2 gAdd (f2 gAdd (fC (.int 1)) (f2 gMul (fC (.int 5)) (fVar 4))) (fVar 6))) fNil)) (fC (.int 3))) fNil))) [6, 7]) fNil)))
    (sPutN 3 (fA (g1 gTuple) (fCons (fLc (fItA (fVar 5)) (gN 8) (fB (f2 (gOrd .gt) (f2 gIxA (fVar 8) (fC (.int 1))) (fC (.int 0)))) (fVar 8) [8]) fNil)) (f2 gIxA (fLst (fCons (fC (.int 1)) (fCons (f1 gNeg (fC (.int 1))) (fCons (fC (.int 3)) (fCons (f1 gNeg (fC (.int 4))) (fCons (fC (.int 7)) fNil)))))) (f2 gMod (fA (g1 gInt) (fCons (f2 gIxA (fVar 0) (f2 gAdd (fC (.int 4)) (f2 gMul (fC (.int 5)) (fVar 4)))) fNil)) (fC (.int 5)))))))
    (fun ρ => (sRet (fA (g1 gTuple) (fCons (fLc (fItA (fA (g1 gSortedB) (fCons (fVar 3) fNil))) (gN 5) fYes (fTup (fCons (fVar 5) (fCons (f2 gIxA (fVar 3) (fVar 5)) fNil))) [5]) fNil))) (frzE 3 ρ))))
def _law_poly (ds : List PyData) : R PyData := retD (b__law_poly (startE 9 ds))
abbrev s__law_poly : Stmt := topS 36
theorem sc__law_poly : FnScope ["draws", "names", "most", "found", "turn", "term", "k", "name", "pair"] ["draws", "names", "most"] (defScope s__law_poly) := ⟨rfl, rfl, rfl, by decide +kernel, rfl, by decide +kernel, by decide +kernel⟩
theorem bd__law_poly : BindsAs "_law_poly" s__law_poly ["draws", "names", "most"] := fun _ _ _ _ _ _ us hl => match us, hl with | [_, _, _], _ => rfl
theorem d__law_poly {P : Program} {K : PySem.W.Frag} {mg : Str → Option Value} {base : Heap} (T : Top P K mg) : Def P TheW.w K mg base 1 "_law_poly" 3 _law_poly :=
  have nd := sc__law_poly.nd
  T.d__law_poly.def sc__law_poly bd__law_poly fun f cdv A outer s H E F0 hr tk => (dss_cons (ds_setO 3 nd dow_dictN)
    (dss_cons (ds_for (passes_of rfl) rfl (di_range1 (by rfl) T.z_range (da_cons (de_op op_mod o_mod nx_mod (de_callTy call_int1 o_int1 nx_int1 (by rfl) T.z_int (by decide +kernel) (da_cons (de_ix (ix_all rfl (hu20 hr)) o_ixA nx_ixA (de_var 0) de_int (fun _ _ => rfl)) da_nil)) (de_op op_addD o_add nx_add (de_var 2) de_int)) da_nil)) (dg_name 4 nd) (dss_cons (ds_set 5 nd (de_callTy call_tupleF o_tuple nx_tuple (by rfl) T.z_tuple (by decide +kernel) (da_cons (de_lc [("k", 6), ("name", 7)] rfl nd (di_enum (by rfl) T.z_enumerate (da_cons (de_var 1) da_nil)) (blkOk_by (by rfl)) (fun _ _ _ _ _ => (dg_tup K rfl rfl (dgs_cons (dg_name 6 nd) (dgs_cons (dg_name 7 nd) dgs_nil)))) (by decide) (fun _ _ _ _ _ => dts_nil) (fun _ _ _ _ _ => (de_tup (da_cons (de_var 7) (da_cons (de_op op_mod o_mod nx_mod (de_callTy call_int1 o_int1 nx_int1 (by rfl) T.z_int (by decide +kernel) (da_cons (de_ix (ix_all rfl (hu20 hr)) o_ixA nx_ixA (de_var 0) (de_op op_addD o_add nx_add (de_op op_addD o_add nx_add de_int (de_op op_mulW o_mul nx_mul de_int (de_var 4))) (de_var 6)) (fun _ _ => rfl)) da_nil)) de_int) da_nil))))) da_nil)))
    (dss_one (ds_putN 3 rfl (hu20 hr) (de_callTy call_tupleF o_tuple nx_tuple (by rfl) T.z_tuple (by decide +kernel) (da_cons (de_lc [("pair", 8)] rfl nd (di_anyA (de_var 5)) (blkOk_by (by rfl)) (fun _ _ _ _ _ => (dg_name 8 nd)) (by decide) (fun _ _ _ _ _ => (dts_one (dt_cmp (op_ord .gt (hu66 hr)) (o_ord .gt) (nx_ord .gt) (de_ix (ix_all rfl (hu20 hr)) o_ixA nx_ixA (de_var 8) de_int (fun _ _ => rfl)) de_int (nomark _)))) (fun _ _ _ _ _ => (de_var 8))) da_nil)) (de_ix (ix_all rfl (hu20 hr)) o_ixA nx_ixA (de_lst (da_cons de_int (da_cons (de_un un_neg o_neg nx_neg de_int) (da_cons de_int (da_cons (de_un un_neg o_neg nx_neg de_int) (da_cons de_int da_nil)))))) (de_op op_mod o_mod nx_mod (de_callTy call_int1 o_int1 nx_int1 (by rfl) T.z_int (by decide +kernel) (da_cons (de_ix (ix_all rfl (hu20 hr)) o_ixA nx_ixA (de_var 0) (de_op op_addD o_add nx_add de_int (de_op op_mulW o_mul nx_mul de_int (de_var 4))) (fun _ _ => rfl)) da_nil)) de_int) (fun _ _ => rfl))))))
    (dss_one (ds_frz 3 (ds_ret (de_callTy call_tupleF o_tuple nx_tuple (by rfl) T.z_tuple (by decide +kernel) (da_cons (de_lc [("term", 5)] rfl nd (di_anyA (de_callB (call_sortedA rfl (hu80 hr)) o_sortedB nx_sortedB (by rfl) T.z_sorted (by decide +kernel) (da_cons (de_var 3) da_nil))) (blkOk_by (by rfl)) (fun _ _ _ _ _ => (dg_name 5 nd)) (by decide) (fun _ _ _ _ _ => dts_nil) (fun _ _ _ _ _ => (de_tup (da_cons (de_var 5) (da_cons (de_ix (ix_all rfl (hu20 hr)) o_ixA nx_ixA (de_var 3) (de_var 5) (fun _ _ => rfl)) da_nil))))) da_nil)))))))
def b__law_is_term : DEnv → SR := (sSeq (sIf (fOr (fNot (fTr (f1 (gIsi "tuple") (fVar 0)))) (fNot (fTr (fA (g1 gAll) (fCons (fLc (fItA (fVar 0)) (gN 4) fYes (fAndV (f1 (gIsi "tuple") (fVar 4)) (fAndV (f2 gEq (fA (g1 gLen) (fCons (fVar 4) fNil)) (fC (.int 2))) (f1 (gIsi "str") (f2 gIxA (fVar 4) (fC (.int 0)))))) [4]) fNil))))) (sRet (fC (.bool false))) sNext)
    (sSeq (sFor (fItA (fVar 0)) (gT (gsCons (gN 1) (gsCons (gN 2) gsNil))) (sSeq (sIf (fOr (fNot (fB (fChain (gOrd .lt) (gOrd .lt) (fC (.int 0)) (fA (g1 gLen) (fCons (fVar 1) fNil)) (fC (.int 9))))) (fOr (fB (f2 (gInA true) (f2 gIxA (fVar 1) (fC (.int 0))) (fC (.str "abcdefghijklmnopqrstuvwxyz")))) (fNot (fTr (fA (g1 gAll) (fCons (fLc (fItA (fVar 1)) (gN 5) fYes (f2 (gInA false) (fVar 5) (fC (.str "abcdefghijklmnopqrstuvwxyz0123456789"))) [5]) fNil)))))) (sRet (fC (.bool false))) sNext)
    (sIf (fOr (fNot (fTr (f1 (gIsi "int") (fVar 2)))) (fOr (fTr (f1 (gIsi "bool") (fVar 2))) (fB (f2 (gOrd .lt) (fVar 2) (fC (.int 1)))))) (sRet (fC (.bool false))) sNext)))
    (sSeq (sAsg (gN 3) (fLc (fItA (fVar 0)) (gT (gsCons (gN 1) (gsCons (gN 2) gsNil))) fYes (fVar 1) [1, 2]))
    (sRet (fAndV (f2 gEq (fVar 3) (f1 gSortSetI (fVar 3))) (f2 (gOrd .lt) (fA (g1 gSum) (fCons (fLc (fItA (fVar 0)) (gT (gsCons (gN 1) (gsCons (gN 2) gsNil))) fYes (fVar 2) [1, 2]) fNil)) (fC (.int 13))))))))
def _law_is_term (ds : List PyData) : R PyData := retD (b__law_is_term (startE 6 ds))
abbrev s__law_is_term : Stmt := topS 37
theorem sc__law_is_term : FnScope ["value", "name", "k", "names", "one", "sign"] ["value"] (defScope s__law_is_term) := ⟨rfl, rfl, rfl, by decide +kernel, rfl, by decide +kernel, by decide +kernel⟩
theorem bd__law_is_term : BindsAs "_law_is_term" s__law_is_term ["value"] := fun _ _ _ _ _ _ us hl => match us, hl with | [_], _ => rfl
theorem d__law_is_term {P : Program} {K : PySem.W.Frag} {mg : Str → Option Value} {base : Heap} (T : Top P K mg) : Def P TheW.w K mg base 1 "_law_is_term" 1 _law_is_term :=
  have nd := sc__law_is_term.nd
  T.d__law_is_term.def sc__law_is_term bd__law_is_term fun f cdv A outer s H E F0 hr tk => (dss_cons (ds_if (dt_w (dw_or (dt_not (dt_truth (de_isi ty_tuple (de_var 0) (by rfl) T.z_isinstance (by rfl) T.z_tuple (by decide +kernel)))) (dw_or1 (dt_not (dt_truth (de_callB (cr_all rfl) o_all nx_all (by rfl) T.z_all (by decide +kernel) (da_cons (de_lc [("one", 4)] rfl nd (di_anyA (de_var 0)) (blkOk_by (by rfl)) (fun _ _ _ _ _ => (dg_name 4 nd)) (by decide) (fun _ _ _ _ _ => dts_nil) (fun _ _ _ _ _ => (de_and (de_isi ty_tuple (de_var 4) (by rfl) T.z_isinstance (by rfl) T.z_tuple (by decide +kernel)) (de_and (de_cmp (op_eqD (hu64 hr)) o_eq nx_eq (de_callB call_lenD o_len nx_len (by rfl) T.z_len (by decide +kernel) (da_cons (de_var 4) da_nil)) de_int (nomark _)) (de_one (de_isi ty_str (de_ix (ix_all rfl (hu20 hr)) o_ixA nx_ixA (de_var 4) de_int (fun _ _ => rfl)) (by rfl) T.z_isinstance (by rfl) T.z_str (by decide +kernel))))))) da_nil))))))) (dss_one (ds_ret de_bl)) dss_nil)
    (dss_cons (ds_for (passes_of rfl) rfl (di_anyA (de_var 0)) (dg_tup K rfl rfl (dgs_cons (dg_name 1 nd) (dgs_cons (dg_name 2 nd) dgs_nil))) (dss_cons (ds_if (dt_w (dw_or (dt_not (dt_chain (op_ord .lt (hu66 hr)) (o_ord .lt) (nx_ord .lt) (op_ord .lt (hu66 hr)) (o_ord .lt) (nx_ord .lt) de_int (de_callB call_lenD o_len nx_len (by rfl) T.z_len (by decide +kernel) (da_cons (de_var 1) da_nil)) de_int)) (dw_or (dt_cmp (op_notInA rfl (hu20 hr)) (o_inA true) (nx_inA true) (de_ix (ix_all rfl (hu20 hr)) o_ixA nx_ixA (de_var 1) de_int (fun _ _ => rfl)) de_str rfl) (dw_or1 (dt_not (dt_truth (de_callB (cr_all rfl) o_all nx_all (by rfl) T.z_all (by decide +kernel) (da_cons (de_lc [("sign", 5)] rfl nd (di_anyA (de_var 1)) (blkOk_by (by rfl)) (fun _ _ _ _ _ => (dg_name 5 nd)) (by decide) (fun _ _ _ _ _ => dts_nil) (fun _ _ _ _ _ => (de_cmp (op_inA rfl (hu20 hr)) (o_inA false) (nx_inA false) (de_var 5) de_str rfl))) da_nil)))))))) (dss_one (ds_ret de_bl)) dss_nil)
    (dss_one (ds_if (dt_w (dw_or (dt_not (dt_truth (de_isi ty_int (de_var 2) (by rfl) T.z_isinstance (by rfl) T.z_int (by decide +kernel)))) (dw_or (dt_truth (de_isi ty_bool (de_var 2) (by rfl) T.z_isinstance (by rfl) T.z_bool (by decide +kernel))) (dw_or1 (dt_cmp (op_ord .lt (hu66 hr)) (o_ord .lt) (nx_ord .lt) (de_var 2) de_int (nomark _)))))) (dss_one (ds_ret de_bl)) dss_nil))))
    (dss_cons (ds_setLc 3 [("name", 1), ("k", 2)] rfl nd (sw_true rfl rfl rfl (by decide +kernel)) (di_anyA (de_var 0)) (blkOk_by (by rfl)) (fun _ _ _ _ _ => (dg_tup K rfl rfl (dgs_cons (dg_name 1 nd) (dgs_cons (dg_name 2 nd) dgs_nil)))) (by decide) (fun _ _ _ _ _ => dts_nil) (fun _ _ _ _ _ => (de_var 1)))
    (dss_one (ds_ret (de_and (de_cmp (op_eqD (hu64 hr)) o_eq nx_eq (de_var 3) (de_sortSetI rfl (hu80 hr) (by rfl) T.z_sorted (by rfl) T.z_set (de_var 3)) (nomark _)) (de_one (de_cmp (op_ord .lt (hu66 hr)) (o_ord .lt) (nx_ord .lt) (de_callB (cr_sum rfl) o_sum nx_sum (by rfl) T.z_sum (by decide +kernel) (da_cons (de_lc [("name", 1), ("k", 2)] rfl nd (di_anyA (de_var 0)) (blkOk_by (by rfl)) (fun _ _ _ _ _ => (dg_tup K rfl rfl (dgs_cons (dg_name 1 nd) (dgs_cons (dg_name 2 nd) dgs_nil)))) (by decide) (fun _ _ _ _ _ => dts_nil) (fun _ _ _ _ _ => (de_var 2))) da_nil)) de_int (nomark _)))))))))
def b__law_fault : DEnv → SR := (sSeq (sIf (fNot (fTr (f1 (gIsi "tuple") (fVar 0)))) (sRet (fTup (fCons (fC (.str "form")) fNil))) sNext)
    (sSeq (sFor (fRange1 (fCons (fA (g1 gLen) (fCons (fVar 0) fNil)) fNil)) (gN 1) (sSeq (sAsg (gN 2) (f2 gIxA (fVar 0) (fVar 1)))
    (sSeq (sIf (fOr (fNot (fTr (f1 (gIsi "tuple") (fVar 2)))) (fOr (fB (f2 gNe (fA (g1 gLen) (fCons (fVar 2) fNil)) (fC (.int 2)))) (fOr (fNot (fTr (fA _law_is_term (fCons (f2 gIxA (fVar 2) (fC (.int 0))) fNil)))) (fOr (fNot (fTr (f1 (gIsi "int") (f2 gIxA (fVar 2) (fC (.int 1)))))) (fOr (fTr (f1 (gIsi "bool") (f2 gIxA (fVar 2) (fC (.int 1))))) (fB (f2 gEq (f2 gIxA (fVar 2) (fC (.int 1))) (fC (.int 0))))))))) (sRet (fTup (fCons (fC (.str "pair")) (fCons (fVar 1) fNil)))) sNext)
    (sIf (fAnd (fB (f2 (gOrd .gt) (fVar 1) (fC (.int 0)))) (fNot (fB (f2 (gOrd .lt) (f2 gIxA (f2 gIxA (fVar 0) (f2 gSub (fVar 1) (fC (.int 1)))) (fC (.int 0))) (f2 gIxA (fVar 2) (fC (.int 0))))))) (sRet (fTup (fCons (fC (.str "pair")) (fCons (fVar 1) fNil)))) sNext))))
    (sRet (fC .none))))
def _law_fault (ds : List PyData) : R PyData := retD (b__law_fault (startE 3 ds))
abbrev s__law_fault : Stmt := topS 38
theorem sc__law_fault : FnScope ["value", "k", "pair"] ["value"] (defScope s__law_fault) := ⟨rfl, rfl, rfl, by decide +kernel, rfl, by decide +kernel, by decide +kernel⟩
theorem bd__law_fault : BindsAs "_law_fault" s__law_fault ["value"] := fun _ _ _ _ _ _ us hl => match us, hl with | [_], _ => rfl
theorem d__law_fault {P : Program} {K : PySem.W.Frag} {mg : Str → Option Value} {base : Heap} (T : Top P K mg) : Def P TheW.w K mg base 2 "_law_fault" 1 _law_fault :=
  have nd := sc__law_fault.nd
  T.d__law_fault.def sc__law_fault bd__law_fault fun f cdv A outer s H E F0 hr tk => (dss_cons (ds_if (dt_not (dt_truth (de_isi ty_tuple (de_var 0) (by rfl) T.z_isinstance (by rfl) T.z_tuple (by decide +kernel)))) (dss_one (ds_ret (de_tup (da_cons de_str da_nil)))) dss_nil)
    (dss_cons (ds_for (passes_of rfl) rfl (di_range1 (by rfl) T.z_range (da_cons (de_callB call_lenD o_len nx_len (by rfl) T.z_len (by decide +kernel) (da_cons (de_var 0) da_nil)) da_nil)) (dg_name 1 nd) (dss_cons (ds_set 2 nd (de_ix (ix_all rfl (hu20 hr)) o_ixA nx_ixA (de_var 0) (de_var 1) (fun _ _ => rfl)))
    (dss_cons (ds_if (dt_w (dw_or (dt_not (dt_truth (de_isi ty_tuple (de_var 2) (by rfl) T.z_isinstance (by rfl) T.z_tuple (by decide +kernel)))) (dw_or (dt_cmp (op_neD (hu64 hr)) o_ne nx_ne (de_callB call_lenD o_len nx_len (by rfl) T.z_len (by decide +kernel) (da_cons (de_var 2) da_nil)) de_int (nomark _)) (dw_or (dt_not (dt_truth (de_call tk (d__law_is_term T) (hr.mono (by decide)) (by rfl) (da_cons (de_ix (ix_all rfl (hu20 hr)) o_ixA nx_ixA (de_var 2) de_int (fun _ _ => rfl)) da_nil) (al_cons al_nil)))) (dw_or (dt_not (dt_truth (de_isi ty_int (de_ix (ix_all rfl (hu20 hr)) o_ixA nx_ixA (de_var 2) de_int (fun _ _ => rfl)) (by rfl) T.z_isinstance (by rfl) T.z_int (by decide +kernel)))) (dw_or (dt_truth (de_isi ty_bool (de_ix (ix_all rfl (hu20 hr)) o_ixA nx_ixA (de_var 2) de_int (fun _ _ => rfl)) (by rfl) T.z_isinstance (by rfl) T.z_bool (by decide +kernel))) (dw_or1 (dt_cmp (op_eqD (hu64 hr)) o_eq nx_eq (de_ix (ix_all rfl (hu20 hr)) o_ixA nx_ixA (de_var 2) de_int (fun _ _ => rfl)) de_int (nomark _))))))))) (dss_one (ds_ret (de_tup (da_cons de_str (da_cons (de_var 1) da_nil))))) dss_nil)
    (dss_one (ds_if (dt_w (dw_and (dt_cmp (op_ord .gt (hu66 hr)) (o_ord .gt) (nx_ord .gt) (de_var 1) de_int (nomark _)) (dw_and1 (dt_not (dt_cmp (op_ord .lt (hu66 hr)) (o_ord .lt) (nx_ord .lt) (de_ix (ix_all rfl (hu20 hr)) o_ixA nx_ixA (de_ix (ix_all rfl (hu20 hr)) o_ixA nx_ixA (de_var 0) (de_op op_sub o_sub nx_sub (de_var 1) de_int) (fun _ _ => rfl)) de_int (fun _ _ => rfl)) (de_ix (ix_all rfl (hu20 hr)) o_ixA nx_ixA (de_var 2) de_int (fun _ _ => rfl)) (nomark _)))))) (dss_one (ds_ret (de_tup (da_cons de_str (da_cons (de_var 1) da_nil))))) dss_nil)))))
    (dss_one (ds_ret de_non))))
def b__law_told : DEnv → SR := (sTry errs (sSeq (sIf (fB (f2 gEq (fVar 0) (fC (.int 0)))) (sRet (fA polynomial_worth (fCons (fVar 1) (fCons (fVar 2) fNil)))) sNext)
    (sRet (fIf (fB (f2 gEq (fVar 0) (fC (.int 1)))) (fA degree_of (fCons (fVar 1) fNil)) (fIf (fB (f2 gEq (fVar 0) (fC (.int 2)))) (fA lesser_of (fCons (fVar 1) (fCons (fTup fNil) fNil))) (fA greater_of (fCons (fTup fNil) (fCons (fVar 1) fNil))))))) [(["BadPolynomial"], fun _ ρ => (sRet (fC (.str "polynomial"))) ρ), (["BadWorths"], fun _ ρ => (sRet (fC (.str "worths"))) ρ), (["Lacks"], hRetA 3 "name")])
def _law_told (ds : List PyData) : R PyData := retD (b__law_told (startE 4 ds))
abbrev s__law_told : Stmt := topS 39
theorem sc__law_told : FnScope ["call", "polynomial", "worths", "e"] ["call", "polynomial", "worths"] (defScope s__law_told) := ⟨rfl, rfl, rfl, by decide +kernel, rfl, by decide +kernel, by decide +kernel⟩
theorem bd__law_told : BindsAs "_law_told" s__law_told ["call", "polynomial", "worths"] := fun _ _ _ _ _ _ us hl => match us, hl with | [_, _, _], _ => rfl
theorem d__law_told {P : Program} {K : PySem.W.Frag} {mg : Str → Option Value} {base : Heap} (T : Top P K mg) : Def P TheW.w K mg base 7 "_law_told" 3 _law_told :=
  have nd := sc__law_told.nd
  T.d__law_told.def sc__law_told bd__law_told fun f cdv A outer s H E F0 hr tk => (dss_one (ds_try (ys := errs) rfl rfl tk (fun W2 pn2 xe2 tk2 hpass => (dss_cons (ds_if (dt_cmp (op_eqD (hu64 hr)) o_eq nx_eq (de_var 0) de_int (nomark _)) (dss_one (ds_ret (de_call tk2 (d_polynomial_worth T) (hr.mono (by decide)) (by rfl) (da_cons (de_var 1) (da_cons (de_var 2) da_nil)) (al_cons (al_cons al_nil))))) dss_nil)
    (dss_one (ds_ret (de_if (dt_cmp (op_eqD (hu64 hr)) o_eq nx_eq (de_var 0) de_int (nomark _)) (de_call tk2 (d_degree_of T) (hr.mono (by decide)) (by rfl) (da_cons (de_var 1) da_nil) (al_cons al_nil)) (de_if (dt_cmp (op_eqD (hu64 hr)) o_eq nx_eq (de_var 0) de_int (nomark _)) (de_call tk2 (d_lesser_of T) (hr.mono (by decide)) (by rfl) (da_cons (de_var 1) (da_cons (de_tup da_nil) da_nil)) (al_cons (al_cons al_nil))) (de_call tk2 (d_greater_of T) (hr.mono (by decide)) (by rfl) (da_cons (de_tup da_nil) (da_cons (de_var 1) da_nil)) (al_cons (al_cons al_nil))))))))) (dhds_cons T.t_BadPolynomial (by rfl) (by decide) (fun _ _ => (dss_one (ds_ret de_str))) (dhds_cons T.t_BadWorths (by rfl) (by decide) (fun _ _ => (dss_one (ds_ret de_str))) (dhds_retA 3 nd T.t_Lacks T.a_Lacks_name (by rfl) (by decide) (by rfl) (by rfl) (.inl rfl) (by decide) (by decide) (by rfl) dhds_nil)))))
def b_law : DEnv → SR := (sSeq (sAsg (gN 1) (fA _law_draws (fCons (fVar 0) (fCons (fC (.int 300)) fNil))))
    (sSeq (sFor (fRange1 (fCons (fC (.int 8)) fNil)) (gN 2) (sSeq (sAsg (gL (gsCons (gN 3) (gsCons (gN 4) gsNil))) (fLc (fItA (fTup (fCons (fC (.int 0)) (fCons (fC (.int 1)) fNil)))) (gN 7) fYes (fA _law_poly (fCons (f2 gAdd (fSl (fVar 1) (fPart (f2 gAdd (f2 gMul (fC (.int 31)) (fVar 2)) (f2 gMul (fC (.int 13)) (fVar 7)))) fNo) (fVar 1)) (fCons (fLst (fCons (fC (.str "a")) (fCons (fC (.str "m")) (fCons (fC (.str "n")) fNil)))) (fCons (fC (.int 5)) fNil)))) [7]))
    (sSeq (sIf (fOr (fB (f2 gNotN (fA polynomial_fault (fCons (fVar 3) fNil)) (fC .none))) (fB (f2 gNe (fA degree_of (fCons (fVar 3) fNil)) (fA (gMM maxI) (fCons (f2 gAdd (fLst (fCons (f1 gNeg (fC (.int 1))) fNil)) (fLc (fItA (fVar 3)) (gT (gsCons (gN 17) (gsCons (gN 18) gsNil))) fYes (fA (g1 gSum) (fCons (fLc (fItA (fVar 17)) (gT (gsCons (gN 19) (gsCons (gN 7) gsNil))) fYes (fVar 7) [19, 7]) fNil)) [17, 18])) fNil))))) (sRet (fC (.bool false))) sNext)
    (sSeq (sPar2 5 6 (fCons (fA lesser_of (fCons (fVar 3) (fCons (fVar 4) fNil))) (fCons (fA greater_of (fCons (fVar 3) (fCons (fVar 4) fNil))) fNil)))
    (sSeq (sIf (fOr (fB (f2 gNotN (fA polynomial_fault (fCons (fVar 5) fNil)) (fC .none))) (fOr (fB (f2 gNe (fA lesser_of (fCons (fVar 4) (fCons (fVar 3) fNil))) (fVar 5))) (fOr (fB (f2 gNe (fA greater_of (fCons (fVar 4) (fCons (fVar 3) fNil))) (fVar 6))) (fB (f2 gNe (fA lesser_of (fCons (fVar 3) (fCons (fVar 3) fNil))) (fVar 3)))))) (sRet (fC (.bool false))) sNext)
    (sSeq (sFor (fRange1 (fCons (fC (.int 8)) fNil)) (gN 7) (sSeq (sAsg (gN 8) (fA (g1 gTuple) (fCons (fLc (fEnum (fCons (fLst (fCons (fC (.str "a")) (fCons (fC (.str "m")) (fCons (fC (.str "n")) fNil)))) fNil)) (gT (gsCons (gN 20) (gsCons (gN 19) gsNil))) fYes (fTup (fCons (fVar 19) (fCons (f2 gSub (f2 gMod (fA (g1 gInt) (fCons (f2 gIxA (fVar 1) (f2 gMod (f2 gAdd (f2 gAdd (f2 gAdd (fC (.int 250)) (f2 gMul (fC (.int 3)) (fVar 7))) (fVar 20)) (fVar 2)) (fC (.int 300)))) fNil)) (fC (.int 10))) (fC (.int 3))) fNil))) [20, 19]) fNil)))
    (sSeq (sAsg (gN 9) (fA (g1 gDictOf) (fCons (fA (g1 gListA) (fCons (fVar 8) fNil)) fNil)))
    (sSeq (sAsg (gN 10) (fLc (fItA (fTup (fCons (fVar 5) (fCons (fVar 3) (fCons (fVar 4) (fCons (fVar 6) fNil)))))) (gN 21) fYes (fA _law_poly_worth (fCons (fVar 21) (fCons (fVar 9) fNil))) [21]))
    (sSeq (sIf (fB (f2 gNe (fLc (fItA (fTup (fCons (fVar 5) (fCons (fVar 3) (fCons (fVar 4) (fCons (fVar 6) fNil)))))) (gN 21) fYes (fA polynomial_worth (fCons (fVar 21) (fCons (fVar 8) fNil))) [21]) (fVar 10))) (sRet (fC (.bool false))) sNext)
    (sSeq (sIf (fAnd (fB (f2 (gOrd .ge) (fA (gMM minI) (fCons (f1 gVals (fVar 9)) fNil)) (fC (.int 0)))) (fNot (fChain3 (gOrd .le) (gOrd .le) (gOrd .le) (f2 gIxA (fVar 10) (fC (.int 0))) (fA (gMM minI) (fCons (f2 gIxA (fVar 10) (fC (.int 1))) (fCons (f2 gIxA (fVar 10) (fC (.int 2))) fNil))) (fA (gMM maxI) (fCons (f2 gIxA (fVar 10) (fC (.int 1))) (fCons (f2 gIxA (fVar 10) (fC (.int 2))) fNil))) (f2 gIxA (fVar 10) (fC (.int 3)))))) (sRet (fC (.bool false))) sNext)
    (sSeq (sAsg (gN 11) (fA (g1 gDictOf) (fCons (fLc (fItA (fA (g1 gSortedB) (fCons (fA (g1 gListA) (fCons (fA (g1 gDictOf) (fCons (fA (g1 gListA) (fCons (f2 gAdd (fVar 3) (fVar 4)) fNil)) fNil)) fNil)) fNil))) (gN 17) fYes (fTup (fCons (fVar 17) (fCons (fTup (fCons (fGet2 (fA (g1 gDictOf) (fCons (fA (g1 gListA) (fCons (fVar 3) fNil)) fNil)) (fVar 17) (fC (.int 0))) (fCons (fGet2 (fA (g1 gDictOf) (fCons (fA (g1 gListA) (fCons (fVar 4) fNil)) fNil)) (fVar 17) (fC (.int 0))) fNil))) fNil))) [17]) fNil)))
    (sSeq (sIf (fB (f2 gNe (fVar 5) (fA (g1 gTuple) (fCons (fLc (fItA (fA (g1 gSortedB) (fCons (fVar 11) fNil))) (gN 17) (fB (f2 gNe (fA (gMM minI) (fCons (f2 gIxA (fVar 11) (fVar 17)) fNil)) (fC (.int 0)))) (fTup (fCons (fVar 17) (fCons (fA (gMM minI) (fCons (f2 gIxA (fVar 11) (fVar 17)) fNil)) fNil))) [17]) fNil)))) (sRet (fC (.bool false))) sNext)
    (sIf (fB (f2 gNe (fVar 6) (fA (g1 gTuple) (fCons (fLc (fItA (fA (g1 gSortedB) (fCons (fVar 11) fNil))) (gN 17) (fB (f2 gNe (fA (gMM maxI) (fCons (f2 gIxA (fVar 11) (fVar 17)) fNil)) (fC (.int 0)))) (fTup (fCons (fVar 17) (fCons (fA (gMM maxI) (fCons (f2 gIxA (fVar 11) (fVar 17)) fNil)) fNil))) [17]) fNil)))) (sRet (fC (.bool false))) sNext)))))))))
    (sSeq (sAsg (gN 12) (f2 gMod (fA (g1 gInt) (fCons (f2 gIxA (fVar 1) (f2 gAdd (fC (.int 200)) (fVar 2))) fNil)) (fA (gMM maxI) (fCons (fC (.int 1)) (fCons (fA (g1 gLen) (fCons (fVar 3) fNil)) fNil)))))
    (sSeq (sAsg (gN 13) (fLst (fCons (fC .none) (fCons (fTup (fCons (fTup fNil) (fCons (fC (.int 0)) fNil))) (fCons (fTup (fCons (fTup fNil) (fCons (fC (.bool true)) fNil))) (fCons (fTup (fCons (fTup (fCons (fTup (fCons (fC (.str "n")) (fCons (fC (.int 0)) fNil))) fNil)) (fCons (fC (.int 1)) fNil))) (fCons (fTup (fCons (fTup (fCons (fTup (fCons (fC (.str "n")) (fCons (fC (.int 13)) fNil))) fNil)) (fCons (fC (.int 1)) fNil))) (fCons (fTup (fCons (fTup (fCons (fTup (fCons (fC (.str "n")) (fCons (fC (.int 7)) fNil))) (fCons (fTup (fCons (fC (.str "m")) (fCons (fC (.int 6)) fNil))) fNil))) (fCons (fC (.int 1)) fNil))) (fCons (fTup (fCons (fTup (fCons (fTup (fCons (fC (.str "m")) (fCons (fC (.int 7)) fNil))) (fCons (fTup (fCons (fC (.str "n")) (fCons (fC (.int 6)) fNil))) fNil))) (fCons (fC (.int 1)) fNil))) fNil)))))))))
    (sSeq (sAsg (gN 13) (f2 gAdd (fVar 13) (fLst (fCons (fLst (fCons (fTup fNil) (fCons (fC (.int 1)) fNil))) (fCons (fTup (fCons (fTup (fCons (fTup (fCons (fC (.str "n")) (fCons (fC (.int 1)) fNil))) fNil)) fNil)) (fCons (fTup (fCons (fTup (fCons (fTup (fCons (fC (.str "N")) (fCons (fC (.int 1)) fNil))) fNil)) (fCons (fC (.int 1)) fNil))) (fCons (fTup (fCons (fTup (fCons (fTup (fCons (fC (.str "n")) (fCons (fC (.int 1)) fNil))) fNil)) (fCons (fC (.str "1")) fNil))) (fCons (fTup (fCons (fTup (fCons (fTup (fCons (fC (.str "m")) (fCons (fC (.int 1)) fNil))) (fCons (fTup (fCons (fC (.str "m")) (fCons (fC (.int 2)) fNil))) fNil))) (fCons (fC (.int 1)) fNil))) (fCons (fTup (fCons (fTup (fCons (fTup (fCons (fC (.str "n")) fNil)) fNil)) (fCons (fC (.int 1)) fNil))) fNil)))))))))
    (sSeq (sFor (fItA (fVar 13)) (gN 14) (sSeq (sAsg (gN 15) (f2 gAdd (f2 gAdd (fSl (fVar 3) fNo (fPart (fVar 12))) (fTup (fCons (fVar 14) fNil))) (fSl (fVar 3) (fPart (f2 gAdd (fVar 12) (fC (.int 1)))) fNo)))
    (sIf (fOr (fB (f2 gNe (fA polynomial_fault (fCons (fVar 15) fNil)) (fA _law_fault (fCons (fVar 15) fNil)))) (fOr (fB (f2 gIsN (fA _law_fault (fCons (fVar 15) fNil)) (fC .none))) (fB (f2 gNe (fLc (fRange1 (fCons (fC (.int 4)) fNil)) (gN 22) fYes (fA _law_told (fCons (fVar 22) (fCons (fVar 15) (fCons (fTup fNil) fNil)))) [22]) (fRep (fCons (fC (.str "polynomial")) fNil) (fC (.int 4))))))) (sRet (fC (.bool false))) sNext)))
    (sFor (fItA (fTup (fCons (f1 gRev (fVar 3)) (fCons (f2 gAdd (fVar 3) (fSl (fVar 3) fNo (fPart (fC (.int 1))))) (fCons (fA (g1 gListA) (fCons (fVar 3) fNil)) (fCons (fC .none) (fCons (fSl (fVar 3) (fPart (fC (.int 1))) fNo) fNil))))))) (gN 15) (sIf (fB (f2 gNe (fA polynomial_fault (fCons (fVar 15) fNil)) (fA _law_fault (fCons (fVar 15) fNil)))) (sRet (fC (.bool false))) sNext))))))))))))
    (sSeq (sAsg (gN 16) (fTup (fCons (fTup (fCons (fTup (fCons (fTup (fCons (fC (.str "a")) (fCons (fC (.int 1)) fNil))) (fCons (fTup (fCons (fC (.str "n")) (fCons (fC (.int 2)) fNil))) fNil))) (fCons (fC (.int 3)) fNil))) (fCons (fTup (fCons (fTup (fCons (fTup (fCons (fC (.str "n")) (fCons (fC (.int 1)) fNil))) fNil)) (fCons (f1 gNeg (fC (.int 1))) fNil))) fNil))))
    (sSeq (sIf (fB (f2 gNe (fLc (fItA (fTup (fCons (fC .none) (fCons (fTup (fCons (fTup (fCons (fC (.str "n")) (fCons (fC (.bool true)) fNil))) fNil)) (fCons (fTup (fCons (fTup (fCons (fC (.str "a")) (fCons (fC (.int 1)) fNil))) fNil)) (fCons (fTup (fCons (fTup (fCons (fC (.str "n")) (fCons (fC (.int 1)) fNil))) fNil)) (fCons (fTup fNil) fNil))))))) (gN 23) fYes (fA _law_told (fCons (fC (.int 0)) (fCons (fVar 16) (fCons (fVar 23) fNil)))) [23]) (fLst (fCons (fC (.str "worths")) (fCons (fC (.str "worths")) (fCons (fC (.str "n")) (fCons (fC (.str "a")) (fCons (fC (.str "a")) fNil)))))))) (sRet (fC (.bool false))) sNext)
    (sSeq (sIf (fNot (fB (f2 gEq (fA polynomial_worth (fCons (fVar 16) (fCons (fTup (fCons (fTup (fCons (fC (.str "a")) (fCons (fC (.int 2)) fNil))) (fCons (fTup (fCons (fC (.str "n")) (fCons (fC (.int 4)) fNil))) fNil))) fNil))) (fC (.int 32))))) (sRet (fC (.bool false))) sNext)
    (sRet (fAndV (f2 gEq (fA polynomial_worth (fCons (fVar 16) (fCons (fTup (fCons (fTup (fCons (fC (.str "a")) (fCons (fC (.int 1)) fNil))) (fCons (fTup (fCons (fC (.str "n")) (fCons (f1 gNeg (fC (.int 2))) fNil))) fNil))) fNil))) (fC (.int 11))) (fAndV (f1 (gIsi "tuple") (fA lesser_of (fCons (fVar 16) (fCons (fTup fNil) fNil)))) (f2 gEq (fA lesser_of (fCons (fVar 16) (fCons (fTup fNil) fNil))) (fSl (fVar 16) (fPart (fC (.int 1))) fNo))))))))))
def law (ds : List PyData) : R PyData := retD (b_law (startE 24 ds))
abbrev s_law : Stmt := topS 40
theorem sc_law : FnScope ["script", "draws", "turn", "one", "other", "less", "more", "k", "worths", "known", "rows", "terms", "at", "news", "new", "bent", "plain", "term", "factor", "name", "j", "own", "call", "wrong"] ["script"] (defScope s_law) := ⟨rfl, rfl, rfl, by decide +kernel, rfl, by decide +kernel, by decide +kernel⟩
theorem bd_law : BindsAs "law" s_law ["script"] := fun _ _ _ _ _ _ us hl => match us, hl with | [_], _ => rfl
theorem w_law {P : Program} {K : PySem.W.Frag} {mg : Str → Option Value} (T : Top P K mg) (base : Heap) (f : Addr) (cdv : Value) (A : Around) (outer : List Env) (s : Shared) (H : Hp) (E : XK) (F0 : Hp) (hr : Room 7 (A.deeper (envOfC "law" (defScope s_law) s.heap.objs.size f cdv)))
    (tk : Takes (cxOf (L2.CX P TheW.w) P TheW.w K mg base ["script", "draws", "turn", "one", "other", "less", "more", "k", "worths", "known", "rows", "terms", "at", "news", "new", "bent", "plain", "term", "factor", "name", "j", "own", "call", "wrong"] "law" (defScope s_law) f cdv A outer s H E) (wOut E)) : DSs (cxOf (L2.CX P TheW.w) P TheW.w K mg base ["script", "draws", "turn", "one", "other", "less", "more", "k", "worths", "known", "rows", "terms", "at", "news", "new", "bent", "plain", "term", "factor", "name", "j", "own", "call", "wrong"] "law" (defScope s_law) f cdv A outer s H E) F0 H (wOut E) (defBody s_law) b_law :=
  have nd := sc_law.nd
  (dss_cons (ds_set 1 nd (de_call tk (d__law_draws T) (hr.mono (by decide)) (by rfl) (da_cons (de_var 0) (da_cons de_int da_nil)) (al_cons (al_cons al_nil))))
    (dss_cons (ds_for (passes_of rfl) rfl (di_range1 (by rfl) T.z_range (da_cons de_int da_nil)) (dg_name 2 nd) (dss_cons (ds_asg (de_lc [("k", 7)] rfl nd (di_anyA (de_tup (da_cons de_int (da_cons de_int da_nil)))) (blkOk_by (by rfl)) (fun _ _ _ _ _ => (dg_name 7 nd)) (by decide) (fun _ _ _ _ _ => dts_nil) (fun _ _ _ _ _ => (de_call takes0 (d__law_poly T) (hr.mono (by decide)) (by rfl) (da_cons (de_op op_addD o_add nx_add (de_slice (de_var 1) (do_some (de_op op_addD o_add nx_add (de_op op_mulW o_mul nx_mul de_int (de_var 2)) (de_op op_mulW o_mul nx_mul de_int (de_var 7)))) do_none) (de_var 1)) (da_cons (de_lst (da_cons de_str (da_cons de_str (da_cons de_str da_nil)))) (da_cons de_int da_nil))) (al_cons (al_cons (al_cons al_nil)))))) (dg_lst K rfl rfl (dgs_cons (dg_name 3 nd) (dgs_cons (dg_name 4 nd) dgs_nil))))
    (dss_cons (ds_if (dt_w (dw_or (dt_cmp op_notN o_notN nx_notN (de_call tk (d_polynomial_fault T) (hr.mono (by decide)) (by rfl) (da_cons (de_var 3) da_nil) (al_cons al_nil)) de_non (nomark _)) (dw_or1 (dt_cmp (op_neD (hu64 hr)) o_ne nx_ne (de_call tk (d_degree_of T) (hr.mono (by decide)) (by rfl) (da_cons (de_var 3) da_nil) (al_cons al_nil)) (de_callB (call_maxD rfl (hu64 hr)) (o_mm rfl) nx_mm (by rfl) T.z_max (by decide +kernel) (da_cons (de_op op_addD o_add nx_add (de_lst (da_cons (de_un un_neg o_neg nx_neg de_int) da_nil)) (de_lc [("term", 17), ("factor", 18)] rfl nd (di_anyA (de_var 3)) (blkOk_by (by rfl)) (fun _ _ _ _ _ => (dg_tup K rfl rfl (dgs_cons (dg_name 17 nd) (dgs_cons (dg_name 18 nd) dgs_nil)))) (by decide) (fun _ _ _ _ _ => dts_nil) (fun _ _ _ _ _ => (de_callB (cr_sum rfl) o_sum nx_sum (by rfl) T.z_sum (by decide +kernel) (da_cons (de_lc [("name", 19), ("k", 7)] rfl nd (di_anyA (de_var 17)) (blkOk_by (by rfl)) (fun _ _ _ _ _ => (dg_tup K rfl rfl (dgs_cons (dg_name 19 nd) (dgs_cons (dg_name 7 nd) dgs_nil)))) (by decide) (fun _ _ _ _ _ => dts_nil) (fun _ _ _ _ _ => (de_var 7))) da_nil))))) da_nil)) (nomark _))))) (dss_one (ds_ret de_bl)) dss_nil)
    (dss_cons (ds_par2 5 6 rfl nd (da_cons (de_call tk (d_lesser_of T) (hr.mono (by decide)) (by rfl) (da_cons (de_var 3) (da_cons (de_var 4) da_nil)) (al_cons (al_cons al_nil))) (da_cons (de_call tk (d_greater_of T) (hr.mono (by decide)) (by rfl) (da_cons (de_var 3) (da_cons (de_var 4) da_nil)) (al_cons (al_cons al_nil))) da_nil)))
    (dss_cons (ds_if (dt_w (dw_or (dt_cmp op_notN o_notN nx_notN (de_call tk (d_polynomial_fault T) (hr.mono (by decide)) (by rfl) (da_cons (de_var 5) da_nil) (al_cons al_nil)) de_non (nomark _)) (dw_or (dt_cmp (op_neD (hu64 hr)) o_ne nx_ne (de_call tk (d_lesser_of T) (hr.mono (by decide)) (by rfl) (da_cons (de_var 4) (da_cons (de_var 3) da_nil)) (al_cons (al_cons al_nil))) (de_var 5) (nomark _)) (dw_or (dt_cmp (op_neD (hu64 hr)) o_ne nx_ne (de_call tk (d_greater_of T) (hr.mono (by decide)) (by rfl) (da_cons (de_var 4) (da_cons (de_var 3) da_nil)) (al_cons (al_cons al_nil))) (de_var 6) (nomark _)) (dw_or1 (dt_cmp (op_neD (hu64 hr)) o_ne nx_ne (de_call tk (d_lesser_of T) (hr.mono (by decide)) (by rfl) (da_cons (de_var 3) (da_cons (de_var 3) da_nil)) (al_cons (al_cons al_nil))) (de_var 3) (nomark _))))))) (dss_one (ds_ret de_bl)) dss_nil)
    (dss_cons (ds_for (passes_of rfl) rfl (di_range1 (by rfl) T.z_range (da_cons de_int da_nil)) (dg_name 7 nd) (dss_cons (ds_set 8 nd (de_callTy call_tupleF o_tuple nx_tuple (by rfl) T.z_tuple (by decide +kernel) (da_cons (de_lc [("j", 20), ("name", 19)] rfl nd (di_enum (by rfl) T.z_enumerate (da_cons (de_lst (da_cons de_str (da_cons de_str (da_cons de_str da_nil)))) da_nil)) (blkOk_by (by rfl)) (fun _ _ _ _ _ => (dg_tup K rfl rfl (dgs_cons (dg_name 20 nd) (dgs_cons (dg_name 19 nd) dgs_nil)))) (by decide) (fun _ _ _ _ _ => dts_nil) (fun _ _ _ _ _ => (de_tup (da_cons (de_var 19) (da_cons (de_op op_sub o_sub nx_sub (de_op op_mod o_mod nx_mod (de_callTy call_int1 o_int1 nx_int1 (by rfl) T.z_int (by decide +kernel) (da_cons (de_ix (ix_all rfl (hu20 hr)) o_ixA nx_ixA (de_var 1) (de_op op_mod o_mod nx_mod (de_op op_addD o_add nx_add (de_op op_addD o_add nx_add (de_op op_addD o_add nx_add de_int (de_op op_mulW o_mul nx_mul de_int (de_var 7))) (de_var 20)) (de_var 2)) de_int) (fun _ _ => rfl)) da_nil)) de_int) de_int) da_nil))))) da_nil)))
    (dss_cons (ds_set 9 nd (de_callTy (call_dictA rfl rfl (hu20 hr)) o_dictA nx_dictA (by rfl) T.z_dict (by decide +kernel) (da_cons (de_callTy (call_listA rfl) o_listA nx_listA (by rfl) T.z_list (by decide +kernel) (da_cons (de_var 8) da_nil)) da_nil)))
    (dss_cons (ds_setLc 10 [("own", 21)] rfl nd (sw_true rfl rfl rfl (by decide +kernel)) (di_anyA (de_tup (da_cons (de_var 5) (da_cons (de_var 3) (da_cons (de_var 4) (da_cons (de_var 6) da_nil)))))) (blkOk_by (by rfl)) (fun _ _ _ _ _ => (dg_name 21 nd)) (by decide) (fun _ _ _ _ _ => dts_nil) (fun _ _ _ _ _ => (de_call takes0 (d__law_poly_worth T) (hr.mono (by decide)) (by rfl) (da_cons (de_var 21) (da_cons (de_var 9) da_nil)) (al_cons (al_cons al_nil)))))
    (dss_cons (ds_if (dt_cmp (op_neD (hu64 hr)) o_ne nx_ne (de_lc [("own", 21)] rfl nd (di_anyA (de_tup (da_cons (de_var 5) (da_cons (de_var 3) (da_cons (de_var 4) (da_cons (de_var 6) da_nil)))))) (blkOk_by (by rfl)) (fun _ _ _ _ _ => (dg_name 21 nd)) (by decide) (fun _ _ _ _ _ => dts_nil) (fun _ _ _ _ _ => (de_call takes0 (d_polynomial_worth T) (hr.mono (by decide)) (by rfl) (da_cons (de_var 21) (da_cons (de_var 8) da_nil)) (al_cons (al_cons al_nil))))) (de_var 10) (nomark _)) (dss_one (ds_ret de_bl)) dss_nil)
    (dss_cons (ds_if (dt_w (dw_and (dt_cmp (op_ord .ge (hu66 hr)) (o_ord .ge) (nx_ord .ge) (de_callB (call_minD rfl (hu64 hr)) (o_mm rfl) nx_mm (by rfl) T.z_min (by decide +kernel) (da_cons (de_listVals rfl (by rfl) T.z_list (de_var 9)) da_nil)) de_int (nomark _)) (dw_and1 (dt_not (dt_chain3 (op_ord .le (hu66 hr)) (o_ord .le) (nx_ord .le) (op_ord .le (hu66 hr)) (o_ord .le) (nx_ord .le) (op_ord .le (hu66 hr)) (o_ord .le) (nx_ord .le) (de_ix (ix_all rfl (hu20 hr)) o_ixA nx_ixA (de_var 10) de_int (fun _ _ => rfl)) (de_callB (call_minD rfl (hu64 hr)) (o_mm rfl) nx_mm (by rfl) T.z_min (by decide +kernel) (da_cons (de_ix (ix_all rfl (hu20 hr)) o_ixA nx_ixA (de_var 10) de_int (fun _ _ => rfl)) (da_cons (de_ix (ix_all rfl (hu20 hr)) o_ixA nx_ixA (de_var 10) de_int (fun _ _ => rfl)) da_nil))) (de_callB (call_maxD rfl (hu64 hr)) (o_mm rfl) nx_mm (by rfl) T.z_max (by decide +kernel) (da_cons (de_ix (ix_all rfl (hu20 hr)) o_ixA nx_ixA (de_var 10) de_int (fun _ _ => rfl)) (da_cons (de_ix (ix_all rfl (hu20 hr)) o_ixA nx_ixA (de_var 10) de_int (fun _ _ => rfl)) da_nil))) (de_ix (ix_all rfl (hu20 hr)) o_ixA nx_ixA (de_var 10) de_int (fun _ _ => rfl))))))) (dss_one (ds_ret de_bl)) dss_nil)
    (dss_cons (ds_set 11 nd (de_callTy (call_dictA rfl rfl (hu20 hr)) o_dictA nx_dictA (by rfl) T.z_dict (by decide +kernel) (da_cons (de_lc [("term", 17)] rfl nd (di_anyA (de_callB (call_sortedA rfl (hu80 hr)) o_sortedB nx_sortedB (by rfl) T.z_sorted (by decide +kernel) (da_cons (de_callTy (call_listA rfl) o_listA nx_listA (by rfl) T.z_list (by decide +kernel) (da_cons (de_callTy (call_dictA rfl rfl (hu20 hr)) o_dictA nx_dictA (by rfl) T.z_dict (by decide +kernel) (da_cons (de_callTy (call_listA rfl) o_listA nx_listA (by rfl) T.z_list (by decide +kernel) (da_cons (de_op op_addD o_add nx_add (de_var 3) (de_var 4)) da_nil)) da_nil)) da_nil)) da_nil))) (blkOk_by (by rfl)) (fun _ _ _ _ _ => (dg_name 17 nd)) (by decide) (fun _ _ _ _ _ => dts_nil) (fun _ _ _ _ _ => (de_tup (da_cons (de_var 17) (da_cons (de_tup (da_cons (de_get2 rfl (hu20 hr) (de_callTy (call_dictA rfl rfl (hu20 hr)) o_dictA nx_dictA (by rfl) T.z_dict (by decide +kernel) (da_cons (de_callTy (call_listA rfl) o_listA nx_listA (by rfl) T.z_list (by decide +kernel) (da_cons (de_var 3) da_nil)) da_nil)) (de_var 17) de_int ⟨by rfl, by rfl, by rfl, by rfl⟩) (da_cons (de_get2 rfl (hu20 hr) (de_callTy (call_dictA rfl rfl (hu20 hr)) o_dictA nx_dictA (by rfl) T.z_dict (by decide +kernel) (da_cons (de_callTy (call_listA rfl) o_listA nx_listA (by rfl) T.z_list (by decide +kernel) (da_cons (de_var 4) da_nil)) da_nil)) (de_var 17) de_int ⟨by rfl, by rfl, by rfl, by rfl⟩) da_nil))) da_nil))))) da_nil)))
    (dss_cons (ds_if (dt_cmp (op_neD (hu64 hr)) o_ne nx_ne (de_var 5) (de_callTy call_tupleF o_tuple nx_tuple (by rfl) T.z_tuple (by decide +kernel) (da_cons (de_lc [("term", 17)] rfl nd (di_anyA (de_callB (call_sortedA rfl (hu80 hr)) o_sortedB nx_sortedB (by rfl) T.z_sorted (by decide +kernel) (da_cons (de_var 11) da_nil))) (blkOk_by (by rfl)) (fun _ _ _ _ _ => (dg_name 17 nd)) (by decide) (fun _ _ _ _ _ => (dts_one (dt_cmp (op_neD (hu64 hr)) o_ne nx_ne (de_callB (call_minD rfl (hu64 hr)) (o_mm rfl) nx_mm (by rfl) T.z_min (by decide +kernel) (da_cons (de_ix (ix_all rfl (hu20 hr)) o_ixA nx_ixA (de_var 11) (de_var 17) (fun _ _ => rfl)) da_nil)) de_int (nomark _)))) (fun _ _ _ _ _ => (de_tup (da_cons (de_var 17) (da_cons (de_callB (call_minD rfl (hu64 hr)) (o_mm rfl) nx_mm (by rfl) T.z_min (by decide +kernel) (da_cons (de_ix (ix_all rfl (hu20 hr)) o_ixA nx_ixA (de_var 11) (de_var 17) (fun _ _ => rfl)) da_nil)) da_nil))))) da_nil)) (nomark _)) (dss_one (ds_ret de_bl)) dss_nil)
    (dss_one (ds_if (dt_cmp (op_neD (hu64 hr)) o_ne nx_ne (de_var 6) (de_callTy call_tupleF o_tuple nx_tuple (by rfl) T.z_tuple (by decide +kernel) (da_cons (de_lc [("term", 17)] rfl nd (di_anyA (de_callB (call_sortedA rfl (hu80 hr)) o_sortedB nx_sortedB (by rfl) T.z_sorted (by decide +kernel) (da_cons (de_var 11) da_nil))) (blkOk_by (by rfl)) (fun _ _ _ _ _ => (dg_name 17 nd)) (by decide) (fun _ _ _ _ _ => (dts_one (dt_cmp (op_neD (hu64 hr)) o_ne nx_ne (de_callB (call_maxD rfl (hu64 hr)) (o_mm rfl) nx_mm (by rfl) T.z_max (by decide +kernel) (da_cons (de_ix (ix_all rfl (hu20 hr)) o_ixA nx_ixA (de_var 11) (de_var 17) (fun _ _ => rfl)) da_nil)) de_int (nomark _)))) (fun _ _ _ _ _ => (de_tup (da_cons (de_var 17) (da_cons (de_callB (call_maxD rfl (hu64 hr)) (o_mm rfl) nx_mm (by rfl) T.z_max (by decide +kernel) (da_cons (de_ix (ix_all rfl (hu20 hr)) o_ixA nx_ixA (de_var 11) (de_var 17) (fun _ _ => rfl)) da_nil)) da_nil))))) da_nil)) (nomark _)) (dss_one (ds_ret de_bl)) dss_nil))))))))))
    (dss_cons (ds_set 12 nd (de_op op_mod o_mod nx_mod (de_callTy call_int1 o_int1 nx_int1 (by rfl) T.z_int (by decide +kernel) (da_cons (de_ix (ix_all rfl (hu20 hr)) o_ixA nx_ixA (de_var 1) (de_op op_addD o_add nx_add de_int (de_var 2)) (fun _ _ => rfl)) da_nil)) (de_callB (call_maxD rfl (hu64 hr)) (o_mm rfl) nx_mm (by rfl) T.z_max (by decide +kernel) (da_cons de_int (da_cons (de_callB call_lenD o_len nx_len (by rfl) T.z_len (by decide +kernel) (da_cons (de_var 3) da_nil)) da_nil)))))
    (dss_cons (ds_set 13 nd (de_lst (da_cons de_non (da_cons (de_tup (da_cons (de_tup da_nil) (da_cons de_int da_nil))) (da_cons (de_tup (da_cons (de_tup da_nil) (da_cons de_bl da_nil))) (da_cons (de_tup (da_cons (de_tup (da_cons (de_tup (da_cons de_str (da_cons de_int da_nil))) da_nil)) (da_cons de_int da_nil))) (da_cons (de_tup (da_cons (de_tup (da_cons (de_tup (da_cons de_str (da_cons de_int da_nil))) da_nil)) (da_cons de_int da_nil))) (da_cons (de_tup (da_cons (de_tup (da_cons (de_tup (da_cons de_str (da_cons de_int da_nil))) (da_cons (de_tup (da_cons de_str (da_cons de_int da_nil))) da_nil))) (da_cons de_int da_nil))) (da_cons (de_tup (da_cons (de_tup (da_cons (de_tup (da_cons de_str (da_cons de_int da_nil))) (da_cons (de_tup (da_cons de_str (da_cons de_int da_nil))) da_nil))) (da_cons de_int da_nil))) da_nil)))))))))
    (dss_cons (ds_set 13 nd (de_op op_addD o_add nx_add (de_var 13) (de_lst (da_cons (de_lst (da_cons (de_tup da_nil) (da_cons de_int da_nil))) (da_cons (de_tup (da_cons (de_tup (da_cons (de_tup (da_cons de_str (da_cons de_int da_nil))) da_nil)) da_nil)) (da_cons (de_tup (da_cons (de_tup (da_cons (de_tup (da_cons de_str (da_cons de_int da_nil))) da_nil)) (da_cons de_int da_nil))) (da_cons (de_tup (da_cons (de_tup (da_cons (de_tup (da_cons de_str (da_cons de_int da_nil))) da_nil)) (da_cons de_str da_nil))) (da_cons (de_tup (da_cons (de_tup (da_cons (de_tup (da_cons de_str (da_cons de_int da_nil))) (da_cons (de_tup (da_cons de_str (da_cons de_int da_nil))) da_nil))) (da_cons de_int da_nil))) (da_cons (de_tup (da_cons (de_tup (da_cons (de_tup (da_cons de_str da_nil)) da_nil)) (da_cons de_int da_nil))) da_nil)))))))))
    (dss_cons (ds_for (passes_of rfl) rfl (di_anyA (de_var 13)) (dg_name 14 nd) (dss_cons (ds_set 15 nd (de_op op_addD o_add nx_add (de_op op_addD o_add nx_add (de_slice (de_var 3) do_none (do_some (de_var 12))) (de_tup (da_cons (de_var 14) da_nil))) (de_slice (de_var 3) (do_some (de_op op_addD o_add nx_add (de_var 12) de_int)) do_none)))
    (dss_one (ds_if (dt_w (dw_or (dt_cmp (op_neD (hu64 hr)) o_ne nx_ne (de_call tk (d_polynomial_fault T) (hr.mono (by decide)) (by rfl) (da_cons (de_var 15) da_nil) (al_cons al_nil)) (de_call tk (d__law_fault T) (hr.mono (by decide)) (by rfl) (da_cons (de_var 15) da_nil) (al_cons al_nil)) (nomark _)) (dw_or (dt_cmp op_isN o_isN nx_isN (de_call tk (d__law_fault T) (hr.mono (by decide)) (by rfl) (da_cons (de_var 15) da_nil) (al_cons al_nil)) de_non (nomark _)) (dw_or1 (dt_cmp (op_neD (hu64 hr)) o_ne nx_ne (de_lc [("call", 22)] rfl nd (di_range1 (by rfl) T.z_range (da_cons de_int da_nil)) (blkOk_by (by rfl)) (fun _ _ _ _ _ => (dg_name 22 nd)) (by decide) (fun _ _ _ _ _ => dts_nil) (fun _ _ _ _ _ => (de_call takes0 (d__law_told T) (hr.mono (by decide)) (by rfl) (da_cons (de_var 22) (da_cons (de_var 15) (da_cons (de_tup da_nil) da_nil))) (al_cons (al_cons (al_cons al_nil)))))) (de_rep (da_cons de_str da_nil) de_int) (nomark _)))))) (dss_one (ds_ret de_bl)) dss_nil))))
    (dss_one (ds_for (passes_of rfl) rfl (di_anyA (de_tup (da_cons (de_rev (de_var 3)) (da_cons (de_op op_addD o_add nx_add (de_var 3) (de_slice (de_var 3) do_none (do_some de_int))) (da_cons (de_callTy (call_listA rfl) o_listA nx_listA (by rfl) T.z_list (by decide +kernel) (da_cons (de_var 3) da_nil)) (da_cons de_non (da_cons (de_slice (de_var 3) (do_some de_int) do_none) da_nil))))))) (dg_name 15 nd) (dss_one (ds_if (dt_cmp (op_neD (hu64 hr)) o_ne nx_ne (de_call tk (d_polynomial_fault T) (hr.mono (by decide)) (by rfl) (da_cons (de_var 15) da_nil) (al_cons al_nil)) (de_call tk (d__law_fault T) (hr.mono (by decide)) (by rfl) (da_cons (de_var 15) da_nil) (al_cons al_nil)) (nomark _)) (dss_one (ds_ret de_bl)) dss_nil))))))))))))))
    (dss_cons (ds_set 16 nd (de_tup (da_cons (de_tup (da_cons (de_tup (da_cons (de_tup (da_cons de_str (da_cons de_int da_nil))) (da_cons (de_tup (da_cons de_str (da_cons de_int da_nil))) da_nil))) (da_cons de_int da_nil))) (da_cons (de_tup (da_cons (de_tup (da_cons (de_tup (da_cons de_str (da_cons de_int da_nil))) da_nil)) (da_cons (de_un un_neg o_neg nx_neg de_int) da_nil))) da_nil))))
    (dss_cons (ds_if (dt_cmp (op_neD (hu64 hr)) o_ne nx_ne (de_lc [("wrong", 23)] rfl nd (di_anyA (de_tup (da_cons de_non (da_cons (de_tup (da_cons (de_tup (da_cons de_str (da_cons de_bl da_nil))) da_nil)) (da_cons (de_tup (da_cons (de_tup (da_cons de_str (da_cons de_int da_nil))) da_nil)) (da_cons (de_tup (da_cons (de_tup (da_cons de_str (da_cons de_int da_nil))) da_nil)) (da_cons (de_tup da_nil) da_nil))))))) (blkOk_by (by rfl)) (fun _ _ _ _ _ => (dg_name 23 nd)) (by decide) (fun _ _ _ _ _ => dts_nil) (fun _ _ _ _ _ => (de_call takes0 (d__law_told T) (hr.mono (by decide)) (by rfl) (da_cons de_int (da_cons (de_var 16) (da_cons (de_var 23) da_nil))) (al_cons (al_cons (al_cons al_nil)))))) (de_lst (da_cons de_str (da_cons de_str (da_cons de_str (da_cons de_str (da_cons de_str da_nil)))))) (nomark _)) (dss_one (ds_ret de_bl)) dss_nil)
    (dss_cons (ds_if (dt_not (dt_cmp (op_eqD (hu64 hr)) o_eq nx_eq (de_call tk (d_polynomial_worth T) (hr.mono (by decide)) (by rfl) (da_cons (de_var 16) (da_cons (de_tup (da_cons (de_tup (da_cons de_str (da_cons de_int da_nil))) (da_cons (de_tup (da_cons de_str (da_cons de_int da_nil))) da_nil))) da_nil)) (al_cons (al_cons al_nil))) de_int (nomark _))) (dss_one (ds_ret de_bl)) dss_nil)
    (dss_one (ds_ret (de_and (de_cmp (op_eqD (hu64 hr)) o_eq nx_eq (de_call tk (d_polynomial_worth T) (hr.mono (by decide)) (by rfl) (da_cons (de_var 16) (da_cons (de_tup (da_cons (de_tup (da_cons de_str (da_cons de_int da_nil))) (da_cons (de_tup (da_cons de_str (da_cons (de_un un_neg o_neg nx_neg de_int) da_nil))) da_nil))) da_nil)) (al_cons (al_cons al_nil))) de_int (nomark _)) (de_and (de_isi ty_tuple (de_call tk (d_lesser_of T) (hr.mono (by decide)) (by rfl) (da_cons (de_var 16) (da_cons (de_tup da_nil) da_nil)) (al_cons (al_cons al_nil))) (by rfl) T.z_isinstance (by rfl) T.z_tuple (by decide +kernel)) (de_one (de_cmp (op_eqD (hu64 hr)) o_eq nx_eq (de_call tk (d_lesser_of T) (hr.mono (by decide)) (by rfl) (da_cons (de_var 16) (da_cons (de_tup da_nil) da_nil)) (al_cons (al_cons al_nil))) (de_slice (de_var 16) (do_some de_int) do_none) (nomark _))))))))))))
end DL
/-! evaluation of the data readings, by simp. -/
namespace DL
open PySem PySem.Spec PyProof.Rows L2
section
variable {f g h : DEnv → R PyData} {t u : DEnv → R Bool} {s s' : DEnv → SR} {ρ : DEnv} {as : DEnv → R (List PyData)}
@[simp] theorem ev_fC (d : PyData) : fC d ρ = .ok d := rfl
@[simp] theorem ev_f1 (k : PyData → R PyData) : f1 k f ρ = (f ρ).bind k := rfl
@[simp] theorem ev_f2 (k : PyData → PyData → R PyData) : f2 k f g ρ = (f ρ).bind fun x => (g ρ).bind fun y => k x y := rfl
@[simp] theorem ev_fB : fB f ρ = (f ρ).bind boolD := rfl
@[simp] theorem ev_boolD (b : Bool) : boolD (.bool b) = .ok b := rfl
@[simp] theorem ev_fTr : fTr f ρ = (f ρ).bind truD := rfl
@[simp] theorem ev_truD (b : Bool) : truD (.bool b) = .ok b := rfl
@[simp] theorem ev_fA (k : List PyData → R PyData) : fA k as ρ = (as ρ).bind k := rfl
@[simp] theorem ev_fNil : fNil ρ = .ok [] := rfl
@[simp] theorem ev_fCons : fCons f as ρ = (f ρ).bind fun d => (as ρ).bind fun ds => .ok (d :: ds) := rfl
@[simp] theorem ev_g1 (k : PyData → R PyData) (d : PyData) : g1 k [d] = k d := rfl
@[simp] theorem ev_fAnd : fAnd t u ρ = (t ρ).bind fun b => if b = true then u ρ else .ok false := rfl
@[simp] theorem ev_fOr : fOr t u ρ = (t ρ).bind fun b => if b = true then .ok true else u ρ := rfl
@[simp] theorem ev_fNot : fNot t ρ = (t ρ).bind fun b => .ok (!b) := rfl
@[simp] theorem ev_fAndV : fAndV f g ρ = (fB f ρ).bind fun b => if b = true then g ρ else .ok (.bool false) := rfl
@[simp] theorem ev_fOrV : fOrV f g ρ = (fB f ρ).bind fun b => if b = true then .ok (.bool true) else g ρ := rfl
@[simp] theorem ev_fNotV : fNotV f ρ = (fB f ρ).bind fun b => .ok (.bool (!b)) := rfl
@[simp] theorem ev_fIf : fIf t f g ρ = (t ρ).bind fun b => if b = true then f ρ else g ρ := rfl
@[simp] theorem ev_fYes : fYes ρ = .ok true := rfl
@[simp] theorem ev_sSeq : sSeq s s' ρ = (s ρ).seq s' := rfl
@[simp] theorem ev_sNext : sNext ρ = .next ρ := rfl
@[simp] theorem ev_gN (i : Nat) (d : PyData) : gN i d ρ = some (ρ.set i (.val d)) := rfl
@[simp] theorem ev_gT (gs : List PyData → DEnv → Option DEnv) (ds : List PyData) : gT gs (.tuple ds) ρ = gs ds ρ := rfl
@[simp] theorem ev_gL (gs : List PyData → DEnv → Option DEnv) (ds : List PyData) : gL gs (.list ds) ρ = gs ds ρ := rfl
@[simp] theorem ev_gsNil : gsNil [] ρ = some ρ := rfl
@[simp] theorem ev_gsCons (k : PyData → DEnv → Option DEnv) (gs : List PyData → DEnv → Option DEnv) (d : PyData) (ds : List PyData) : gsCons k gs (d :: ds) ρ = (k d ρ).bind (gs ds) := rfl
theorem ev_sIf {b : Bool} (e : t ρ = .ok b) : sIf t s s' ρ = if b = true then s ρ else s' ρ := by simp only [sIf, e]
theorem ev_sIf_t (e : t ρ = .ok true) : sIf t s s' ρ = s ρ := by simp only [sIf, e, if_true]
theorem ev_sIf_f (e : t ρ = .ok false) : sIf t s s' ρ = s' ρ := by simp only [sIf, e, Bool.false_eq_true, if_false]
theorem ev_asg {i : Nat} {d : PyData} (e : f ρ = .ok d) : sAsg (gN i) f ρ = .next (ρ.set i (.val d)) := by simp only [sAsg, sBind, e, gN]
theorem ev_ret {d : PyData} (e : f ρ = .ok d) : sRet f ρ = .ret d := by simp only [sRet, sBind, e]
theorem ev_drop {d : PyData} (e : f ρ = .ok d) : sDrop f ρ = .next ρ := by simp only [sDrop, sBind, e]
theorem ev_for {fi : DEnv → R (List PyData)} {k : PyData → DEnv → Option DEnv} {items : List PyData} (e : fi ρ = .ok items) : sFor fi k s ρ = forD k s items ρ := by simp only [sFor, e]
theorem ev_lc {fi : DEnv → R (List PyData)} {k : PyData → DEnv → Option DEnv} {vs : List Nat} {items ds : List PyData} (e : fi ρ = .ok items) (l : lcD k t f items (wipeE ρ vs) = .ok ds) : fLc fi k t f vs ρ = .ok (.list ds) := by
  simp only [fLc, fLcO, e, R.bind_ok, l]
theorem seq_next {ρ' : DEnv} (e : s ρ = .next ρ') : sSeq s s' ρ = s' ρ' := by simp only [sSeq, e, SR.seq_next]
theorem seq_ret {d : PyData} (e : s ρ = .ret d) : sSeq s s' ρ = .ret d := by simp only [sSeq, e, SR.seq_ret]
theorem ev_app {i : Nat} {xs : List PyData} {d : PyData} (h1 : ρ[i]? = some (.own (.lst xs))) (h2 : f ρ = .ok d) (h3 : xs.length < sizeLine) : sApp i f ρ = .next (ρ.set i (.own (.lst (xs ++ [d])))) := by simp only [sApp, h1, h2, if_pos h3]
end
@[simp] theorem ev_add (a b : Int) : gAdd (.int a) (.int b) = .ok (.int (a + b)) := rfl
@[simp] theorem ev_sub (a b : Int) : gSub (.int a) (.int b) = .ok (.int (a - b)) := rfl
theorem ev_mul {a b : Int} (h : a.natAbs.log2 + b.natAbs.log2 < 1000000) : gMul (.int a) (.int b) = .ok (.int (a * b)) := if_pos h
theorem ev_fdiv {a b : Int} (h : 0 < b ∧ b.natAbs.log2 < 9000) : gFdiv (.int a) (.int b) = .ok (.int (a / b)) := if_pos h
theorem ev_mod {a b : Int} (h : 0 < b) : gMod (.int a) (.int b) = .ok (.int (a % b)) := if_pos h
@[simp] theorem ev_int (a : Int) : gInt (.int a) = .ok (.int a) := rfl
@[simp] theorem ev_ord (o : Od) (a b : Int) : gOrd o (.int a) (.int b) = .ok (.bool (o.int a b)) := by
  unfold gOrd
  rw [if_pos ⟨rfl, rfl⟩]
  rfl
theorem log2_le {n k : Nat} (h : n < 2 ^ (k + 1)) : n.log2 ≤ k := by
  rcases Nat.eq_zero_or_pos n with h0 | h0
  · subst h0; simp
  · exact Nat.lt_succ_iff.mp ((Nat.log2_lt (by omega)).mpr h)
/-- products of numbers that are not too large -/
theorem ev_mul_small {a b : Int} (ha : a.natAbs < 2 ^ 400000) (hb : b.natAbs < 2 ^ 400000) : gMul (.int a) (.int b) = .ok (.int (a * b)) :=
  ev_mul (by
    have h1 := log2_le (k := 399999) ha
    have h2 := log2_le (k := 399999) hb
    omega)
theorem lt_big {n : Nat} (h : n < 2 ^ 64) : n < 2 ^ 400000 := Nat.lt_of_lt_of_le h (Nat.pow_le_pow_right (by decide) (by decide))
theorem ev_mul64 {a b : Int} (ha : a.natAbs < 2 ^ 64) (hb : b.natAbs < 2 ^ 64) : gMul (.int a) (.int b) = .ok (.int (a * b)) := ev_mul_small (lt_big ha) (lt_big hb)
/-! ### loops and comprehensions, as lists -/
theorem forD_drop {I : Nat → DEnv → Prop} {g : PyData → DEnv → Option DEnv} {body : DEnv → SR} {all : List PyData} (step : ∀ i d ρ, all[i]? = some d → I i ρ → ∃ ρ1, g d ρ = some ρ1 ∧ ∃ ρ2, body ρ1 = .next ρ2 ∧ I (i + 1) ρ2) :
    ∀ (items : List PyData) (i : Nat), all.drop i = items → ∀ ρ, I i ρ → ∃ ρ', forD g body items ρ = .next ρ' ∧ I (i + items.length) ρ'
  | [], i, _, ρ, h => ⟨ρ, rfl, h⟩
  | d :: ds, i, e, ρ, h => by
    have hd : all[i]? = some d := by
      have := congrArg (·[0]?) e
      simpa using this
    obtain ⟨ρ1, e1, ρ2, e2, h2⟩ := step i d ρ hd h
    obtain ⟨ρ', e3, h3⟩ := forD_drop step ds (i + 1) (by rw [← List.drop_drop, e]; rfl) ρ2 h2
    refine ⟨ρ', ?_, by simpa [Nat.add_assoc, Nat.add_comm 1] using h3⟩
    simp only [forD, e1, e2]
    exact e3
theorem forD_inv {I : Nat → DEnv → Prop} {g : PyData → DEnv → Option DEnv} {body : DEnv → SR} {items : List PyData} (step : ∀ i d ρ, items[i]? = some d → I i ρ → ∃ ρ1, g d ρ = some ρ1 ∧ ∃ ρ2, body ρ1 = .next ρ2 ∧ I (i + 1) ρ2) {ρ : DEnv} (h : I 0 ρ) :
    ∃ ρ', forD g body items ρ = .next ρ' ∧ I items.length ρ' := by
  obtain ⟨ρ', e, h'⟩ := forD_drop step items 0 rfl ρ h
  exact ⟨ρ', e, by simpa using h'⟩
theorem lcD_map {g : PyData → DEnv → Option DEnv} {fe : DEnv → R PyData} {ρ : DEnv} (φ : PyData → PyData) : ∀ {items : List PyData}, (∀ d ∈ items, ∃ ρ1, g d ρ = some ρ1 ∧ fe ρ1 = .ok (φ d)) → lcD g fYes fe items ρ = .ok (items.map φ)
  | [], _ => rfl
  | d :: ds, h => by
    obtain ⟨ρ1, e1, e2⟩ := h d (by simp)
    have r := lcD_map φ (items := ds) fun x hx => h x (by simp [hx])
    simp only [lcD, e1, fYes, R.noX, R.bind_ok, if_true, e2, List.map_cons]
    rw [r]
    rfl
theorem lcD_if {g : PyData → DEnv → Option DEnv} {ft : DEnv → R Bool} {fe : DEnv → R PyData} {ρ : DEnv} (φ : PyData → PyData) (p : PyData → Bool) : ∀ {items : List PyData}, (∀ d ∈ items, ∃ ρ1, g d ρ = some ρ1 ∧ ft ρ1 = .ok (p d) ∧ (p d = true → fe ρ1 = .ok (φ d))) → lcD g ft fe items ρ = .ok ((items.filter p).map φ)
  | [], _ => rfl
  | d :: ds, h => by
    obtain ⟨ρ1, e1, e2, e3⟩ := h d (by simp)
    have r := lcD_if φ p (items := ds) fun x hx => h x (by simp [hx])
    simp only [lcD, e1, e2, R.noX, R.bind_ok]
    cases hp : p d with
    | true => simp only [if_true, e3 hp, R.bind_ok, r, List.filter_cons, hp, List.map_cons]
    | false => simp only [Bool.false_eq_true, if_false, r, List.filter_cons, hp]
/-- a statement goes through to slots that P tells of -/
def Runs (s : DEnv → SR) (ρ : DEnv) (P : DEnv → Prop) : Prop := ∃ ρ', s ρ = .next ρ' ∧ P ρ'
section
variable {s s' : DEnv → SR} {ρ ρ1 : DEnv} {P Q : DEnv → Prop} {f : DEnv → R PyData} {t : DEnv → R Bool}
theorem runs_of (e : s ρ = .next ρ1) (h : P ρ1) : Runs s ρ P := ⟨ρ1, e, h⟩
theorem runs_mono (h : Runs s ρ P) (i : ∀ ρ, P ρ → Q ρ) : Runs s ρ Q := let ⟨ρ', e, p⟩ := h; ⟨ρ', e, i _ p⟩
theorem runs_seq (h : Runs s ρ P) (n : ∀ ρ1, P ρ1 → Runs s' ρ1 Q) : Runs (sSeq s s') ρ Q := by
  obtain ⟨ρ1, e, p⟩ := h
  obtain ⟨ρ2, e2, q⟩ := n ρ1 p
  exact ⟨ρ2, (seq_next e).trans e2, q⟩
theorem runs_step (e : s ρ = .next ρ1) (n : Runs s' ρ1 Q) : Runs (sSeq s s') ρ Q := runs_seq (P := fun r => r = ρ1) ⟨_, e, rfl⟩ fun r h => by subst h; exact n
theorem runs_asg {i : Nat} {d : PyData} (e : f ρ = .ok d) (n : Runs s' (ρ.set i (.val d)) Q) : Runs (sSeq (sAsg (gN i) f) s') ρ Q := runs_step (ev_asg e) n
theorem runs_asg1 {i : Nat} {d : PyData} (e : f ρ = .ok d) (n : Q (ρ.set i (.val d))) : Runs (sAsg (gN i) f) ρ Q := ⟨_, ev_asg e, n⟩
theorem runs_t (e : t ρ = .ok true) (h : Runs s ρ P) : Runs (sIf t s s') ρ P := by unfold Runs; rw [ev_sIf_t e]; exact h
theorem runs_f (e : t ρ = .ok false) (h : Runs s' ρ P) : Runs (sIf t s s') ρ P := by unfold Runs; rw [ev_sIf_f e]; exact h
theorem runs_skip (h : P ρ) : Runs sNext ρ P := ⟨ρ, rfl, h⟩
theorem runs_for {fi : DEnv → R (List PyData)} {g : PyData → DEnv → Option DEnv} {items : List PyData} (e : fi ρ = .ok items) (I : Nat → DEnv → Prop) (step : ∀ i d ρ, items[i]? = some d → I i ρ → ∃ ρ1, g d ρ = some ρ1 ∧ Runs s ρ1 (I (i + 1))) (h0 : I 0 ρ) (n : ∀ ρ, I items.length ρ → P ρ) : Runs (sFor fi g s) ρ P := by
  obtain ⟨ρ', e', h'⟩ := forD_inv (I := I) (g := g) (body := s) (items := items) (fun i d ρ hd hi => let ⟨ρ1, e1, ρ2, e2, h2⟩ := step i d ρ hd hi; ⟨ρ1, e1, ρ2, e2, h2⟩) h0
  exact ⟨ρ', (ev_for e).trans e', n _ h'⟩
theorem runs_ret {d : PyData} (h : Runs s ρ P) (n : ∀ ρ1, P ρ1 → s' ρ1 = .ret d) : sSeq s s' ρ = .ret d := by
  obtain ⟨ρ1, e, p⟩ := h
  exact (seq_next e).trans (n ρ1 p)
end
/-- a statement returns what P tells of -/
def Rets (s : DEnv → SR) (ρ : DEnv) (P : PyData → Prop) : Prop := ∃ d, s ρ = .ret d ∧ P d
section
variable {s s' : DEnv → SR} {ρ ρ1 : DEnv} {P : DEnv → Prop} {Q : PyData → Prop} {f : DEnv → R PyData} {t : DEnv → R Bool}
theorem rets_seq (h : Runs s ρ P) (n : ∀ ρ1, P ρ1 → Rets s' ρ1 Q) : Rets (sSeq s s') ρ Q := by
  obtain ⟨ρ1, e, p⟩ := h
  obtain ⟨d, e2, q⟩ := n ρ1 p
  exact ⟨d, (seq_next e).trans e2, q⟩
theorem rets_step (e : s ρ = .next ρ1) (n : Rets s' ρ1 Q) : Rets (sSeq s s') ρ Q := rets_seq (P := fun r => r = ρ1) ⟨_, e, rfl⟩ fun r h => by subst h; exact n
theorem rets_asg {i : Nat} {d : PyData} (e : f ρ = .ok d) (n : Rets s' (ρ.set i (.val d)) Q) : Rets (sSeq (sAsg (gN i) f) s') ρ Q := rets_step (ev_asg e) n
theorem rets_ret {d : PyData} (e : f ρ = .ok d) (q : Q d) : Rets (sRet f) ρ Q := ⟨d, ev_ret e, q⟩
theorem rets_first (h : Rets s ρ Q) : Rets (sSeq s s') ρ Q := let ⟨d, e, q⟩ := h; ⟨d, seq_ret e, q⟩
theorem rets_t (e : t ρ = .ok true) (h : Rets s ρ Q) : Rets (sIf t s s') ρ Q := by unfold Rets; rw [ev_sIf_t e]; exact h
theorem rets_f (e : t ρ = .ok false) (h : Rets s' ρ Q) : Rets (sIf t s s') ρ Q := by unfold Rets; rw [ev_sIf_f e]; exact h
theorem rets_fun (h : Rets s ρ Q) : Rets (fun ρ => s ρ) ρ Q := h
theorem retD_of {d : PyData} (h : Rets s ρ fun x => x = d) : retD (s ρ) = .ok d := by
  obtain ⟨x, e, rfl⟩ := h
  rw [e]
  rfl
end
theorem rangeD_get {a b : Int} {i : Nat} {d : PyData} (h : (rangeD a b)[i]? = some d) : d = .int (a + i) ∧ (i : Int) < b - a := by
  unfold rangeD at h
  rw [List.getElem?_map] at h
  cases e : (List.range (b - a).toNat)[i]? with
  | none => rw [e] at h; cases h
  | some n =>
    rw [e] at h
    cases h
    obtain ⟨hi, e⟩ := List.getElem?_eq_some_iff.mp e
    rw [List.length_range] at hi
    rw [List.getElem_range] at e
    subst e
    exact ⟨rfl, by omega⟩
theorem rangeD_len (a b : Int) : (rangeD a b).length = (b - a).toNat := by simp [rangeD]
theorem cut_take {α : Type} (xs : List α) (k : Nat) : cutL xs none (some (k : Int)) = xs.take k := by
  unfold cutL
  rw [HT.sIx_none, HT.sIx_nat]
  simp [List.take_eq_take_iff]
theorem cut_drop {α : Type} (xs : List α) (k : Nat) : cutL xs (some (k : Int)) none = xs.drop k := by
  unfold cutL
  rw [HT.sIx_none, HT.sIx_nat]
  by_cases h : k ≤ xs.length
  · rw [Nat.min_eq_left h, List.take_of_length_le (by simp)]
  · rw [Nat.min_eq_right (by omega), List.drop_length, List.drop_of_length_le (by omega)]
    simp
end DL
namespace DL
open PySem PySem.Spec PyProof.Rows L2
/-! ### the draws -/
def dInts (ns : List Int) : List PyData := ns.map PyData.int
theorem dInts_get {ns : List Int} {i : Nat} {d : PyData} (h : (dInts ns)[i]? = some d) : ∃ n, d = .int n := by
  unfold dInts at h
  rw [List.getElem?_map] at h
  cases e : ns[i]? with
  | none => rw [e] at h; cases h
  | some n => rw [e] at h; cases h; exact ⟨n, rfl⟩
theorem dInts_app (a : List Int) (x : Int) : dInts a ++ [.int x] = dInts (a ++ [x]) := by simp [dInts]
theorem dInts_len (a : List Int) : (dInts a).length = a.length := by simp [dInts]
/-- one digit of a big number -/
def bDigit : DEnv → SR := (sIf (fB (f2 (gOrd .gt) (fVar 5) (fC (.int 0)))) (sSeq (sApp 2 (f2 gMod (fA (g1 gInt) (fCons (fVar 5) fNil)) (fC (.int 1009)))) (sAsg (gN 5) (f2 gFdiv (fVar 5) (fC (.int 1009))))) sNext)
def envD (sc : PyData) (m : Int) (acc : List Int) (seed : Int) (x4 x5 x6 : Sl) : DEnv := [.val sc, .val (.int m), .own (.lst (dInts acc)), .val (.int seed), x4, x5, x6]
theorem bDigit_of {sc : PyData} {m : Int} {acc : List Int} {seed num : Int} {x4 x6 : Sl} (hl : acc.length < 16777216) (hn : 0 ≤ num) : ∃ acc' num', bDigit (envD sc m acc seed x4 (.val (.int num)) x6) = .next (envD sc m acc' seed x4 (.val (.int num')) x6) ∧
    0 ≤ num' ∧ acc'.length ≤ acc.length + 1 ∧ ((∀ d ∈ acc, 0 ≤ d) → ∀ d ∈ acc', 0 ≤ d) := by
  have e1 : (fB (f2 (gOrd .gt) (fVar 5) (fC (.int 0)))) (envD sc m acc seed x4 (.val (.int num)) x6) = .ok (decide (0 < num)) := by
    show (gOrd .gt (.int num) (.int 0)).bind boolD = _
    rw [ev_ord]
    rfl
  unfold bDigit
  by_cases hp : 0 < num
  · refine ⟨acc ++ [num % 1009], num / 1009, ?_, Int.ediv_nonneg hn (by decide), by simp, fun h d hd => ?_⟩
    · rw [ev_sIf_t (by rw [e1]; simp [hp])]
      refine (seq_next (ev_app (xs := dInts acc) (d := .int (num % 1009)) rfl ?_ (by rw [dInts_len, sizeLine_eq]; exact hl))).trans ?_
      · show gMod (.int num) (.int 1009) = _
        exact ev_mod (by decide)
      · rw [dInts_app]
        refine (ev_asg (d := .int (num / 1009)) ?_).trans rfl
        show gFdiv (.int num) (.int 1009) = _
        exact ev_fdiv (by decide)
    · rcases List.mem_append.mp hd with hd | hd
      · exact h d hd
      · rw [List.mem_singleton] at hd
        subst hd
        exact Int.emod_nonneg _ (by decide)
  · refine ⟨acc, num, ?_, hn, by simp, fun h => h⟩
    rw [ev_sIf_f (by rw [e1]; simp [hp])]
    rfl
def IDraw (sc : PyData) (k b : Nat) (ρ : DEnv) : Prop := ∃ (acc : List Int) (seed : Int) (x4 x5 x6 : Sl), ρ = envD sc 300 acc seed x4 x5 x6 ∧ 0 ≤ seed ∧ seed < 2147483647 ∧ (∀ d ∈ acc, 0 ≤ d) ∧ acc.length ≤ k * b
/-- one cell of the script -/
theorem draw_cell {sc : PyData} {b : Nat} {n : Int} {acc : List Int} {seed : Int} {x5 x6 : Sl} (hb : b < 100) (h0 : 0 ≤ seed) (h1 : seed < 2147483647) (ha : ∀ d ∈ acc, 0 ≤ d) (hl : acc.length ≤ 60 * b) :
    Runs (sSeq (sAsg (gN 5) (fA (g1 gAbs) (fCons (fVar 4) fNil)))
    (sSeq (sAsg (gN 3) (f2 gMod (fA (g1 gInt) (fCons (f2 gAdd (f2 gAdd (f2 gMul (fVar 3) (fC (.int 48271))) (fVar 5)) (fC (.int 11))) fNil)) (fC (.int 2147483647))))
    (sIf (fB (f2 (gOrd .ge) (fVar 5) (f2 gPow (fC (.int 10)) (fC (.int 18))))) (sFor (fRange1 (fCons (fC (.int 60)) fNil)) (gN 6) bDigit) (sApp 2 (f2 gMod (f2 gFdiv (fA (g1 gInt) (fCons (f2 gAdd (f2 gMul (fVar 3) (fC (.int 16807))) (fC (.int 5))) fNil)) (fC (.int 3))) (fC (.int 65521)))))))
    (envD sc 300 acc seed (.val (.int n)) x5 x6) (IDraw sc 60 (b + 1)) := by
  have habs : (0 : Int) ≤ (if n < 0 then -n else n) := by split <;> omega
  generalize ea : (if n < 0 then -n else n) = num at habs
  refine runs_asg (d := .int num) (by show gAbs (.int n) = _; rw [← ea]; rfl) ?_
  have hs2 : 0 ≤ (seed * 48271 + num + 11) % 2147483647 := Int.emod_nonneg _ (by decide)
  have hs3 : (seed * 48271 + num + 11) % 2147483647 < 2147483647 := Int.emod_lt_of_pos _ (by decide)
  generalize es : (seed * 48271 + num + 11) % 2147483647 = sd at hs2 hs3
  refine runs_asg (d := .int sd) ?_ ?_
  · have m : gMul (.int seed) (.int 48271) = .ok (.int (seed * 48271)) := ev_mul64 (by omega) (by decide)
    have m2 : gMod (.int (seed * 48271 + num + 11)) (.int 2147483647) = .ok (.int sd) := by rw [ev_mod (by decide), es]
    simp [fVar, envD, m, m2]
  have hp : gPow (.int 10) (.int 18) = .ok (.int 1000000000000000000) := by
    show (if (0 : Int) ≤ 18 ∧ (18 : Int) ≤ 1000000 ∧ (10 : Int).natAbs < 2 ^ 64 then R.ok (PyData.int (10 ^ (18 : Int).toNat)) else .bad) = _
    rw [if_pos (by decide)]
    rfl
  have hc : (fB (f2 (gOrd .ge) (fVar 5) (f2 gPow (fC (.int 10)) (fC (.int 18))))) (envD sc 300 acc sd (.val (.int n)) (.val (.int num)) x6) = .ok (decide (1000000000000000000 ≤ num)) := by
    simp [fVar, envD, hp]
    rfl
  show Runs _ (envD sc 300 acc sd (.val (.int n)) (.val (.int num)) x6) _
  by_cases hbig : 1000000000000000000 ≤ num
  · refine runs_t (by rw [hc]; simp [hbig]) ?_
    refine runs_for (items := rangeD 0 60) rfl (fun i ρ => ∃ (acc' : List Int) (num' : Int) (x6 : Sl), ρ = envD sc 300 acc' sd (.val (.int n)) (.val (.int num')) x6 ∧ 0 ≤ num' ∧ (∀ d ∈ acc', 0 ≤ d) ∧ acc'.length ≤ 60 * b + i)
      (fun i d ρ hd hi => ?_) ⟨acc, num, x6, rfl, habs, ha, by omega⟩ (fun ρ hi => ?_)
    · obtain ⟨acc', num', y6, rfl, hn', ha', hl'⟩ := hi
      obtain ⟨rfl, hlt⟩ := rangeD_get hd
      obtain ⟨acc2, num2, e2, hn2, hl2, ha2⟩ := bDigit_of (sc := sc) (m := 300) (acc := acc') (seed := sd) (num := num') (x4 := .val (.int n)) (x6 := .val (.int (0 + i))) (by omega) hn'
      exact ⟨_, rfl, _, e2, acc2, num2, _, rfl, hn2, ha2 ha', by omega⟩
    · obtain ⟨acc', num', y6, rfl, hn', ha', hl'⟩ := hi
      rw [rangeD_len] at hl'
      exact ⟨acc', sd, _, _, _, rfl, hs2, hs3, ha', by omega⟩
  · refine runs_f (by rw [hc]; simp [hbig]) ?_
    have hd0 : 0 ≤ (sd * 16807 + 5) / 3 % 65521 := Int.emod_nonneg _ (by decide)
    refine runs_of (ev_app (xs := dInts acc) (d := .int ((sd * 16807 + 5) / 3 % 65521)) rfl ?_ (by rw [dInts_len, sizeLine_eq]; omega)) ?_
    · have m : gMul (.int sd) (.int 16807) = .ok (.int (sd * 16807)) := ev_mul64 (by omega) (by decide)
      have m2 : gFdiv (.int (sd * 16807 + 5)) (.int 3) = .ok (.int ((sd * 16807 + 5) / 3)) := ev_fdiv (by decide)
      have m3 : gMod (.int ((sd * 16807 + 5) / 3)) (.int 65521) = .ok (.int ((sd * 16807 + 5) / 3 % 65521)) := ev_mod (by decide)
      simp [fVar, envD, m, m2, m3]
    · rw [dInts_app]
      refine ⟨_, sd, _, _, _, rfl, hs2, hs3, fun d hd => ?_, by simp; omega⟩
      rcases List.mem_append.mp hd with hd | hd
      · exact ha d hd
      · rw [List.mem_singleton] at hd
        subst hd
        exact hd0
/-- one more draw -/
theorem draw_more {sc : PyData} {k : Int} {acc : List Int} {seed : Int} {x4 x5 : Sl} {i : Nat} (hk : k = i) (hi : i < 300) (h0 : 0 ≤ seed) (h1 : seed < 2147483647) (ha : ∀ d ∈ acc, 0 ≤ d) (hl : acc.length ≤ 10000) (hm : min i 300 ≤ acc.length) :
    Runs (sIf (fB (f2 (gOrd .lt) (fLenO 2) (fVar 1))) (sSeq (sAsg (gN 3) (f2 gMod (fA (g1 gInt) (fCons (f2 gAdd (f2 gAdd (f2 gMul (fVar 3) (fC (.int 69621))) (fVar 6)) (fC (.int 1))) fNil)) (fC (.int 2147483647))))
    (sApp 2 (f2 gMod (f2 gFdiv (fA (g1 gInt) (fCons (fVar 3) fNil)) (fC (.int 7))) (fC (.int 65521))))) sNext)
    (envD sc 300 acc seed x4 x5 (.val (.int k))) (fun ρ => ∃ (acc' : List Int) (seed' : Int) (x6 : Sl), ρ = envD sc 300 acc' seed' x4 x5 x6 ∧ 0 ≤ seed' ∧ seed' < 2147483647 ∧ (∀ d ∈ acc', 0 ≤ d) ∧ acc'.length ≤ max acc.length 300 ∧ min (i + 1) 300 ≤ acc'.length) := by
  have hL : fLenO 2 (envD sc 300 acc seed x4 x5 (.val (.int k))) = .ok (.int acc.length) := by
    show gLen (.list (dInts acc)) = _
    unfold gLen
    simp [dInts]
  have hc : (fB (f2 (gOrd .lt) (fLenO 2) (fVar 1))) (envD sc 300 acc seed x4 x5 (.val (.int k))) = .ok (decide ((acc.length : Int) < 300)) := by
    rw [ev_fB, ev_f2, hL]
    simp [fVar, envD]
    rfl
  by_cases hs : (acc.length : Int) < 300
  · refine runs_t (by rw [hc]; simp [hs]) ?_
    have hs2 : 0 ≤ (seed * 69621 + k + 1) % 2147483647 := Int.emod_nonneg _ (by decide)
    have hs3 : (seed * 69621 + k + 1) % 2147483647 < 2147483647 := Int.emod_lt_of_pos _ (by decide)
    generalize es : (seed * 69621 + k + 1) % 2147483647 = sd at hs2 hs3
    refine runs_asg (d := .int sd) ?_ ?_
    · have m : gMul (.int seed) (.int 69621) = .ok (.int (seed * 69621)) := ev_mul64 (by omega) (by decide)
      have m2 : gMod (.int (seed * 69621 + k + 1)) (.int 2147483647) = .ok (.int sd) := by rw [ev_mod (by decide), es]
      simp [fVar, envD, m, m2]
    · have hd0 : 0 ≤ sd / 7 % 65521 := Int.emod_nonneg _ (by decide)
      refine runs_of (ev_app (xs := dInts acc) (d := .int (sd / 7 % 65521)) rfl ?_ (by rw [dInts_len, sizeLine_eq]; omega)) ?_
      · have m2 : gFdiv (.int sd) (.int 7) = .ok (.int (sd / 7)) := ev_fdiv (by decide)
        have m3 : gMod (.int (sd / 7)) (.int 65521) = .ok (.int (sd / 7 % 65521)) := ev_mod (by decide)
        simp [fVar, envD, m2, m3]
      · rw [dInts_app]
        refine ⟨_, sd, _, rfl, hs2, hs3, fun d hd => ?_, by simp; omega, by simp; omega⟩
        rcases List.mem_append.mp hd with hd | hd
        · exact ha d hd
        · rw [List.mem_singleton] at hd
          subst hd
          exact hd0
  · refine runs_f (by rw [hc]; simp [hs]) ?_
    exact runs_skip ⟨acc, seed, _, rfl, h0, h1, ha, by omega, by omega⟩
theorem draws_of (ns : List Int) (hl : ns.length ≤ 63) : ∃ ds : List Int, ds.length = 300 ∧ (∀ d ∈ ds, 0 ≤ d) ∧ _law_draws [.list (dInts ns), .int 300] = .ok (.list (dInts ds)) := by
  have key : Rets b__law_draws (startE 7 [.list (dInts ns), .int 300]) fun d => ∃ ds : List Int, ds.length = 300 ∧ (∀ d ∈ ds, (0 : Int) ≤ d) ∧ d = .list (dInts ds) := by
    unfold b__law_draws
    have e0 : sSetO 2 (oLst fNil) (startE 7 [.list (dInts ns), .int 300]) = .next ((startE 7 [.list (dInts ns), .int 300]).set 2 (.own (.lst []))) := by
      simp [sSetO, oLst]
    refine rets_step e0 (rets_asg (d := .int 7) rfl ?_)
    show Rets _ (envD (.list (dInts ns)) 300 [] 7 .un .un .un) _
    refine rets_seq (P := IDraw (.list (dInts ns)) 60 ns.length) ?_ fun ρ1 h1 => ?_
    · have hc : cutL (dInts ns) none (some 63) = dInts ns := by
        rw [show (63 : Int) = ((63 : Nat) : Int) from rfl, cut_take, List.take_of_length_le (by rw [dInts_len]; exact hl)]
      refine runs_for (items := dInts ns) ?_ (IDraw (.list (dInts ns)) 60) (fun i d ρ hd hi => ?_) ⟨[], 7, _, _, _, rfl, by decide, by decide, by simp, by simp⟩ (fun ρ h => by rw [dInts_len] at h; exact h)
      · show (fSl (fVar 0) fNo (fPart (fC (.int 63))) _).bind itemsA = _
        have e : fSl (fVar 0) fNo (fPart (fC (.int 63))) (envD (.list (dInts ns)) 300 [] 7 .un .un .un) = .ok (.list (cutL (dInts ns) none (some 63))) := rfl
        rw [e, hc]
        rfl
      · obtain ⟨acc, seed, x4, x5, x6, rfl, h0, h1, ha, hl'⟩ := hi
        obtain ⟨n, rfl⟩ := dInts_get hd
        have hi : i < ns.length := by
          have := (List.getElem?_eq_some_iff.mp hd).1
          rwa [dInts_len] at this
        exact ⟨_, rfl, draw_cell (by omega) h0 h1 ha hl'⟩
    · obtain ⟨acc, seed, x4, x5, x6, rfl, h0, h1, ha, hl'⟩ := h1
      refine rets_seq (P := fun ρ => ∃ (acc' : List Int) (seed' : Int) (x6 : Sl), ρ = envD (.list (dInts ns)) 300 acc' seed' x4 x5 x6 ∧ (∀ d ∈ acc', 0 ≤ d) ∧ 300 ≤ acc'.length) ?_ fun ρ2 h2 => ?_
      · refine runs_for (items := rangeD 0 300) rfl (fun i ρ => ∃ (acc' : List Int) (seed' : Int) (x6 : Sl), ρ = envD (.list (dInts ns)) 300 acc' seed' x4 x5 x6 ∧ 0 ≤ seed' ∧ seed' < 2147483647 ∧ (∀ d ∈ acc', 0 ≤ d) ∧ acc'.length ≤ 10000 ∧ min i 300 ≤ acc'.length)
          (fun i d ρ hd hi => ?_) ⟨acc, seed, x6, rfl, h0, h1, ha, by omega, by omega⟩ (fun ρ hi => ?_)
        · obtain ⟨acc', seed', y6, rfl, g0, g1, ga, gl, gm⟩ := hi
          obtain ⟨rfl, hlt⟩ := rangeD_get hd
          refine ⟨_, rfl, runs_mono (draw_more (sc := .list (dInts ns)) (k := 0 + i) (x4 := x4) (x5 := x5) (by omega) (by omega) g0 g1 ga gl gm) fun ρ h => ?_⟩
          obtain ⟨a2, s2, z6, e2, q0, q1, qa, ql, qm⟩ := h
          exact ⟨a2, s2, z6, e2, q0, q1, qa, by omega, qm⟩
        · obtain ⟨acc', seed', y6, rfl, g0, g1, ga, gl, gm⟩ := hi
          rw [rangeD_len] at gm
          exact ⟨acc', seed', y6, rfl, ga, by simpa using gm⟩
      · obtain ⟨acc', seed', y6, rfl, ga, gl⟩ := h2
        have hc : cutL (dInts acc') none (some 300) = dInts (acc'.take 300) := by
          rw [show (300 : Int) = ((300 : Nat) : Int) from rfl, cut_take]
          simp [dInts]
        refine rets_ret (d := .list (dInts (acc'.take 300))) ?_ ⟨acc'.take 300, by simp; omega, fun d hd => ga d (List.mem_of_mem_take hd), rfl⟩
        rw [← hc]
        rfl
  unfold _law_draws
  obtain ⟨d, e, ds, h1, h2, rfl⟩ := key
  refine ⟨ds, h1, h2, ?_⟩
  rw [e]
  rfl
end DL
namespace DL
open PySem PySem.Spec PyProof.Rows L2
/-! ### the 27 terms, in their order -/
def T27 : List PyData := [.tuple [],
  .tuple [.tuple [.str "a", .int 1]],
  .tuple [.tuple [.str "a", .int 1], .tuple [.str "m", .int 1]],
  .tuple [.tuple [.str "a", .int 1], .tuple [.str "m", .int 1], .tuple [.str "n", .int 1]],
  .tuple [.tuple [.str "a", .int 1], .tuple [.str "m", .int 1], .tuple [.str "n", .int 2]],
  .tuple [.tuple [.str "a", .int 1], .tuple [.str "m", .int 2]],
  .tuple [.tuple [.str "a", .int 1], .tuple [.str "m", .int 2], .tuple [.str "n", .int 1]],
  .tuple [.tuple [.str "a", .int 1], .tuple [.str "m", .int 2], .tuple [.str "n", .int 2]],
  .tuple [.tuple [.str "a", .int 1], .tuple [.str "n", .int 1]],
  .tuple [.tuple [.str "a", .int 1], .tuple [.str "n", .int 2]],
  .tuple [.tuple [.str "a", .int 2]],
  .tuple [.tuple [.str "a", .int 2], .tuple [.str "m", .int 1]],
  .tuple [.tuple [.str "a", .int 2], .tuple [.str "m", .int 1], .tuple [.str "n", .int 1]],
  .tuple [.tuple [.str "a", .int 2], .tuple [.str "m", .int 1], .tuple [.str "n", .int 2]],
  .tuple [.tuple [.str "a", .int 2], .tuple [.str "m", .int 2]],
  .tuple [.tuple [.str "a", .int 2], .tuple [.str "m", .int 2], .tuple [.str "n", .int 1]],
  .tuple [.tuple [.str "a", .int 2], .tuple [.str "m", .int 2], .tuple [.str "n", .int 2]],
  .tuple [.tuple [.str "a", .int 2], .tuple [.str "n", .int 1]],
  .tuple [.tuple [.str "a", .int 2], .tuple [.str "n", .int 2]],
  .tuple [.tuple [.str "m", .int 1]],
  .tuple [.tuple [.str "m", .int 1], .tuple [.str "n", .int 1]],
  .tuple [.tuple [.str "m", .int 1], .tuple [.str "n", .int 2]],
  .tuple [.tuple [.str "m", .int 2]],
  .tuple [.tuple [.str "m", .int 2], .tuple [.str "n", .int 1]],
  .tuple [.tuple [.str "m", .int 2], .tuple [.str "n", .int 2]],
  .tuple [.tuple [.str "n", .int 1]],
  .tuple [.tuple [.str "n", .int 2]]]
def tm (i : Nat) : PyData := T27.getD i (.tuple [])
def okB : R PyData → Bool → Bool
  | .ok (.bool b), c => b == c
  | _, _ => false
theorem okB_of {r : R PyData} {c : Bool} (h : okB r c = true) : r = .ok (.bool c) := by
  unfold okB at h
  split at h
  · rename_i b c
    rw [beq_iff_eq.mp h]
  · cases h
def okI : R PyData → Int → Bool
  | .ok (.int b), c => b == c
  | _, _ => false
theorem okI_of {r : R PyData} {c : Int} (h : okI r c = true) : r = .ok (.int c) := by
  unfold okI at h
  split at h
  · rename_i b c
    rw [beq_iff_eq.mp h]
  · cases h
def all27 (p : Nat → Bool) : Bool := (List.range 27).all p
theorem all27_at {p : Nat → Bool} (h : all27 p = true) {i : Nat} (hi : i < 27) : p i = true := List.all_eq_true.mp h i (List.mem_range.mpr hi)
def deg (i : Nat) : Int := match degree_of_term [tm i] with
  | .ok (.int n) => n
  | _ => 0
theorem c_isTerm : all27 (fun i => okB (_is_term [tm i]) true) = true := by kernel_rfl
theorem c_lawTerm : all27 (fun i => okB (_law_is_term [tm i]) true) = true := by kernel_rfl
theorem c_deg : all27 (fun i => okI (degree_of_term [tm i]) (deg i) && decide (0 ≤ deg i) && decide (deg i ≤ 6)) = true := by kernel_rfl
theorem c_shaped : all27 (fun i => SeqAt.shaped (tm i) && isNKey (tm i) && isTupD (tm i)) = true := by kernel_rfl
theorem c_le : all27 (fun i => all27 fun j => okB (gOrd .le (tm i) (tm j)) (decide (i ≤ j))) = true := by kernel_rfl
theorem c_lt : all27 (fun i => all27 fun j => okB (gOrd .lt (tm i) (tm j)) (decide (i < j))) = true := by kernel_rfl
theorem c_eqv : all27 (fun i => all27 fun j => PyData.eqv (tm i) (tm j) == decide (i = j)) = true := by kernel_rfl
theorem c_key : all27 (fun i => all27 fun j => keyEq (tm i) (tm j) == decide (i = j)) = true := by kernel_rfl
theorem c_leD : all27 (fun i => all27 fun j => (PySem.W.dataLe false (fun d : PyData => d) (tm i) (tm j) == decide (i ≤ j)) && PySem.W.alike (tm i) (tm j)) = true := by kernel_rfl
end DL
namespace DL
open PySem PySem.Spec PyProof.Rows L2
/-! ### indices, and faults of polynomials -/
theorem ix_tup {ds : List PyData} {n : Nat} {d : PyData} (h : ds[n]? = some d) : gIxA (.tuple ds) (.int n) = .ok d := by
  show R.of (atI ds (n : Int)) = _
  rw [atI_nat h]
  rfl
theorem ix_lst {ds : List PyData} {n : Nat} {d : PyData} (h : ds[n]? = some d) : gIxA (.list ds) (.int n) = .ok d := by
  show R.of (atI ds (n : Int)) = _
  rw [atI_nat h]
  rfl
def pr (i : Nat) (c : PyData) : PyData := .tuple [tm i, c]
def pairF (n : Nat) : PyData := .tuple [.str "pair", .int n]
def pfB : DEnv → SR := (sSeq (sIf (fOr (fNot (fTr (f1 (gIsi "tuple") (fVar 2)))) (fOr (fB (f2 gNe (fA (g1 gLen) (fCons (fVar 2) fNil)) (fC (.int 2)))) (fNot (fTr (fA _is_term (fCons (f2 gIxA (fVar 2) (fC (.int 0))) fNil)))))) (sRet (fTup (fCons (fC (.str "pair")) (fCons (fVar 1) fNil)))) sNext)
    (sIf (fOr (fNot (fTr (fA is_integer (fCons (f2 gIxA (fVar 2) (fC (.int 1))) fNil)))) (fOr (fB (f2 gEq (f2 gIxA (fVar 2) (fC (.int 1))) (fC (.int 0)))) (fAnd (fB (f2 (gOrd .gt) (fVar 1) (fC (.int 0)))) (fB (f2 (gOrd .le) (f2 gIxA (fVar 2) (fC (.int 0))) (f2 gIxA (f2 gIxA (fVar 0) (f2 gSub (fVar 1) (fC (.int 1)))) (fC (.int 0)))))))) (sRet (fTup (fCons (fC (.str "pair")) (fCons (fVar 1) fNil)))) sNext))
theorem pf_eq : b_polynomial_fault = (sSeq (sIf (fNot (fTr (f1 (gIsi "tuple") (fVar 0)))) (sRet (fC (.tuple [(.str "form")]))) sNext) (sSeq (sFor (fEnum (fCons (fVar 0) fNil)) (gT (gsCons (gN 1) (gsCons (gN 2) gsNil))) pfB) (sRet (fC .none)))) := rfl
def lfB : DEnv → SR := (sSeq (sAsg (gN 2) (f2 gIxA (fVar 0) (fVar 1)))
    (sSeq (sIf (fOr (fNot (fTr (f1 (gIsi "tuple") (fVar 2)))) (fOr (fB (f2 gNe (fA (g1 gLen) (fCons (fVar 2) fNil)) (fC (.int 2)))) (fOr (fNot (fTr (fA _law_is_term (fCons (f2 gIxA (fVar 2) (fC (.int 0))) fNil)))) (fOr (fNot (fTr (f1 (gIsi "int") (f2 gIxA (fVar 2) (fC (.int 1)))))) (fOr (fTr (f1 (gIsi "bool") (f2 gIxA (fVar 2) (fC (.int 1))))) (fB (f2 gEq (f2 gIxA (fVar 2) (fC (.int 1))) (fC (.int 0))))))))) (sRet (fTup (fCons (fC (.str "pair")) (fCons (fVar 1) fNil)))) sNext)
    (sIf (fAnd (fB (f2 (gOrd .gt) (fVar 1) (fC (.int 0)))) (fNot (fB (f2 (gOrd .lt) (f2 gIxA (f2 gIxA (fVar 0) (f2 gSub (fVar 1) (fC (.int 1)))) (fC (.int 0))) (f2 gIxA (fVar 2) (fC (.int 0))))))) (sRet (fTup (fCons (fC (.str "pair")) (fCons (fVar 1) fNil)))) sNext)))
theorem lf_eq : b__law_fault = (sSeq (sIf (fNot (fTr (f1 (gIsi "tuple") (fVar 0)))) (sRet (fTup (fCons (fC (.str "form")) fNil))) sNext) (sSeq (sFor (fRange1 (fCons (fA (g1 gLen) (fCons (fVar 0) fNil)) fNil)) (gN 1) lfB) (sRet (fC .none)))) := rfl
/-- the first test of a good pair -/
theorem pf_t1 {v : PyData} {n : Int} {i : Nat} {c : PyData} (hi : i < 27) : (fOr (fNot (fTr (f1 (gIsi "tuple") (fVar 2)))) (fOr (fB (f2 gNe (fA (g1 gLen) (fCons (fVar 2) fNil)) (fC (.int 2)))) (fNot (fTr (fA _is_term (fCons (f2 gIxA (fVar 2) (fC (.int 0))) fNil)))))) [.val v, .val (.int n), .val (pr i c)] = .ok false := by
  have h1 : _is_term [tm i] = .ok (.bool true) := okB_of (all27_at c_isTerm hi)
  have h2 : gIsi "tuple" (pr i c) = .ok (.bool true) := rfl
  have h3 : gLen (pr i c) = .ok (.int 2) := rfl
  have h4 : gNe (.int 2) (.int 2) = .ok (.bool false) := by kernel_rfl
  have h5 : gIxA (pr i c) (.int 0) = .ok (tm i) := rfl
  simp [fVar, h2, h3, h4, h5, h1]
theorem isint (c : Int) : is_integer [.int c] = .ok (.bool true) := by kernel_rfl
theorem ev_eqI (a b : Int) : gEq (.int a) (.int b) = .ok (.bool (decide (a = b))) := by
  unfold gEq
  rw [if_pos ⟨rfl, rfl⟩]
  have e : PyData.eqv (.int a) (.int b) = decide (a = b) := by
    show (a == b) = _
    by_cases h : a = b <;> simp [h]
  rw [e]
theorem ev_neI (a b : Int) : gNe (.int a) (.int b) = .ok (.bool (!decide (a = b))) := by
  unfold gNe
  rw [if_pos ⟨rfl, rfl⟩]
  have e : PyData.eqv (.int a) (.int b) = decide (a = b) := by
    show (a == b) = _
    by_cases h : a = b <;> simp [h]
  rw [e]
def pfT2 : DEnv → R Bool := (fOr (fNot (fTr (fA is_integer (fCons (f2 gIxA (fVar 2) (fC (.int 1))) fNil)))) (fOr (fB (f2 gEq (f2 gIxA (fVar 2) (fC (.int 1))) (fC (.int 0)))) (fAnd (fB (f2 (gOrd .gt) (fVar 1) (fC (.int 0)))) (fB (f2 (gOrd .le) (f2 gIxA (fVar 2) (fC (.int 0))) (f2 gIxA (f2 gIxA (fVar 0) (f2 gSub (fVar 1) (fC (.int 1)))) (fC (.int 0))))))))
theorem pf_t2_0 {v : PyData} {i : Nat} {c : Int} (hc : c ≠ 0) : pfT2 [.val v, .val (.int (0 : Nat)), .val (pr i (.int c))] = .ok false := by
  have h5 : gIxA (pr i (.int c)) (.int 1) = .ok (.int c) := rfl
  unfold pfT2
  simp [fVar, h5, isint, ev_eqI, hc, Od.int]
theorem pf_t2_s {all : List PyData} {n i j : Nat} {c c' : Int} (hc : c ≠ 0) (hi : i < 27) (hj : j < 27) (h : all[n]? = some (pr j (.int c'))) : pfT2 [.val (.tuple all), .val (.int ((n + 1 : Nat) : Int)), .val (pr i (.int c))] = .ok (decide (i ≤ j)) := by
  have h5 : gIxA (pr i (.int c)) (.int 1) = .ok (.int c) := rfl
  have h6 : gIxA (pr i (.int c)) (.int 0) = .ok (tm i) := rfl
  have h7 : gIxA (pr j (.int c')) (.int 0) = .ok (tm j) := rfl
  have h8 : gIxA (.tuple all) (.int (((n + 1 : Nat) : Int) - 1)) = .ok (pr j (.int c')) := by
    rw [show ((n + 1 : Nat) : Int) - 1 = (n : Int) by omega]
    exact ix_tup h
  have h9 : gOrd .le (tm i) (tm j) = .ok (.bool (decide (i ≤ j))) := okB_of (all27_at (all27_at c_le hi) hj)
  have h10 : (0 : Int) < (n : Int) + 1 := by omega
  unfold pfT2
  simp [fVar, h5, h6, h7, isint, ev_eqI, hc, Od.int, h10]
  have h8' : gIxA (.tuple all) (.int ((n : Int) + 1 - 1)) = .ok (pr j (.int c')) := by simpa using h8
  simp at h8'
  simp [h8', h7, h9]
/-- the law's own test -/
def lfT1 : DEnv → R Bool := (fOr (fNot (fTr (f1 (gIsi "tuple") (fVar 2)))) (fOr (fB (f2 gNe (fA (g1 gLen) (fCons (fVar 2) fNil)) (fC (.int 2)))) (fOr (fNot (fTr (fA _law_is_term (fCons (f2 gIxA (fVar 2) (fC (.int 0))) fNil)))) (fOr (fNot (fTr (f1 (gIsi "int") (f2 gIxA (fVar 2) (fC (.int 1)))))) (fOr (fTr (f1 (gIsi "bool") (f2 gIxA (fVar 2) (fC (.int 1))))) (fB (f2 gEq (f2 gIxA (fVar 2) (fC (.int 1))) (fC (.int 0)))))))))
def lfT2 : DEnv → R Bool := (fAnd (fB (f2 (gOrd .gt) (fVar 1) (fC (.int 0)))) (fNot (fB (f2 (gOrd .lt) (f2 gIxA (f2 gIxA (fVar 0) (f2 gSub (fVar 1) (fC (.int 1)))) (fC (.int 0))) (f2 gIxA (fVar 2) (fC (.int 0)))))))
theorem lf_t1 {v : PyData} {n : Int} {i : Nat} {c : Int} (hi : i < 27) (hc : c ≠ 0) : lfT1 [.val v, .val (.int n), .val (pr i (.int c))] = .ok false := by
  have h1 : _law_is_term [tm i] = .ok (.bool true) := okB_of (all27_at c_lawTerm hi)
  have h2 : gIsi "tuple" (pr i (.int c)) = .ok (.bool true) := rfl
  have h3 : gLen (pr i (.int c)) = .ok (.int 2) := rfl
  have h5 : gIxA (pr i (.int c)) (.int 0) = .ok (tm i) := rfl
  have h6 : gIxA (pr i (.int c)) (.int 1) = .ok (.int c) := rfl
  have h7 : gIsi "int" (.int c) = .ok (.bool true) := by kernel_rfl
  have h8 : gIsi "bool" (.int c) = .ok (.bool false) := by kernel_rfl
  unfold lfT1
  simp [fVar, h2, h3, ev_neI, h5, h1, h6, h7, h8, ev_eqI, hc]
theorem lf_t2_0 {v x : PyData} : lfT2 [.val v, .val (.int (0 : Nat)), .val x] = .ok false := by
  unfold lfT2
  simp [fVar, Od.int]
theorem lf_t2_s {all : List PyData} {n i j : Nat} {c c' : Int} (hi : i < 27) (hj : j < 27) (h : all[n]? = some (pr j (.int c'))) : lfT2 [.val (.tuple all), .val (.int ((n + 1 : Nat) : Int)), .val (pr i (.int c))] = .ok (decide (i ≤ j)) := by
  have h6 : gIxA (pr i (.int c)) (.int 0) = .ok (tm i) := rfl
  have h7 : gIxA (pr j (.int c')) (.int 0) = .ok (tm j) := rfl
  have h8 : gIxA (.tuple all) (.int (((n + 1 : Nat) : Int) - 1)) = .ok (pr j (.int c')) := by
    rw [show ((n + 1 : Nat) : Int) - 1 = (n : Int) by omega]
    exact ix_tup h
  have h9 : gOrd .lt (tm j) (tm i) = .ok (.bool (decide (j < i))) := okB_of (all27_at (all27_at c_lt hj) hi)
  have h10 : (0 : Int) < (n : Int) + 1 := by omega
  unfold lfT2
  have h8' : gIxA (.tuple all) (.int ((n : Int) + 1 - 1)) = .ok (pr j (.int c')) := by simpa using h8
  simp at h8'
  simp [fVar, h6, Od.int, h10, h8', h7, h9]
  by_cases q : j < i
  · simp [q, Nat.not_le.mpr q]
  · simp [q, Nat.not_lt.mp q]
/-- where the first fault stands: lst: the index before (none at the beginning) -/
def faultN : Option Nat → Nat → List (Nat × Int) → Option Nat
  | _, _, [] => none
  | none, n, x :: xs => faultN (some x.1) (n + 1) xs
  | some j, n, x :: xs => if x.1 ≤ j then some n else faultN (some x.1) (n + 1) xs
def GoodP (p : List (Nat × Int)) : Prop := ∀ x ∈ p, x.1 < 27 ∧ x.2 ≠ 0
def encL (p : List (Nat × Int)) : List PyData := p.map fun x => pr x.1 (.int x.2)
def faultD : Option Nat → PyData
  | none => .none
  | some n => pairF n
end DL
namespace DL
open PySem PySem.Spec PyProof.Rows L2
def enumF : Nat → List PyData → List PyData
  | _, [] => []
  | n, d :: ds => pairD (.int n) d :: enumF (n + 1) ds
theorem enumF_get : ∀ (ds : List PyData) (n i : Nat), (enumF n ds)[i]? = ds[i]?.map fun d => pairD (.int ((n + i : Nat) : Int)) d
  | [], n, i => by simp [enumF]
  | d :: ds, n, 0 => by simp [enumF]
  | d :: ds, n, i + 1 => by
    simp only [enumF, List.getElem?_cons_succ]
    rw [enumF_get ds (n + 1) i, show n + 1 + i = n + (i + 1) by omega]
theorem enumD_F (ds : List PyData) : enumD ds = enumF 0 ds := by
  apply List.ext_getElem?
  intro i
  rw [enumF_get]
  unfold enumD
  rw [List.getElem?_zipWith]
  by_cases hi : i < ds.length
  · rw [List.getElem?_range hi, List.getElem?_eq_getElem hi]
    simp
  · rw [List.getElem?_eq_none (l := ds) (by omega)]
    simp
def rangeF : Nat → Nat → List PyData
  | _, 0 => []
  | n, k + 1 => .int n :: rangeF (n + 1) k
theorem rangeF_get : ∀ (k n i : Nat), (rangeF n k)[i]? = if i < k then some (.int ((n + i : Nat) : Int)) else none
  | 0, n, i => by simp [rangeF]
  | k + 1, n, 0 => by simp [rangeF]
  | k + 1, n, i + 1 => by
    simp only [rangeF, List.getElem?_cons_succ]
    rw [rangeF_get k (n + 1) i, show n + 1 + i = n + (i + 1) by omega]
    simp
theorem rangeD_F (k : Nat) : rangeD 0 k = rangeF 0 k := by
  apply List.ext_getElem?
  intro i
  rw [rangeF_get]
  unfold rangeD
  rw [List.getElem?_map]
  by_cases hi : i < k
  · rw [List.getElem?_range (by simpa using hi), if_pos hi]
    simp
  · rw [if_neg hi, List.getElem?_eq_none (by simpa using hi)]
    rfl
/-- polynomial_fault's loop over good pairs -/
theorem pf_loop {all more : List PyData} {p : List (Nat × Int)} (hp : GoodP p) (ha : all = encL p ++ more) : ∀ (q pre : List (Nat × Int)), p = pre ++ q → ∀ x1 x2 : Sl,
    (∃ k, faultN (pre.getLast?.map (·.1)) pre.length q = some k ∧ forD (gT (gsCons (gN 1) (gsCons (gN 2) gsNil))) pfB (enumF pre.length (encL q ++ more)) [.val (.tuple all), x1, x2] = .ret (pairF k)) ∨
    (faultN (pre.getLast?.map (·.1)) pre.length q = none ∧ ∃ y1 y2, forD (gT (gsCons (gN 1) (gsCons (gN 2) gsNil))) pfB (enumF pre.length (encL q ++ more)) [.val (.tuple all), x1, x2] = forD (gT (gsCons (gN 1) (gsCons (gN 2) gsNil))) pfB (enumF p.length more) [.val (.tuple all), y1, y2])
  | [], pre, e, x1, x2 => by
    have : pre = p := by rw [e]; simp
    subst this
    exact .inr ⟨by cases pre.getLast? <;> rfl, x1, x2, by simp [encL]⟩
  | (i, c) :: q, pre, e, x1, x2 => by
    have hx := hp (i, c) (by rw [e]; simp)
    have e1 : pfB [.val (.tuple all), .val (.int (pre.length : Nat)), .val (pr i (.int c))] = sIf pfT2 (sRet (fTup (fCons (fC (.str "pair")) (fCons (fVar 1) fNil)))) sNext [.val (.tuple all), .val (.int (pre.length : Nat)), .val (pr i (.int c))] := by
      unfold pfB
      rw [seq_next (ρ' := [.val (.tuple all), .val (.int (pre.length : Nat)), .val (pr i (.int c))]) (by rw [ev_sIf_f (pf_t1 hx.1)]; rfl)]
      rfl
    have step : ∀ b, pfT2 [.val (.tuple all), .val (.int (pre.length : Nat)), .val (pr i (.int c))] = .ok b → 
        forD (gT (gsCons (gN 1) (gsCons (gN 2) gsNil))) pfB (enumF pre.length (encL ((i, c) :: q) ++ more)) [.val (.tuple all), x1, x2] =
          if b = true then .ret (pairF pre.length) else forD (gT (gsCons (gN 1) (gsCons (gN 2) gsNil))) pfB (enumF (pre.length + 1) (encL q ++ more)) [.val (.tuple all), .val (.int (pre.length : Nat)), .val (pr i (.int c))] := fun b hb => by
      show (match pfB [.val (.tuple all), .val (.int (pre.length : Nat)), .val (pr i (.int c))] with
        | .next ρ2 => forD (gT (gsCons (gN 1) (gsCons (gN 2) gsNil))) pfB (enumF (pre.length + 1) (encL q ++ more)) ρ2
        | .cont ρ2 => forD (gT (gsCons (gN 1) (gsCons (gN 2) gsNil))) pfB (enumF (pre.length + 1) (encL q ++ more)) ρ2
        | .brk ρ2 => .next ρ2
        | .ret v => .ret v
        | .exc e ρ2 => .exc e ρ2
        | .bad => .bad) = _
      rw [e1, ev_sIf hb]
      cases b with
      | true => rfl
      | false => rfl
    have ih := pf_loop hp ha q (pre ++ [(i, c)]) (by rw [e]; simp) (.val (.int (pre.length : Nat))) (.val (pr i (.int c)))
    have el : (pre ++ [(i, c)]).length = pre.length + 1 := by simp
    have eg : (pre ++ [(i, c)]).getLast?.map (·.1) = some i := by simp
    rw [el, eg] at ih
    have hcases := List.eq_nil_or_concat pre
    simp only [List.concat_eq_append] at hcases
    rcases hcases with rfl | ⟨pre', ⟨j, c'⟩, rfl⟩
    · have s1 := step false (pf_t2_0 hx.2)
      rw [s1]
      exact ih
    · have hj := hp (j, c') (by rw [e]; simp)
      have hget : all[pre'.length]? = some (pr j (.int c')) := by
        rw [ha, e]
        simp [encL]
      have s1 := step (decide (i ≤ j)) (by
        rw [show (pre' ++ [(j, c')]).length = pre'.length + 1 by simp]
        exact pf_t2_s hx.2 hx.1 hj.1 hget)
      rw [s1]
      have ef : ∀ m, faultN ((pre' ++ [(j, c')]).getLast?.map (·.1)) m ((i, c) :: q) = if i ≤ j then some m else faultN (some i) (m + 1) q := fun m => by simp [faultN]
      by_cases h : i ≤ j
      · exact .inl ⟨_, by rw [ef, if_pos h], by simp [h]⟩
      · rw [ef, if_neg h, if_neg (by simpa using h)]
        exact ih
/-- _law_fault's loop over good pairs -/
theorem lf_loop {all more : List PyData} {p : List (Nat × Int)} (hp : GoodP p) (ha : all = encL p ++ more) : ∀ (q pre : List (Nat × Int)), p = pre ++ q → ∀ x1 x2 : Sl,
    (∃ k, faultN (pre.getLast?.map (·.1)) pre.length q = some k ∧ forD (gN 1) lfB (rangeF pre.length (q.length + more.length)) [.val (.tuple all), x1, x2] = .ret (pairF k)) ∨
    (faultN (pre.getLast?.map (·.1)) pre.length q = none ∧ ∃ y1 y2, forD (gN 1) lfB (rangeF pre.length (q.length + more.length)) [.val (.tuple all), x1, x2] = forD (gN 1) lfB (rangeF p.length more.length) [.val (.tuple all), y1, y2])
  | [], pre, e, x1, x2 => by
    have : pre = p := by rw [e]; simp
    subst this
    exact .inr ⟨by cases pre.getLast? <;> rfl, x1, x2, by simp⟩
  | (i, c) :: q, pre, e, x1, x2 => by
    have hx := hp (i, c) (by rw [e]; simp)
    have hget0 : all[pre.length]? = some (pr i (.int c)) := by
      rw [ha, e]
      simp [encL]
    have e1 : lfB [.val (.tuple all), .val (.int (pre.length : Nat)), x2] = sIf lfT2 (sRet (fTup (fCons (fC (.str "pair")) (fCons (fVar 1) fNil)))) sNext [.val (.tuple all), .val (.int (pre.length : Nat)), .val (pr i (.int c))] := by
      unfold lfB
      rw [seq_next (ρ' := [.val (.tuple all), .val (.int (pre.length : Nat)), .val (pr i (.int c))]) (ev_asg (d := pr i (.int c)) (by simp [fVar, ix_tup hget0]))]
      rw [seq_next (ρ' := [.val (.tuple all), .val (.int (pre.length : Nat)), .val (pr i (.int c))]) (by exact (ev_sIf_f (t := lfT1) (lf_t1 hx.1 hx.2)).trans rfl)]
      rfl
    have step : ∀ b, lfT2 [.val (.tuple all), .val (.int (pre.length : Nat)), .val (pr i (.int c))] = .ok b → 
        forD (gN 1) lfB (rangeF pre.length (((i, c) :: q).length + more.length)) [.val (.tuple all), x1, x2] =
          if b = true then .ret (pairF pre.length) else forD (gN 1) lfB (rangeF (pre.length + 1) (q.length + more.length)) [.val (.tuple all), .val (.int (pre.length : Nat)), .val (pr i (.int c))] := fun b hb => by
      rw [show ((i, c) :: q).length + more.length = (q.length + more.length) + 1 by simp; omega]
      show (match lfB [.val (.tuple all), .val (.int (pre.length : Nat)), x2] with
        | .next ρ2 => forD (gN 1) lfB (rangeF (pre.length + 1) (q.length + more.length)) ρ2
        | .cont ρ2 => forD (gN 1) lfB (rangeF (pre.length + 1) (q.length + more.length)) ρ2
        | .brk ρ2 => .next ρ2
        | .ret v => .ret v
        | .exc e ρ2 => .exc e ρ2
        | .bad => .bad) = _
      rw [e1, ev_sIf hb]
      cases b with
      | true => rfl
      | false => rfl
    have ih := lf_loop hp ha q (pre ++ [(i, c)]) (by rw [e]; simp) (.val (.int (pre.length : Nat))) (.val (pr i (.int c)))
    have el : (pre ++ [(i, c)]).length = pre.length + 1 := by simp
    have eg : (pre ++ [(i, c)]).getLast?.map (·.1) = some i := by simp
    rw [el, eg] at ih
    have hcases := List.eq_nil_or_concat pre
    simp only [List.concat_eq_append] at hcases
    rcases hcases with rfl | ⟨pre', ⟨j, c'⟩, rfl⟩
    · have s1 := step false (lf_t2_0)
      rw [s1]
      exact ih
    · have hj := hp (j, c') (by rw [e]; simp)
      have hget : all[pre'.length]? = some (pr j (.int c')) := by
        rw [ha, e]
        simp [encL]
      have s1 := step (decide (i ≤ j)) (by
        rw [show (pre' ++ [(j, c')]).length = pre'.length + 1 by simp]
        exact lf_t2_s hx.1 hj.1 hget)
      rw [s1]
      have ef : ∀ m, faultN ((pre' ++ [(j, c')]).getLast?.map (·.1)) m ((i, c) :: q) = if i ≤ j then some m else faultN (some i) (m + 1) q := fun m => by simp [faultN]
      by_cases h : i ≤ j
      · exact .inl ⟨_, by rw [ef, if_pos h], by simp [h]⟩
      · rw [ef, if_neg h, if_neg (by simpa using h)]
        exact ih
/-- good pairs alone: both faults tell the same -/
theorem pf_good {p : List (Nat × Int)} (hp : GoodP p) : polynomial_fault [.tuple (encL p)] = .ok (faultD (faultN none 0 p)) := by
  have h := pf_loop (all := encL p) (more := []) hp (by simp) p [] rfl .un .un
  simp only [List.append_nil, List.length_nil, List.getLast?_nil, Option.map_none] at h
  unfold polynomial_fault
  rw [pf_eq]
  have hT : (fNot (fTr (f1 (gIsi "tuple") (fVar 0)))) (startE 3 [.tuple (encL p)]) = .ok false := by
    have h2 : gIsi "tuple" (.tuple (encL p)) = .ok (.bool true) := rfl
    simp [startE, fVar, h2]
  rw [seq_next (ρ' := [.val (.tuple (encL p)), .un, .un]) (by rw [ev_sIf_f hT]; rfl)]
  have hE : fEnum (fCons (fVar 0) fNil) [.val (.tuple (encL p)), .un, .un] = .ok (enumF 0 (encL p)) := by
    rw [← enumD_F]
    rfl
  rcases h with ⟨k, e1, e2⟩ | ⟨e1, y1, y2, e2⟩
  · rw [seq_ret (d := pairF k) ((ev_for hE).trans e2), e1]
    rfl
  · rw [seq_next (ρ' := [.val (.tuple (encL p)), y1, y2]) ((ev_for hE).trans (e2.trans rfl)), e1]
    rfl
end DL
namespace DL
open PySem PySem.Spec PyProof.Rows L2
theorem bindOk {α β : Type} (a : α) (f : α → R β) : (R.ok a).bind f = f a := rfl
theorem ev_rng1 {n : Int} (h : rgOk 0 n) : gRange1 [.int n] = .ok (rangeD 0 n) := by
  simp only [gRange1, h, if_true]
theorem rgOk_n1 {n : Nat} (h : n ≤ 1000) : rgOk 0 (n : Int) := by
  have h1 : ((n : Int) - 0).toNat ≤ sizeLine := by rw [sizeLine_eq]; omega
  exact ⟨⟨by decide, by decide, by omega, by omega⟩, h1⟩
theorem lf_good {p : List (Nat × Int)} (hp : GoodP p) (hz : p.length ≤ 1000) : _law_fault [.tuple (encL p)] = .ok (faultD (faultN none 0 p)) := by
  have h := lf_loop (all := encL p) (more := []) hp (by simp) p [] rfl .un .un
  simp only [List.length_nil, List.getLast?_nil, Option.map_none, Nat.add_zero] at h
  unfold _law_fault
  rw [lf_eq]
  have hT : (fNot (fTr (f1 (gIsi "tuple") (fVar 0)))) (startE 3 [.tuple (encL p)]) = .ok false := by
    have h2 : gIsi "tuple" (.tuple (encL p)) = .ok (.bool true) := rfl
    simp [startE, fVar, h2]
  rw [seq_next (ρ' := [.val (.tuple (encL p)), .un, .un]) (by rw [ev_sIf_f hT]; rfl)]
  have hE : fRange1 (fCons (fA (g1 gLen) (fCons (fVar 0) fNil)) fNil) [.val (.tuple (encL p)), .un, .un] = .ok (rangeF 0 p.length) := by
    have hl : gLen (.tuple (encL p)) = .ok (.int p.length) := by
      show R.ok (PyData.int ((encL p).length : Nat)) = _
      simp [encL]
    have hr : rgOk 0 (p.length : Int) := rgOk_n1 hz
    rw [← rangeD_F]
    have e : (fCons (fA (g1 gLen) (fCons (fVar 0) fNil)) fNil) [.val (.tuple (encL p)), .un, .un] = .ok [.int p.length] := by
      simp [fVar, hl]
    unfold fRange1
    rw [e, bindOk]
    rw [ev_rng1 hr]
  rcases h with ⟨k, e1, e2⟩ | ⟨e1, y1, y2, e2⟩
  · rw [seq_ret (d := pairF k) ((ev_for hE).trans e2), e1]
    rfl
  · rw [seq_next (ρ' := [.val (.tuple (encL p)), y1, y2]) ((ev_for hE).trans (e2.trans rfl)), e1]
    rfl
end DL
namespace DL
open PySem PySem.Spec PyProof.Rows L2
variable [TheW]
/-! ### shapes -/
def Sh (n : Nat) (d : PyData) : Prop := d.canLay0 = true ∧ d.depth ≤ n
theorem Sh.all {n : Nat} : ∀ {ds : List PyData}, (∀ d ∈ ds, Sh n d) → PyData.canLayAll0 ds = true ∧ PyData.depthAll ds ≤ n
  | [], _ => ⟨by simp [PyData.canLayAll0], by simp [PyData.depthAll]⟩
  | d :: ds, h => by
    obtain ⟨h1, h2⟩ := h d (by simp)
    obtain ⟨h3, h4⟩ := Sh.all (ds := ds) fun x hx => h x (by simp [hx])
    refine ⟨by rw [PyData.canLayAll0, h1, h3]; rfl, ?_⟩
    rw [PyData.depthAll]
    omega
theorem Sh.tup {n : Nat} {ds : List PyData} (h : ∀ d ∈ ds, Sh n d) : Sh (n + 1) (.tuple ds) := by
  obtain ⟨h1, h2⟩ := Sh.all h
  exact ⟨by rw [PyData.canLay0]; exact h1, by rw [PyData.depth]; omega⟩
theorem Sh.lst {n : Nat} {ds : List PyData} (h : ∀ d ∈ ds, Sh n d) : Sh (n + 1) (.list ds) := by
  obtain ⟨h1, h2⟩ := Sh.all h
  exact ⟨by rw [PyData.canLay0]; exact h1, by rw [PyData.depth]; omega⟩
theorem Sh.int (n : Nat) (i : Int) : Sh n (.int i) := ⟨by simp [PyData.canLay0], by simp [PyData.depth]⟩
theorem Sh.mono {n m : Nat} {d : PyData} (h : Sh n d) (hm : n ≤ m) : Sh m d := ⟨h.1, Nat.le_trans h.2 hm⟩
theorem Sh.shaped {n : Nat} {d : PyData} (h : Sh n d) (hn : n ≤ 64) : SeqAt.shaped d = true := by
  unfold SeqAt.shaped
  rw [h.1, Bool.true_and]
  exact decide_eq_true (Nat.le_trans h.2 hn)
theorem shaped_sh {d : PyData} (h : SeqAt.shaped d = true) : Sh 64 d := ⟨SeqAt.canLay_of_shaped h, SeqAt.depth_of_shaped h⟩
theorem ne_self {d : PyData} (h : SeqAt.shaped d = true) : gNe d d = .ok (.bool false) := by
  unfold gNe
  rw [if_pos ⟨h, h⟩, PySem.SeqAt.eqv_refl d (SeqAt.canLay_of_shaped h)]
  rfl
theorem eq_self {d : PyData} (h : SeqAt.shaped d = true) : gEq d d = .ok (.bool true) := by
  unfold gEq
  rw [if_pos ⟨h, h⟩, PySem.SeqAt.eqv_refl d (SeqAt.canLay_of_shaped h)]
/-! ### the terms' facts -/
theorem c_dep : all27 (fun i => (tm i).canLay0 && decide ((tm i).depth ≤ 3)) = true := by kernel_rfl
theorem sh_tm {i : Nat} (h : i < 27) : Sh 3 (tm i) := by
  have e := all27_at c_dep h
  rw [Bool.and_eq_true] at e
  exact ⟨e.1, of_decide_eq_true e.2⟩
theorem key_tm {i j : Nat} (hi : i < 27) (hj : j < 27) : keyEq (tm i) (tm j) = decide (i = j) := beq_iff_eq.mp (all27_at (all27_at c_key hi) hj)
theorem nkey_tm {i : Nat} (hi : i < 27) : isNKey (tm i) = true := by
  have e := all27_at c_shaped hi
  rw [Bool.and_eq_true, Bool.and_eq_true] at e
  exact e.1.2
theorem shaped_tm {i : Nat} (hi : i < 27) : SeqAt.shaped (tm i) = true := by
  have e := all27_at c_shaped hi
  rw [Bool.and_eq_true, Bool.and_eq_true] at e
  exact e.1.1
theorem isTup_tm {i : Nat} (hi : i < 27) : isTupD (tm i) = true := by
  have e := all27_at c_shaped hi
  rw [Bool.and_eq_true] at e
  exact e.2
theorem key_tm_not {i : Nat} (hi : i < 27) : isKey (tm i) = false := isKey_not (nkey_tm hi)
/-! ### dicts by terms -/
def Lt27 (L : List Nat) : Prop := ∀ i ∈ L, i < 27
def kd (L : List Nat) (v : Nat → PyData) : List (PyData × PyData) := L.map fun i => (tm i, v i)
theorem keysN_kd {L : List Nat} {v : Nat → PyData} (h : Lt27 L) : keysN (kd L v) = true := by
  unfold keysN kd
  rw [List.all_map, List.all_eq_true]
  exact fun i hi => nkey_tm (h i hi)
theorem keyable_kd {L : List Nat} {v : Nat → PyData} {j : Nat} (h : Lt27 L) (hj : j < 27) : keyable (kd L v) (tm j) = true := by
  unfold keyable
  rw [nkey_tm hj, keysN_kd h]
  simp
theorem find_kd {v : Nat → PyData} {j : Nat} (hj : j < 27) : ∀ {L : List Nat}, Lt27 L → dfind (kd L v) (tm j) = if j ∈ L then some (v j) else none
  | [], _ => rfl
  | i :: L, h => by
    have ih := find_kd (v := v) hj (L := L) fun x hx => h x (by simp [hx])
    unfold dfind kd at ih ⊢
    rw [List.map_cons, List.find?_cons, key_tm (h i (by simp)) hj]
    by_cases c : i = j
    · subst c; simp
    · have c' : ¬ j = i := fun e => c e.symm
      simp only [decide_eq_false c]
      rw [ih]
      simp [c']
def insL (L : List Nat) (j : Nat) : List Nat := if j ∈ L then L else L ++ [j]
theorem mem_insL {L : List Nat} {j k : Nat} : k ∈ insL L j ↔ k ∈ L ∨ k = j := by
  unfold insL
  split
  · exact ⟨.inl, fun h => h.elim id fun e => e ▸ ‹_›⟩
  · simp
theorem nodup_insL {L : List Nat} {j : Nat} (h : L.Nodup) : (insL L j).Nodup := by
  unfold insL
  split
  · exact h
  · rename_i c
    rw [List.nodup_append]
    refine ⟨h, by simp, fun a ha b hb => ?_⟩
    rw [List.mem_singleton] at hb
    subst hb
    exact fun e => c (e ▸ ha)
theorem lt_insL {L : List Nat} {j : Nat} (h : Lt27 L) (hj : j < 27) : Lt27 (insL L j) := fun i hi => (mem_insL.mp hi).elim (h i) fun e => e ▸ hj
def setV (v : Nat → PyData) (j : Nat) (x : PyData) : Nat → PyData := fun i => if i = j then x else v i
theorem any_kd {L : List Nat} {v : Nat → PyData} {j : Nat} (h : Lt27 L) (hj : j < 27) : ((kd L v).any fun kv => keyEq kv.1 (tm j)) = decide (j ∈ L) := by
  unfold kd
  rw [List.any_map]
  rw [Bool.eq_iff_iff, List.any_eq_true, decide_eq_true_eq]
  constructor
  · rintro ⟨i, hi, e⟩
    have e' : keyEq (tm i) (tm j) = true := e
    rw [key_tm (h i hi) hj, decide_eq_true_eq] at e'
    exact e' ▸ hi
  · intro hjL
    refine ⟨j, hjL, ?_⟩
    show keyEq (tm j) (tm j) = true
    rw [key_tm hj hj]
    simp
theorem put_kd {L : List Nat} {v : Nat → PyData} {j : Nat} {x : PyData} (h : Lt27 L) (hj : j < 27) : dput (kd L v) (tm j) x = kd (insL L j) (setV v j x) := by
  unfold dput
  rw [any_kd h hj]
  by_cases c : j ∈ L
  · rw [if_pos (decide_eq_true c)]
    unfold insL
    rw [if_pos c]
    unfold kd
    rw [List.map_map]
    refine List.map_congr_left fun i hi => ?_
    show (if keyEq (tm i) (tm j) = true then (tm i, x) else (tm i, v i)) = (tm i, setV v j x i)
    rw [key_tm (h i hi) hj]
    unfold setV
    by_cases e : i = j <;> simp [e]
  · rw [if_neg (by simpa using c)]
    unfold insL
    rw [if_neg c]
    unfold kd
    rw [List.map_append]
    have e1 : L.map (fun i => (tm i, v i)) = L.map fun i => (tm i, setV v j x i) := List.map_congr_left fun i hi => by
      have : i ≠ j := fun e => c (e ▸ hi)
      simp [setV, this]
    rw [e1]
    simp [setV]
theorem setV_same {v : Nat → PyData} {j : Nat} : setV v j (v j) = v := by
  funext i
  unfold setV
  split
  · rename_i e; rw [e]
  · rfl
/-! ### sorting -/
def up (L : List Nat) : List Nat := (List.range 27).filter fun i => decide (i ∈ L)
theorem mem_up {L : List Nat} {i : Nat} (h : Lt27 L) : i ∈ up L ↔ i ∈ L := by
  unfold up
  rw [List.mem_filter, List.mem_range, decide_eq_true_eq]
  exact ⟨fun x => x.2, fun x => ⟨h i x, x⟩⟩
theorem range_lt (n : Nat) : (List.range n).Pairwise (· < ·) := List.pairwise_lt_range
theorem up_lt (L : List Nat) : (up L).Pairwise (· < ·) := (range_lt 27).filter _
theorem up_nodup (L : List Nat) : (up L).Nodup := (up_lt L).imp fun h => Nat.ne_of_lt h
theorem lt_up (L : List Nat) : Lt27 (up L) := fun i hi => List.mem_range.mp (List.mem_filter.mp hi).1
theorem sortD_tm {L : List Nat} (h : Lt27 L) (nd : L.Nodup) : sortD (L.map tm) = (up L).map tm := by
  unfold sortD
  have e : (L.map tm).mergeSort (PySem.W.dataLe false fun d : PyData => d) = (L.mergeSort fun a b => decide (a ≤ b)).map tm := by
    rw [List.map_mergeSort]
    intro a ha b hb
    have q := all27_at (all27_at c_leD (h a ha)) (h b hb)
    rw [Bool.and_eq_true] at q
    exact (beq_iff_eq.mp q.1).symm
  rw [e]
  congr 1
  refine sorted_uniq (le := fun a b : Nat => a ≤ b) (fun a b h1 h2 => Nat.le_antisymm h1 h2) ?_ ((up_lt L).imp fun h => Nat.le_of_lt h) ?_
  · have p := List.pairwise_mergeSort (le := fun a b : Nat => decide (a ≤ b)) (fun a b c h1 h2 => by simp at h1 h2 ⊢; omega) (fun a b => by simp; omega) L
    exact p.imp fun h => of_decide_eq_true h
  · exact (List.mergeSort_perm _ _).trans (perm_nodup nd (up_nodup L) fun x => (mem_up h).symm)
theorem okSort_tm {L : List Nat} (h : Lt27 L) : okSort (L.map tm) = true := by
  unfold okSort
  rw [Bool.and_eq_true, Bool.and_eq_true]
  refine ⟨⟨?_, ?_⟩, ?_⟩
  · rw [List.all_map, List.all_eq_true]
    exact fun i hi => shaped_tm (h i hi)
  · rw [List.all_map, List.all_eq_true]
    intro i hi
    show ((L.map tm).all fun d' => PySem.W.alike (tm i) d') = true
    rw [List.all_map, List.all_eq_true]
    intro j hj
    have q := all27_at (all27_at c_leD (h i hi)) (h j hj)
    rw [Bool.and_eq_true] at q
    exact q.2
  · rw [Bool.or_eq_true]
    left
    rw [List.all_map, List.all_eq_true]
    exact fun i hi => isTup_tm (h i hi)
theorem sorted_list {L : List Nat} (h : Lt27 L) (nd : L.Nodup) : gSortedB (.list (L.map tm)) = .ok (.list ((up L).map tm)) := by
  have e : gSortedB (.list (L.map tm)) = if okSort (L.map tm) = true then .ok (.list (sortB (L.map tm))) else .bad := rfl
  rw [e, if_pos (okSort_tm h), sortB_eq, sortD_tm h nd]
theorem keys_kd (L : List Nat) (v : Nat → PyData) : (kd L v).map (·.1) = L.map tm := by
  unfold kd
  rw [List.map_map]
  rfl
theorem src_kd {L : List Nat} {v : Nat → PyData} (h : Lt27 L) : srcD (.dict (kd L v)) = some (L.map tm) := by
  have e : srcD (.dict (kd L v)) = if ((shortKeys (kd L v) && keysK (kd L v)) || keysN (kd L v)) = true then some ((kd L v).map (·.1)) else none := rfl
  rw [e, keysN_kd h, Bool.or_true, if_pos rfl, keys_kd]
theorem sorted_dict {L : List Nat} {v : Nat → PyData} (h : Lt27 L) (nd : L.Nodup) : gSortedB (.dict (kd L v)) = .ok (.list ((up L).map tm)) := by
  have e : gSortedB (.dict (kd L v)) = match srcD (.dict (kd L v)) with
    | some ds => if okSort ds = true then .ok (.list (sortB ds)) else .bad
    | none => .bad := rfl
  rw [e, src_kd h]
  show (if okSort (L.map tm) = true then R.ok (PyData.list (sortB (L.map tm))) else .bad) = _
  rw [if_pos (okSort_tm h), sortB_eq, sortD_tm h nd]
theorem listA_kd {L : List Nat} {v : Nat → PyData} (h : Lt27 L) : gListA (.dict (kd L v)) = .ok (.list (L.map tm)) := by
  unfold gListA
  rw [src_kd h]
theorem items_kd {L : List Nat} {v : Nat → PyData} (h : Lt27 L) : itemsA (.dict (kd L v)) = .ok (L.map tm) := by
  have e : itemsA (.dict (kd L v)) = if (shortKeys (kd L v) && keysK (kd L v)) = true then .ok ((kd L v).map (·.1)) else if keysN (kd L v) = true then .ok ((kd L v).map (·.1)) else .bad := rfl
  rw [e, keysN_kd h, keys_kd]
  simp
theorem get_kd {L : List Nat} {v : Nat → PyData} {j : Nat} (h : Lt27 L) (hj : j ∈ L) : gIxA (.dict (kd L v)) (tm j) = .ok (v j) := by
  have e : gIxA (.dict (kd L v)) (tm j) = if keyable (kd L v) (tm j) = true then R.of (dfind (kd L v) (tm j)) else .bad := rfl
  rw [e, if_pos (keyable_kd h (h j hj)), find_kd (h j hj) h, if_pos hj]
  rfl
/-! ### dict(..) of pairs -/
theorem pairs_ix : ∀ (L : List (Nat × PyData)), pairsD (L.map fun p => .tuple [tm p.1, p.2]) = some (L.map fun p => (tm p.1, p.2))
  | [] => rfl
  | p :: L => by
    have ih := pairs_ix L
    rw [List.map_cons, List.map_cons]
    show (pairsD (L.map fun p => PyData.tuple [tm p.1, p.2])).map ((tm p.1, p.2) :: ·) = _
    rw [ih]
    rfl
theorem fold_ix : ∀ (P : List (Nat × PyData)), (∀ p ∈ P, p.1 < 27) → ∀ (L : List Nat) (v : Nat → PyData), Lt27 L → L.Nodup →
    ∃ L' v', (P.map fun p => (tm p.1, p.2)).foldl (fun acc p => dput acc p.1 p.2) (kd L v) = kd L' v' ∧ Lt27 L' ∧ L'.Nodup ∧ (∀ i, i ∈ L' ↔ i ∈ L ∨ i ∈ P.map (·.1)) ∧ v' = P.foldl (fun v p => setV v p.1 p.2) v
  | [], _, L, v, hl, nd => ⟨L, v, rfl, hl, nd, by simp, rfl⟩
  | p :: P, hp, L, v, hl, nd => by
    obtain ⟨L', v', e, h1, h2, h3, h4⟩ := fold_ix P (fun q hq => hp q (by simp [hq])) (insL L p.1) (setV v p.1 p.2) (lt_insL hl (hp p (by simp))) (nodup_insL nd)
    refine ⟨L', v', ?_, h1, h2, fun i => ?_, h4⟩
    · rw [List.map_cons, List.foldl_cons, put_kd hl (hp p (by simp)), e]
    · rw [h3, mem_insL, List.map_cons, List.mem_cons, or_assoc]
theorem dmake_ix (P : List (Nat × PyData)) (hp : ∀ p ∈ P, p.1 < 27) : ∃ L v, dmake (P.map fun p => (tm p.1, p.2)) = kd L v ∧ Lt27 L ∧ L.Nodup ∧ (∀ i, i ∈ L ↔ i ∈ P.map (·.1)) ∧ v = P.foldl (fun v p => setV v p.1 p.2) (fun _ => .none) := by
  obtain ⟨L, v, e, h1, h2, h3, h4⟩ := fold_ix P hp [] (fun _ => .none) (fun _ h => by simp at h) List.nodup_nil
  exact ⟨L, v, e, h1, h2, fun i => by rw [h3]; simp, h4⟩
theorem dictOf_ix {P : List (Nat × PyData)} (hp : ∀ p ∈ P, p.1 < 27) (mk : List PyData → PyData) (hm : mk = .list ∨ mk = .tuple) : gDictOf (mk (P.map fun p => .tuple [tm p.1, p.2])) = .ok (.dict (dmake (P.map fun p => (tm p.1, p.2)))) := by
  have hN : keysN (P.map fun p => (tm p.1, p.2)) = true := by
    unfold keysN
    rw [List.all_map, List.all_eq_true]
    exact fun p h => nkey_tm (hp p h)
  have key : (match pairsD (P.map fun p => .tuple [tm p.1, p.2]) with
    | some ps => if keysK ps = true then R.ok (PyData.dict (dmake ps)) else if keysN ps = true then .ok (.dict (dmake ps)) else .bad
    | none => .bad) = .ok (.dict (dmake (P.map fun p => (tm p.1, p.2)))) := by
    rw [pairs_ix]
    dsimp only
    rw [hN]
    simp
  rcases hm with rfl | rfl
  · exact key
  · exact key
/-- of a list of pairs with distinct terms -/
theorem foldV : ∀ (P : List (Nat × PyData)) (v : Nat → PyData) (i : Nat), i ∉ P.map (·.1) → P.foldl (fun v p => setV v p.1 p.2) v i = v i
  | [], _, _, _ => rfl
  | p :: P, v, i, h => by
    rw [List.foldl_cons, foldV P _ i (fun c => h (by simp [c]))]
    have : i ≠ p.1 := fun e => h (by simp [e])
    simp [setV, this]
theorem fold_kd : ∀ (M : List Nat) (v : Nat → PyData) (L : List Nat), Lt27 M → Lt27 L → (L ++ M).Nodup → (kd M v).foldl (fun acc p => dput acc p.1 p.2) (kd L v) = kd (L ++ M) v
  | [], v, L, _, _, _ => by simp [kd]
  | j :: M, v, L, hM, hL, nd => by
    have hj := hM j (by simp)
    have hnot : j ∉ L := by
      rw [List.nodup_append] at nd
      exact fun c => nd.2.2 j c j (by simp) rfl
    show (kd M v).foldl (fun acc p => dput acc p.1 p.2) (dput (kd L v) (tm j) (v j)) = _
    rw [put_kd hL hj, setV_same]
    have e : insL L j = L ++ [j] := by unfold insL; rw [if_neg hnot]
    rw [e, fold_kd M v (L ++ [j]) (fun i hi => hM i (by simp [hi])) (by rw [← e]; exact lt_insL hL hj) (by simpa using nd)]
    simp
theorem dmake_kd {L : List Nat} {v : Nat → PyData} (h : Lt27 L) (nd : L.Nodup) : dmake (kd L v) = kd L v := by
  have := fold_kd L v [] h (fun _ h => by simp at h) (by simpa using nd)
  rw [List.nil_append] at this
  exact this
end DL
namespace DL
open PySem PySem.Spec PyProof.Rows L2
variable [TheW]
/-! ### polynomials by their factors -/
def sup (c : Nat → Int) : List Nat := (List.range 27).filter fun i => decide (c i ≠ 0)
def pol (c : Nat → Int) : List (Nat × Int) := (sup c).map fun i => (i, c i)
def enc (c : Nat → Int) : PyData := .tuple (encL (pol c))
theorem mem_sup {c : Nat → Int} {i : Nat} : i ∈ sup c ↔ i < 27 ∧ c i ≠ 0 := by
  unfold sup
  rw [List.mem_filter, List.mem_range, decide_eq_true_eq]
theorem lt_sup (c : Nat → Int) : Lt27 (sup c) := fun i h => (mem_sup.mp h).1
theorem sup_lt (c : Nat → Int) : (sup c).Pairwise (· < ·) := (range_lt 27).filter _
theorem sup_nodup (c : Nat → Int) : (sup c).Nodup := (sup_lt c).imp fun h => Nat.ne_of_lt h
theorem sup_len (c : Nat → Int) : (sup c).length ≤ 27 := by
  have := List.length_filter_le (fun i => decide (c i ≠ 0)) (List.range 27)
  rw [List.length_range] at this
  exact this
theorem encL_pol (c : Nat → Int) : encL (pol c) = (sup c).map fun i => pr i (.int (c i)) := by
  unfold encL pol
  rw [List.map_map]
  rfl
theorem good_pol (c : Nat → Int) : GoodP (pol c) := fun x hx => by
  obtain ⟨i, hi, rfl⟩ := List.mem_map.mp hx
  exact mem_sup.mp hi
theorem faultN_some : ∀ (p : List (Nat × Int)) (j n : Nat), (∀ x ∈ p, j < x.1) → (p.map (·.1)).Pairwise (· < ·) → faultN (some j) n p = none
  | [], _, _, _, _ => rfl
  | x :: p, j, n, h, hp => by
    rw [List.map_cons, List.pairwise_cons] at hp
    have hx : ¬ x.1 ≤ j := Nat.not_le.mpr (h x (by simp))
    rw [faultN, if_neg hx]
    exact faultN_some p x.1 (n + 1) (fun y hy => hp.1 y.1 (List.mem_map_of_mem hy)) hp.2
theorem faultN_none : ∀ (p : List (Nat × Int)) (n : Nat), (p.map (·.1)).Pairwise (· < ·) → faultN none n p = none
  | [], _, _ => rfl
  | x :: p, n, hp => by
    rw [List.map_cons, List.pairwise_cons] at hp
    rw [faultN]
    exact faultN_some p x.1 (n + 1) (fun y hy => hp.1 y.1 (List.mem_map_of_mem hy)) hp.2
theorem map_pol (c : Nat → Int) : (pol c).map (·.1) = sup c := by
  unfold pol
  rw [List.map_map]
  have : ((fun x : Nat × Int => x.1) ∘ fun i => (i, c i)) = id := rfl
  rw [this, List.map_id]
theorem pf_enc (c : Nat → Int) : polynomial_fault [enc c] = .ok .none := by
  unfold enc
  rw [pf_good (good_pol c), faultN_none _ _ (by rw [map_pol]; exact sup_lt c)]
  rfl
theorem chk_of {d : PyData} (h : polynomial_fault [d] = .ok .none) : check_polynomial [d] = .ok .none := by
  have e : (fB (f2 gNotN (fA polynomial_fault (fCons (fVar 0) fNil)) (fC .none))) [.val d] = .ok false := by
    simp [fVar, h]
    rfl
  unfold check_polynomial b_check_polynomial
  show retD (sIf _ _ _ [.val d]) = _
  rw [ev_sIf_f e]
  rfl
theorem chk_enc (c : Nat → Int) : check_polynomial [enc c] = .ok .none := chk_of (pf_enc c)
theorem dictOf_enc (c : Nat → Int) : gDictOf (enc c) = .ok (.dict (kd (sup c) fun i => .int (c i))) := by
  have e : enc c = .tuple (((sup c).map fun i => (i, PyData.int (c i))).map fun p => .tuple [tm p.1, p.2]) := by
    unfold enc
    rw [encL_pol, List.map_map]
    rfl
  have e2 : ((sup c).map fun i => (i, PyData.int (c i))).map (fun p => (tm p.1, p.2)) = kd (sup c) fun i => .int (c i) := by
    rw [List.map_map]
    rfl
  rw [e, dictOf_ix (mk := .tuple) (fun p hp => ?_) (.inr rfl), e2, dmake_kd (lt_sup c) (sup_nodup c)]
  obtain ⟨i, hi, rfl⟩ := List.mem_map.mp hp
  exact lt_sup c i hi
/-- made_polynomial -/
def cut (L : List Nat) (w : Nat → Int) : Nat → Int := fun i => if i ∈ L then w i else 0
theorem sup_cut {L : List Nat} (w : Nat → Int) : sup (cut L w) = (up L).filter fun i => decide (w i ≠ 0) := by
  unfold sup up cut
  rw [List.filter_filter]
  refine List.filter_congr fun i _ => ?_
  by_cases h : i ∈ L <;> simp [h]
theorem enc_cut {L : List Nat} (w : Nat → Int) : enc (cut L w) = .tuple (((up L).filter fun i => decide (w i ≠ 0)).map fun i => pr i (.int (w i))) := by
  unfold enc
  rw [encL_pol, sup_cut]
  congr 1
  refine List.map_congr_left fun i hi => ?_
  have : i ∈ L := by
    have := (List.mem_filter.mp hi).1
    unfold up at this
    exact of_decide_eq_true (List.mem_filter.mp this).2
  simp [cut, this]
theorem deg_of {i : Nat} (h : i < 27) : degree_of_term [tm i] = .ok (.int (deg i)) := by
  have e := all27_at c_deg h
  rw [Bool.and_eq_true, Bool.and_eq_true] at e
  exact okI_of e.1.1
theorem deg_le {i : Nat} (h : i < 27) : 0 ≤ deg i ∧ deg i ≤ 6 := by
  have e := all27_at c_deg h
  rw [Bool.and_eq_true, Bool.and_eq_true] at e
  exact ⟨of_decide_eq_true e.1.2, of_decide_eq_true e.2⟩
theorem lcD_mapx {α : Type} {g : PyData → DEnv → Option DEnv} {fe : DEnv → R PyData} {ρ : DEnv} (ι φ : α → PyData) : ∀ {xs : List α}, (∀ x ∈ xs, ∃ ρ1, g (ι x) ρ = some ρ1 ∧ fe ρ1 = .ok (φ x)) → lcD g fYes fe (xs.map ι) ρ = .ok (xs.map φ)
  | [], _ => rfl
  | d :: ds, h => by
    obtain ⟨ρ1, e1, e2⟩ := h d (by simp)
    have r := lcD_mapx ι φ (xs := ds) fun x hx => h x (by simp [hx])
    simp only [List.map_cons, lcD, e1, fYes, R.noX, R.bind_ok, if_true, e2]
    rw [r]
    rfl
theorem lcD_ifx {α : Type} {g : PyData → DEnv → Option DEnv} {ft : DEnv → R Bool} {fe : DEnv → R PyData} {ρ : DEnv} (ι φ : α → PyData) (p : α → Bool) : ∀ {xs : List α}, (∀ x ∈ xs, ∃ ρ1, g (ι x) ρ = some ρ1 ∧ ft ρ1 = .ok (p x) ∧ (p x = true → fe ρ1 = .ok (φ x))) → lcD g ft fe (xs.map ι) ρ = .ok ((xs.filter p).map φ)
  | [], _ => rfl
  | d :: ds, h => by
    obtain ⟨ρ1, e1, e2, e3⟩ := h d (by simp)
    have r := lcD_ifx ι φ p (xs := ds) fun x hx => h x (by simp [hx])
    simp only [List.map_cons, lcD, e1, e2, R.noX, R.bind_ok]
    cases hp : p d with
    | true => simp only [if_true, e3 hp, R.bind_ok, r, List.filter_cons, hp, List.map_cons]
    | false => simp only [Bool.false_eq_true, if_false, r, List.filter_cons, hp]
theorem intsD_map {α : Type} (f : α → Int) : ∀ xs : List α, intsD (xs.map fun x => .int (f x)) = some (xs.map f)
  | [] => rfl
  | x :: xs => by
    rw [List.map_cons, List.map_cons]
    show (intsD (xs.map fun x => PyData.int (f x))).map (f x :: ·) = _
    rw [intsD_map f xs]
    rfl
theorem lt_int (a b : Int) : PySem.W.DatumOrd.lt a b = decide (a < b) := rfl
theorem maxOf_le {b : Int} : ∀ (xs : List Int) (x : Int), x ≤ b → (∀ y ∈ xs, y ≤ b) → PySem.W.maxOf x xs ≤ b
  | [], x, h, _ => h
  | y :: ys, x, h, hs => by
    show PySem.W.maxOf (if PySem.W.DatumOrd.lt x y = true then y else x) ys ≤ b
    refine maxOf_le ys _ ?_ fun z hz => hs z (by simp [hz])
    split
    · exact hs y (by simp)
    · exact h
theorem min_two (a b : Int) : minI [a, b] = some (min a b) := by
  show some (if PySem.W.DatumOrd.lt b a = true then b else a) = _
  rw [lt_int]
  congr 1
  by_cases h : b < a
  · simp [h]; omega
  · simp [h]; omega
theorem max_two (a b : Int) : maxI [a, b] = some (max a b) := by
  show some (if PySem.W.DatumOrd.lt a b = true then b else a) = _
  rw [lt_int]
  congr 1
  by_cases h : a < b
  · simp [h]; omega
  · simp [h]; omega
theorem made_of {L : List Nat} {w : Nat → Int} (h : Lt27 L) (nd : L.Nodup) : made_polynomial [.dict (kd L fun i => .int (w i))] = .ok (enc (cut L w)) := by
  generalize hD : PyData.dict (kd L fun i => .int (w i)) = D
  have hs : gSortedB D = .ok (.list ((up L).map tm)) := by rw [← hD]; exact sorted_dict h nd
  have hg : ∀ j ∈ L, gIxA D (tm j) = .ok (.int (w j)) := fun j hj => by rw [← hD]; exact get_kd h hj
  have e1 : (fLc (fItA (fA (g1 gSortedB) (fCons (fVar 0) fNil))) (gN 2) (fB (f2 gNe (f2 gIxA (fVar 0) (fVar 2)) (fC (.int 0)))) (fTup (fCons (fVar 2) (fCons (f2 gIxA (fVar 0) (fVar 2)) fNil))) [2]) [.val D, .un, .un, .un] = .ok (.list (((up L).filter fun i => decide (w i ≠ 0)).map fun i => pr i (.int (w i)))) := by
    refine ev_lc (items := (up L).map tm) (by simp [fItA, fVar, hs, itemsA, itemsD]) ?_
    refine lcD_ifx tm (fun i => pr i (.int (w i))) (fun i => decide (w i ≠ 0)) fun i hi => ?_
    have hi' := (mem_up h).mp hi
    refine ⟨[.val D, .un, .val (tm i), .un], rfl, ?_, fun _ => ?_⟩
    · simp [fVar, hg i hi', ev_neI]
    · simp [fVar, fTup, hg i hi', sizeLine_eq]
      rfl
  have e2 : (fA (g1 gTuple) (fCons (fLc (fItA (fA (g1 gSortedB) (fCons (fVar 0) fNil))) (gN 2) (fB (f2 gNe (f2 gIxA (fVar 0) (fVar 2)) (fC (.int 0)))) (fTup (fCons (fVar 2) (fCons (f2 gIxA (fVar 0) (fVar 2)) fNil))) [2]) fNil)) [.val D, .un, .un, .un] = .ok (enc (cut L w)) := by
    rw [enc_cut, ev_fA, ev_fCons, e1]
    rfl
  unfold made_polynomial b_made_polynomial
  refine retD_of (rets_asg e2 ?_)
  generalize hC : cut L w = c
  show Rets _ [.val D, .val (enc c), .un, .un] _
  have l1 : gLen (enc c) = .ok (.int (sup c).length) := by
    show R.ok (PyData.int ((encL (pol c)).length : Nat)) = _
    rw [encL_pol, List.length_map]
  have e3 : (fLc (fItA (fVar 1)) (gT (gsCons (gN 2) (gsCons (gN 3) gsNil))) fYes (fA degree_of_term (fCons (fVar 2) fNil)) [2, 3]) [.val D, .val (enc c), .un, .un] = .ok (.list ((sup c).map fun i => .int (deg i))) := by
    refine ev_lc (items := (sup c).map fun i => pr i (.int (c i))) (by rw [← encL_pol]; rfl) ?_
    refine lcD_mapx (fun i => pr i (.int (c i))) (fun i => .int (deg i)) fun i hi => ⟨[.val D, .val (enc c), .val (tm i), .val (.int (c i))], rfl, ?_⟩
    simp [fVar, deg_of (lt_sup c i hi)]
  have e4 : ∃ m : Int, m ≤ 12 ∧ (fA (gMM maxI) (fCons (f2 gAdd (fLst (fCons (fC (.int 0)) fNil)) (fLc (fItA (fVar 1)) (gT (gsCons (gN 2) (gsCons (gN 3) gsNil))) fYes (fA degree_of_term (fCons (fVar 2) fNil)) [2, 3])) fNil)) [.val D, .val (enc c), .un, .un] = .ok (.int m) := by
    refine ⟨PySem.W.maxOf 0 ((sup c).map deg), maxOf_le _ _ (by decide) (fun y hy => ?_), ?_⟩
    · obtain ⟨i, hi, rfl⟩ := List.mem_map.mp hy
      have := deg_le (lt_sup c i hi)
      omega
    · have hl : 1 + (sup c).length ≤ sizeLine := by have := sup_len c; rw [sizeLine_eq]; omega
      have ha : gAdd (.list [.int 0]) (.list ((sup c).map fun i => .int (deg i))) = .ok (.list (.int 0 :: (sup c).map fun i => .int (deg i))) := by
        unfold gAdd
        dsimp only
        rw [if_pos (by simpa using hl)]
        rfl
      rw [ev_fA, ev_fCons, ev_f2, e3]
      simp [fLst, sizeLine_eq, ha, gMM, intsD, intsD_map, maxI]
  obtain ⟨m, hm, e4⟩ := e4
  have e5 : (fOr (fB (f2 (gOrd .gt) (fA (g1 gLen) (fCons (fVar 1) fNil)) (fC (.int 400)))) (fB (f2 (gOrd .gt) (fA (gMM maxI) (fCons (f2 gAdd (fLst (fCons (fC (.int 0)) fNil)) (fLc (fItA (fVar 1)) (gT (gsCons (gN 2) (gsCons (gN 3) gsNil))) fYes (fA degree_of_term (fCons (fVar 2) fNil)) [2, 3])) fNil)) (fC (.int 12))))) [.val D, .val (enc c), .un, .un] = .ok false := by
    rw [ev_fOr, ev_fB, ev_f2, ev_fB, ev_f2, e4]
    have h1 : ¬ (400 : Int) < ((sup c).length : Nat) := by have := sup_len c; omega
    have h2 : ¬ (12 : Int) < m := by omega
    simp [fVar, l1, Od.int, h1, h2]
  refine rets_step (by rw [ev_sIf_f e5]; rfl) ?_
  exact rets_ret rfl rfl
end DL
namespace DL
open PySem PySem.Spec PyProof.Rows L2
variable [TheW]
theorem sup_congr {c d : Nat → Int} (h : ∀ i, i < 27 → c i = d i) : sup c = sup d := by
  unfold sup
  refine List.filter_congr fun i hi => ?_
  rw [h i (List.mem_range.mp hi)]
theorem enc_congr {c d : Nat → Int} (h : ∀ i, i < 27 → c i = d i) : enc c = enc d := by
  unfold enc
  rw [encL_pol, encL_pol, sup_congr h]
  congr 1
  refine List.map_congr_left fun i hi => ?_
  rw [h i (lt_sup d i hi)]
@[simp] theorem ev_fItA {f : DEnv → R PyData} {ρ : DEnv} : fItA f ρ = (f ρ).bind itemsA := rfl
theorem len27 {L : List Nat} (h : Lt27 L) (nd : L.Nodup) : L.length ≤ 27 := by
  have p := (perm_nodup nd (up_nodup L) fun x => (mem_up h).symm).length_eq
  have q := List.length_filter_le (fun i => decide (i ∈ L)) (List.range 27)
  rw [List.length_range] at q
  unfold up at p
  omega
def mmx (b : Bool) (c d : Nat → Int) : Nat → Int := fun i => if b = true then min (c i) (d i) else max (c i) (d i)
theorem get2_kd {fo fk fz : DEnv → R PyData} {ρ : DEnv} {L : List Nat} {v : Nat → PyData} {j : Nat} {z : PyData} (h : Lt27 L) (hj : j < 27) (e1 : fo ρ = .ok (.dict (kd L v))) (e2 : fk ρ = .ok (tm j)) (e3 : fz ρ = .ok z) : fGet2 fo fk fz ρ = .ok (if j ∈ L then v j else z) := by
  unfold fGet2
  rw [e1, bindOk]
  dsimp only
  rw [e2, bindOk, e3, bindOk, if_pos (keyable_kd h hj), find_kd hj h]
  by_cases c : j ∈ L <;> simp [c]
theorem get2_sup {fo fk fz : DEnv → R PyData} {ρ : DEnv} {c : Nat → Int} {j : Nat} (hj : j < 27) (e1 : fo ρ = .ok (.dict (kd (sup c) fun i => .int (c i)))) (e2 : fk ρ = .ok (tm j)) (e3 : fz ρ = .ok (.int 0)) : fGet2 fo fk fz ρ = .ok (.int (c j)) := by
  rw [get2_kd (lt_sup c) hj e1 e2 e3]
  by_cases h : j ∈ sup c
  · rw [if_pos h]
  · rw [if_neg h]
    have : c j = 0 := by
      rw [mem_sup] at h
      exact Classical.not_not.mp fun k => h ⟨hj, k⟩
    rw [this]
theorem chosen_enc (c d : Nat → Int) (b : Bool) : chosen_of [enc c, enc d, .bool b] = .ok (enc (mmx b c d)) := by
  generalize h1 : PyData.dict (kd (sup c) fun i => .int (c i)) = D1
  generalize h2 : PyData.dict (kd (sup d) fun i => .int (d i)) = D2
  have g1' : gDictOf (enc c) = .ok D1 := by rw [← h1]; exact dictOf_enc c
  have g2' : gDictOf (enc d) = .ok D2 := by rw [← h2]; exact dictOf_enc d
  unfold chosen_of b_chosen_of
  refine retD_of ?_
  show Rets _ [.val (enc c), .val (enc d), .val (.bool b), .un, .un, .un, .un, .un, .un] _
  have s1 : sPar3O 3 4 5 (fA (g1 gDictOf) (fCons (fVar 0) fNil)) (fA (g1 gDictOf) (fCons (fVar 1) fNil)) oDictN [.val (enc c), .val (enc d), .val (.bool b), .un, .un, .un, .un, .un, .un] = .next [.val (enc c), .val (enc d), .val (.bool b), .val D1, .val D2, .own (.dN []), .un, .un, .un] := by
    have e1 : (fA (g1 gDictOf) (fCons (fVar 0) fNil)) [.val (enc c), .val (enc d), .val (.bool b), .un, .un, .un, .un, .un, .un] = .ok D1 := by simp [fVar, g1']
    have e2 : (fA (g1 gDictOf) (fCons (fVar 1) fNil)) [.val (enc c), .val (enc d), .val (.bool b), .un, .un, .un, .un, .un, .un] = .ok D2 := by simp [fVar, g2']
    unfold sPar3O
    rw [e1, e2]
    rfl
  refine rets_step s1 ?_
  have la : gListA D1 = .ok (.list ((sup c).map tm)) := by rw [← h1]; exact listA_kd (lt_sup c)
  have ia : itemsA D2 = .ok ((sup d).map tm) := by rw [← h2]; exact items_kd (lt_sup d)
  have lc : (fLc (fItA (fVar 4)) (gN 8) (fB (f2 (gInA true) (fVar 8) (fVar 3))) (fVar 8) [8]) [.val (enc c), .val (enc d), .val (.bool b), .val D1, .val D2, .own (.dN []), .un, .un, .un] = .ok (.list (((sup d).filter fun i => !decide (i ∈ sup c)).map tm)) := by
    refine ev_lc (items := (sup d).map tm) (by simp [fItA, fVar, ia]) ?_
    refine lcD_ifx tm tm (fun i => !decide (i ∈ sup c)) fun i hi => ⟨[.val (enc c), .val (enc d), .val (.bool b), .val D1, .val D2, .own (.dN []), .un, .un, .val (tm i)], rfl, ?_, fun _ => rfl⟩
    have hi' := lt_sup d i hi
    have e : gInA true (tm i) D1 = .ok (.bool (!decide (i ∈ sup c))) := by
      rw [← h1]
      have e : gInA true (tm i) (.dict (kd (sup c) fun i => .int (c i))) = if keyable (kd (sup c) fun i => .int (c i)) (tm i) = true then .ok (.bool (if true = true then !(dfind (kd (sup c) fun i => .int (c i)) (tm i)).isSome else (dfind (kd (sup c) fun i => .int (c i)) (tm i)).isSome)) else .bad := rfl
      rw [e, if_pos (keyable_kd (lt_sup c) hi'), find_kd hi' (lt_sup c)]
      by_cases q : i ∈ sup c <;> simp [q]
    simp [fVar, e]
  generalize hM : sup c ++ (sup d).filter (fun i => !decide (i ∈ sup c)) = M
  have hM27 : Lt27 M := fun i hi => by
    rw [← hM] at hi
    rcases List.mem_append.mp hi with h | h
    · exact lt_sup c i h
    · exact lt_sup d i (List.mem_filter.mp h).1
  have hlen : M.length ≤ 54 := by
    have a := sup_len c
    have a2 := sup_len d
    have a3 := List.length_filter_le (fun i => !decide (i ∈ sup c)) (sup d)
    rw [← hM, List.length_append]
    omega
  have it : (fItA (f2 gAdd (fA (g1 gListA) (fCons (fVar 3) fNil)) (fLc (fItA (fVar 4)) (gN 8) (fB (f2 (gInA true) (fVar 8) (fVar 3))) (fVar 8) [8]))) [.val (enc c), .val (enc d), .val (.bool b), .val D1, .val D2, .own (.dN []), .un, .un, .un] = .ok (M.map tm) := by
    have ha : gAdd (.list ((sup c).map tm)) (.list (((sup d).filter fun i => !decide (i ∈ sup c)).map tm)) = .ok (.list (M.map tm)) := by
      unfold gAdd
      dsimp only
      rw [← List.map_append, hM, if_pos (by
        rw [List.length_map, List.length_map, ← List.length_append, hM, sizeLine_eq]
        omega)]
    rw [ev_fItA, ev_f2, lc]
    simp [fVar, la, ha, itemsA, itemsD]
  refine rets_seq (P := fun ρ => ∃ (L : List Nat) (x6 x7 : Sl), ρ = [.val (enc c), .val (enc d), .val (.bool b), .val D1, .val D2, .own (.dN (kd L fun i => .int (mmx b c d i))), x6, x7, .un] ∧ Lt27 L ∧ L.Nodup ∧ ∀ i, i ∈ L ↔ i ∈ M) ?_ fun ρ hρ => ?_
  · refine runs_for it (fun n ρ => ∃ (L : List Nat) (x6 x7 : Sl), ρ = [.val (enc c), .val (enc d), .val (.bool b), .val D1, .val D2, .own (.dN (kd L fun i => .int (mmx b c d i))), x6, x7, .un] ∧ Lt27 L ∧ L.Nodup ∧ ∀ i, i ∈ L ↔ i ∈ M.take n)
      (fun n t ρ ht hρ => ?_) ⟨[], .un, .un, rfl, fun _ h => by simp at h, List.nodup_nil, by simp⟩ (fun ρ hρ => by
        obtain ⟨L, x6, x7, e, q1, q2, q3⟩ := hρ
        exact ⟨L, x6, x7, e, q1, q2, fun i => by rw [q3, List.length_map, List.take_length]⟩)
    obtain ⟨L, x6, x7, rfl, q1, q2, q3⟩ := hρ
    rw [List.getElem?_map] at ht
    cases hj : M[n]? with
    | none => rw [hj] at ht; cases ht
    | some j =>
      rw [hj] at ht
      cases ht
      have hj27 : j < 27 := hM27 j (List.mem_of_getElem? hj)
      refine ⟨_, rfl, ?_⟩
      show Runs _ [.val (enc c), .val (enc d), .val (.bool b), .val D1, .val D2, .own (.dN (kd L fun i => .int (mmx b c d i))), .val (tm j), x7, .un] _
      have p1 := get2_sup (fo := fVar 3) (fk := fVar 6) (fz := fC (.int 0)) (c := c) (ρ := [.val (enc c), .val (enc d), .val (.bool b), .val D1, .val D2, .own (.dN (kd L fun i => .int (mmx b c d i))), .val (tm j), x7, .un]) hj27 (by rw [h1]; rfl) rfl rfl
      have p2 := get2_sup (fo := fVar 4) (fk := fVar 6) (fz := fC (.int 0)) (c := d) (ρ := [.val (enc c), .val (enc d), .val (.bool b), .val D1, .val D2, .own (.dN (kd L fun i => .int (mmx b c d i))), .val (tm j), x7, .un]) hj27 (by rw [h2]; rfl) rfl rfl
      refine runs_asg (d := .tuple [.int (c j), .int (d j)]) (by simp [fTup, p1, p2, sizeLine_eq]) ?_
      show Runs _ [.val (enc c), .val (enc d), .val (.bool b), .val D1, .val D2, .own (.dN (kd L fun i => .int (mmx b c d i))), .val (tm j), .val (.tuple [.int (c j), .int (d j)]), .un] _
      have ev : (fIf (fTr (fVar 2)) (fA (gMM minI) (fCons (fVar 7) fNil)) (fA (gMM maxI) (fCons (fVar 7) fNil))) [.val (enc c), .val (enc d), .val (.bool b), .val D1, .val D2, .own (.dN (kd L fun i => .int (mmx b c d i))), .val (tm j), .val (.tuple [.int (c j), .int (d j)]), .un] = .ok (.int (mmx b c d j)) := by
        have m1 : gMM minI [.tuple [.int (c j), .int (d j)]] = .ok (.int (min (c j) (d j))) := by
          simp [gMM, intsD, min_two]
        have m2 : gMM maxI [.tuple [.int (c j), .int (d j)]] = .ok (.int (max (c j) (d j))) := by
          simp [gMM, intsD, max_two]
        cases b <;> simp [fVar, m1, m2, mmx]
      have hlt : (kd L fun i => .int (mmx b c d i)).length < sizeLine := by
        unfold kd
        rw [List.length_map, sizeLine_eq]
        have hsub := len27 q1 q2
        omega
      have ep : sPutN 5 (fVar 6) (fIf (fTr (fVar 2)) (fA (gMM minI) (fCons (fVar 7) fNil)) (fA (gMM maxI) (fCons (fVar 7) fNil))) [.val (enc c), .val (enc d), .val (.bool b), .val D1, .val D2, .own (.dN (kd L fun i => .int (mmx b c d i))), .val (tm j), .val (.tuple [.int (c j), .int (d j)]), .un] = .next [.val (enc c), .val (enc d), .val (.bool b), .val D1, .val D2, .own (.dN (kd (insL L j) fun i => .int (mmx b c d i))), .val (tm j), .val (.tuple [.int (c j), .int (d j)]), .un] := by
        unfold sPutN
        rw [ev]
        show (if isNKey (tm j) = true ∧ (kd L fun i => .int (mmx b c d i)).length < sizeLine then SR.next _ else .bad) = _
        rw [if_pos ⟨nkey_tm hj27, hlt⟩, put_kd q1 hj27]
        rw [setV_same (v := fun i => .int (mmx b c d i)) (j := j)]
        rfl
      refine runs_of ep ⟨insL L j, _, _, rfl, lt_insL q1 hj27, nodup_insL q2, fun i => ?_⟩
      rw [mem_insL, q3, List.take_add_one, hj]
      simp
  · obtain ⟨L, x6, x7, rfl, q1, q2, q3⟩ := hρ
    have em := made_of (w := mmx b c d) q1 q2
    have ec : enc (cut L (mmx b c d)) = enc (mmx b c d) := enc_congr fun i hi => by
      unfold cut
      by_cases h : i ∈ L
      · rw [if_pos h]
      · rw [if_neg h]
        rw [q3, ← hM, List.mem_append, List.mem_filter] at h
        have hc' : i ∉ sup c := fun k => h (.inl k)
        have hd' : i ∉ sup d := fun k => h (.inr ⟨k, by simp [hc']⟩)
        have hc : c i = 0 := Classical.not_not.mp fun k => hc' (mem_sup.mpr ⟨hi, k⟩)
        have hd : d i = 0 := Classical.not_not.mp fun k => hd' (mem_sup.mpr ⟨hi, k⟩)
        unfold mmx
        rw [hc, hd]
        cases b <;> rfl
    rw [ec] at em
    show Rets _ _ _
    refine ⟨_, ?_, rfl⟩
    show sRet (fA made_polynomial (fCons (fVar 5) fNil)) [.val (enc c), .val (enc d), .val (.bool b), .val D1, .val D2, .val (.dict (kd L fun i => .int (mmx b c d i))), x6, x7, .un] = _
    exact ev_ret (by simp [fVar, em])
theorem lesser_enc (c d : Nat → Int) : lesser_of [enc c, enc d] = .ok (enc (mmx true c d)) := by
  unfold lesser_of b_lesser_of
  refine retD_of ?_
  show Rets _ [.val (enc c), .val (enc d)] _
  refine rets_step (ev_drop (d := .none) (by simp [fVar, chk_enc])) (rets_step (ev_drop (d := .none) (by simp [fVar, chk_enc])) (rets_ret ?_ rfl))
  simp [fVar, chosen_enc]
theorem greater_enc (c d : Nat → Int) : greater_of [enc c, enc d] = .ok (enc (mmx false c d)) := by
  unfold greater_of b_greater_of
  refine retD_of ?_
  show Rets _ [.val (enc c), .val (enc d)] _
  refine rets_step (ev_drop (d := .none) (by simp [fVar, chk_enc])) (rets_step (ev_drop (d := .none) (by simp [fVar, chk_enc])) (rets_ret ?_ rfl))
  simp [fVar, chosen_enc]
/-- degree_of -/
def dmax (c : Nat → Int) : Int := PySem.W.maxOf (-1) ((sup c).map deg)
theorem mm_list (c : Nat → Int) : gMM maxI [.list (.int (-1) :: (sup c).map fun i => .int (deg i))] = .ok (.int (dmax c)) := by
  simp [gMM, intsD, intsD_map, maxI, dmax]
theorem add_list (c : Nat → Int) : gAdd (.list [.int (-1)]) (.list ((sup c).map fun i => .int (deg i))) = .ok (.list (.int (-1) :: (sup c).map fun i => .int (deg i))) := by
  have hl : 1 + (sup c).length ≤ sizeLine := by have := sup_len c; rw [sizeLine_eq]; omega
  unfold gAdd
  dsimp only
  rw [if_pos (by simpa using hl)]
  rfl
theorem degree_enc (c : Nat → Int) : degree_of [enc c] = .ok (.int (dmax c)) := by
  unfold degree_of b_degree_of
  refine retD_of ?_
  show Rets _ [.val (enc c), .un, .un] _
  refine rets_step (ev_drop (d := .none) (by simp [fVar, chk_enc])) (rets_ret ?_ rfl)
  have e3 : (fLc (fItA (fVar 0)) (gT (gsCons (gN 1) (gsCons (gN 2) gsNil))) fYes (fA degree_of_term (fCons (fVar 1) fNil)) [1, 2]) [.val (enc c), .un, .un] = .ok (.list ((sup c).map fun i => .int (deg i))) := by
    refine ev_lc (items := (sup c).map fun i => pr i (.int (c i))) (by rw [← encL_pol]; rfl) ?_
    refine lcD_mapx (fun i => pr i (.int (c i))) (fun i => .int (deg i)) fun i hi => ⟨[.val (enc c), .val (tm i), .val (.int (c i))], rfl, ?_⟩
    simp [fVar, deg_of (lt_sup c i hi)]
  have en : gNeg (.int 1) = .ok (.int (-1)) := rfl
  rw [ev_fA, ev_fCons, ev_f2, e3]
  simp [fLst, en, sizeLine_eq, add_list, mm_list]
end DL
namespace DL
open PySem PySem.Spec PyProof.Rows L2
variable [TheW]
/-! ### worths -/
def nm (n : Nat) : Str := if n = 0 then "a" else if n = 1 then "m" else "n"
def encP (p : Nat × Int) : PyData := .tuple [.str (nm p.1), .int p.2]
def exL27 : List (List (Nat × Int)) := [[], [(0, 1)], [(0, 1), (1, 1)], [(0, 1), (1, 1), (2, 1)], [(0, 1), (1, 1), (2, 2)], [(0, 1), (1, 2)], [(0, 1), (1, 2), (2, 1)], [(0, 1), (1, 2), (2, 2)], [(0, 1), (2, 1)], [(0, 1), (2, 2)], [(0, 2)], [(0, 2), (1, 1)], [(0, 2), (1, 1), (2, 1)], [(0, 2), (1, 1), (2, 2)], [(0, 2), (1, 2)], [(0, 2), (1, 2), (2, 1)], [(0, 2), (1, 2), (2, 2)], [(0, 2), (2, 1)], [(0, 2), (2, 2)], [(1, 1)], [(1, 1), (2, 1)], [(1, 1), (2, 2)], [(1, 2)], [(1, 2), (2, 1)], [(1, 2), (2, 2)], [(2, 1)], [(2, 2)]]
def ex (i : Nat) : List (Nat × Int) := exL27.getD i []
theorem T27_ex : T27 = exL27.map fun ps => .tuple (ps.map encP) := rfl
theorem tm_ex {i : Nat} : tm i = .tuple ((ex i).map encP) := by
  unfold tm ex
  rw [T27_ex, List.getD_eq_getElem?_getD, List.getD_eq_getElem?_getD, List.getElem?_map]
  cases exL27[i]? <;> rfl
def GoodX (ps : List (Nat × Int)) : Prop := ps.length ≤ 3 ∧ ∀ p ∈ ps, p.1 < 3 ∧ (p.2 = 1 ∨ p.2 = 2)
theorem c_ex : (exL27.all fun ps => decide (ps.length ≤ 3) && ps.all fun p => decide (p.1 < 3) && (decide (p.2 = 1) || decide (p.2 = 2))) = true := by kernel_rfl
theorem good_ex (i : Nat) : GoodX (ex i) := by
  unfold ex
  rw [List.getD_eq_getElem?_getD]
  cases e : exL27[i]? with
  | none => exact ⟨by simp, by simp⟩
  | some ps =>
    have h := List.all_eq_true.mp c_ex ps (List.mem_of_getElem? e)
    rw [Bool.and_eq_true] at h
    refine ⟨of_decide_eq_true h.1, fun p hp => ?_⟩
    have h2 := List.all_eq_true.mp h.2 p hp
    rw [Bool.and_eq_true, Bool.or_eq_true] at h2
    exact ⟨of_decide_eq_true h2.1, h2.2.imp of_decide_eq_true of_decide_eq_true⟩
def ch (x k : Int) : Int := match choose_worth [.int x, .int k] with
  | .ok (.int n) => n
  | _ => 0
def chOk (x k : Int) : Bool := okI (choose_worth [.int x, .int k]) (ch x k) && okI (_law_choose [.int x, .int k]) (ch x k) && decide ((ch x k).natAbs ≤ 15) && (decide (x < 0) || decide (0 ≤ ch x k))
theorem c_ch : ((List.range 10).all fun n => chOk ((n : Int) - 3) 1 && chOk ((n : Int) - 3) 2) = true := by kernel_rfl
def InW (x : Int) : Prop := -3 ≤ x ∧ x ≤ 6
theorem chOk_at {x k : Int} (hx : InW x) (hk : k = 1 ∨ k = 2) : chOk x k = true := by
  have h := List.all_eq_true.mp c_ch (x + 3).toNat (List.mem_range.mpr (by have := hx.1; have := hx.2; omega))
  have e : (((x + 3).toNat : Nat) : Int) - 3 = x := by have := hx.1; omega
  rw [e, Bool.and_eq_true] at h
  rcases hk with rfl | rfl
  · exact h.1
  · exact h.2
theorem ch_own {x k : Int} (hx : InW x) (hk : k = 1 ∨ k = 2) : choose_worth [.int x, .int k] = .ok (.int (ch x k)) := by
  have h := chOk_at hx hk
  simp only [chOk, Bool.and_eq_true] at h
  exact okI_of h.1.1.1
theorem ch_law {x k : Int} (hx : InW x) (hk : k = 1 ∨ k = 2) : _law_choose [.int x, .int k] = .ok (.int (ch x k)) := by
  have h := chOk_at hx hk
  simp only [chOk, Bool.and_eq_true] at h
  exact okI_of h.1.1.2
theorem ch_le {x k : Int} (hx : InW x) (hk : k = 1 ∨ k = 2) : (ch x k).natAbs ≤ 15 := by
  have h := chOk_at hx hk
  simp only [chOk, Bool.and_eq_true] at h
  exact of_decide_eq_true h.1.2
theorem ch_nn {x k : Int} (hx : InW x) (hk : k = 1 ∨ k = 2) (h0 : 0 ≤ x) : 0 ≤ ch x k := by
  have h := chOk_at hx hk
  simp only [chOk, Bool.and_eq_true, Bool.or_eq_true, decide_eq_true_eq] at h
  rcases h.2 with q | q
  · omega
  · exact q
/-- the worths of a, m, n -/
def InWs (w : Nat → Int) : Prop := ∀ n, n < 3 → InW (w n)
def kvW (w : Nat → Int) : List (PyData × PyData) := [(.str "a", .int (w 0)), (.str "m", .int (w 1)), (.str "n", .int (w 2))]
def dW (w : Nat → Int) : PyData := .dict (kvW w)
def tW (w : Nat → Int) : PyData := .tuple [.tuple [.str "a", .int (w 0)], .tuple [.str "m", .int (w 1)], .tuple [.str "n", .int (w 2)]]
theorem lt3 {n : Nat} (h : n < 3) : n = 0 ∨ n = 1 ∨ n = 2 := by omega
theorem get_dW {w : Nat → Int} {n : Nat} (h : n < 3) : gIxA (dW w) (.str (nm n)) = .ok (.int (w n)) := by
  rcases lt3 h with rfl | rfl | rfl <;> rfl
def pw (w : Nat → Int) : List (Nat × Int) → Int
  | [] => 1
  | p :: ps => ch (w p.1) p.2 * pw w ps
theorem pw_nn {w : Nat → Int} (hw : InWs w) (h0 : ∀ n, n < 3 → 0 ≤ w n) : ∀ {ps : List (Nat × Int)}, (∀ p ∈ ps, p.1 < 3 ∧ (p.2 = 1 ∨ p.2 = 2)) → 0 ≤ pw w ps
  | [], _ => by show (0 : Int) ≤ 1; decide
  | p :: ps, h => by
    obtain ⟨h1, h2⟩ := h p (by simp)
    exact Int.mul_nonneg (ch_nn (hw _ h1) h2 (h0 _ h1)) (pw_nn hw h0 fun q hq => h q (by simp [hq]))
theorem mul_le15 {f c : Int} {n : Nat} (h : f.natAbs * 15 ^ (n + 1) < 2 ^ 64) (hc : c.natAbs ≤ 15) : (f * c).natAbs * 15 ^ n < 2 ^ 64 ∧ f.natAbs < 2 ^ 64 ∧ c.natAbs < 2 ^ 64 := by
  have hp : 0 < 15 ^ n := Nat.pow_pos (by decide)
  refine ⟨?_, ?_, by omega⟩
  · rw [Int.natAbs_mul]
    refine Nat.lt_of_le_of_lt ?_ h
    rw [Nat.pow_succ, Nat.mul_comm (15 ^ n) 15, ← Nat.mul_assoc]
    exact Nat.mul_le_mul_right _ (Nat.mul_le_mul_left _ hc)
  · refine Nat.lt_of_le_of_lt ?_ h
    exact Nat.le_mul_of_pos_right _ (Nat.pow_pos (by decide))
def wtB : DEnv → SR := sAug 2 gMul (fA choose_worth (fCons (f2 gIxA (fVar 1) (fVar 3)) (fCons (fVar 4) fNil)))
theorem wt_loop {w : Nat → Int} (hw : InWs w) {t : PyData} : ∀ (ps : List (Nat × Int)) (f : Int) (x3 x4 : Sl), (∀ p ∈ ps, p.1 < 3 ∧ (p.2 = 1 ∨ p.2 = 2)) → f.natAbs * 15 ^ ps.length < 2 ^ 64 →
    ∃ y3 y4, forD (gT (gsCons (gN 3) (gsCons (gN 4) gsNil))) wtB (ps.map encP) [.val t, .val (dW w), .val (.int f), x3, x4] = .next [.val t, .val (dW w), .val (.int (f * pw w ps)), y3, y4]
  | [], f, x3, x4, _, _ => ⟨x3, x4, by simp [forD, pw]⟩
  | p :: ps, f, x3, x4, h, hf => by
    obtain ⟨h1, h2⟩ := h p (by simp)
    obtain ⟨b1, b2, b3⟩ := mul_le15 (by rw [List.length_cons] at hf; exact hf) (ch_le (hw _ h1) h2)
    obtain ⟨y3, y4, ih⟩ := wt_loop hw (t := t) ps (f * ch (w p.1) p.2) (.val (.str (nm p.1))) (.val (.int p.2)) (fun q hq => h q (by simp [hq])) b1
    refine ⟨y3, y4, ?_⟩
    have e1 : wtB [.val t, .val (dW w), .val (.int f), .val (.str (nm p.1)), .val (.int p.2)] = .next [.val t, .val (dW w), .val (.int (f * ch (w p.1) p.2)), .val (.str (nm p.1)), .val (.int p.2)] := by
      have e : (fA choose_worth (fCons (f2 gIxA (fVar 1) (fVar 3)) (fCons (fVar 4) fNil))) [.val t, .val (dW w), .val (.int f), .val (.str (nm p.1)), .val (.int p.2)] = .ok (.int (ch (w p.1) p.2)) := by
        simp [fVar, get_dW h1, ch_own (hw _ h1) h2]
      unfold wtB sAug
      rw [e]
      dsimp only [List.getElem?_cons_succ, List.getElem?_cons_zero]
      rw [ev_mul64 b2 b3]
      rfl
    rw [List.map_cons]
    show (match wtB [.val t, .val (dW w), .val (.int f), .val (.str (nm p.1)), .val (.int p.2)] with
        | .next ρ2 => forD (gT (gsCons (gN 3) (gsCons (gN 4) gsNil))) wtB (ps.map encP) ρ2
        | .cont ρ2 => forD (gT (gsCons (gN 3) (gsCons (gN 4) gsNil))) wtB (ps.map encP) ρ2
        | .brk ρ2 => .next ρ2
        | .ret v => .ret v
        | .exc e ρ2 => .exc e ρ2
        | .bad => .bad) = _
    rw [e1]
    dsimp only
    rw [ih, pw, Int.mul_assoc]
def Wt (w : Nat → Int) (i : Nat) : Int := pw w (ex i)
theorem wt_of {w : Nat → Int} (hw : InWs w) (i : Nat) : worth_of_term [tm i, dW w] = .ok (.int (Wt w i)) := by
  have g := good_ex i
  have hl : (1 : Int).natAbs * 15 ^ (ex i).length < 2 ^ 64 := by
    have : 15 ^ (ex i).length ≤ 15 ^ 3 := Nat.pow_le_pow_right (by decide) g.1
    have e : (1 : Int).natAbs = 1 := rfl
    rw [e]
    omega
  obtain ⟨y3, y4, e⟩ := wt_loop hw (t := tm i) (ex i) 1 .un .un g.2 hl
  unfold worth_of_term b_worth_of_term
  refine retD_of (rets_asg rfl ?_)
  show Rets _ [.val (tm i), .val (dW w), .val (.int 1), .un, .un] _
  refine rets_step ((ev_for (items := (ex i).map encP) ?_).trans e) ?_
  · rw [tm_ex]; rfl
  · rw [Int.one_mul]
    exact rets_ret rfl rfl
theorem pw_le {w : Nat → Int} (hw : InWs w) : ∀ {ps : List (Nat × Int)}, (∀ p ∈ ps, p.1 < 3 ∧ (p.2 = 1 ∨ p.2 = 2)) → (pw w ps).natAbs ≤ 15 ^ ps.length
  | [], _ => by show (1 : Int).natAbs ≤ 15 ^ 0; decide
  | p :: ps, h => by
    obtain ⟨h1, h2⟩ := h p (by simp)
    rw [pw, Int.natAbs_mul, List.length_cons, Nat.pow_succ, Nat.mul_comm (15 ^ ps.length)]
    exact Nat.mul_le_mul (ch_le (hw _ h1) h2) (pw_le hw fun q hq => h q (by simp [hq]))
theorem Wt_le {w : Nat → Int} (hw : InWs w) (i : Nat) : (Wt w i).natAbs ≤ 3375 := by
  have h := pw_le hw (good_ex i).2
  have : 15 ^ (ex i).length ≤ 15 ^ 3 := Nat.pow_le_pow_right (by decide) (good_ex i).1
  unfold Wt
  omega
def Small (c : Nat → Int) : Prop := ∀ i, i < 27 → (c i).natAbs ≤ 7
def S (c w : Nat → Int) : Int := ((sup c).map fun i => c i * Wt w i).sum
theorem wbp_of {c w : Nat → Int} (hw : InWs w) (hc : Small c) : worth_by_polynomial [enc c, dW w] = .ok (.int (S c w)) := by
  have e3 : (fLc (fItA (fVar 0)) (gT (gsCons (gN 2) (gsCons (gN 3) gsNil))) fYes (f2 gMul (fVar 3) (fA worth_of_term (fCons (fVar 2) (fCons (fVar 1) fNil)))) [2, 3]) [.val (enc c), .val (dW w), .un, .un] = .ok (.list ((sup c).map fun i => .int (c i * Wt w i))) := by
    refine ev_lc (items := (sup c).map fun i => pr i (.int (c i))) (by rw [← encL_pol]; rfl) ?_
    refine lcD_mapx (fun i => pr i (.int (c i))) (fun i => .int (c i * Wt w i)) fun i hi => ⟨[.val (enc c), .val (dW w), .val (tm i), .val (.int (c i))], rfl, ?_⟩
    have m : gMul (.int (c i)) (.int (Wt w i)) = .ok (.int (c i * Wt w i)) := ev_mul64 (by have := hc i (lt_sup c i hi); omega) (by have := Wt_le hw i; omega)
    simp [fVar, wt_of hw i, m]
  unfold worth_by_polynomial b_worth_by_polynomial
  refine retD_of ?_
  show Rets _ [.val (enc c), .val (dW w), .un, .un] _
  refine rets_ret ?_ rfl
  rw [ev_fA, ev_fCons, e3]
  simp [gSum, intsD_map, S]
/-! the law's own -/
def lwB : DEnv → SR := sAsg (gN 5) (f2 gMul (fVar 5) (fA _law_choose (fCons (f2 gIxA (fVar 1) (fVar 6)) (fCons (fVar 7) fNil))))
theorem lw_loop {w : Nat → Int} (hw : InWs w) {x0 x2 x3 x4 : Sl} : ∀ (ps : List (Nat × Int)) (f : Int) (x6 x7 : Sl), (∀ p ∈ ps, p.1 < 3 ∧ (p.2 = 1 ∨ p.2 = 2)) → f.natAbs * 15 ^ ps.length < 2 ^ 64 →
    ∃ y6 y7, forD (gT (gsCons (gN 6) (gsCons (gN 7) gsNil))) lwB (ps.map encP) [x0, .val (dW w), x2, x3, x4, .val (.int f), x6, x7] = .next [x0, .val (dW w), x2, x3, x4, .val (.int (f * pw w ps)), y6, y7]
  | [], f, x6, x7, _, _ => ⟨x6, x7, by simp [forD, pw]⟩
  | p :: ps, f, x6, x7, h, hf => by
    obtain ⟨h1, h2⟩ := h p (by simp)
    obtain ⟨b1, b2, b3⟩ := mul_le15 (by rw [List.length_cons] at hf; exact hf) (ch_le (hw _ h1) h2)
    obtain ⟨y6, y7, ih⟩ := lw_loop hw (x0 := x0) (x2 := x2) (x3 := x3) (x4 := x4) ps (f * ch (w p.1) p.2) (.val (.str (nm p.1))) (.val (.int p.2)) (fun q hq => h q (by simp [hq])) b1
    refine ⟨y6, y7, ?_⟩
    have e1 : lwB [x0, .val (dW w), x2, x3, x4, .val (.int f), .val (.str (nm p.1)), .val (.int p.2)] = .next [x0, .val (dW w), x2, x3, x4, .val (.int (f * ch (w p.1) p.2)), .val (.str (nm p.1)), .val (.int p.2)] := by
      unfold lwB
      rw [ev_asg (d := .int (f * ch (w p.1) p.2)) (by simp [fVar, get_dW h1, ch_law (hw _ h1) h2, ev_mul64 b2 b3])]
      rfl
    rw [List.map_cons]
    show (match lwB [x0, .val (dW w), x2, x3, x4, .val (.int f), .val (.str (nm p.1)), .val (.int p.2)] with
        | .next ρ2 => forD (gT (gsCons (gN 6) (gsCons (gN 7) gsNil))) lwB (ps.map encP) ρ2
        | .cont ρ2 => forD (gT (gsCons (gN 6) (gsCons (gN 7) gsNil))) lwB (ps.map encP) ρ2
        | .brk ρ2 => .next ρ2
        | .ret v => .ret v
        | .exc e ρ2 => .exc e ρ2
        | .bad => .bad) = _
    rw [e1]
    dsimp only
    rw [ih, pw, Int.mul_assoc]
def lpB : DEnv → SR := (sSeq (sAsg (gN 5) (fVar 4)) (sSeq (sFor (fItA (fVar 3)) (gT (gsCons (gN 6) (gsCons (gN 7) gsNil))) lwB) (sAsg (gN 2) (f2 gAdd (fVar 2) (fVar 5)))))
theorem lp_loop {w c : Nat → Int} (hw : InWs w) (hc : Small c) {t : PyData} : ∀ (L : List Nat) (f : Int) (x3 x4 x5 x6 x7 : Sl), Lt27 L →
    ∃ y3 y4 y5 y6 y7, forD (gT (gsCons (gN 3) (gsCons (gN 4) gsNil))) lpB (L.map fun i => pr i (.int (c i))) [.val t, .val (dW w), .val (.int f), x3, x4, x5, x6, x7] = .next [.val t, .val (dW w), .val (.int (f + (L.map fun i => c i * Wt w i).sum)), y3, y4, y5, y6, y7]
  | [], f, x3, x4, x5, x6, x7, _ => ⟨x3, x4, x5, x6, x7, by simp [forD]⟩
  | i :: L, f, x3, x4, x5, x6, x7, h => by
    have g := good_ex i
    have hi := hc i (h i (by simp))
    have hl : (c i).natAbs * 15 ^ (ex i).length < 2 ^ 64 := by
      have h1 : 15 ^ (ex i).length ≤ 15 ^ 3 := Nat.pow_le_pow_right (by decide) g.1
      have h2 : (c i).natAbs * 15 ^ (ex i).length ≤ 7 * 15 ^ 3 := Nat.mul_le_mul hi h1
      omega
    obtain ⟨z6, z7, e⟩ := lw_loop hw (x0 := .val t) (x2 := .val (.int f)) (x3 := .val (tm i)) (x4 := .val (.int (c i))) (ex i) (c i) x6 x7 g.2 hl
    obtain ⟨y3, y4, y5, y6, y7, ih⟩ := lp_loop hw hc (t := t) L (f + c i * Wt w i) (.val (tm i)) (.val (.int (c i))) (.val (.int (c i * Wt w i))) z6 z7 fun j hj => h j (by simp [hj])
    refine ⟨y3, y4, y5, y6, y7, ?_⟩
    have e1 : lpB [.val t, .val (dW w), .val (.int f), .val (tm i), .val (.int (c i)), x5, x6, x7] = .next [.val t, .val (dW w), .val (.int (f + c i * Wt w i)), .val (tm i), .val (.int (c i)), .val (.int (c i * Wt w i)), z6, z7] := by
      unfold lpB
      rw [seq_next (ev_asg (d := .int (c i)) rfl)]
      refine (seq_next ((ev_for (items := (ex i).map encP) ?_).trans e)).trans ?_
      · rw [tm_ex]; rfl
      · exact ev_asg (d := .int (f + c i * Wt w i)) rfl
    rw [List.map_cons]
    show (match lpB [.val t, .val (dW w), .val (.int f), .val (tm i), .val (.int (c i)), x5, x6, x7] with
        | .next ρ2 => forD (gT (gsCons (gN 3) (gsCons (gN 4) gsNil))) lpB (L.map fun i => pr i (.int (c i))) ρ2
        | .cont ρ2 => forD (gT (gsCons (gN 3) (gsCons (gN 4) gsNil))) lpB (L.map fun i => pr i (.int (c i))) ρ2
        | .brk ρ2 => .next ρ2
        | .ret v => .ret v
        | .exc e ρ2 => .exc e ρ2
        | .bad => .bad) = _
    rw [e1]
    dsimp only
    rw [ih, List.map_cons, List.sum_cons, Int.add_assoc]
theorem lpw_of {c w : Nat → Int} (hw : InWs w) (hc : Small c) : _law_poly_worth [enc c, dW w] = .ok (.int (S c w)) := by
  obtain ⟨y3, y4, y5, y6, y7, e⟩ := lp_loop hw hc (t := enc c) (sup c) 0 .un .un .un .un .un (lt_sup c)
  unfold _law_poly_worth b__law_poly_worth
  refine retD_of (rets_asg rfl ?_)
  show Rets _ [.val (enc c), .val (dW w), .val (.int 0), .un, .un, .un, .un, .un] _
  refine rets_step ((ev_for (items := (sup c).map fun i => pr i (.int (c i))) ?_).trans e) ?_
  · rw [← encL_pol]; rfl
  · rw [Int.zero_add]
    exact rets_ret rfl rfl
/-! sums -/
theorem S_all (c w : Nat → Int) : S c w = ((List.range 27).map fun i => c i * Wt w i).sum := by
  unfold S sup
  have key : ∀ l : List Nat, ((l.filter fun i => decide (c i ≠ 0)).map fun i => c i * Wt w i).sum = (l.map fun i => c i * Wt w i).sum := by
    intro l
    induction l with
    | nil => rfl
    | cons i l ih =>
      by_cases h : c i = 0
      · rw [List.filter_cons_of_neg (by simp [h]), ih, List.map_cons, List.sum_cons, h]
        simp
      · rw [List.filter_cons_of_pos (by simp [h]), List.map_cons, List.map_cons, List.sum_cons, List.sum_cons, ih]
  exact key _
theorem S_mono {c d w : Nat → Int} (hw : InWs w) (h0 : ∀ n, n < 3 → 0 ≤ w n) (h : ∀ i, c i ≤ d i) : S c w ≤ S d w := by
  rw [S_all, S_all]
  have key : ∀ l : List Nat, (l.map fun i => c i * Wt w i).sum ≤ (l.map fun i => d i * Wt w i).sum := by
    intro l
    induction l with
    | nil => exact Int.le_refl _
    | cons i l ih =>
      rw [List.map_cons, List.map_cons, List.sum_cons, List.sum_cons]
      exact Int.add_le_add (Int.mul_le_mul_of_nonneg_right (h i) (pw_nn hw h0 (good_ex i).2)) ih
  exact key _
end DL
namespace DL
open PySem PySem.Spec PyProof.Rows L2
variable [TheW]
/-! ### polynomial_worth -/
def isNm (d : PyData) : Prop := ∃ n, n < 3 ∧ d = .str (nm n)
theorem dput_len (kvs : List (PyData × PyData)) (k v : PyData) : (dput kvs k v).length ≤ kvs.length + 1 := by
  unfold dput
  split
  · simp
  · simp
theorem dput_keys {P : PyData → Prop} {kvs : List (PyData × PyData)} {k v : PyData} (h : ∀ kv ∈ kvs, P kv.1) (hk : P k) : ∀ kv ∈ dput kvs k v, P kv.1 := by
  unfold dput
  split
  · intro kv hkv
    obtain ⟨x, hx, rfl⟩ := List.mem_map.mp hkv
    split
    · exact h x hx
    · exact h x hx
  · intro kv hkv
    rcases List.mem_append.mp hkv with q | q
    · exact h kv q
    · rw [List.mem_singleton] at q
      subst q
      exact hk
abbrev Nms (kvs : List (PyData × PyData)) : Prop := ∀ kv ∈ kvs, isNm kv.1
theorem isKey_nm {d : PyData} (h : isNm d) : isKey d = true := by
  obtain ⟨n, _, rfl⟩ := h
  rfl
theorem dc_in {ρ0 : DEnv} (hl : ρ0.length = 8) : ∀ (ps : List (Nat × Int)) (acc : List (PyData × PyData)), (∀ p ∈ ps, p.1 < 3) → Nms acc → acc.length + ps.length < 1000 →
    ∃ r, dcIn (gT (gsCons (gN 4) (gsCons (gN 7) gsNil))) fYes (fVar 4) (fC (.bool true)) (ps.map encP) ρ0 acc = .ok r ∧ Nms r ∧ r.length ≤ acc.length + ps.length
  | [], acc, _, ha, _ => ⟨acc, rfl, ha, by simp⟩
  | p :: ps, acc, h, ha, hlen => by
    have hp := h p (by simp)
    have nmp : isNm (.str (nm p.1)) := ⟨p.1, hp, rfl⟩
    have l1 := dput_len acc (.str (nm p.1)) (.bool true)
    rw [List.length_cons] at hlen
    obtain ⟨r, e, h1, h2⟩ := dc_in hl ps (dput acc (.str (nm p.1)) (.bool true)) (fun q hq => h q (by simp [hq])) (dput_keys ha nmp) (by omega)
    refine ⟨r, ?_, h1, by rw [List.length_cons]; omega⟩
    rw [List.map_cons, dcIn]
    have eg : gT (gsCons (gN 4) (gsCons (gN 7) gsNil)) (encP p) ρ0 = some ((ρ0.set 4 (.val (.str (nm p.1)))).set 7 (.val (.int p.2))) := rfl
    have ev : fVar 4 ((ρ0.set 4 (.val (.str (nm p.1)))).set 7 (.val (.int p.2))) = .ok (.str (nm p.1)) := by
      unfold fVar
      rw [List.getElem?_set_ne (by decide), List.getElem?_set_self (by omega)]
    rw [eg]
    dsimp only
    rw [ev]
    simp only [fYes, R.noX_ok, bindOk, if_true, ev_fC]
    rw [if_pos ⟨rfl, by rw [sizeLine_eq]; omega⟩]
    exact e
theorem dc_out {c : Nat → Int} {ρ0 : DEnv} (hl : ρ0.length = 8) : ∀ (L : List Nat) (acc : List (PyData × PyData)), Nms acc → acc.length + 3 * L.length < 1000 →
    ∃ r, dcOut (gT (gsCons (gN 5) (gsCons (gN 6) gsNil))) fYes (fItA (fVar 5)) [4, 7] (dcIn (gT (gsCons (gN 4) (gsCons (gN 7) gsNil))) fYes (fVar 4) (fC (.bool true))) (L.map fun i => pr i (.int (c i))) ρ0 acc = .ok r ∧ Nms r ∧ r.length ≤ acc.length + 3 * L.length
  | [], acc, ha, _ => ⟨acc, rfl, ha, by simp⟩
  | i :: L, acc, ha, hlen => by
    rw [List.length_cons] at hlen
    have g := good_ex i
    have hl2 : (wipeE ((ρ0.set 5 (.val (tm i))).set 6 (.val (.int (c i)))) [4, 7]).length = 8 := by simp [wipeE, hl]
    have g1' := g.1
    obtain ⟨r1, e1, h1, h2⟩ := dc_in hl2 (ex i) acc (fun p hp => (g.2 p hp).1) ha (by omega)
    obtain ⟨r, e, h3, h4⟩ := dc_out (c := c) hl L r1 h1 (by omega)
    refine ⟨r, ?_, h3, by rw [List.length_cons]; omega⟩
    rw [List.map_cons, dcOut]
    have eg : gT (gsCons (gN 5) (gsCons (gN 6) gsNil)) (pr i (.int (c i))) ρ0 = some ((ρ0.set 5 (.val (tm i))).set 6 (.val (.int (c i)))) := rfl
    have ev : fItA (fVar 5) ((ρ0.set 5 (.val (tm i))).set 6 (.val (.int (c i)))) = .ok ((ex i).map encP) := by
      have : fVar 5 ((ρ0.set 5 (.val (tm i))).set 6 (.val (.int (c i)))) = .ok (tm i) := by
        unfold fVar
        rw [List.getElem?_set_ne (by decide), List.getElem?_set_self (by omega)]
      rw [ev_fItA, this, bindOk, tm_ex]
      rfl
    rw [eg]
    dsimp only
    rw [ev]
    simp only [fYes, R.noX_ok, bindOk, if_true]
    rw [e1, bindOk]
    exact e
theorem nm_alike {d e : PyData} (h : isNm d) (k : isNm e) : PySem.W.alike d e = true := by
  obtain ⟨n, _, rfl⟩ := h
  obtain ⟨m, _, rfl⟩ := k
  rfl
theorem nm_shaped {d : PyData} (h : isNm d) : SeqAt.shaped d = true ∧ plainD d = true := by
  obtain ⟨n, hn, rfl⟩ := h
  rcases lt3 hn with rfl | rfl | rfl <;> exact ⟨by kernel_rfl, by kernel_rfl⟩
theorem nm_short {n : Nat} : (nm n).length ≤ sizeLine := by
  rw [sizeLine_eq]
  unfold nm
  split
  · exact of_decide_eq_true (by kernel_rfl)
  · split <;> exact of_decide_eq_true (by kernel_rfl)
theorem sorted_nms {kvs : List (PyData × PyData)} (h : Nms kvs) : ∃ l, gSortedB (.dict kvs) = .ok (.list l) ∧ ∀ d ∈ l, isNm d := by
  have hk : keysK kvs = true := List.all_eq_true.mpr fun kv hkv => isKey_nm (h kv hkv)
  have hs : shortKeys kvs = true := List.all_eq_true.mpr fun kv hkv => by
    obtain ⟨n, _, e⟩ := h kv hkv
    rw [e]
    exact decide_eq_true nm_short
  have hsrc : srcD (.dict kvs) = some (kvs.map (·.1)) := by
    have e : srcD (.dict kvs) = if ((shortKeys kvs && keysK kvs) || keysN kvs) = true then some (kvs.map (·.1)) else none := rfl
    rw [e, hs, hk]
    rfl
  have hm : ∀ d ∈ kvs.map (·.1), isNm d := fun d hd => by
    obtain ⟨kv, hkv, rfl⟩ := List.mem_map.mp hd
    exact h kv hkv
  have hok : okSort (kvs.map (·.1)) = true := by
    unfold okSort
    rw [Bool.and_eq_true, Bool.and_eq_true, Bool.or_eq_true]
    exact ⟨⟨List.all_eq_true.mpr fun d hd => (nm_shaped (hm d hd)).1, List.all_eq_true.mpr fun d hd => List.all_eq_true.mpr fun e he => nm_alike (hm d hd) (hm e he)⟩, .inr (List.all_eq_true.mpr fun d hd => (nm_shaped (hm d hd)).2)⟩
  refine ⟨sortD (kvs.map (·.1)), ?_, fun d hd => hm d ?_⟩
  rotate_left
  · unfold sortD at hd
    exact (List.mergeSort_perm _ _).mem_iff.mp hd
  have e : gSortedB (.dict kvs) = match srcD (.dict kvs) with
    | some ds => if okSort ds = true then .ok (.list (sortB ds)) else .bad
    | none => .bad := rfl
  rw [e, hsrc]
  show (if okSort (kvs.map (·.1)) = true then R.ok (PyData.list (sortB (kvs.map (·.1)))) else .bad) = _
  rw [if_pos hok, sortB_eq]
theorem worths_tW (w : Nat → Int) : worths_of [tW w] = .ok (dW w) := by kernel_rfl
theorem in_dW {w : Nat → Int} {d : PyData} (h : isNm d) : gInA true d (dW w) = .ok (.bool false) := by
  obtain ⟨n, hn, rfl⟩ := h
  rcases lt3 hn with rfl | rfl | rfl <;> kernel_rfl
theorem worth_enc {c w : Nat → Int} (hw : InWs w) (hc : Small c) : polynomial_worth [enc c, tW w] = .ok (.int (S c w)) := by
  unfold polynomial_worth b_polynomial_worth
  refine retD_of ?_
  show Rets _ [.val (enc c), .val (tW w), .un, .un, .un, .un, .un, .un] _
  refine rets_step (ev_drop (d := .none) (by simp [fVar, chk_enc])) (rets_asg (d := dW w) (by simp [fVar, worths_tW]) ?_)
  show Rets _ [.val (enc c), .val (tW w), .val (dW w), .un, .un, .un, .un, .un] _
  have hlen := sup_len c
  obtain ⟨kvs, e1, hn, _⟩ := dc_out (c := c) (ρ0 := wipeE [.val (enc c), .val (tW w), .val (dW w), .un, .un, .un, .un, .un] [5, 6, 4, 7]) rfl (sup c) [] (fun _ h => by simp at h) (by simp; omega)
  obtain ⟨l, e2, hl⟩ := sorted_nms hn
  have e3 : (fA (g1 gSortedB) (fCons (fOwn (oDc2 (fItA (fVar 0)) (gT (gsCons (gN 5) (gsCons (gN 6) gsNil))) fYes (fItA (fVar 5)) (gT (gsCons (gN 4) (gsCons (gN 7) gsNil))) fYes (fVar 4) (fC (.bool true)) [5, 6, 4, 7] [4, 7])) fNil)) [.val (enc c), .val (tW w), .val (dW w), .un, .un, .un, .un, .un] = .ok (.list l) := by
    have ei : fItA (fVar 0) [.val (enc c), .val (tW w), .val (dW w), .un, .un, .un, .un, .un] = .ok ((sup c).map fun i => pr i (.int (c i))) := by
      rw [← encL_pol]; rfl
    have eo : fOwn (oDc2 (fItA (fVar 0)) (gT (gsCons (gN 5) (gsCons (gN 6) gsNil))) fYes (fItA (fVar 5)) (gT (gsCons (gN 4) (gsCons (gN 7) gsNil))) fYes (fVar 4) (fC (.bool true)) [5, 6, 4, 7] [4, 7]) [.val (enc c), .val (tW w), .val (dW w), .un, .un, .un, .un, .un] = .ok (.dict kvs) := by
      unfold fOwn oDc2
      rw [ei, bindOk, e1]
      rfl
    rw [ev_fA, ev_fCons, eo]
    simp [e2]
  refine rets_asg e3 ?_
  show Rets _ [.val (enc c), .val (tW w), .val (dW w), .val (.list l), .un, .un, .un, .un] _
  refine rets_seq (P := fun ρ => ∃ x4, ρ = [.val (enc c), .val (tW w), .val (dW w), .val (.list l), x4, .un, .un, .un]) ?_ fun ρ hρ => ?_
  · refine runs_for (items := l) rfl (fun _ ρ => ∃ x4, ρ = [.val (enc c), .val (tW w), .val (dW w), .val (.list l), x4, .un, .un, .un]) (fun i d ρ hd hρ => ?_) ⟨_, rfl⟩ fun ρ h => h
    obtain ⟨x4, rfl⟩ := hρ
    have hd' := hl d (List.mem_of_getElem? hd)
    refine ⟨_, rfl, runs_f ?_ (runs_skip ⟨_, rfl⟩)⟩
    show (fB (f2 (gInA true) (fVar 4) (fVar 2))) [.val (enc c), .val (tW w), .val (dW w), .val (.list l), .val d, .un, .un, .un] = _
    simp [fVar, in_dW hd']
  · obtain ⟨x4, rfl⟩ := hρ
    refine rets_ret ?_ rfl
    simp [fVar, wbp_of hw hc]
theorem dict_tW (w : Nat → Int) : gListA (tW w) = .ok (.list [.tuple [.str "a", .int (w 0)], .tuple [.str "m", .int (w 1)], .tuple [.str "n", .int (w 2)]]) := rfl
theorem dictOf_tW (w : Nat → Int) : gDictOf (.list [.tuple [.str "a", .int (w 0)], .tuple [.str "m", .int (w 1)], .tuple [.str "n", .int (w 2)]]) = .ok (dW w) := by kernel_rfl
theorem vals_dW (w : Nat → Int) : gVals (dW w) = .ok (.list [.int (w 0), .int (w 1), .int (w 2)]) := rfl
end DL
namespace DL
open PySem PySem.Spec PyProof.Rows L2
variable [TheW]
/-! ### _law_poly -/
theorem keyEq_eq {d e : PyData} (h : isNKey d = true) (k : isNKey e = true) (q : keyEq d e = true) : d = e := by
  obtain ⟨ks, rfl, _⟩ := nkey_of h
  obtain ⟨ls, rfl, _⟩ := nkey_of k
  rw [keyEq_data, ← NestedKey.decide_eq, decide_eq_true_eq] at q
  rw [q]
def tmk (e : Nat → Int) : PyData := .tuple (([0, 1, 2].filter fun k => decide (0 < e k)).map fun k => .tuple [.str (nm k), .int (e k)])
def tri (a b c : Nat) : Nat → Int := fun k => if k = 0 then a else if k = 1 then b else c
theorem c_tmk : ((List.range 3).all fun a => (List.range 3).all fun b => (List.range 3).all fun c => isNKey (tmk (tri a b c)) && (List.range 27).any fun j => keyEq (tmk (tri a b c)) (tm j)) = true := by kernel_rfl
theorem tmk_tm {e : Nat → Int} (h : ∀ k, k < 3 → 0 ≤ e k ∧ e k < 3) : ∃ j, j < 27 ∧ tmk e = tm j := by
  have q : tmk e = tmk (tri (e 0).toNat (e 1).toNat (e 2).toNat) := by
    have h0 : (((e 0).toNat : Nat) : Int) = e 0 := Int.toNat_of_nonneg (h 0 (by decide)).1
    have h1 : (((e 1).toNat : Nat) : Int) = e 1 := Int.toNat_of_nonneg (h 1 (by decide)).1
    have h2 : (((e 2).toNat : Nat) : Int) = e 2 := Int.toNat_of_nonneg (h 2 (by decide)).1
    have hh : ∀ k, k ∈ [0, 1, 2] → e k = tri (e 0).toNat (e 1).toNat (e 2).toNat k := by
      intro k hk
      simp only [List.mem_cons, List.not_mem_nil, or_false] at hk
      rcases hk with rfl | rfl | rfl
      · simp [tri, h0]
      · simp [tri, h1]
      · simp [tri, h2]
    unfold tmk
    congr 1
    rw [List.filter_congr fun k hk => by rw [hh k hk]]
    exact List.map_congr_left fun k hk => by rw [hh k (List.mem_filter.mp hk).1]
  have c := c_tmk
  have c := List.all_eq_true.mp c (e 0).toNat (List.mem_range.mpr (by have := h 0 (by decide); omega))
  have c := List.all_eq_true.mp c (e 1).toNat (List.mem_range.mpr (by have := h 1 (by decide); omega))
  have c := List.all_eq_true.mp c (e 2).toNat (List.mem_range.mpr (by have := h 2 (by decide); omega))
  rw [Bool.and_eq_true, List.any_eq_true] at c
  obtain ⟨c1, j, hj, c2⟩ := c
  have hj := List.mem_range.mp hj
  exact ⟨j, hj, by rw [q]; exact keyEq_eq c1 (nkey_tm hj) c2⟩
theorem ix_ints {ds : List Int} {n : Nat} (h : n < ds.length) : gIxA (.list (dInts ds)) (.int (n : Int)) = .ok (.int (ds.getD n 0)) := by
  refine ix_lst ?_
  unfold dInts
  rw [List.getElem?_map, List.getElem?_eq_getElem h, List.getD_eq_getElem?_getD, List.getElem?_eq_getElem h]
  rfl
theorem getD_nn {ds : List Int} (h : ∀ d ∈ ds, (0 : Int) ≤ d) (n : Nat) : 0 ≤ ds.getD n 0 := by
  rw [List.getD_eq_getElem?_getD]
  cases e : ds[n]? with
  | none => exact Int.le_refl _
  | some d => exact h d (List.mem_of_getElem? e)
def fac (m : Nat) : Int := [1, -1, 3, -4, 7].getD m 1
theorem fac_ix {m : Nat} (h : m < 5) : gIxA (.list [.int 1, .int (-1), .int 3, .int (-4), .int 7]) (.int (m : Int)) = .ok (.int (fac m)) ∧ fac m ≠ 0 ∧ (fac m).natAbs ≤ 7 := by
  have : m = 0 ∨ m = 1 ∨ m = 2 ∨ m = 3 ∨ m = 4 := by omega
  rcases this with rfl | rfl | rfl | rfl | rfl <;> exact ⟨rfl, by decide, by decide⟩
def nms : PyData := .list [.str "a", .str "m", .str "n"]
def lyB : DEnv → SR := (sSeq (sAsg (gN 5) (fA (g1 gTuple) (fCons (fLc (fEnum (fCons (fVar 1) fNil)) (gT (gsCons (gN 6) (gsCons (gN 7) gsNil))) fYes (fTup (fCons (fVar 7) (fCons (f2 gMod (fA (g1 gInt) (fCons (f2 gIxA (fVar 0) (f2 gAdd (f2 gAdd (fC (.int 1)) (f2 gMul (fC (.int 5)) (fVar 4))) (fVar 6))) fNil)) (fC (.int 3))) fNil))) [6, 7]) fNil)))
    (sPutN 3 (fA (g1 gTuple) (fCons (fLc (fItA (fVar 5)) (gN 8) (fB (f2 (gOrd .gt) (f2 gIxA (fVar 8) (fC (.int 1))) (fC (.int 0)))) (fVar 8) [8]) fNil)) (f2 gIxA (fLst (fCons (fC (.int 1)) (fCons (f1 gNeg (fC (.int 1))) (fCons (fC (.int 3)) (fCons (f1 gNeg (fC (.int 4))) (fCons (fC (.int 7)) fNil)))))) (f2 gMod (fA (g1 gInt) (fCons (f2 gIxA (fVar 0) (f2 gAdd (fC (.int 4)) (f2 gMul (fC (.int 5)) (fVar 4)))) fNil)) (fC (.int 5))))))
def envP (ds : List Int) (L : List Nat) (w : Nat → Int) (x4 x5 : Sl) : DEnv := [.val (.list (dInts ds)), .val nms, .val (.int 5), .own (.dN (kd L fun i => .int (w i))), x4, x5, .un, .un, .un]
theorem ly_step {ds : List Int} (hl : 100 ≤ ds.length) (h0 : ∀ d ∈ ds, (0 : Int) ≤ d) {t : Nat} (ht : t < 5) {L : List Nat} {w : Nat → Int} (q1 : Lt27 L) (q2 : L.Nodup) (x5 : Sl) :
    ∃ j f y5, j < 27 ∧ f ≠ 0 ∧ f.natAbs ≤ 7 ∧ lyB (envP ds L w (.val (.int (t : Int))) x5) = .next (envP ds (insL L j) (fun i => if i = j then f else w i) (.val (.int (t : Int))) y5) := by
  have m5 : gMul (.int 5) (.int (t : Int)) = .ok (.int (5 * t)) := ev_mul64 (by decide) (by omega)
  have e1 : (fLc (fEnum (fCons (fVar 1) fNil)) (gT (gsCons (gN 6) (gsCons (gN 7) gsNil))) fYes (fTup (fCons (fVar 7) (fCons (f2 gMod (fA (g1 gInt) (fCons (f2 gIxA (fVar 0) (f2 gAdd (f2 gAdd (fC (.int 1)) (f2 gMul (fC (.int 5)) (fVar 4))) (fVar 6))) fNil)) (fC (.int 3))) fNil))) [6, 7]) (envP ds L w (.val (.int (t : Int))) x5) = .ok (.list ([0, 1, 2].map fun k => .tuple [.str (nm k), .int (ds.getD (1 + 5 * t + k) 0 % 3)])) := by
    refine ev_lc (items := [0, 1, 2].map fun k => pairD (.int ((k : Nat) : Int)) (.str (nm k))) rfl ?_
    refine lcD_mapx (fun k => pairD (.int ((k : Nat) : Int)) (.str (nm k))) (fun k => .tuple [.str (nm k), .int (ds.getD (1 + 5 * t + k) 0 % 3)]) fun k hk => ⟨[.val (.list (dInts ds)), .val nms, .val (.int 5), .own (.dN (kd L fun i => .int (w i))), .val (.int (t : Int)), x5, .val (.int (k : Int)), .val (.str (nm k)), .un], rfl, ?_⟩
    have hk3 : k < 3 := by
      simp only [List.mem_cons, List.not_mem_nil, or_false] at hk
      omega
    have ei : gIxA (.list (dInts ds)) (.int (1 + 5 * (t : Int) + (k : Int))) = .ok (.int (ds.getD (1 + 5 * t + k) 0)) := by
      rw [show (1 + 5 * (t : Int) + (k : Int)) = ((1 + 5 * t + k : Nat) : Int) by omega]
      exact ix_ints (by omega)
    have em : gMod (.int (ds.getD (1 + 5 * t + k) 0)) (.int 3) = .ok (.int (ds.getD (1 + 5 * t + k) 0 % 3)) := ev_mod (by decide)
    simp only [fTup, fVar, ev_fCons, ev_f2, ev_fA, ev_fC, ev_fNil, List.getElem?_cons_succ, List.getElem?_cons_zero, bindOk, m5, ev_add, ei, ev_g1, ev_int, em]
    rw [if_pos (by rw [sizeLine_eq]; simp)]
  generalize he : (fun k => ds.getD (1 + 5 * t + k) 0 % 3) = e at e1
  have e1 : (fLc (fEnum (fCons (fVar 1) fNil)) (gT (gsCons (gN 6) (gsCons (gN 7) gsNil))) fYes (fTup (fCons (fVar 7) (fCons (f2 gMod (fA (g1 gInt) (fCons (f2 gIxA (fVar 0) (f2 gAdd (f2 gAdd (fC (.int 1)) (f2 gMul (fC (.int 5)) (fVar 4))) (fVar 6))) fNil)) (fC (.int 3))) fNil))) [6, 7]) (envP ds L w (.val (.int (t : Int))) x5) = .ok (.list ([0, 1, 2].map fun k => .tuple [.str (nm k), .int (e k)])) := by
    rw [e1, ← he]
  obtain ⟨j, hj, ej⟩ := tmk_tm (e := e) fun k _ => by
    rw [← he]
    exact ⟨Int.emod_nonneg _ (by decide), Int.emod_lt_of_pos _ (by decide)⟩
  have hm : ds.getD (4 + 5 * t) 0 % 5 = (((ds.getD (4 + 5 * t) 0 % 5).toNat : Nat) : Int) := by
    have := Int.emod_nonneg (ds.getD (4 + 5 * t) 0) (b := 5) (by decide)
    omega
  have hm5 : (ds.getD (4 + 5 * t) 0 % 5).toNat < 5 := by
    have := Int.emod_lt_of_pos (ds.getD (4 + 5 * t) 0) (b := 5) (by decide)
    omega
  generalize (ds.getD (4 + 5 * t) 0 % 5).toNat = m at hm hm5
  obtain ⟨fq1, fq2, fq3⟩ := fac_ix hm5
  refine ⟨j, fac m, .val (.tuple ([0, 1, 2].map fun k => .tuple [.str (nm k), .int (e k)])), hj, fq2, fq3, ?_⟩
  unfold lyB
  rw [seq_next (ev_asg (d := .tuple ([0, 1, 2].map fun k => .tuple [.str (nm k), .int (e k)])) (by rw [ev_fA, ev_fCons, e1]; rfl))]
  show sPutN 3 _ _ (envP ds L w (.val (.int (t : Int))) (.val (.tuple ([0, 1, 2].map fun k => .tuple [.str (nm k), .int (e k)])))) = _
  have e2 : (fA (g1 gTuple) (fCons (fLc (fItA (fVar 5)) (gN 8) (fB (f2 (gOrd .gt) (f2 gIxA (fVar 8) (fC (.int 1))) (fC (.int 0)))) (fVar 8) [8]) fNil)) (envP ds L w (.val (.int (t : Int))) (.val (.tuple ([0, 1, 2].map fun k => .tuple [.str (nm k), .int (e k)])))) = .ok (tm j) := by
    have : (fLc (fItA (fVar 5)) (gN 8) (fB (f2 (gOrd .gt) (f2 gIxA (fVar 8) (fC (.int 1))) (fC (.int 0)))) (fVar 8) [8]) (envP ds L w (.val (.int (t : Int))) (.val (.tuple ([0, 1, 2].map fun k => .tuple [.str (nm k), .int (e k)])))) = .ok (.list (([0, 1, 2].filter fun k => decide (0 < e k)).map fun k => .tuple [.str (nm k), .int (e k)])) := by
      refine ev_lc (items := [0, 1, 2].map fun k => .tuple [.str (nm k), .int (e k)]) rfl ?_
      refine lcD_ifx (fun k => .tuple [.str (nm k), .int (e k)]) (fun k => .tuple [.str (nm k), .int (e k)]) (fun k => decide (0 < e k)) fun k hk => ⟨_, rfl, ?_, fun _ => rfl⟩
      have ei : gIxA (.tuple [.str (nm k), .int (e k)]) (.int 1) = .ok (.int (e k)) := rfl
      show fB _ [.val (.list (dInts ds)), .val nms, .val (.int 5), .own (.dN (kd L fun i => .int (w i))), .val (.int (t : Int)), .val _, .un, .un, .val (.tuple [.str (nm k), .int (e k)])] = _
      simp [fVar, ei, Od.int]
    rw [ev_fA, ev_fCons, this, bindOk, ev_fNil, bindOk, bindOk, ← ej]
    rfl
  have e3 : (f2 gIxA (fLst (fCons (fC (.int 1)) (fCons (f1 gNeg (fC (.int 1))) (fCons (fC (.int 3)) (fCons (f1 gNeg (fC (.int 4))) (fCons (fC (.int 7)) fNil)))))) (f2 gMod (fA (g1 gInt) (fCons (f2 gIxA (fVar 0) (f2 gAdd (fC (.int 4)) (f2 gMul (fC (.int 5)) (fVar 4)))) fNil)) (fC (.int 5)))) (envP ds L w (.val (.int (t : Int))) (.val (.tuple ([0, 1, 2].map fun k => .tuple [.str (nm k), .int (e k)])))) = .ok (.int (fac m)) := by
    have ei : gIxA (.list (dInts ds)) (.int (4 + 5 * (t : Int))) = .ok (.int (ds.getD (4 + 5 * t) 0)) := by
      rw [show (4 + 5 * (t : Int)) = ((4 + 5 * t : Nat) : Int) by omega]
      exact ix_ints (by omega)
    have em : gMod (.int (ds.getD (4 + 5 * t) 0)) (.int 5) = .ok (.int (m : Int)) := by rw [ev_mod (by decide), hm]
    have en1 : gNeg (.int 1) = .ok (.int (-1)) := rfl
    have en4 : gNeg (.int 4) = .ok (.int (-4)) := rfl
    have hs : (5 : Nat) ≤ sizeLine := by rw [sizeLine_eq]; decide
    simp only [fLst, fVar, envP, ev_fCons, ev_f2, ev_f1, ev_fA, ev_fC, ev_fNil, List.getElem?_cons_succ, List.getElem?_cons_zero, bindOk, m5, ev_add, ei, ev_g1, ev_int, em, en1, en4, List.length_cons, List.length_nil, hs, if_true, fq1]
  have hlt : (kd L fun i => .int (w i)).length < sizeLine := by
    unfold kd
    rw [List.length_map, sizeLine_eq]
    have := len27 q1 q2
    omega
  unfold sPutN
  rw [e2, e3]
  show (if isNKey (tm j) = true ∧ (kd L fun i => .int (w i)).length < sizeLine then SR.next _ else .bad) = _
  rw [if_pos ⟨nkey_tm hj, hlt⟩, put_kd q1 hj]
  have : setV (fun i => .int (w i)) j (.int (fac m)) = fun i => PyData.int (if i = j then fac m else w i) := by
    funext i
    unfold setV
    split <;> rfl
  rw [this]
  rfl
theorem poly_of {ds : List Int} (hl : 100 ≤ ds.length) (h0 : ∀ d ∈ ds, (0 : Int) ≤ d) : ∃ c, Small c ∧ _law_poly [.list (dInts ds), nms, .int 5] = .ok (enc c) := by
  have key : Rets b__law_poly (startE 9 [.list (dInts ds), nms, .int 5]) fun d => ∃ c, Small c ∧ d = enc c := by
    unfold b__law_poly
    show Rets _ [.val (.list (dInts ds)), .val nms, .val (.int 5), .un, .un, .un, .un, .un, .un] _
    refine rets_step (ρ1 := envP ds [] (fun _ => 0) .un .un) rfl ?_
    have hm0 : 0 ≤ ds.getD 0 0 % 6 := Int.emod_nonneg _ (by decide)
    have hm6 : ds.getD 0 0 % 6 < 6 := Int.emod_lt_of_pos _ (by decide)
    have er : fRange1 (fCons (f2 gMod (fA (g1 gInt) (fCons (f2 gIxA (fVar 0) (fC (.int 0))) fNil)) (f2 gAdd (fVar 2) (fC (.int 1)))) fNil) (envP ds [] (fun _ => 0) .un .un) = .ok (rangeD 0 (ds.getD 0 0 % 6)) := by
      have ei : gIxA (.list (dInts ds)) (.int 0) = .ok (.int (ds.getD 0 0)) := ix_ints (n := 0) (by omega)
      have em : gMod (.int (ds.getD 0 0)) (.int (5 + 1)) = .ok (.int (ds.getD 0 0 % 6)) := ev_mod (by decide)
      have e : (fCons (f2 gMod (fA (g1 gInt) (fCons (f2 gIxA (fVar 0) (fC (.int 0))) fNil)) (f2 gAdd (fVar 2) (fC (.int 1)))) fNil) (envP ds [] (fun _ => 0) .un .un) = .ok [.int (ds.getD 0 0 % 6)] := by
        simp only [fVar, envP, ev_fCons, ev_f2, ev_fA, ev_fC, ev_fNil, List.getElem?_cons_succ, List.getElem?_cons_zero, bindOk, ev_add, ei, ev_g1, ev_int, em]
      have hr : rgOk 0 (ds.getD 0 0 % 6) := by
        rw [← Int.toNat_of_nonneg hm0]
        exact rgOk_n1 (by omega)
      unfold fRange1
      rw [e, bindOk, ev_rng1 hr]
    refine rets_seq (P := fun ρ => ∃ L w x4 x5, ρ = envP ds L w x4 x5 ∧ Lt27 L ∧ L.Nodup ∧ ∀ i ∈ L, w i ≠ 0 ∧ (w i).natAbs ≤ 7) ?_ fun ρ hρ => ?_
    · refine runs_for er (fun _ ρ => ∃ L w x4 x5, ρ = envP ds L w x4 x5 ∧ Lt27 L ∧ L.Nodup ∧ ∀ i ∈ L, w i ≠ 0 ∧ (w i).natAbs ≤ 7) (fun n d ρ hd hρ => ?_) ⟨[], fun _ => 0, .un, .un, rfl, fun _ h => by simp at h, List.nodup_nil, by simp⟩ fun ρ h => h
      obtain ⟨L, w, x4, x5, rfl, q1, q2, q3⟩ := hρ
      obtain ⟨rfl, hn⟩ := rangeD_get hd
      obtain ⟨j, f, y5, hj, hf, hf7, e⟩ := ly_step hl h0 (t := n) (by omega) (w := w) q1 q2 x5
      refine ⟨envP ds L w (.val (.int (n : Int))) x5, by rw [Int.zero_add]; rfl, ?_⟩
      refine runs_of e ⟨_, _, _, _, rfl, lt_insL q1 hj, nodup_insL q2, fun i hi => ?_⟩
      by_cases c : i = j
      · rw [if_pos c]; exact ⟨hf, hf7⟩
      · rw [if_neg c]
        rcases mem_insL.mp hi with h | h
        · exact q3 i h
        · exact absurd h c
    · obtain ⟨L, w, x4, x5, rfl, q1, q2, q3⟩ := hρ
      refine ⟨enc (cut L w), ?_, cut L w, fun i _ => ?_, rfl⟩
      · show sRet _ [.val (.list (dInts ds)), .val nms, .val (.int 5), .val (.dict (kd L fun i => .int (w i))), x4, x5, .un, .un, .un] = _
        refine ev_ret ?_
        have e : (fLc (fItA (fA (g1 gSortedB) (fCons (fVar 3) fNil))) (gN 5) fYes (fTup (fCons (fVar 5) (fCons (f2 gIxA (fVar 3) (fVar 5)) fNil))) [5]) [.val (.list (dInts ds)), .val nms, .val (.int 5), .val (.dict (kd L fun i => .int (w i))), x4, x5, .un, .un, .un] = .ok (.list ((up L).map fun i => pr i (.int (w i)))) := by
          refine ev_lc (items := (up L).map tm) (by simp [fVar, sorted_dict q1 q2, itemsA, itemsD]) ?_
          refine lcD_mapx tm (fun i => pr i (.int (w i))) fun i hi => ⟨[.val (.list (dInts ds)), .val nms, .val (.int 5), .val (.dict (kd L fun i => .int (w i))), x4, .val (tm i), .un, .un, .un], rfl, ?_⟩
          have hi' := (mem_up q1).mp hi
          simp [fVar, fTup, get_kd q1 hi', sizeLine_eq]
          rfl
        have ef : (up L).filter (fun i => decide (w i ≠ 0)) = up L := List.filter_eq_self.mpr fun i hi => decide_eq_true (q3 i ((mem_up q1).mp hi)).1
        rw [ev_fA, ev_fCons, e, enc_cut, ef]
        rfl
      · unfold cut
        split
        · rename_i h; exact (q3 i h).2
        · decide
  obtain ⟨d, e, c, hc, rfl⟩ := key
  refine ⟨c, hc, ?_⟩
  unfold _law_poly
  rw [e]
  rfl
end DL
namespace DL
open PySem PySem.Spec PyProof.Rows L2
variable [TheW]
/-! ### bent polynomials -/
structure BadI (x : PyData) : Prop where
  pf : ∀ (v : PyData) (n : Nat), pfB [.val v, .val (.int n), .val x] = .ret (pairF n)
  lf : ∀ (v : PyData) (n : Nat), lfT1 [.val v, .val (.int n), .val x] = .ok true
theorem pf_bad {p : List (Nat × Int)} {x : PyData} {more : List PyData} (hp : GoodP p) (hn : faultN none 0 p = none) (hx : BadI x) : polynomial_fault [.tuple (encL p ++ x :: more)] = .ok (pairF p.length) := by
  have h := pf_loop (all := encL p ++ x :: more) (more := x :: more) hp rfl p [] rfl .un .un
  simp only [List.length_nil, List.getLast?_nil, Option.map_none] at h
  rcases h with ⟨k, e1, e2⟩ | ⟨e1, y1, y2, e2⟩
  · rw [hn] at e1; cases e1
  unfold polynomial_fault
  rw [pf_eq]
  have hT : (fNot (fTr (f1 (gIsi "tuple") (fVar 0)))) (startE 3 [.tuple (encL p ++ x :: more)]) = .ok false := by
    have h2 : gIsi "tuple" (.tuple (encL p ++ x :: more)) = .ok (.bool true) := rfl
    simp [startE, fVar, h2]
  rw [seq_next (ρ' := [.val (.tuple (encL p ++ x :: more)), .un, .un]) (by rw [ev_sIf_f hT]; rfl)]
  have hE : fEnum (fCons (fVar 0) fNil) [.val (.tuple (encL p ++ x :: more)), .un, .un] = .ok (enumF 0 (encL p ++ x :: more)) := by
    rw [← enumD_F]
    rfl
  rw [seq_ret (d := pairF p.length) ((ev_for hE).trans (e2.trans ?_))]
  · rfl
  · show (match pfB [.val (.tuple (encL p ++ x :: more)), .val (.int (p.length : Nat)), .val x] with
        | .next ρ2 => forD (gT (gsCons (gN 1) (gsCons (gN 2) gsNil))) pfB (enumF (p.length + 1) more) ρ2
        | .cont ρ2 => forD (gT (gsCons (gN 1) (gsCons (gN 2) gsNil))) pfB (enumF (p.length + 1) more) ρ2
        | .brk ρ2 => .next ρ2
        | .ret v => .ret v
        | .exc e ρ2 => .exc e ρ2
        | .bad => .bad) = _
    rw [hx.pf]
theorem lf_bad {p : List (Nat × Int)} {x : PyData} {more : List PyData} (hp : GoodP p) (hn : faultN none 0 p = none) (hx : BadI x) (hz : p.length + (more.length + 1) ≤ 1000) : _law_fault [.tuple (encL p ++ x :: more)] = .ok (pairF p.length) := by
  have h := lf_loop (all := encL p ++ x :: more) (more := x :: more) hp rfl p [] rfl .un .un
  simp only [List.length_nil, List.getLast?_nil, Option.map_none] at h
  rcases h with ⟨k, e1, e2⟩ | ⟨e1, y1, y2, e2⟩
  · rw [hn] at e1; cases e1
  unfold _law_fault
  rw [lf_eq]
  have hT : (fNot (fTr (f1 (gIsi "tuple") (fVar 0)))) (startE 3 [.tuple (encL p ++ x :: more)]) = .ok false := by
    have h2 : gIsi "tuple" (.tuple (encL p ++ x :: more)) = .ok (.bool true) := rfl
    simp [startE, fVar, h2]
  rw [seq_next (ρ' := [.val (.tuple (encL p ++ x :: more)), .un, .un]) (by rw [ev_sIf_f hT]; rfl)]
  have hE : fRange1 (fCons (fA (g1 gLen) (fCons (fVar 0) fNil)) fNil) [.val (.tuple (encL p ++ x :: more)), .un, .un] = .ok (rangeF 0 (p.length + (x :: more).length)) := by
    have hl : gLen (.tuple (encL p ++ x :: more)) = .ok (.int ((p.length + (x :: more).length : Nat) : Int)) := by
      show R.ok (PyData.int ((encL p ++ x :: more).length : Nat)) = _
      simp [encL]
    have hr : rgOk 0 ((p.length + (x :: more).length : Nat) : Int) := rgOk_n1 (by rw [List.length_cons]; exact hz)
    rw [← rangeD_F]
    have e : (fCons (fA (g1 gLen) (fCons (fVar 0) fNil)) fNil) [.val (.tuple (encL p ++ x :: more)), .un, .un] = .ok [.int ((p.length + (x :: more).length : Nat) : Int)] := by
      simp only [fVar, ev_fCons, ev_fA, ev_fNil, List.getElem?_cons_zero, bindOk, ev_g1, hl]
    unfold fRange1
    rw [e, bindOk]
    rw [ev_rng1 hr]
  have hb : lfB [.val (.tuple (encL p ++ x :: more)), .val (.int (p.length : Nat)), y2] = .ret (pairF p.length) := by
    unfold lfB
    rw [seq_next (ρ' := [.val (.tuple (encL p ++ x :: more)), .val (.int (p.length : Nat)), .val x]) (ev_asg (d := x) (by
      have : (encL p ++ x :: more)[p.length]? = some x := by
        have : p.length = (encL p).length := by simp [encL]
        rw [this, List.getElem?_append_right (Nat.le_refl _)]
        simp
      simp [fVar, ix_tup this]))]
    exact seq_ret ((ev_sIf_t (t := lfT1) (hx.lf _ _)).trans rfl)
  rw [seq_ret (d := pairF p.length) ((ev_for hE).trans (e2.trans ?_))]
  · rfl
  · show (match lfB [.val (.tuple (encL p ++ x :: more)), .val (.int (p.length : Nat)), y2] with
        | .next ρ2 => forD (gN 1) lfB (rangeF (p.length + 1) more.length) ρ2
        | .cont ρ2 => forD (gN 1) lfB (rangeF (p.length + 1) more.length) ρ2
        | .brk ρ2 => .next ρ2
        | .ret v => .ret v
        | .exc e ρ2 => .exc e ρ2
        | .bad => .bad) = _
    rw [hb]
def news : List PyData := [.none, .tuple [.tuple [], .int 0], .tuple [.tuple [], .bool true], .tuple [.tuple [.tuple [.str "n", .int 0]], .int 1], .tuple [.tuple [.tuple [.str "n", .int 13]], .int 1], .tuple [.tuple [.tuple [.str "n", .int 7], .tuple [.str "m", .int 6]], .int 1], .tuple [.tuple [.tuple [.str "m", .int 7], .tuple [.str "n", .int 6]], .int 1],
  .list [.tuple [], .int 1], .tuple [.tuple [.tuple [.str "n", .int 1]]], .tuple [.tuple [.tuple [.str "N", .int 1]], .int 1], .tuple [.tuple [.tuple [.str "n", .int 1]], .str "1"], .tuple [.tuple [.tuple [.str "m", .int 1], .tuple [.str "m", .int 2]], .int 1], .tuple [.tuple [.tuple [.str "n"]], .int 1]]
theorem news_bad : ∀ x ∈ news, BadI x := by
  intro x hx
  unfold news at hx
  simp only [List.mem_cons, List.not_mem_nil, or_false] at hx
  rcases hx with rfl | rfl | rfl | rfl | rfl | rfl | rfl | rfl | rfl | rfl | rfl | rfl | rfl
  all_goals exact ⟨fun v n => by kernel_rfl, fun v n => by kernel_rfl⟩
/-! what is told of them -/
theorem chk_bad {d : PyData} {n : Nat} (h : polynomial_fault [d] = .ok (pairF n)) : check_polynomial [d] = .exc ⟨"BadPolynomial", none⟩ := by
  have e : (fB (f2 gNotN (fA polynomial_fault (fCons (fVar 0) fNil)) (fC .none))) [.val d] = .ok true := by
    simp [fVar, h]
    rfl
  unfold check_polynomial b_check_polynomial
  show retD (sIf _ _ _ [.val d]) = _
  rw [ev_sIf_t e]
  rfl
theorem chk_nil : check_polynomial [.tuple []] = .ok .none := chk_of (by kernel_rfl)
theorem told_bad {d : PyData} {n : Nat} (h : polynomial_fault [d] = .ok (pairF n)) : ∀ k : Nat, k < 4 → _law_told [.int (k : Int), d, .tuple []] = .ok (.str "polynomial") := by
  have hc := chk_bad h
  have d0 : ∀ ρ, (fA check_polynomial (fCons (fVar 0) fNil)) (.val d :: ρ) = .exc ⟨"BadPolynomial", none⟩ := fun ρ => by
    show (check_polynomial [d]) = _
    exact hc
  have h0 : ∀ w, polynomial_worth [d, w] = .exc ⟨"BadPolynomial", none⟩ := fun w => by
    unfold polynomial_worth b_polynomial_worth
    show retD (((sDrop _) (Sl.val d :: _)).seq _) = _
    unfold sDrop sBind
    rw [d0]
    rfl
  have h1 : degree_of [d] = .exc ⟨"BadPolynomial", none⟩ := by
    unfold degree_of b_degree_of
    show retD (((sDrop _) (Sl.val d :: _)).seq _) = _
    unfold sDrop sBind
    rw [d0]
    rfl
  have h2 : ∀ w, lesser_of [d, w] = .exc ⟨"BadPolynomial", none⟩ := fun w => by
    unfold lesser_of b_lesser_of
    show retD (((sDrop _) (Sl.val d :: _)).seq _) = _
    unfold sDrop sBind
    rw [d0]
    rfl
  have h3 : greater_of [.tuple [], d] = .exc ⟨"BadPolynomial", none⟩ := by
    unfold greater_of b_greater_of
    show retD (sSeq _ _ [.val (.tuple []), .val d]) = _
    rw [seq_next (ev_drop (d := .none) (by simp [fVar, chk_nil]))]
    have d1 : (fA check_polynomial (fCons (fVar 1) fNil)) [.val (.tuple []), .val d] = .exc ⟨"BadPolynomial", none⟩ := hc
    unfold sSeq sDrop sBind
    rw [d1]
    rfl
  have fin : ∀ (k : Int) (ρ : DEnv), (sSeq (sIf (fB (f2 gEq (fVar 0) (fC (.int 0)))) (sRet (fA polynomial_worth (fCons (fVar 1) (fCons (fVar 2) fNil)))) sNext)
    (sRet (fIf (fB (f2 gEq (fVar 0) (fC (.int 1)))) (fA degree_of (fCons (fVar 1) fNil)) (fIf (fB (f2 gEq (fVar 0) (fC (.int 2)))) (fA lesser_of (fCons (fVar 1) (fCons (fTup fNil) fNil))) (fA greater_of (fCons (fTup fNil) (fCons (fVar 1) fNil))))))) [.val (.int k), .val d, .val (.tuple []), .un] = .exc ⟨"BadPolynomial", none⟩ ρ → _law_told [.int k, d, .tuple []] = .ok (.str "polynomial") := fun k ρ e => by
    unfold _law_told b__law_told
    show retD (sTry _ _ _ [.val (.int k), .val d, .val (.tuple []), .un]) = _
    unfold sTry
    rw [e]
    rfl
  intro k hk
  refine fin k [.val (.int k), .val d, .val (.tuple []), .un] ?_
  have et : fTup fNil [.val (.int k), .val d, .val (.tuple []), .un] = .ok (.tuple []) := rfl
  have e0 : ∀ m : Int, (fB (f2 gEq (fVar 0) (fC (.int m)))) [.val (.int k), .val d, .val (.tuple []), .un] = .ok (decide ((k : Int) = m)) := fun m => by
    simp [fVar, ev_eqI]
  have hk' : k = 0 ∨ k = 1 ∨ k = 2 ∨ k = 3 := by omega
  by_cases c0 : k = 0
  · subst c0
    have e : (fA polynomial_worth (fCons (fVar 1) (fCons (fVar 2) fNil))) [.val (.int ((0 : Nat) : Int)), .val d, .val (.tuple []), .un] = .exc ⟨"BadPolynomial", none⟩ := h0 _
    unfold sSeq
    rw [ev_sIf_t (by rw [e0]; rfl)]
    unfold sRet sBind
    rw [e]
    rfl
  · rw [seq_next (by rw [ev_sIf_f (by rw [e0]; simp; omega)]; rfl)]
    have e : (fIf (fB (f2 gEq (fVar 0) (fC (.int 1)))) (fA degree_of (fCons (fVar 1) fNil)) (fIf (fB (f2 gEq (fVar 0) (fC (.int 2)))) (fA lesser_of (fCons (fVar 1) (fCons (fTup fNil) fNil))) (fA greater_of (fCons (fTup fNil) (fCons (fVar 1) fNil))))) [.val (.int k), .val d, .val (.tuple []), .un] = .exc ⟨"BadPolynomial", none⟩ := by
      unfold fIf
      rw [e0, e0]
      have x1 : (fA degree_of (fCons (fVar 1) fNil)) [.val (.int k), .val d, .val (.tuple []), .un] = .exc ⟨"BadPolynomial", none⟩ := h1
      have x2 : (fA lesser_of (fCons (fVar 1) (fCons (fTup fNil) fNil))) [.val (.int k), .val d, .val (.tuple []), .un] = .exc ⟨"BadPolynomial", none⟩ := h2 _
      have x3 : (fA greater_of (fCons (fTup fNil) (fCons (fVar 1) fNil))) [.val (.int k), .val d, .val (.tuple []), .un] = .exc ⟨"BadPolynomial", none⟩ := h3
      simp only [bindOk, x1, x2, x3]
      split
      · rfl
      · split <;> rfl
    unfold sRet sBind
    rw [e]
end DL
namespace DL
open PySem PySem.Spec PyProof.Rows L2
def lw_0 : DEnv → SR := (sAsg (gN 1) (fA _law_draws (fCons (fVar 0) (fCons (fC (.int 300)) fNil))))
def lw_1b_0 : DEnv → SR := (sAsg (gL (gsCons (gN 3) (gsCons (gN 4) gsNil))) (fLc (fItA (fTup (fCons (fC (.int 0)) (fCons (fC (.int 1)) fNil)))) (gN 7) fYes (fA _law_poly (fCons (f2 gAdd (fSl (fVar 1) (fPart (f2 gAdd (f2 gMul (fC (.int 31)) (fVar 2)) (f2 gMul (fC (.int 13)) (fVar 7)))) fNo) (fVar 1)) (fCons (fLst (fCons (fC (.str "a")) (fCons (fC (.str "m")) (fCons (fC (.str "n")) fNil)))) (fCons (fC (.int 5)) fNil)))) [7]))
def lw_1b_1 : DEnv → SR := (sIf (fOr (fB (f2 gNotN (fA polynomial_fault (fCons (fVar 3) fNil)) (fC .none))) (fB (f2 gNe (fA degree_of (fCons (fVar 3) fNil)) (fA (gMM maxI) (fCons (f2 gAdd (fLst (fCons (f1 gNeg (fC (.int 1))) fNil)) (fLc (fItA (fVar 3)) (gT (gsCons (gN 17) (gsCons (gN 18) gsNil))) fYes (fA (g1 gSum) (fCons (fLc (fItA (fVar 17)) (gT (gsCons (gN 19) (gsCons (gN 7) gsNil))) fYes (fVar 7) [19, 7]) fNil)) [17, 18])) fNil))))) (sRet (fC (.bool false))) sNext)
def lw_1b_2 : DEnv → SR := (sPar2 5 6 (fCons (fA lesser_of (fCons (fVar 3) (fCons (fVar 4) fNil))) (fCons (fA greater_of (fCons (fVar 3) (fCons (fVar 4) fNil))) fNil)))
def lw_1b_3 : DEnv → SR := (sIf (fOr (fB (f2 gNotN (fA polynomial_fault (fCons (fVar 5) fNil)) (fC .none))) (fOr (fB (f2 gNe (fA lesser_of (fCons (fVar 4) (fCons (fVar 3) fNil))) (fVar 5))) (fOr (fB (f2 gNe (fA greater_of (fCons (fVar 4) (fCons (fVar 3) fNil))) (fVar 6))) (fB (f2 gNe (fA lesser_of (fCons (fVar 3) (fCons (fVar 3) fNil))) (fVar 3)))))) (sRet (fC (.bool false))) sNext)
def lw_1b_4b_0 : DEnv → SR := (sAsg (gN 8) (fA (g1 gTuple) (fCons (fLc (fEnum (fCons (fLst (fCons (fC (.str "a")) (fCons (fC (.str "m")) (fCons (fC (.str "n")) fNil)))) fNil)) (gT (gsCons (gN 20) (gsCons (gN 19) gsNil))) fYes (fTup (fCons (fVar 19) (fCons (f2 gSub (f2 gMod (fA (g1 gInt) (fCons (f2 gIxA (fVar 1) (f2 gMod (f2 gAdd (f2 gAdd (f2 gAdd (fC (.int 250)) (f2 gMul (fC (.int 3)) (fVar 7))) (fVar 20)) (fVar 2)) (fC (.int 300)))) fNil)) (fC (.int 10))) (fC (.int 3))) fNil))) [20, 19]) fNil)))
def lw_1b_4b_1 : DEnv → SR := (sAsg (gN 9) (fA (g1 gDictOf) (fCons (fA (g1 gListA) (fCons (fVar 8) fNil)) fNil)))
def lw_1b_4b_2 : DEnv → SR := (sAsg (gN 10) (fLc (fItA (fTup (fCons (fVar 5) (fCons (fVar 3) (fCons (fVar 4) (fCons (fVar 6) fNil)))))) (gN 21) fYes (fA _law_poly_worth (fCons (fVar 21) (fCons (fVar 9) fNil))) [21]))
def lw_1b_4b_3 : DEnv → SR := (sIf (fB (f2 gNe (fLc (fItA (fTup (fCons (fVar 5) (fCons (fVar 3) (fCons (fVar 4) (fCons (fVar 6) fNil)))))) (gN 21) fYes (fA polynomial_worth (fCons (fVar 21) (fCons (fVar 8) fNil))) [21]) (fVar 10))) (sRet (fC (.bool false))) sNext)
def lw_1b_4b_4 : DEnv → SR := (sIf (fAnd (fB (f2 (gOrd .ge) (fA (gMM minI) (fCons (f1 gVals (fVar 9)) fNil)) (fC (.int 0)))) (fNot (fChain3 (gOrd .le) (gOrd .le) (gOrd .le) (f2 gIxA (fVar 10) (fC (.int 0))) (fA (gMM minI) (fCons (f2 gIxA (fVar 10) (fC (.int 1))) (fCons (f2 gIxA (fVar 10) (fC (.int 2))) fNil))) (fA (gMM maxI) (fCons (f2 gIxA (fVar 10) (fC (.int 1))) (fCons (f2 gIxA (fVar 10) (fC (.int 2))) fNil))) (f2 gIxA (fVar 10) (fC (.int 3)))))) (sRet (fC (.bool false))) sNext)
def lw_1b_4b_5 : DEnv → SR := (sAsg (gN 11) (fA (g1 gDictOf) (fCons (fLc (fItA (fA (g1 gSortedB) (fCons (fA (g1 gListA) (fCons (fA (g1 gDictOf) (fCons (fA (g1 gListA) (fCons (f2 gAdd (fVar 3) (fVar 4)) fNil)) fNil)) fNil)) fNil))) (gN 17) fYes (fTup (fCons (fVar 17) (fCons (fTup (fCons (fGet2 (fA (g1 gDictOf) (fCons (fA (g1 gListA) (fCons (fVar 3) fNil)) fNil)) (fVar 17) (fC (.int 0))) (fCons (fGet2 (fA (g1 gDictOf) (fCons (fA (g1 gListA) (fCons (fVar 4) fNil)) fNil)) (fVar 17) (fC (.int 0))) fNil))) fNil))) [17]) fNil)))
def lw_1b_4b_6 : DEnv → SR := (sIf (fB (f2 gNe (fVar 5) (fA (g1 gTuple) (fCons (fLc (fItA (fA (g1 gSortedB) (fCons (fVar 11) fNil))) (gN 17) (fB (f2 gNe (fA (gMM minI) (fCons (f2 gIxA (fVar 11) (fVar 17)) fNil)) (fC (.int 0)))) (fTup (fCons (fVar 17) (fCons (fA (gMM minI) (fCons (f2 gIxA (fVar 11) (fVar 17)) fNil)) fNil))) [17]) fNil)))) (sRet (fC (.bool false))) sNext)
def lw_1b_4b_7 : DEnv → SR := (sIf (fB (f2 gNe (fVar 6) (fA (g1 gTuple) (fCons (fLc (fItA (fA (g1 gSortedB) (fCons (fVar 11) fNil))) (gN 17) (fB (f2 gNe (fA (gMM maxI) (fCons (f2 gIxA (fVar 11) (fVar 17)) fNil)) (fC (.int 0)))) (fTup (fCons (fVar 17) (fCons (fA (gMM maxI) (fCons (f2 gIxA (fVar 11) (fVar 17)) fNil)) fNil))) [17]) fNil)))) (sRet (fC (.bool false))) sNext)
def lw_1b_4b : DEnv → SR := (sSeq lw_1b_4b_0 (sSeq lw_1b_4b_1 (sSeq lw_1b_4b_2 (sSeq lw_1b_4b_3 (sSeq lw_1b_4b_4 (sSeq lw_1b_4b_5 (sSeq lw_1b_4b_6 lw_1b_4b_7)))))))
def lw_1b_4 : DEnv → SR := (sFor (fRange1 (fCons (fC (.int 8)) fNil)) (gN 7) lw_1b_4b)
def lw_1b_5 : DEnv → SR := (sAsg (gN 12) (f2 gMod (fA (g1 gInt) (fCons (f2 gIxA (fVar 1) (f2 gAdd (fC (.int 200)) (fVar 2))) fNil)) (fA (gMM maxI) (fCons (fC (.int 1)) (fCons (fA (g1 gLen) (fCons (fVar 3) fNil)) fNil)))))
def lw_1b_6 : DEnv → SR := (sAsg (gN 13) (fLst (fCons (fC .none) (fCons (fTup (fCons (fTup fNil) (fCons (fC (.int 0)) fNil))) (fCons (fTup (fCons (fTup fNil) (fCons (fC (.bool true)) fNil))) (fCons (fTup (fCons (fTup (fCons (fTup (fCons (fC (.str "n")) (fCons (fC (.int 0)) fNil))) fNil)) (fCons (fC (.int 1)) fNil))) (fCons (fTup (fCons (fTup (fCons (fTup (fCons (fC (.str "n")) (fCons (fC (.int 13)) fNil))) fNil)) (fCons (fC (.int 1)) fNil))) (fCons (fTup (fCons (fTup (fCons (fTup (fCons (fC (.str "n")) (fCons (fC (.int 7)) fNil))) (fCons (fTup (fCons (fC (.str "m")) (fCons (fC (.int 6)) fNil))) fNil))) (fCons (fC (.int 1)) fNil))) (fCons (fTup (fCons (fTup (fCons (fTup (fCons (fC (.str "m")) (fCons (fC (.int 7)) fNil))) (fCons (fTup (fCons (fC (.str "n")) (fCons (fC (.int 6)) fNil))) fNil))) (fCons (fC (.int 1)) fNil))) fNil)))))))))
def lw_1b_7 : DEnv → SR := (sAsg (gN 13) (f2 gAdd (fVar 13) (fLst (fCons (fLst (fCons (fTup fNil) (fCons (fC (.int 1)) fNil))) (fCons (fTup (fCons (fTup (fCons (fTup (fCons (fC (.str "n")) (fCons (fC (.int 1)) fNil))) fNil)) fNil)) (fCons (fTup (fCons (fTup (fCons (fTup (fCons (fC (.str "N")) (fCons (fC (.int 1)) fNil))) fNil)) (fCons (fC (.int 1)) fNil))) (fCons (fTup (fCons (fTup (fCons (fTup (fCons (fC (.str "n")) (fCons (fC (.int 1)) fNil))) fNil)) (fCons (fC (.str "1")) fNil))) (fCons (fTup (fCons (fTup (fCons (fTup (fCons (fC (.str "m")) (fCons (fC (.int 1)) fNil))) (fCons (fTup (fCons (fC (.str "m")) (fCons (fC (.int 2)) fNil))) fNil))) (fCons (fC (.int 1)) fNil))) (fCons (fTup (fCons (fTup (fCons (fTup (fCons (fC (.str "n")) fNil)) fNil)) (fCons (fC (.int 1)) fNil))) fNil)))))))))
def lw_1b_8b_0 : DEnv → SR := (sAsg (gN 15) (f2 gAdd (f2 gAdd (fSl (fVar 3) fNo (fPart (fVar 12))) (fTup (fCons (fVar 14) fNil))) (fSl (fVar 3) (fPart (f2 gAdd (fVar 12) (fC (.int 1)))) fNo)))
def lw_1b_8b_1 : DEnv → SR := (sIf (fOr (fB (f2 gNe (fA polynomial_fault (fCons (fVar 15) fNil)) (fA _law_fault (fCons (fVar 15) fNil)))) (fOr (fB (f2 gIsN (fA _law_fault (fCons (fVar 15) fNil)) (fC .none))) (fB (f2 gNe (fLc (fRange1 (fCons (fC (.int 4)) fNil)) (gN 22) fYes (fA _law_told (fCons (fVar 22) (fCons (fVar 15) (fCons (fTup fNil) fNil)))) [22]) (fRep (fCons (fC (.str "polynomial")) fNil) (fC (.int 4))))))) (sRet (fC (.bool false))) sNext)
def lw_1b_8b : DEnv → SR := (sSeq lw_1b_8b_0 lw_1b_8b_1)
def lw_1b_8 : DEnv → SR := (sFor (fItA (fVar 13)) (gN 14) lw_1b_8b)
def lw_1b_9b_0 : DEnv → SR := (sIf (fB (f2 gNe (fA polynomial_fault (fCons (fVar 15) fNil)) (fA _law_fault (fCons (fVar 15) fNil)))) (sRet (fC (.bool false))) sNext)
def lw_1b_9b : DEnv → SR := lw_1b_9b_0
def lw_1b_9 : DEnv → SR := (sFor (fItA (fTup (fCons (f1 gRev (fVar 3)) (fCons (f2 gAdd (fVar 3) (fSl (fVar 3) fNo (fPart (fC (.int 1))))) (fCons (fA (g1 gListA) (fCons (fVar 3) fNil)) (fCons (fC .none) (fCons (fSl (fVar 3) (fPart (fC (.int 1))) fNo) fNil))))))) (gN 15) lw_1b_9b)
def lw_1b : DEnv → SR := (sSeq lw_1b_0 (sSeq lw_1b_1 (sSeq lw_1b_2 (sSeq lw_1b_3 (sSeq lw_1b_4 (sSeq lw_1b_5 (sSeq lw_1b_6 (sSeq lw_1b_7 (sSeq lw_1b_8 lw_1b_9)))))))))
def lw_1 : DEnv → SR := (sFor (fRange1 (fCons (fC (.int 8)) fNil)) (gN 2) lw_1b)
def lw_2 : DEnv → SR := (sAsg (gN 16) (fTup (fCons (fTup (fCons (fTup (fCons (fTup (fCons (fC (.str "a")) (fCons (fC (.int 1)) fNil))) (fCons (fTup (fCons (fC (.str "n")) (fCons (fC (.int 2)) fNil))) fNil))) (fCons (fC (.int 3)) fNil))) (fCons (fTup (fCons (fTup (fCons (fTup (fCons (fC (.str "n")) (fCons (fC (.int 1)) fNil))) fNil)) (fCons (f1 gNeg (fC (.int 1))) fNil))) fNil))))
def lw_3 : DEnv → SR := (sIf (fB (f2 gNe (fLc (fItA (fTup (fCons (fC .none) (fCons (fTup (fCons (fTup (fCons (fC (.str "n")) (fCons (fC (.bool true)) fNil))) fNil)) (fCons (fTup (fCons (fTup (fCons (fC (.str "a")) (fCons (fC (.int 1)) fNil))) fNil)) (fCons (fTup (fCons (fTup (fCons (fC (.str "n")) (fCons (fC (.int 1)) fNil))) fNil)) (fCons (fTup fNil) fNil))))))) (gN 23) fYes (fA _law_told (fCons (fC (.int 0)) (fCons (fVar 16) (fCons (fVar 23) fNil)))) [23]) (fLst (fCons (fC (.str "worths")) (fCons (fC (.str "worths")) (fCons (fC (.str "n")) (fCons (fC (.str "a")) (fCons (fC (.str "a")) fNil)))))))) (sRet (fC (.bool false))) sNext)
def lw_4 : DEnv → SR := (sIf (fNot (fB (f2 gEq (fA polynomial_worth (fCons (fVar 16) (fCons (fTup (fCons (fTup (fCons (fC (.str "a")) (fCons (fC (.int 2)) fNil))) (fCons (fTup (fCons (fC (.str "n")) (fCons (fC (.int 4)) fNil))) fNil))) fNil))) (fC (.int 32))))) (sRet (fC (.bool false))) sNext)
def lw_5 : DEnv → SR := (sRet (fAndV (f2 gEq (fA polynomial_worth (fCons (fVar 16) (fCons (fTup (fCons (fTup (fCons (fC (.str "a")) (fCons (fC (.int 1)) fNil))) (fCons (fTup (fCons (fC (.str "n")) (fCons (f1 gNeg (fC (.int 2))) fNil))) fNil))) fNil))) (fC (.int 11))) (fAndV (f1 (gIsi "tuple") (fA lesser_of (fCons (fVar 16) (fCons (fTup fNil) fNil)))) (f2 gEq (fA lesser_of (fCons (fVar 16) (fCons (fTup fNil) fNil))) (fSl (fVar 16) (fPart (fC (.int 1))) fNo)))))
def lw : DEnv → SR := (sSeq lw_0 (sSeq lw_1 (sSeq lw_2 (sSeq lw_3 (sSeq lw_4 lw_5)))))
theorem lw_eq : b_law = lw := rfl
variable [TheW]
/-! ### the law's body -/
def en (sc : PyData) (ds : List Int) (x2 x3 x4 x5 x6 x7 x8 x9 x10 x11 x12 x13 x14 x15 : Sl) : DEnv := [.val sc, .val (.list (dInts ds)), x2, x3, x4, x5, x6, x7, x8, x9, x10, x11, x12, x13, x14, x15, .un, .un, .un, .un, .un, .un, .un, .un]
theorem shaped_enc (c : Nat → Int) : SeqAt.shaped (enc c) = true := by
  refine (Sh.tup (n := 4) fun d hd => ?_).shaped (by decide)
  rw [encL_pol] at hd
  obtain ⟨i, hi, rfl⟩ := List.mem_map.mp hd
  refine Sh.tup (n := 3) fun e he => ?_
  simp only [List.mem_cons, List.not_mem_nil, or_false] at he
  rcases he with rfl | rfl
  · exact sh_tm (lt_sup c i hi)
  · exact .int _ _
theorem nn_app {a b : List Int} (ha : ∀ d ∈ a, (0 : Int) ≤ d) (hb : ∀ d ∈ b, (0 : Int) ≤ d) : ∀ d ∈ a ++ b, (0 : Int) ≤ d := fun d hd => (List.mem_append.mp hd).elim (ha d) (hb d)
theorem nn_drop {a : List Int} (ha : ∀ d ∈ a, (0 : Int) ≤ d) (n : Nat) : ∀ d ∈ a.drop n, (0 : Int) ≤ d := fun d hd => ha d (List.mem_of_mem_drop hd)
section
variable {sc : PyData} {ds : List Int} {x2 x3 x4 x5 x6 x7 x8 x9 x10 x11 x12 x13 x14 x15 : Sl}
theorem st_0 (hl : ds.length = 300) (h0 : ∀ d ∈ ds, (0 : Int) ≤ d) {t : Nat} (ht : t < 8) : ∃ c d, Small c ∧ Small d ∧ lw_1b_0 (en sc ds (.val (.int (t : Int))) x3 x4 x5 x6 x7 x8 x9 x10 x11 x12 x13 x14 x15) = .next (en sc ds (.val (.int (t : Int))) (.val (enc c)) (.val (enc d)) x5 x6 x7 x8 x9 x10 x11 x12 x13 x14 x15) := by
  have hp : ∀ k : Nat, ∃ c, Small c ∧ _law_poly [.list (dInts (ds.drop (31 * t + 13 * k) ++ ds)), nms, .int 5] = .ok (enc c) := fun k => poly_of (by rw [List.length_append]; omega) (nn_app (nn_drop h0 _) h0)
  obtain ⟨c, hc, ec⟩ := hp 0
  obtain ⟨d, hd, ed⟩ := hp 1
  refine ⟨c, d, hc, hd, ?_⟩
  have e1 : ∀ k : Nat, k < 2 → (fA _law_poly (fCons (f2 gAdd (fSl (fVar 1) (fPart (f2 gAdd (f2 gMul (fC (.int 31)) (fVar 2)) (f2 gMul (fC (.int 13)) (fVar 7)))) fNo) (fVar 1)) (fCons (fLst (fCons (fC (.str "a")) (fCons (fC (.str "m")) (fCons (fC (.str "n")) fNil)))) (fCons (fC (.int 5)) fNil)))) (en sc ds (.val (.int (t : Int))) x3 x4 x5 x6 (.val (.int (k : Int))) x8 x9 x10 x11 x12 x13 x14 x15) = _law_poly [.list (dInts (ds.drop (31 * t + 13 * k) ++ ds)), nms, .int 5] := fun k hk => by
    have m1 : gMul (.int 31) (.int (t : Int)) = .ok (.int (31 * t)) := ev_mul64 (by decide) (by omega)
    have m2 : gMul (.int 13) (.int (k : Int)) = .ok (.int (13 * k)) := ev_mul64 (by decide) (by omega)
    have ef : (f2 gAdd (f2 gMul (fC (.int 31)) (fVar 2)) (f2 gMul (fC (.int 13)) (fVar 7))) (en sc ds (.val (.int (t : Int))) x3 x4 x5 x6 (.val (.int (k : Int))) x8 x9 x10 x11 x12 x13 x14 x15) = .ok (.int ((31 * t + 13 * k : Nat) : Int)) := by
      simp only [fVar, en, ev_f2, ev_fC, List.getElem?_cons_succ, List.getElem?_cons_zero, bindOk, m1, m2, ev_add]
      congr 2
    have es : fSl (fVar 1) (fPart (f2 gAdd (f2 gMul (fC (.int 31)) (fVar 2)) (f2 gMul (fC (.int 13)) (fVar 7)))) fNo (en sc ds (.val (.int (t : Int))) x3 x4 x5 x6 (.val (.int (k : Int))) x8 x9 x10 x11 x12 x13 x14 x15) = .ok (.list (dInts (ds.drop (31 * t + 13 * k)))) := by
      unfold fSl fPart
      rw [ef]
      show R.ok (PyData.list (cutL (dInts ds) (some ((31 * t + 13 * k : Nat) : Int)) none)) = _
      rw [cut_drop]
      unfold dInts
      rw [List.map_drop]
    have ea : gAdd (.list (dInts (ds.drop (31 * t + 13 * k)))) (.list (dInts ds)) = .ok (.list (dInts (ds.drop (31 * t + 13 * k) ++ ds))) := by
      unfold gAdd
      dsimp only
      rw [if_pos (by rw [dInts_len, dInts_len, List.length_drop, sizeLine_eq]; omega)]
      unfold dInts
      rw [List.map_append]
    have ev1 : fVar 1 (en sc ds (.val (.int (t : Int))) x3 x4 x5 x6 (.val (.int (k : Int))) x8 x9 x10 x11 x12 x13 x14 x15) = .ok (.list (dInts ds)) := rfl
    have el : (fLst (fCons (fC (.str "a")) (fCons (fC (.str "m")) (fCons (fC (.str "n")) fNil)))) (en sc ds (.val (.int (t : Int))) x3 x4 x5 x6 (.val (.int (k : Int))) x8 x9 x10 x11 x12 x13 x14 x15) = .ok nms := rfl
    rw [ev_fA, ev_fCons, ev_f2, es, ev1, bindOk, bindOk, ea, bindOk, ev_fCons, el]
    rfl
  unfold lw_1b_0 sAsg sBind
  rw [ev_lc (items := [0, 1].map fun k => .int ((k : Nat) : Int)) rfl (lcD_mapx (fun k => .int ((k : Nat) : Int)) (fun k => if k = 0 then enc c else enc d) fun k hk => ⟨en sc ds (.val (.int (t : Int))) x3 x4 x5 x6 (.val (.int (k : Int))) x8 x9 x10 x11 x12 x13 x14 x15, rfl, by
    simp only [List.mem_cons, List.not_mem_nil, or_false] at hk
    rw [e1 k (by omega)]
    rcases hk with rfl | rfl
    · exact ec
    · exact ed⟩)]
  rfl
theorem gsum_tm {ρ : DEnv} {i : Nat} (hl : ρ.length = 24) (hi : i < 27) (h : fVar 17 ρ = .ok (tm i)) : (fA (g1 gSum) (fCons (fLc (fItA (fVar 17)) (gT (gsCons (gN 19) (gsCons (gN 7) gsNil))) fYes (fVar 7) [19, 7]) fNil)) ρ = .ok (.int (deg i)) := by
  have c : all27 (fun i => deg i == ((ex i).map (·.2)).sum) = true := by kernel_rfl
  have cd := beq_iff_eq.mp (all27_at c hi)
  have e : (fLc (fItA (fVar 17)) (gT (gsCons (gN 19) (gsCons (gN 7) gsNil))) fYes (fVar 7) [19, 7]) ρ = .ok (.list ((ex i).map fun p => .int p.2)) := by
    refine ev_lc (items := (ex i).map encP) (by rw [ev_fItA, h, bindOk, tm_ex]; rfl) ?_
    refine lcD_mapx encP (fun p => .int p.2) fun p hp => ⟨((wipeE ρ [19, 7]).set 19 (.val (.str (nm p.1)))).set 7 (.val (.int p.2)), rfl, ?_⟩
    unfold fVar
    rw [List.getElem?_set_self (by simp [wipeE, hl])]
  rw [ev_fA, ev_fCons, e, cd]
  simp [gSum, intsD_map]
theorem st_1 {c : Nat → Int} : lw_1b_1 (en sc ds x2 (.val (enc c)) x4 x5 x6 x7 x8 x9 x10 x11 x12 x13 x14 x15) = .next (en sc ds x2 (.val (enc c)) x4 x5 x6 x7 x8 x9 x10 x11 x12 x13 x14 x15) := by
  have e3 : (fLc (fItA (fVar 3)) (gT (gsCons (gN 17) (gsCons (gN 18) gsNil))) fYes (fA (g1 gSum) (fCons (fLc (fItA (fVar 17)) (gT (gsCons (gN 19) (gsCons (gN 7) gsNil))) fYes (fVar 7) [19, 7]) fNil)) [17, 18]) (en sc ds x2 (.val (enc c)) x4 x5 x6 x7 x8 x9 x10 x11 x12 x13 x14 x15) = .ok (.list ((sup c).map fun i => .int (deg i))) := by
    refine ev_lc (items := (sup c).map fun i => pr i (.int (c i))) (by rw [← encL_pol]; rfl) ?_
    refine lcD_mapx (fun i => pr i (.int (c i))) (fun i => .int (deg i)) fun i hi => ⟨_, rfl, ?_⟩
    exact gsum_tm rfl (lt_sup c i hi) rfl
  have en1 : gNeg (.int 1) = .ok (.int (-1)) := rfl
  have ev3 : fVar 3 (en sc ds x2 (.val (enc c)) x4 x5 x6 x7 x8 x9 x10 x11 x12 x13 x14 x15) = .ok (enc c) := rfl
  have en0 : gNotN .none .none = .ok (.bool false) := rfl
  unfold lw_1b_1
  refine (ev_sIf_f ?_).trans rfl
  rw [ev_fOr, ev_fB, ev_f2, ev_fA, ev_fCons, ev3]
  simp only [bindOk, ev_fNil, pf_enc, ev_fC, en0, ev_boolD]
  rw [if_neg (by decide), ev_fB, ev_f2, ev_fA, ev_fCons, ev3]
  simp only [bindOk, ev_fNil, degree_enc]
  rw [ev_fA, ev_fCons, ev_f2, e3]
  simp only [fLst, ev_fCons, ev_f1, ev_fC, bindOk, en1, ev_fNil, List.length_cons, List.length_nil]
  rw [if_pos (by rw [sizeLine_eq]; decide)]
  simp only [bindOk, add_list, mm_list, ev_neI]
  simp
theorem mmx_comm (b : Bool) (c d : Nat → Int) : mmx b c d = mmx b d c := by
  funext i
  unfold mmx
  cases b
  · exact Int.max_comm _ _
  · exact Int.min_comm _ _
theorem mmx_self (c : Nat → Int) : mmx true c c = c := by
  funext i
  unfold mmx
  simp
theorem st_2 {c d : Nat → Int} : lw_1b_2 (en sc ds x2 (.val (enc c)) (.val (enc d)) x5 x6 x7 x8 x9 x10 x11 x12 x13 x14 x15) = .next (en sc ds x2 (.val (enc c)) (.val (enc d)) (.val (enc (mmx true c d))) (.val (enc (mmx false c d))) x7 x8 x9 x10 x11 x12 x13 x14 x15) := by
  have e : (fCons (fA lesser_of (fCons (fVar 3) (fCons (fVar 4) fNil))) (fCons (fA greater_of (fCons (fVar 3) (fCons (fVar 4) fNil))) fNil)) (en sc ds x2 (.val (enc c)) (.val (enc d)) x5 x6 x7 x8 x9 x10 x11 x12 x13 x14 x15) = .ok [enc (mmx true c d), enc (mmx false c d)] := by
    have ev3 : fVar 3 (en sc ds x2 (.val (enc c)) (.val (enc d)) x5 x6 x7 x8 x9 x10 x11 x12 x13 x14 x15) = .ok (enc c) := rfl
    have ev4 : fVar 4 (en sc ds x2 (.val (enc c)) (.val (enc d)) x5 x6 x7 x8 x9 x10 x11 x12 x13 x14 x15) = .ok (enc d) := rfl
    simp only [ev_fCons, ev_fA, ev3, ev4, bindOk, ev_fNil, lesser_enc, greater_enc]
  unfold lw_1b_2 sPar2
  rw [e]
  rfl
theorem st_3 {c d : Nat → Int} : lw_1b_3 (en sc ds x2 (.val (enc c)) (.val (enc d)) (.val (enc (mmx true c d))) (.val (enc (mmx false c d))) x7 x8 x9 x10 x11 x12 x13 x14 x15) = .next (en sc ds x2 (.val (enc c)) (.val (enc d)) (.val (enc (mmx true c d))) (.val (enc (mmx false c d))) x7 x8 x9 x10 x11 x12 x13 x14 x15) := by
  unfold lw_1b_3
  refine (ev_sIf_f ?_).trans rfl
  generalize hE : en sc ds x2 (.val (enc c)) (.val (enc d)) (.val (enc (mmx true c d))) (.val (enc (mmx false c d))) x7 x8 x9 x10 x11 x12 x13 x14 x15 = ρ
  have ev3 : fVar 3 ρ = .ok (enc c) := by rw [← hE]; rfl
  have ev4 : fVar 4 ρ = .ok (enc d) := by rw [← hE]; rfl
  have ev5 : fVar 5 ρ = .ok (enc (mmx true c d)) := by rw [← hE]; rfl
  have ev6 : fVar 6 ρ = .ok (enc (mmx false c d)) := by rw [← hE]; rfl
  have en0 : gNotN .none .none = .ok (.bool false) := rfl
  have q1 : enc (mmx true d c) = enc (mmx true c d) := by rw [mmx_comm]
  have q2 : enc (mmx false d c) = enc (mmx false c d) := by rw [mmx_comm]
  simp only [ev_fOr, ev_fB, ev_f2, ev_fA, ev_fCons, ev_fNil, ev_fC, ev3, ev4, ev5, ev6, bindOk, pf_enc, en0, ev_boolD, lesser_enc, greater_enc, q1, q2, mmx_self, ne_self (shaped_enc _)]
  simp
end
end DL
namespace DL
open PySem PySem.Spec PyProof.Rows L2
variable [TheW]
section
variable {sc : PyData} {ds : List Int} {x2 x3 x4 x5 x6 x7 x8 x9 x10 x11 x12 x13 x14 x15 : Sl}
theorem in_of {n : Int} : InW (n % 10 - 3) := ⟨by have := Int.emod_nonneg n (b := 10) (by decide); omega, by have := Int.emod_lt_of_pos n (b := 10) (by decide); omega⟩
theorem st_40 (hl : ds.length = 300) {t k : Nat} (ht : t < 8) (hk : k < 8) : ∃ w, InWs w ∧ lw_1b_4b_0 (en sc ds (.val (.int (t : Int))) x3 x4 x5 x6 (.val (.int (k : Int))) x8 x9 x10 x11 x12 x13 x14 x15) = .next (en sc ds (.val (.int (t : Int))) x3 x4 x5 x6 (.val (.int (k : Int))) (.val (tW w)) x9 x10 x11 x12 x13 x14 x15) := by
  refine ⟨fun j => ds.getD ((250 + 3 * k + j + t) % 300) 0 % 10 - 3, fun j _ => in_of, ?_⟩
  unfold lw_1b_4b_0
  refine (ev_asg (d := tW fun j => ds.getD ((250 + 3 * k + j + t) % 300) 0 % 10 - 3) ?_).trans rfl
  have m3 : gMul (.int 3) (.int (k : Int)) = .ok (.int (3 * k)) := ev_mul64 (by decide) (by omega)
  rw [ev_fA, ev_fCons]
  rw [ev_lc (items := [0, 1, 2].map fun j => pairD (.int ((j : Nat) : Int)) (.str (nm j))) rfl (lcD_mapx (fun j => pairD (.int ((j : Nat) : Int)) (.str (nm j))) (fun j => .tuple [.str (nm j), .int (ds.getD ((250 + 3 * k + j + t) % 300) 0 % 10 - 3)]) fun j hj => ⟨_, rfl, ?_⟩)]
  · rfl
  · show fTup _ [.val sc, .val (.list (dInts ds)), .val (.int (t : Int)), x3, x4, x5, x6, .val (.int (k : Int)), x8, x9, x10, x11, x12, x13, x14, x15, .un, .un, .un, .val (.str (nm j)), .val (.int (j : Int)), .un, .un, .un] = _
    have hj3 : j < 3 := by
      simp only [List.mem_cons, List.not_mem_nil, or_false] at hj
      omega
    have em : gMod (.int (250 + 3 * (k : Int) + (j : Int) + (t : Int))) (.int 300) = .ok (.int (((250 + 3 * k + j + t) % 300 : Nat) : Int)) := by
      rw [ev_mod (by decide)]
      congr 2
    have ei : gIxA (.list (dInts ds)) (.int (((250 + 3 * k + j + t) % 300 : Nat) : Int)) = .ok (.int (ds.getD ((250 + 3 * k + j + t) % 300) 0)) := ix_ints (by rw [hl]; exact Nat.mod_lt _ (by decide))
    have em2 : gMod (.int (ds.getD ((250 + 3 * k + j + t) % 300) 0)) (.int 10) = .ok (.int (ds.getD ((250 + 3 * k + j + t) % 300) 0 % 10)) := ev_mod (by decide)
    simp only [fTup, fVar, ev_fCons, ev_f2, ev_fA, ev_fC, ev_fNil, List.getElem?_cons_succ, List.getElem?_cons_zero, bindOk, m3, ev_add, em, ei, ev_g1, ev_int, em2, ev_sub]
    rw [if_pos (by rw [sizeLine_eq]; simp)]
theorem st_41 {w : Nat → Int} : lw_1b_4b_1 (en sc ds x2 x3 x4 x5 x6 x7 (.val (tW w)) x9 x10 x11 x12 x13 x14 x15) = .next (en sc ds x2 x3 x4 x5 x6 x7 (.val (tW w)) (.val (dW w)) x10 x11 x12 x13 x14 x15) := by
  unfold lw_1b_4b_1
  refine (ev_asg (d := dW w) ?_).trans rfl
  have ev8 : fVar 8 (en sc ds x2 x3 x4 x5 x6 x7 (.val (tW w)) x9 x10 x11 x12 x13 x14 x15) = .ok (tW w) := rfl
  simp only [ev_fA, ev_fCons, ev8, bindOk, ev_fNil, ev_g1, dict_tW, dictOf_tW]
theorem small_mmx {c d : Nat → Int} (hc : Small c) (hd : Small d) (b : Bool) : Small (mmx b c d) := fun i hi => by
  have h1 := hc i hi
  have h2 := hd i hi
  unfold mmx
  cases b
  · rw [if_neg (by decide)]; omega
  · rw [if_pos rfl]; omega
def rowsD (c d w : Nat → Int) : List PyData := [.int (S (mmx true c d) w), .int (S c w), .int (S d w), .int (S (mmx false c d) w)]
def en4 (sc : PyData) (ds : List Int) (c d w : Nat → Int) (x2 x7 x10 x11 x12 x13 x14 x15 : Sl) : DEnv := en sc ds x2 (.val (enc c)) (.val (enc d)) (.val (enc (mmx true c d))) (.val (enc (mmx false c d))) x7 (.val (tW w)) (.val (dW w)) x10 x11 x12 x13 x14 x15
variable {c d w : Nat → Int}
theorem fourD (hw : InWs w) (hc : Small c) (hd : Small d) {fe : DEnv → R PyData} (he : ∀ (b : Nat → Int), Small b → fe ((en4 sc ds c d w x2 x7 x10 x11 x12 x13 x14 x15).set 21 (.val (enc b))) = .ok (.int (S b w))) : (fLc (fItA (fTup (fCons (fVar 5) (fCons (fVar 3) (fCons (fVar 4) (fCons (fVar 6) fNil)))))) (gN 21) fYes fe [21]) (en4 sc ds c d w x2 x7 x10 x11 x12 x13 x14 x15) = .ok (.list (rowsD c d w)) := by
  have e := lcD_mapx (g := gN 21) (fe := fe) (ρ := wipeE (en4 sc ds c d w x2 x7 x10 x11 x12 x13 x14 x15) [21]) (ι := fun b : Nat → Int => enc b) (φ := fun b => .int (S b w)) (xs := [mmx true c d, c, d, mmx false c d]) (fun b hb => ⟨_, rfl, by
    have hs : Small b := by
      simp only [List.mem_cons, List.not_mem_nil, or_false] at hb
      rcases hb with rfl | rfl | rfl | rfl
      · exact small_mmx hc hd _
      · exact hc
      · exact hd
      · exact small_mmx hc hd _
    exact he b hs⟩)
  exact ev_lc (items := [enc (mmx true c d), enc c, enc d, enc (mmx false c d)]) rfl e
theorem st_42 (hw : InWs w) (hc : Small c) (hd : Small d) : lw_1b_4b_2 (en4 sc ds c d w x2 x7 x10 x11 x12 x13 x14 x15) = .next (en4 sc ds c d w x2 x7 (.val (.list (rowsD c d w))) x11 x12 x13 x14 x15) := by
  unfold lw_1b_4b_2
  refine (ev_asg (d := .list (rowsD c d w)) (fourD hw hc hd fun b hb => ?_)).trans rfl
  have e1 : fVar 21 ((en4 sc ds c d w x2 x7 x10 x11 x12 x13 x14 x15).set 21 (.val (enc b))) = .ok (enc b) := rfl
  have e2 : fVar 9 ((en4 sc ds c d w x2 x7 x10 x11 x12 x13 x14 x15).set 21 (.val (enc b))) = .ok (dW w) := rfl
  simp only [ev_fA, ev_fCons, e1, e2, bindOk, ev_fNil, lpw_of hw hb]
theorem shaped_rows : SeqAt.shaped (.list (rowsD c d w)) = true := by
  refine (Sh.lst (n := 0) fun x hx => ?_).shaped (by decide)
  unfold rowsD at hx
  simp only [List.mem_cons, List.not_mem_nil, or_false] at hx
  rcases hx with rfl | rfl | rfl | rfl <;> exact .int _ _
theorem st_43 (hw : InWs w) (hc : Small c) (hd : Small d) : lw_1b_4b_3 (en4 sc ds c d w x2 x7 (.val (.list (rowsD c d w))) x11 x12 x13 x14 x15) = .next (en4 sc ds c d w x2 x7 (.val (.list (rowsD c d w))) x11 x12 x13 x14 x15) := by
  unfold lw_1b_4b_3
  refine (ev_sIf_f ?_).trans rfl
  have e := fourD (sc := sc) (ds := ds) (x2 := x2) (x7 := x7) (x10 := .val (.list (rowsD c d w))) (x11 := x11) (x12 := x12) (x13 := x13) (x14 := x14) (x15 := x15) hw hc hd (fe := (fA polynomial_worth (fCons (fVar 21) (fCons (fVar 8) fNil)))) fun b hb => by
    have e1 : fVar 21 ((en4 sc ds c d w x2 x7 (.val (.list (rowsD c d w))) x11 x12 x13 x14 x15).set 21 (.val (enc b))) = .ok (enc b) := rfl
    have e2 : fVar 8 ((en4 sc ds c d w x2 x7 (.val (.list (rowsD c d w))) x11 x12 x13 x14 x15).set 21 (.val (enc b))) = .ok (tW w) := rfl
    simp only [ev_fA, ev_fCons, e1, e2, bindOk, ev_fNil, worth_enc hw hb]
  have e10 : fVar 10 (en4 sc ds c d w x2 x7 (.val (.list (rowsD c d w))) x11 x12 x13 x14 x15) = .ok (.list (rowsD c d w)) := rfl
  rw [ev_fB, ev_f2, e, bindOk, e10, bindOk, ne_self shaped_rows]
  rfl
theorem min3 (a b c : Int) : ∃ m, gMM minI [.list [.int a, .int b, .int c]] = .ok (.int m) ∧ m ≤ a ∧ m ≤ b ∧ m ≤ c := by
  refine ⟨PySem.W.minOf a [b, c], by simp [gMM, intsD, minI], ?_⟩
  have e : PySem.W.minOf a [b, c] = (if c < (if b < a then b else a) then c else (if b < a then b else a)) := by
    show (if PySem.W.DatumOrd.lt c (if PySem.W.DatumOrd.lt b a = true then b else a) = true then c else (if PySem.W.DatumOrd.lt b a = true then b else a)) = _
    simp only [lt_int, decide_eq_true_eq]
  rw [e]
  refine ⟨?_, ?_, ?_⟩ <;> split <;> split <;> omega
theorem st_44 (hw : InWs w) : lw_1b_4b_4 (en4 sc ds c d w x2 x7 (.val (.list (rowsD c d w))) x11 x12 x13 x14 x15) = .next (en4 sc ds c d w x2 x7 (.val (.list (rowsD c d w))) x11 x12 x13 x14 x15) := by
  unfold lw_1b_4b_4
  refine (ev_sIf_f ?_).trans rfl
  generalize hE : en4 sc ds c d w x2 x7 (.val (.list (rowsD c d w))) x11 x12 x13 x14 x15 = ρ
  have e9 : fVar 9 ρ = .ok (dW w) := by rw [← hE]; rfl
  have e10 : fVar 10 ρ = .ok (.list (rowsD c d w)) := by rw [← hE]; rfl
  obtain ⟨m, em, h0, h1, h2⟩ := min3 (w 0) (w 1) (w 2)
  have i0 : gIxA (.list (rowsD c d w)) (.int 0) = .ok (.int (S (mmx true c d) w)) := rfl
  have i1 : gIxA (.list (rowsD c d w)) (.int 1) = .ok (.int (S c w)) := rfl
  have i2 : gIxA (.list (rowsD c d w)) (.int 2) = .ok (.int (S d w)) := rfl
  have i3 : gIxA (.list (rowsD c d w)) (.int 3) = .ok (.int (S (mmx false c d) w)) := rfl
  have mn : ∀ a b : Int, gMM minI [.int a, .int b] = .ok (.int (min a b)) := fun a b => by
    show R.of ((minI [a, b]).map PyData.int) = _
    rw [min_two]
    rfl
  have mx : ∀ a b : Int, gMM maxI [.int a, .int b] = .ok (.int (max a b)) := fun a b => by
    show R.of ((maxI [a, b]).map PyData.int) = _
    rw [max_two]
    rfl
  rw [ev_fAnd]
  have et : (fB (f2 (gOrd .ge) (fA (gMM minI) (fCons (f1 gVals (fVar 9)) fNil)) (fC (.int 0)))) ρ = .ok (decide (0 ≤ m)) := by
    simp only [ev_fB, ev_f2, ev_fA, ev_fCons, ev_f1, e9, bindOk, vals_dW, ev_fNil, em, ev_fC, ev_ord, ev_boolD, Od.int]
  rw [et, bindOk]
  by_cases hm : 0 ≤ m
  · rw [if_pos (decide_eq_true hm)]
    have hn : ∀ n, n < 3 → 0 ≤ w n := fun n h => by
      rcases lt3 h with rfl | rfl | rfl <;> omega
    have a1 : S (mmx true c d) w ≤ S c w := S_mono hw hn fun i => by unfold mmx; rw [if_pos rfl]; omega
    have a2 : S (mmx true c d) w ≤ S d w := S_mono hw hn fun i => by unfold mmx; rw [if_pos rfl]; omega
    have a3 : S c w ≤ S (mmx false c d) w := S_mono hw hn fun i => by unfold mmx; rw [if_neg (by decide)]; omega
    have a4 : S d w ≤ S (mmx false c d) w := S_mono hw hn fun i => by unfold mmx; rw [if_neg (by decide)]; omega
    have b1 : S (mmx true c d) w ≤ min (S c w) (S d w) := by omega
    have b2 : min (S c w) (S d w) ≤ max (S c w) (S d w) := by omega
    have b3 : max (S c w) (S d w) ≤ S (mmx false c d) w := by omega
    rw [ev_fNot]
    unfold fChain3
    simp only [ev_fA, ev_fCons, ev_f2, ev_fC, ev_fNil, e10, bindOk, i0, i1, i2, i3, mn, mx, ev_ord, ev_boolD, Od.int, decide_eq_true b1, decide_eq_true b2, decide_eq_true b3, if_true]
    rfl
  · rw [if_neg (by simpa using hm)]
end
end DL
namespace DL
open PySem PySem.Spec PyProof.Rows L2
variable [TheW]
section
variable {sc : PyData} {ds : List Int} {x2 x3 x4 x5 x6 x7 x8 x9 x10 x11 x12 x13 x14 x15 : Sl} {c d w : Nat → Int}
theorem up_congr {L M : List Nat} (h : ∀ i, i ∈ L ↔ i ∈ M) : up L = up M := by
  unfold up
  refine List.filter_congr fun i _ => ?_
  simp only [h i]
theorem lt_app {L M : List Nat} (h : Lt27 L) (k : Lt27 M) : Lt27 (L ++ M) := fun i hi => (List.mem_append.mp hi).elim (h i) (k i)
theorem up_up (L : List Nat) : up (up L) = up L := by
  unfold up
  refine List.filter_congr fun i hi => ?_
  simp only [List.mem_filter, hi, true_and, decide_eq_true_eq]
def uU (c d : Nat → Int) : List Nat := up (sup c ++ sup d)
theorem lt_uU : Lt27 (uU c d) := lt_up _
theorem nd_uU : (uU c d).Nodup := up_nodup _
def dT (c d : Nat → Int) : PyData := .dict (kd (uU c d) fun i => .tuple [.int (c i), .int (d i)])
theorem enc_map (c : Nat → Int) : encL (pol c) = ((sup c).map fun i => (i, PyData.int (c i))).map fun p => .tuple [tm p.1, p.2] := by
  rw [encL_pol, List.map_map]
  rfl
theorem sorted_both : ∃ D, gDictOf (.list (encL (pol c) ++ encL (pol d))) = .ok D ∧ ∃ l, gListA D = .ok l ∧ gSortedB l = .ok (.list ((uU c d).map tm)) := by
  have e : encL (pol c) ++ encL (pol d) = (((sup c).map fun i => (i, PyData.int (c i))) ++ ((sup d).map fun i => (i, PyData.int (d i)))).map fun p => .tuple [tm p.1, p.2] := by
    rw [List.map_append, ← enc_map, ← enc_map]
  have hP : ∀ p ∈ ((sup c).map fun i => (i, PyData.int (c i))) ++ ((sup d).map fun i => (i, PyData.int (d i))), p.1 < 27 := fun p hp => by
    rcases List.mem_append.mp hp with h | h
    · obtain ⟨i, hi, rfl⟩ := List.mem_map.mp h; exact lt_sup c i hi
    · obtain ⟨i, hi, rfl⟩ := List.mem_map.mp h; exact lt_sup d i hi
  obtain ⟨L, v, e1, h1, h2, h3, _⟩ := dmake_ix _ hP
  refine ⟨.dict (kd L v), by rw [e, dictOf_ix (mk := .list) hP (.inl rfl), e1], .list (L.map tm), listA_kd h1, ?_⟩
  rw [sorted_list h1 h2]
  have : up L = uU c d := up_congr fun i => by
    rw [h3, List.map_append, List.map_map, List.map_map, List.mem_append, List.mem_append]
    simp
  rw [this]
theorem add_encs : gAdd (enc c) (enc d) = .ok (.tuple (encL (pol c) ++ encL (pol d))) := by
  show (if (encL (pol c)).length + (encL (pol d)).length ≤ sizeLine then R.ok (PyData.tuple (encL (pol c) ++ encL (pol d))) else .bad) = _
  rw [if_pos]
  have h1 := sup_len c
  have h2 := sup_len d
  rw [encL_pol, encL_pol, List.length_map, List.length_map, sizeLine_eq]
  omega
theorem listA_tup (xs : List PyData) : gListA (.tuple xs) = .ok (.list xs) := rfl
theorem dictOf_list (c : Nat → Int) : gDictOf (.list (encL (pol c))) = .ok (.dict (kd (sup c) fun i => .int (c i))) := by
  have e : gDictOf (.list (encL (pol c))) = gDictOf (enc c) := rfl
  rw [e, dictOf_enc]
theorem st_45 : lw_1b_4b_5 (en4 sc ds c d w x2 x7 x10 x11 x12 x13 x14 x15) = .next (en4 sc ds c d w x2 x7 x10 (.val (dT c d)) x12 x13 x14 x15) := by
  unfold lw_1b_4b_5
  refine (ev_asg (d := dT c d) ?_).trans rfl
  obtain ⟨D, e1, l, e2, e3⟩ := sorted_both (c := c) (d := d)
  have e4 : (fLc (fItA (fA (g1 gSortedB) (fCons (fA (g1 gListA) (fCons (fA (g1 gDictOf) (fCons (fA (g1 gListA) (fCons (f2 gAdd (fVar 3) (fVar 4)) fNil)) fNil)) fNil)) fNil))) (gN 17) fYes (fTup (fCons (fVar 17) (fCons (fTup (fCons (fGet2 (fA (g1 gDictOf) (fCons (fA (g1 gListA) (fCons (fVar 3) fNil)) fNil)) (fVar 17) (fC (.int 0))) (fCons (fGet2 (fA (g1 gDictOf) (fCons (fA (g1 gListA) (fCons (fVar 4) fNil)) fNil)) (fVar 17) (fC (.int 0))) fNil))) fNil))) [17]) (en4 sc ds c d w x2 x7 x10 x11 x12 x13 x14 x15) = .ok (.list ((uU c d).map fun i => .tuple [tm i, .tuple [.int (c i), .int (d i)]])) := by
    refine ev_lc (items := (uU c d).map tm) ?_ ?_
    · have v3 : fVar 3 (en4 sc ds c d w x2 x7 x10 x11 x12 x13 x14 x15) = .ok (enc c) := rfl
      have v4 : fVar 4 (en4 sc ds c d w x2 x7 x10 x11 x12 x13 x14 x15) = .ok (enc d) := rfl
      simp only [ev_fItA, ev_fA, ev_fCons, ev_f2, v3, v4, bindOk, add_encs, ev_fNil, ev_g1, listA_tup, e1, e2, e3]
      rfl
    · refine lcD_mapx tm (fun i => .tuple [tm i, .tuple [.int (c i), .int (d i)]]) fun i hi => ⟨(en4 sc ds c d w x2 x7 x10 x11 x12 x13 x14 x15).set 17 (.val (tm i)), rfl, ?_⟩
      have hi27 := lt_uU i hi
      have v3 : fVar 3 ((en4 sc ds c d w x2 x7 x10 x11 x12 x13 x14 x15).set 17 (.val (tm i))) = .ok (enc c) := rfl
      have v4 : fVar 4 ((en4 sc ds c d w x2 x7 x10 x11 x12 x13 x14 x15).set 17 (.val (tm i))) = .ok (enc d) := rfl
      have v17 : fVar 17 ((en4 sc ds c d w x2 x7 x10 x11 x12 x13 x14 x15).set 17 (.val (tm i))) = .ok (tm i) := rfl
      have le : ∀ c : Nat → Int, gListA (enc c) = .ok (.list (encL (pol c))) := fun _ => rfl
      have g3 := get2_sup (fo := (fA (g1 gDictOf) (fCons (fA (g1 gListA) (fCons (fVar 3) fNil)) fNil))) (fk := fVar 17) (fz := fC (.int 0)) (c := c) hi27 (by simp only [ev_fA, ev_fCons, v3, bindOk, ev_fNil, ev_g1, le, dictOf_list]) v17 rfl
      have g4 := get2_sup (fo := (fA (g1 gDictOf) (fCons (fA (g1 gListA) (fCons (fVar 4) fNil)) fNil))) (fk := fVar 17) (fz := fC (.int 0)) (c := d) hi27 (by simp only [ev_fA, ev_fCons, v4, bindOk, ev_fNil, ev_g1, le, dictOf_list]) v17 rfl
      have hs : (2 : Nat) ≤ sizeLine := by rw [sizeLine_eq]; decide
      simp only [fTup, ev_fCons, ev_fNil, g3, g4, v17, bindOk, List.length_cons, List.length_nil, hs, if_true]
  rw [ev_fA, ev_fCons, e4]
  have e5 : (uU c d).map (fun i => PyData.tuple [tm i, .tuple [.int (c i), .int (d i)]]) = ((uU c d).map fun i => (i, PyData.tuple [.int (c i), .int (d i)])).map fun p => .tuple [tm p.1, p.2] := by
    rw [List.map_map]; rfl
  have e6 : ((uU c d).map fun i => (i, PyData.tuple [.int (c i), .int (d i)])).map (fun p => (tm p.1, p.2)) = kd (uU c d) fun i => .tuple [.int (c i), .int (d i)] := by
    rw [List.map_map]; rfl
  simp only [bindOk, ev_fNil, ev_g1]
  rw [e5, dictOf_ix (mk := .list) (fun p hp => ?_) (.inl rfl), e6, dmake_kd lt_uU nd_uU]
  · rfl
  · obtain ⟨i, hi, rfl⟩ := List.mem_map.mp hp
    exact lt_uU i hi
theorem again (b : Bool) (m : List Int → Option Int) (hm : ∀ a e, m [a, e] = some (if b = true then min a e else max a e)) : (fA (g1 gTuple) (fCons (fLc (fItA (fA (g1 gSortedB) (fCons (fVar 11) fNil))) (gN 17) (fB (f2 gNe (fA (gMM m) (fCons (f2 gIxA (fVar 11) (fVar 17)) fNil)) (fC (.int 0)))) (fTup (fCons (fVar 17) (fCons (fA (gMM m) (fCons (f2 gIxA (fVar 11) (fVar 17)) fNil)) fNil))) [17]) fNil)) (en4 sc ds c d w x2 x7 x10 (.val (dT c d)) x12 x13 x14 x15) = .ok (enc (mmx b c d)) := by
  have e4 : (fLc (fItA (fA (g1 gSortedB) (fCons (fVar 11) fNil))) (gN 17) (fB (f2 gNe (fA (gMM m) (fCons (f2 gIxA (fVar 11) (fVar 17)) fNil)) (fC (.int 0)))) (fTup (fCons (fVar 17) (fCons (fA (gMM m) (fCons (f2 gIxA (fVar 11) (fVar 17)) fNil)) fNil))) [17]) (en4 sc ds c d w x2 x7 x10 (.val (dT c d)) x12 x13 x14 x15) = .ok (.list (((uU c d).filter fun i => decide (mmx b c d i ≠ 0)).map fun i => pr i (.int (mmx b c d i)))) := by
    refine ev_lc (items := (uU c d).map tm) ?_ ?_
    · have v11 : fVar 11 (en4 sc ds c d w x2 x7 x10 (.val (dT c d)) x12 x13 x14 x15) = .ok (dT c d) := rfl
      have es : gSortedB (dT c d) = .ok (.list ((uU c d).map tm)) := by
        unfold dT
        rw [sorted_dict lt_uU nd_uU]
        unfold uU
        rw [up_up]
      simp only [ev_fItA, ev_fA, ev_fCons, v11, bindOk, ev_fNil, ev_g1, es]
      rfl
    · refine lcD_ifx tm (fun i => pr i (.int (mmx b c d i))) (fun i => decide (mmx b c d i ≠ 0)) fun i hi => ⟨(en4 sc ds c d w x2 x7 x10 (.val (dT c d)) x12 x13 x14 x15).set 17 (.val (tm i)), rfl, ?_⟩
      have v11 : fVar 11 ((en4 sc ds c d w x2 x7 x10 (.val (dT c d)) x12 x13 x14 x15).set 17 (.val (tm i))) = .ok (dT c d) := rfl
      have v17 : fVar 17 ((en4 sc ds c d w x2 x7 x10 (.val (dT c d)) x12 x13 x14 x15).set 17 (.val (tm i))) = .ok (tm i) := rfl
      have g : gIxA (dT c d) (tm i) = .ok (.tuple [.int (c i), .int (d i)]) := get_kd lt_uU hi
      have mm : gMM m [.tuple [.int (c i), .int (d i)]] = .ok (.int (mmx b c d i)) := by
        simp [gMM, intsD, hm, mmx]
      have hs : (2 : Nat) ≤ sizeLine := by rw [sizeLine_eq]; decide
      refine ⟨?_, fun _ => ?_⟩
      · simp only [ev_fB, ev_f2, ev_fA, ev_fCons, v11, v17, bindOk, ev_fNil, g, mm, ev_fC, ev_neI, ev_boolD]
        simp
      · simp only [fTup, ev_f2, ev_fA, ev_fCons, v11, v17, bindOk, ev_fNil, g, mm, List.length_cons, List.length_nil, hs, if_true]
        rfl
  rw [ev_fA, ev_fCons, e4]
  have ec : enc (mmx b c d) = enc (cut (sup c ++ sup d) (mmx b c d)) := enc_congr fun i hi => by
    unfold cut
    by_cases h : i ∈ sup c ++ sup d
    · rw [if_pos h]
    · rw [if_neg h]
      rw [List.mem_append] at h
      have hc : c i = 0 := Classical.not_not.mp fun k => h (.inl (mem_sup.mpr ⟨hi, k⟩))
      have hd : d i = 0 := Classical.not_not.mp fun k => h (.inr (mem_sup.mpr ⟨hi, k⟩))
      unfold mmx
      rw [hc, hd]
      cases b <;> rfl
  rw [ec, enc_cut]
  rfl
theorem st_46 : lw_1b_4b_6 (en4 sc ds c d w x2 x7 x10 (.val (dT c d)) x12 x13 x14 x15) = .next (en4 sc ds c d w x2 x7 x10 (.val (dT c d)) x12 x13 x14 x15) := by
  unfold lw_1b_4b_6
  refine (ev_sIf_f ?_).trans rfl
  have v : fVar 5 (en4 sc ds c d w x2 x7 x10 (.val (dT c d)) x12 x13 x14 x15) = .ok (enc (mmx true c d)) := rfl
  rw [ev_fB, ev_f2, v, again true minI fun a e => by rw [min_two]; rfl]
  simp only [bindOk, ne_self (shaped_enc _), ev_boolD]
theorem st_47 : lw_1b_4b_7 (en4 sc ds c d w x2 x7 x10 (.val (dT c d)) x12 x13 x14 x15) = .next (en4 sc ds c d w x2 x7 x10 (.val (dT c d)) x12 x13 x14 x15) := by
  unfold lw_1b_4b_7
  refine (ev_sIf_f ?_).trans rfl
  have v : fVar 6 (en4 sc ds c d w x2 x7 x10 (.val (dT c d)) x12 x13 x14 x15) = .ok (enc (mmx false c d)) := rfl
  rw [ev_fB, ev_f2, v, again false maxI fun a e => by rw [max_two]; rfl]
  simp only [bindOk, ne_self (shaped_enc _), ev_boolD]
/-- the inner loop -/
def en3 (sc : PyData) (ds : List Int) (c d : Nat → Int) (x2 x7 x8 x9 x10 x11 x12 x13 x14 x15 : Sl) : DEnv := en sc ds x2 (.val (enc c)) (.val (enc d)) (.val (enc (mmx true c d))) (.val (enc (mmx false c d))) x7 x8 x9 x10 x11 x12 x13 x14 x15
theorem st_4 (hl : ds.length = 300) {t : Nat} (ht : t < 8) (hc : Small c) (hd : Small d) : Runs lw_1b_4 (en3 sc ds c d (.val (.int (t : Int))) x7 x8 x9 x10 x11 x12 x13 x14 x15) fun ρ => ∃ y7 y8 y9 y10 y11, ρ = en3 sc ds c d (.val (.int (t : Int))) y7 y8 y9 y10 y11 x12 x13 x14 x15 := by
  unfold lw_1b_4
  refine runs_for (items := rangeD 0 8) rfl (fun _ ρ => ∃ y7 y8 y9 y10 y11, ρ = en3 sc ds c d (.val (.int (t : Int))) y7 y8 y9 y10 y11 x12 x13 x14 x15) (fun n e ρ he hρ => ?_) ⟨_, _, _, _, _, rfl⟩ fun ρ h => h
  obtain ⟨y7, y8, y9, y10, y11, rfl⟩ := hρ
  obtain ⟨rfl, hn⟩ := rangeD_get he
  refine ⟨en3 sc ds c d (.val (.int (t : Int))) (.val (.int (n : Int))) y8 y9 y10 y11 x12 x13 x14 x15, by rw [Int.zero_add]; rfl, ?_⟩
  obtain ⟨w, hw, e0⟩ := st_40 (sc := sc) (x3 := .val (enc c)) (x4 := .val (enc d)) (x5 := .val (enc (mmx true c d))) (x6 := .val (enc (mmx false c d))) (x8 := y8) (x9 := y9) (x10 := y10) (x11 := y11) (x12 := x12) (x13 := x13) (x14 := x14) (x15 := x15) hl ht (k := n) (by omega)
  unfold lw_1b_4b
  refine runs_step e0 (runs_step st_41 ?_)
  show Runs _ (en4 sc ds c d w (.val (.int (t : Int))) (.val (.int (n : Int))) y10 y11 x12 x13 x14 x15) _
  refine runs_step (st_42 hw hc hd) (runs_step (st_43 hw hc hd) (runs_step (st_44 hw) (runs_step st_45 (runs_step st_46 (runs_of st_47 ⟨_, _, _, _, _, rfl⟩)))))
end
end DL
namespace DL
open PySem PySem.Spec PyProof.Rows L2
variable [TheW]
section
variable {sc : PyData} {ds : List Int} {x2 x3 x4 x5 x6 x7 x8 x9 x10 x11 x12 x13 x14 x15 : Sl} {c d w : Nat → Int}
theorem pol_len (c : Nat → Int) : (pol c).length = (sup c).length := by unfold pol; rw [List.length_map]
theorem len_enc (c : Nat → Int) : gLen (enc c) = .ok (.int ((pol c).length : Nat)) := by
  show R.ok (PyData.int ((encL (pol c)).length : Nat)) = _
  unfold encL
  rw [List.length_map]
theorem st_5 (hl : ds.length = 300) (h0 : ∀ d ∈ ds, (0 : Int) ≤ d) {t : Nat} (ht : t < 8) : ∃ a : Nat, a ≤ (pol c).length ∧ lw_1b_5 (en3 sc ds c d (.val (.int (t : Int))) x7 x8 x9 x10 x11 x12 x13 x14 x15) = .next (en3 sc ds c d (.val (.int (t : Int))) x7 x8 x9 x10 x11 (.val (.int (a : Int))) x13 x14 x15) := by
  have hpos : 0 < max (1 : Int) ((pol c).length : Nat) := by omega
  refine ⟨(ds.getD (200 + t) 0 % max (1 : Int) ((pol c).length : Nat)).toNat, ?_, ?_⟩
  · have h1 := Int.emod_lt_of_pos (ds.getD (200 + t) 0) hpos
    have h2 := Int.emod_nonneg (ds.getD (200 + t) 0) (Int.ne_of_gt hpos)
    omega
  · unfold lw_1b_5
    refine (ev_asg (d := .int (ds.getD (200 + t) 0 % max (1 : Int) ((pol c).length : Nat))) ?_).trans ?_
    · have v1 : fVar 1 (en3 sc ds c d (.val (.int (t : Int))) x7 x8 x9 x10 x11 x12 x13 x14 x15) = .ok (.list (dInts ds)) := rfl
      have v2 : fVar 2 (en3 sc ds c d (.val (.int (t : Int))) x7 x8 x9 x10 x11 x12 x13 x14 x15) = .ok (.int (t : Int)) := rfl
      have v3 : fVar 3 (en3 sc ds c d (.val (.int (t : Int))) x7 x8 x9 x10 x11 x12 x13 x14 x15) = .ok (enc c) := rfl
      have ei : gIxA (.list (dInts ds)) (.int (200 + (t : Int))) = .ok (.int (ds.getD (200 + t) 0)) := by
        rw [show (200 + (t : Int)) = ((200 + t : Nat) : Int) by omega]
        exact ix_ints (by omega)
      have mx : gMM maxI [.int 1, .int ((pol c).length : Nat)] = .ok (.int (max (1 : Int) ((pol c).length : Nat))) := by
        show R.of ((maxI [1, _]).map PyData.int) = _
        rw [max_two]
        rfl
      simp only [ev_f2, ev_fA, ev_fCons, ev_fC, v1, v2, v3, bindOk, ev_add, ei, ev_fNil, ev_g1, ev_int, len_enc, mx, ev_mod hpos]
    · have h2 := Int.emod_nonneg (ds.getD (200 + t) 0) (Int.ne_of_gt hpos)
      rw [Int.toNat_of_nonneg h2]
      rfl
theorem st_6 : lw_1b_6 (en3 sc ds c d x2 x7 x8 x9 x10 x11 x12 x13 x14 x15) = .next (en3 sc ds c d x2 x7 x8 x9 x10 x11 x12 (.val (.list (news.take 7))) x14 x15) := by kernel_rfl
theorem st_7 : lw_1b_7 (en3 sc ds c d x2 x7 x8 x9 x10 x11 x12 (.val (.list (news.take 7))) x14 x15) = .next (en3 sc ds c d x2 x7 x8 x9 x10 x11 x12 (.val (.list news)) x14 x15) := by kernel_rfl
theorem good_sub {p q : List (Nat × Int)} (hp : GoodP p) (h : ∀ x ∈ q, x ∈ p) : GoodP q := fun x hx => hp x (h x hx)
theorem fault_take (c : Nat → Int) (a : Nat) : faultN none 0 ((pol c).take a) = none := by
  refine faultN_none _ _ ?_
  rw [List.map_take, map_pol]
  exact (sup_lt c).sublist (List.take_sublist _ _)
theorem encL_take (p : List (Nat × Int)) (a : Nat) : (encL p).take a = encL (p.take a) := by unfold encL; rw [List.map_take]
theorem encL_drop (p : List (Nat × Int)) (a : Nat) : (encL p).drop a = encL (p.drop a) := by unfold encL; rw [List.map_drop]
theorem shaped_pair (n : Nat) : SeqAt.shaped (pairF n) = true := by kernel_rfl
def bentD (c : Nat → Int) (a : Nat) (x : PyData) : PyData := .tuple (encL ((pol c).take a) ++ x :: encL ((pol c).drop (a + 1)))
theorem pol_27 (c : Nat → Int) : (pol c).length ≤ 27 := by rw [pol_len]; exact sup_len c
theorem encL_len (p : List (Nat × Int)) : (encL p).length = p.length := by unfold encL; rw [List.length_map]
theorem add_tup {xs ys : List PyData} (h : xs.length + ys.length ≤ 16777216) : gAdd (.tuple xs) (.tuple ys) = .ok (.tuple (xs ++ ys)) := by
  show (if xs.length + ys.length ≤ sizeLine then R.ok (PyData.tuple (xs ++ ys)) else .bad) = _
  rw [if_pos (by rw [sizeLine_eq]; exact h)]
theorem st_80 {a : Nat} {x : PyData} (ha : a ≤ (pol c).length) : lw_1b_8b_0 (en3 sc ds c d x2 x7 x8 x9 x10 x11 (.val (.int (a : Int))) x13 (.val x) x15) = .next (en3 sc ds c d x2 x7 x8 x9 x10 x11 (.val (.int (a : Int))) x13 (.val x) (.val (bentD c a x))) := by
  unfold lw_1b_8b_0
  refine (ev_asg (d := bentD c a x) ?_).trans rfl
  generalize hE : en3 sc ds c d x2 x7 x8 x9 x10 x11 (.val (.int (a : Int))) x13 (.val x) x15 = ρ
  have v3 : fVar 3 ρ = .ok (.tuple (encL (pol c))) := by rw [← hE]; rfl
  have v12 : fVar 12 ρ = .ok (.int (a : Int)) := by rw [← hE]; rfl
  have v14 : fVar 14 ρ = .ok x := by rw [← hE]; rfl
  have e1 : fSl (fVar 3) fNo (fPart (fVar 12)) ρ = .ok (.tuple (encL ((pol c).take a))) := by
    unfold fSl fPart
    rw [v3, v12]
    show R.ok (PyData.tuple (cutL (encL (pol c)) none (some (a : Int)))) = _
    rw [cut_take, encL_take]
  have e2 : fSl (fVar 3) (fPart (f2 gAdd (fVar 12) (fC (.int 1)))) fNo ρ = .ok (.tuple (encL ((pol c).drop (a + 1)))) := by
    unfold fSl fPart
    rw [ev_f2, v3, v12]
    show R.ok (PyData.tuple (cutL (encL (pol c)) (some ((a : Int) + 1)) none)) = _
    rw [show ((a : Int) + 1) = ((a + 1 : Nat) : Int) by omega, cut_drop, encL_drop]
  have e3 : fTup (fCons (fVar 14) fNil) ρ = .ok (.tuple [x]) := by
    have hs : (1 : Nat) ≤ sizeLine := by rw [sizeLine_eq]; decide
    simp only [fTup, ev_fCons, v14, bindOk, ev_fNil, List.length_cons, List.length_nil, hs, if_true]
  have h27 := pol_27 c
  have l1 : ((pol c).take a).length ≤ 27 := by rw [List.length_take]; omega
  have l2 : ((pol c).drop (a + 1)).length ≤ 27 := by rw [List.length_drop]; omega
  rw [ev_f2, ev_f2, e1, e2, e3]
  simp only [bindOk]
  rw [add_tup (by rw [encL_len]; simp; omega), bindOk, add_tup (by rw [List.length_append, encL_len, encL_len]; simp; omega)]
  unfold bentD
  simp
theorem bent_pf {a : Nat} {x : PyData} (ha : a ≤ (pol c).length) (hx : BadI x) : polynomial_fault [bentD c a x] = .ok (pairF a) ∧ _law_fault [bentD c a x] = .ok (pairF a) := by
  have hg : GoodP ((pol c).take a) := good_sub (good_pol c) fun y hy => List.mem_of_mem_take hy
  have hlen : ((pol c).take a).length = a := by rw [List.length_take]; omega
  have h27 := pol_27 c
  unfold bentD
  rw [pf_bad hg (fault_take c a) hx, lf_bad hg (fault_take c a) hx (by rw [encL_len, List.length_drop]; omega), hlen]
  exact ⟨rfl, rfl⟩
theorem lx4 {a : Nat} {x : PyData} (h1 : polynomial_fault [bentD c a x] = .ok (pairF a)) : (fLc (fRange1 (fCons (fC (.int 4)) fNil)) (gN 22) fYes (fA _law_told (fCons (fVar 22) (fCons (fVar 15) (fCons (fTup fNil) fNil)))) [22]) (en3 sc ds c d x2 x7 x8 x9 x10 x11 x12 x13 x14 (.val (bentD c a x))) = .ok (.list ([0, 1, 2, 3].map fun _ : Nat => .str "polynomial")) := by
    refine ev_lc (items := [0, 1, 2, 3].map fun k => .int ((k : Nat) : Int)) rfl ?_
    refine lcD_mapx (fun k => .int ((k : Nat) : Int)) (fun _ => .str "polynomial") fun k hk => ⟨(en3 sc ds c d x2 x7 x8 x9 x10 x11 x12 x13 x14 (.val (bentD c a x))).set 22 (.val (.int (k : Int))), rfl, ?_⟩
    have w15 : fVar 15 ((en3 sc ds c d x2 x7 x8 x9 x10 x11 x12 x13 x14 (.val (bentD c a x))).set 22 (.val (.int (k : Int)))) = .ok (bentD c a x) := rfl
    have w22 : fVar 22 ((en3 sc ds c d x2 x7 x8 x9 x10 x11 x12 x13 x14 (.val (bentD c a x))).set 22 (.val (.int (k : Int)))) = .ok (.int (k : Int)) := rfl
    have wt : fTup fNil ((en3 sc ds c d x2 x7 x8 x9 x10 x11 x12 x13 x14 (.val (bentD c a x))).set 22 (.val (.int (k : Int)))) = .ok (.tuple []) := rfl
    have hk4 : k < 4 := by
      simp only [List.mem_cons, List.not_mem_nil, or_false] at hk
      omega
    simp only [ev_fA, ev_fCons, w22, w15, wt, ev_fNil, bindOk]
    exact told_bad h1 k hk4
theorem lx5 {a : Nat} {x : PyData} : (fRep (fCons (fC (.str "polynomial")) fNil) (fC (.int 4))) (en3 sc ds c d x2 x7 x8 x9 x10 x11 x12 x13 x14 (.val (bentD c a x))) = .ok (.list ([0, 1, 2, 3].map fun _ : Nat => .str "polynomial")) := by
    have hs1 : (1 : Nat) ≤ sizeLine := by rw [sizeLine_eq]; decide
    have hs4 : (1 : Nat) * (4 : Int).toNat ≤ sizeLine := by rw [sizeLine_eq]; decide
    unfold fRep
    simp only [ev_fCons, ev_fC, bindOk, ev_fNil, List.length_cons, List.length_nil]
    rw [if_pos hs1, if_pos ⟨by decide, hs4⟩]
    rfl
theorem lxh : SeqAt.shaped (.list ([0, 1, 2, 3].map fun _ : Nat => .str "polynomial")) = true := by kernel_rfl
theorem st_81 {a : Nat} {x : PyData} (ha : a ≤ (pol c).length) (hx : BadI x) : lw_1b_8b_1 (en3 sc ds c d x2 x7 x8 x9 x10 x11 x12 x13 x14 (.val (bentD c a x))) = .next (en3 sc ds c d x2 x7 x8 x9 x10 x11 x12 x13 x14 (.val (bentD c a x))) := by
  obtain ⟨h1, h2⟩ := bent_pf (c := c) ha hx
  unfold lw_1b_8b_1
  refine (ev_sIf_f ?_).trans rfl
  have v15 : fVar 15 (en3 sc ds c d x2 x7 x8 x9 x10 x11 x12 x13 x14 (.val (bentD c a x))) = .ok (bentD c a x) := rfl
  have en0 : gIsN (pairF a) .none = .ok (.bool false) := rfl
  have e4 := lx4 (sc := sc) (ds := ds) (c := c) (d := d) (x2 := x2) (x7 := x7) (x8 := x8) (x9 := x9) (x10 := x10) (x11 := x11) (x12 := x12) (x13 := x13) (x14 := x14) (a := a) (x := x) h1
  have e5 := lx5 (sc := sc) (ds := ds) (c := c) (d := d) (x2 := x2) (x7 := x7) (x8 := x8) (x9 := x9) (x10 := x10) (x11 := x11) (x12 := x12) (x13 := x13) (x14 := x14) (a := a) (x := x)
  have hs := lxh
  generalize hE : en3 sc ds c d x2 x7 x8 x9 x10 x11 x12 x13 x14 (.val (bentD c a x)) = ρ at v15 e4 e5 ⊢
  have a1 : (fCons (fVar 15) fNil) ρ = .ok [bentD c a x] := by rw [ev_fCons, v15, bindOk, ev_fNil, bindOk]
  have a2 : fA polynomial_fault (fCons (fVar 15) fNil) ρ = .ok (pairF a) := by rw [ev_fA, a1, bindOk, h1]
  have a3 : fA _law_fault (fCons (fVar 15) fNil) ρ = .ok (pairF a) := by rw [ev_fA, a1, bindOk, h2]
  rw [ev_fOr, ev_fB, ev_f2, a2, bindOk, a3, bindOk, ne_self (shaped_pair a), bindOk, ev_boolD, bindOk, if_neg (by decide), ev_fOr, ev_fB, ev_f2, a3, bindOk, ev_fC, bindOk, en0, bindOk, ev_boolD, bindOk, if_neg (by decide), ev_fB, ev_f2, e4, bindOk, e5, bindOk, ne_self hs, bindOk, ev_boolD]
theorem st_8 {a : Nat} (ha : a ≤ (pol c).length) : Runs lw_1b_8 (en3 sc ds c d x2 x7 x8 x9 x10 x11 (.val (.int (a : Int))) (.val (.list news)) x14 x15) fun ρ => ∃ y14 y15, ρ = en3 sc ds c d x2 x7 x8 x9 x10 x11 (.val (.int (a : Int))) (.val (.list news)) y14 y15 := by
  unfold lw_1b_8
  refine runs_for (items := news) rfl (fun _ ρ => ∃ y14 y15, ρ = en3 sc ds c d x2 x7 x8 x9 x10 x11 (.val (.int (a : Int))) (.val (.list news)) y14 y15) (fun n x ρ hx hρ => ?_) ⟨_, _, rfl⟩ fun ρ h => h
  obtain ⟨y14, y15, rfl⟩ := hρ
  have hb := news_bad x (List.mem_of_getElem? hx)
  exact ⟨_, rfl, runs_step (st_80 ha) (runs_of (st_81 ha hb) ⟨_, _, rfl⟩)⟩
theorem shaped_fault (o : Option Nat) : SeqAt.shaped (faultD o) = true := by
  cases o with
  | none => kernel_rfl
  | some n => exact shaped_pair n
theorem both_good {p : List (Nat × Int)} (hp : GoodP p) (hz : p.length ≤ 1000) : ∃ r, polynomial_fault [.tuple (encL p)] = .ok r ∧ _law_fault [.tuple (encL p)] = .ok r ∧ SeqAt.shaped r = true := ⟨_, pf_good hp, lf_good hp hz, shaped_fault _⟩
theorem both_list (xs : List PyData) : ∃ r, polynomial_fault [.list xs] = .ok r ∧ _law_fault [.list xs] = .ok r ∧ SeqAt.shaped r = true := ⟨.tuple [.str "form"], by kernel_rfl, by kernel_rfl, by kernel_rfl⟩
theorem both_none : ∃ r, polynomial_fault [.none] = .ok r ∧ _law_fault [.none] = .ok r ∧ SeqAt.shaped r = true := ⟨.tuple [.str "form"], by kernel_rfl, by kernel_rfl, by kernel_rfl⟩
theorem st_9 : Runs lw_1b_9 (en3 sc ds c d x2 x7 x8 x9 x10 x11 x12 x13 x14 x15) fun ρ => ∃ y15, ρ = en3 sc ds c d x2 x7 x8 x9 x10 x11 x12 x13 x14 y15 := by
  have h27 := pol_27 c
  have hr : encL (pol c).reverse = (encL (pol c)).reverse := by unfold encL; rw [List.map_reverse]
  have ha : encL (pol c ++ (pol c).take 1) = encL (pol c) ++ encL ((pol c).take 1) := by unfold encL; rw [List.map_append]
  have it : (fItA (fTup (fCons (f1 gRev (fVar 3)) (fCons (f2 gAdd (fVar 3) (fSl (fVar 3) fNo (fPart (fC (.int 1))))) (fCons (fA (g1 gListA) (fCons (fVar 3) fNil)) (fCons (fC .none) (fCons (fSl (fVar 3) (fPart (fC (.int 1))) fNo) fNil))))))) (en3 sc ds c d x2 x7 x8 x9 x10 x11 x12 x13 x14 x15) = .ok [.tuple (encL (pol c).reverse), .tuple (encL (pol c ++ (pol c).take 1)), .list (encL (pol c)), .none, .tuple (encL ((pol c).drop 1))] := by
    generalize hE : en3 sc ds c d x2 x7 x8 x9 x10 x11 x12 x13 x14 x15 = ρ
    have v3 : fVar 3 ρ = .ok (.tuple (encL (pol c))) := by rw [← hE]; rfl
    have e1 : fSl (fVar 3) fNo (fPart (fC (.int 1))) ρ = .ok (.tuple (encL ((pol c).take 1))) := by
      unfold fSl fPart
      rw [v3]
      show R.ok (PyData.tuple (cutL (encL (pol c)) none (some ((1 : Nat) : Int)))) = _
      rw [cut_take, encL_take]
    have e2 : fSl (fVar 3) (fPart (fC (.int 1))) fNo ρ = .ok (.tuple (encL ((pol c).drop 1))) := by
      unfold fSl fPart
      rw [v3]
      show R.ok (PyData.tuple (cutL (encL (pol c)) (some ((1 : Nat) : Int)) none)) = _
      rw [cut_drop, encL_drop]
    have hs : (5 : Nat) ≤ sizeLine := by rw [sizeLine_eq]; decide
    have l1 : ((pol c).take 1).length ≤ 1 := by rw [List.length_take]; omega
    have er : gRev (.tuple (encL (pol c))) = .ok (.tuple (encL (pol c).reverse)) := by rw [hr]; rfl
    have ea : gAdd (.tuple (encL (pol c))) (.tuple (encL ((pol c).take 1))) = .ok (.tuple (encL (pol c ++ (pol c).take 1))) := by
      rw [add_tup (by rw [encL_len, encL_len]; omega), ha]
    simp only [ev_fItA, fTup, ev_fCons, ev_f1, ev_f2, ev_fA, v3, e1, e2, bindOk, er, ea, ev_fNil, ev_g1, listA_tup, ev_fC, List.length_cons, List.length_nil, hs, if_true]
    rfl
  unfold lw_1b_9
  refine runs_for it (fun _ ρ => ∃ y15, ρ = en3 sc ds c d x2 x7 x8 x9 x10 x11 x12 x13 x14 y15) (fun n x ρ hx hρ => ?_) ⟨_, rfl⟩ fun ρ h => h
  obtain ⟨y15, rfl⟩ := hρ
  have hx := List.mem_of_getElem? hx
  have hb : ∃ r, polynomial_fault [x] = .ok r ∧ _law_fault [x] = .ok r ∧ SeqAt.shaped r = true := by
    simp only [List.mem_cons, List.not_mem_nil, or_false] at hx
    have hp := good_pol c
    rcases hx with rfl | rfl | rfl | rfl | rfl
    · exact both_good (good_sub hp fun y hy => List.mem_reverse.mp hy) (by rw [List.length_reverse]; omega)
    · exact both_good (good_sub hp fun y hy => (List.mem_append.mp hy).elim id fun h => List.mem_of_mem_take h) (by rw [List.length_append, List.length_take]; omega)
    · exact both_list _
    · exact both_none
    · exact both_good (good_sub hp fun y hy => List.mem_of_mem_drop hy) (by rw [List.length_drop]; omega)
  obtain ⟨r, r1, r2, r3⟩ := hb
  refine ⟨en3 sc ds c d x2 x7 x8 x9 x10 x11 x12 x13 x14 (.val x), rfl, ?_⟩
  unfold lw_1b_9b lw_1b_9b_0
  refine runs_f ?_ (runs_skip ⟨_, rfl⟩)
  have v15 : fVar 15 (en3 sc ds c d x2 x7 x8 x9 x10 x11 x12 x13 x14 (.val x)) = .ok x := rfl
  simp only [ev_fB, ev_f2, ev_fA, ev_fCons, v15, bindOk, ev_fNil, r1, r2, ne_self r3, ev_boolD]
theorem turn_of (hl : ds.length = 300) (h0 : ∀ d ∈ ds, (0 : Int) ≤ d) {t : Nat} (ht : t < 8) : Runs lw_1b (en sc ds (.val (.int (t : Int))) x3 x4 x5 x6 x7 x8 x9 x10 x11 x12 x13 x14 x15) fun ρ => ∃ y2 y3 y4 y5 y6 y7 y8 y9 y10 y11 y12 y13 y14 y15, ρ = en sc ds y2 y3 y4 y5 y6 y7 y8 y9 y10 y11 y12 y13 y14 y15 := by
  obtain ⟨c, d, hc, hd, e0⟩ := st_0 (sc := sc) (x3 := x3) (x4 := x4) (x5 := x5) (x6 := x6) (x7 := x7) (x8 := x8) (x9 := x9) (x10 := x10) (x11 := x11) (x12 := x12) (x13 := x13) (x14 := x14) (x15 := x15) hl h0 ht
  unfold lw_1b
  refine runs_step e0 (runs_step st_1 (runs_step st_2 (runs_step st_3 ?_)))
  refine runs_seq (st_4 hl ht hc hd) fun ρ hρ => ?_
  obtain ⟨y7, y8, y9, y10, y11, rfl⟩ := hρ
  obtain ⟨a, ha, e5⟩ := st_5 (sc := sc) (c := c) (d := d) (x7 := y7) (x8 := y8) (x9 := y9) (x10 := y10) (x11 := y11) (x12 := x12) (x13 := x13) (x14 := x14) (x15 := x15) hl h0 ht
  refine runs_step e5 (runs_step st_6 (runs_step st_7 (runs_seq (st_8 ha) fun ρ hρ => ?_)))
  obtain ⟨y14, y15, rfl⟩ := hρ
  refine runs_mono st_9 fun ρ hρ => ?_
  obtain ⟨y15, rfl⟩ := hρ
  exact ⟨_, _, _, _, _, _, _, _, _, _, _, _, _, _, rfl⟩
end
theorem last_of (sc : PyData) (ds : List Int) (x2 x3 x4 x5 x6 x7 x8 x9 x10 x11 x12 x13 x14 x15 : Sl) : (sSeq lw_2 (sSeq lw_3 (sSeq lw_4 lw_5))) (en sc ds x2 x3 x4 x5 x6 x7 x8 x9 x10 x11 x12 x13 x14 x15) = .ret (.bool true) := by kernel_rfl
theorem law_true : ∀ ns : List Int, ns.length ≤ 63 → retD (b_law (startE 24 [.list (ns.map .int)])) = .ok (.bool true) := by
  intro ns hn
  obtain ⟨ds, hl, h0, ed⟩ := draws_of ns hn
  rw [lw_eq]
  refine retD_of ?_
  unfold lw
  refine rets_step (ρ1 := en (.list (dInts ns)) ds .un .un .un .un .un .un .un .un .un .un .un .un .un .un) ?_ ?_
  · unfold lw_0
    refine (ev_asg (d := .list (dInts ds)) ?_).trans rfl
    exact ed
  · refine rets_seq (P := fun ρ => ∃ y2 y3 y4 y5 y6 y7 y8 y9 y10 y11 y12 y13 y14 y15, ρ = en (.list (dInts ns)) ds y2 y3 y4 y5 y6 y7 y8 y9 y10 y11 y12 y13 y14 y15) ?_ fun ρ hρ => ?_
    · unfold lw_1
      refine runs_for (items := rangeD 0 8) rfl (fun _ ρ => ∃ y2 y3 y4 y5 y6 y7 y8 y9 y10 y11 y12 y13 y14 y15, ρ = en (.list (dInts ns)) ds y2 y3 y4 y5 y6 y7 y8 y9 y10 y11 y12 y13 y14 y15) (fun n e ρ he hρ => ?_) ⟨_, _, _, _, _, _, _, _, _, _, _, _, _, _, rfl⟩ fun ρ h => h
      obtain ⟨y2, y3, y4, y5, y6, y7, y8, y9, y10, y11, y12, y13, y14, y15, rfl⟩ := hρ
      obtain ⟨rfl, hn⟩ := rangeD_get he
      exact ⟨en (.list (dInts ns)) ds (.val (.int (n : Int))) y3 y4 y5 y6 y7 y8 y9 y10 y11 y12 y13 y14 y15, by rw [Int.zero_add]; rfl, turn_of hl h0 (by omega)⟩
    · obtain ⟨y2, y3, y4, y5, y6, y7, y8, y9, y10, y11, y12, y13, y14, y15, rfl⟩ := hρ
      exact ⟨_, last_of _ _ _ _ _ _ _ _ _ _ _ _ _ _ _ _, rfl⟩
end DL
open PySem PySem.W PyProof.Rows
set_option maxRecDepth 100000 in
set_option maxHeartbeats 0 in
theorem PySem.Challenge.cw_sizestold_k64_whole_polynomials_holds : PySem.Challenge.rw_sizestold_k64_whole_polynomials.Holds := by
  w_on; o_law; k_head; (case hw => w_witness2)
  k_fill
  refine L2.walk_of (l := PySem.Challenge.rw_sizestold_k64_whole_polynomials) (n := 63) (k := 8) (x := "script") (CX := fun w => L2.CX PySem.Challenge.pw_sizestold_k64_whole_polynomials w) (sp := fun w => DL.spL _ 63) rfl (by decide) rfl ⟨rfl, by decide, by decide⟩ (fun w h Y => PySem.W.kIn_of Y) ?F (fun _ _ a ns hl _ hS => ⟨a, ns, rfl, hS, hl, fun _ => rfl⟩) (fun _ _ _ _ _ h => by obtain ⟨_, _, _, _, _, _, _, _, _, _, _, _, z⟩ := h; exact z)
  case F =>
    intro w mg fa h KX G hmg
    letI : DL.TheW := ⟨w⟩
    refine (fun (T : DL.Top _ _ mg) => DL.law_mk (k := 7) (N := ["script", "draws", "turn", "one", "other", "less", "more", "k", "worths", "known", "rows", "terms", "at", "news", "new", "bent", "plain", "term", "factor", "name", "j", "own", "call", "wrong"]) (fb := DL.b_law) (by decide) hmg T.d_law DL.sc_law DL.bd_law (DL.w_law T) DL.law_true) { z_abs := ?z_abs, z_all := ?z_all, z_bool := ?z_bool, z_dict := ?z_dict, z_enumerate := ?z_enumerate, z_int := ?z_int, z_isinstance := ?z_isinstance, z_len := ?z_len, z_list := ?z_list, z_max := ?z_max, z_min := ?z_min, z_range := ?z_range, z_set := ?z_set, z_sorted := ?z_sorted, z_str := ?z_str, z_sum := ?z_sum, z_tuple := ?z_tuple, z_zip := ?z_zip, a_Lacks_name := ?a_Lacks_name, c_FIGURES := ?c_FIGURES, c_FORM := ?c_FORM, c_LETTERS := ?c_LETTERS, c_MOST_DEGREE := ?c_MOST_DEGREE, c_MOST_NAME := ?c_MOST_NAME, c_MOST_PAIRS := ?c_MOST_PAIRS, x_BadPolynomial := ?x_BadPolynomial, x_BadWorths := ?x_BadWorths, x_TooMany := ?x_TooMany, l_Lacks := ?l_Lacks, t_BadPolynomial := ?t_BadPolynomial, t_BadWorths := ?t_BadWorths, t_Lacks := ?t_Lacks, d_is_integer := ?d_is_integer, d_is_whole := ?d_is_whole, d_is_name := ?d_is_name, d_are_rows := ?d_are_rows, d_worths_of := ?d_worths_of, d_degree_of_term := ?d_degree_of_term, d__is_term := ?d__is_term, d_polynomial_fault := ?d_polynomial_fault, d_check_polynomial := ?d_check_polynomial, d_made_polynomial := ?d_made_polynomial, d_choose_worth := ?d_choose_worth, d_worth_of_term := ?d_worth_of_term, d_worth_by_polynomial := ?d_worth_by_polynomial, d_polynomial_worth := ?d_polynomial_worth, d_degree_of := ?d_degree_of, d_chosen_of := ?d_chosen_of, d_lesser_of := ?d_lesser_of, d_greater_of := ?d_greater_of, d__law_draws := ?d__law_draws, d__law_choose := ?d__law_choose, d__law_poly_worth := ?d__law_poly_worth, d__law_poly := ?d__law_poly, d__law_is_term := ?d__law_is_term, d__law_fault := ?d__law_fault, d__law_told := ?d__law_told, d_law := ?d_law }
    case z_abs => (refine' PySem.W.mg_none_of KX G ?a; (case a => k_is))
    case z_all => (refine' PySem.W.mg_none_of KX G ?a; (case a => k_is))
    case z_bool => (refine' PySem.W.mg_none_of KX G ?a; (case a => k_is))
    case z_dict => (refine' PySem.W.mg_none_of KX G ?a; (case a => k_is))
    case z_enumerate => (refine' PySem.W.mg_none_of KX G ?a; (case a => k_is))
    case z_int => (refine' PySem.W.mg_none_of KX G ?a; (case a => k_is))
    case z_isinstance => (refine' PySem.W.mg_none_of KX G ?a; (case a => k_is))
    case z_len => (refine' PySem.W.mg_none_of KX G ?a; (case a => k_is))
    case z_list => (refine' PySem.W.mg_none_of KX G ?a; (case a => k_is))
    case z_max => (refine' PySem.W.mg_none_of KX G ?a; (case a => k_is))
    case z_min => (refine' PySem.W.mg_none_of KX G ?a; (case a => k_is))
    case z_range => (refine' PySem.W.mg_none_of KX G ?a; (case a => k_is))
    case z_set => (refine' PySem.W.mg_none_of KX G ?a; (case a => k_is))
    case z_sorted => (refine' PySem.W.mg_none_of KX G ?a; (case a => k_is))
    case z_str => (refine' PySem.W.mg_none_of KX G ?a; (case a => k_is))
    case z_sum => (refine' PySem.W.mg_none_of KX G ?a; (case a => k_is))
    case z_tuple => (refine' PySem.W.mg_none_of KX G ?a; (case a => k_is))
    case z_zip => (refine' PySem.W.mg_none_of KX G ?a; (case a => k_is))
    case a_Lacks_name => (refine' DL.hasA_mk KX G ?a ?b ?c ?s ?d ?e; (case a => k_is); (case b => k_is); (case c => k_is); (case s => k_is); (case d => k_is); (case e => k_is))
    case c_FIGURES => (refine' DL.hasC_str KX G ?a ?z; (case a => k_is); (case z => decide +kernel))
    case c_FORM => (refine' DL.hasC_tup1 KX G ?a ?l ?z; (case a => k_is); (case l => k_is); (case z => decide +kernel))
    case c_LETTERS => (refine' DL.hasC_str KX G ?a ?z; (case a => k_is); (case z => decide +kernel))
    case c_MOST_DEGREE => (refine' DL.hasC_int KX G ?a; (case a => k_is))
    case c_MOST_NAME => (refine' DL.hasC_int KX G ?a; (case a => k_is))
    case c_MOST_PAIRS => (refine' DL.hasC_int KX G ?a; (case a => k_is))
    case x_BadPolynomial => (refine' DL.hasX_mk KX G ?a ?b ?k ?s ?t; (case a => k_is); (case b => k_exc); (case k => k_is); (case s => k_is); (case t => k_is))
    case x_BadWorths => (refine' DL.hasX_mk KX G ?a ?b ?k ?s ?t; (case a => k_is); (case b => k_exc); (case k => k_is); (case s => k_is); (case t => k_is))
    case x_TooMany => (refine' DL.hasX_mk KX G ?a ?b ?k ?s ?t; (case a => k_is); (case b => k_exc); (case k => k_is); (case s => k_is); (case t => k_is))
    case l_Lacks => (refine' DL.hasL_mk KX G ?a ?xL ?sa ?nn ?a1 ?t1 ?l1 ?c1 ?l2 ?l3 ?kC ?eC ?vC ?tC ?mC ?sC ?oq ?z1 ?z2 ?rv ?hvs ?hf ?tp ?hm ?hp; (case a => k_is); (case xL => k_is); (case sa => k_is); (case nn => k_is); (case a1 => k_is); (case t1 => k_is); (case l1 => k_is); (case c1 => k_is); (case l2 => k_is); (case l3 => k_is); (case kC => k_is); (case eC => k_is); (case vC => k_is); (case tC => k_is); (case mC => k_is); (case sC => ks_is); (case oq => k_is); (case z1 => k_is); (case z2 => k_is); (case rv => rfl); (case hvs => rfl); (case hf => first | rfl | decide +kernel); (case tp => decide +kernel); (case hm => decide +kernel); (case hp => rfl))
    case t_BadPolynomial => (refine' DL.hasT_mk KX G ?a ?h1 ?h2 ?h3 (DL.subsAt_cons KX G ?y0 ?e0 (DL.subsAt_cons KX G ?y1 ?e1 (DL.subsAt_cons KX G ?y2 ?e2 (DL.subsAt_cons KX G ?y3 ?e3 .nil ?b3) ?b2) ?b1) ?b0); (case a => k_is); (case h1 => k_is); (case h2 => k_is); (case h3 => k_is); (case y0 => k_is); (case e0 => k_is); (case b0 => first | rfl | decide +kernel); (case y1 => k_is); (case e1 => k_is); (case b1 => first | rfl | decide +kernel); (case y2 => k_is); (case e2 => k_is); (case b2 => first | rfl | decide +kernel); (case y3 => k_is); (case e3 => k_is); (case b3 => first | rfl | decide +kernel))
    case t_BadWorths => (refine' DL.hasT_mk KX G ?a ?h1 ?h2 ?h3 (DL.subsAt_cons KX G ?y0 ?e0 (DL.subsAt_cons KX G ?y1 ?e1 (DL.subsAt_cons KX G ?y2 ?e2 (DL.subsAt_cons KX G ?y3 ?e3 .nil ?b3) ?b2) ?b1) ?b0); (case a => k_is); (case h1 => k_is); (case h2 => k_is); (case h3 => k_is); (case y0 => k_is); (case e0 => k_is); (case b0 => first | rfl | decide +kernel); (case y1 => k_is); (case e1 => k_is); (case b1 => first | rfl | decide +kernel); (case y2 => k_is); (case e2 => k_is); (case b2 => first | rfl | decide +kernel); (case y3 => k_is); (case e3 => k_is); (case b3 => first | rfl | decide +kernel))
    case t_Lacks => (refine' DL.hasT_mk KX G ?a ?h1 ?h2 ?h3 (DL.subsAt_cons KX G ?y0 ?e0 (DL.subsAt_cons KX G ?y1 ?e1 (DL.subsAt_cons KX G ?y2 ?e2 (DL.subsAt_cons KX G ?y3 ?e3 .nil ?b3) ?b2) ?b1) ?b0); (case a => k_is); (case h1 => k_is); (case h2 => k_is); (case h3 => k_is); (case y0 => k_is); (case e0 => k_is); (case b0 => first | rfl | decide +kernel); (case y1 => k_is); (case e1 => k_is); (case b1 => first | rfl | decide +kernel); (case y2 => k_is); (case e2 => k_is); (case b2 => first | rfl | decide +kernel); (case y3 => k_is); (case e3 => k_is); (case b3 => first | rfl | decide +kernel))
    case d_is_integer => (refine' DL.has_mk KX G ?a ?l ?c ?k; (case a => k_is); (case l => k_is); (case c => k_is); (case k => k_is))
    case d_is_whole => (refine' DL.has_mk KX G ?a ?l ?c ?k; (case a => k_is); (case l => k_is); (case c => k_is); (case k => k_is))
    case d_is_name => (refine' DL.has_mk KX G ?a ?l ?c ?k; (case a => k_is); (case l => k_is); (case c => k_is); (case k => k_is))
    case d_are_rows => (refine' DL.has_mk KX G ?a ?l ?c ?k; (case a => k_is); (case l => k_is); (case c => k_is); (case k => k_is))
    case d_worths_of => (refine' DL.has_mk KX G ?a ?l ?c ?k; (case a => k_is); (case l => k_is); (case c => k_is); (case k => k_is))
    case d_degree_of_term => (refine' DL.has_mk KX G ?a ?l ?c ?k; (case a => k_is); (case l => k_is); (case c => k_is); (case k => k_is))
    case d__is_term => (refine' DL.has_mk KX G ?a ?l ?c ?k; (case a => k_is); (case l => k_is); (case c => k_is); (case k => k_is))
    case d_polynomial_fault => (refine' DL.has_mk KX G ?a ?l ?c ?k; (case a => k_is); (case l => k_is); (case c => k_is); (case k => k_is))
    case d_check_polynomial => (refine' DL.has_mk KX G ?a ?l ?c ?k; (case a => k_is); (case l => k_is); (case c => k_is); (case k => k_is))
    case d_made_polynomial => (refine' DL.has_mk KX G ?a ?l ?c ?k; (case a => k_is); (case l => k_is); (case c => k_is); (case k => k_is))
    case d_choose_worth => (refine' DL.has_mk KX G ?a ?l ?c ?k; (case a => k_is); (case l => k_is); (case c => k_is); (case k => k_is))
    case d_worth_of_term => (refine' DL.has_mk KX G ?a ?l ?c ?k; (case a => k_is); (case l => k_is); (case c => k_is); (case k => k_is))
    case d_worth_by_polynomial => (refine' DL.has_mk KX G ?a ?l ?c ?k; (case a => k_is); (case l => k_is); (case c => k_is); (case k => k_is))
    case d_polynomial_worth => (refine' DL.has_mk KX G ?a ?l ?c ?k; (case a => k_is); (case l => k_is); (case c => k_is); (case k => k_is))
    case d_degree_of => (refine' DL.has_mk KX G ?a ?l ?c ?k; (case a => k_is); (case l => k_is); (case c => k_is); (case k => k_is))
    case d_chosen_of => (refine' DL.has_mk KX G ?a ?l ?c ?k; (case a => k_is); (case l => k_is); (case c => k_is); (case k => k_is))
    case d_lesser_of => (refine' DL.has_mk KX G ?a ?l ?c ?k; (case a => k_is); (case l => k_is); (case c => k_is); (case k => k_is))
    case d_greater_of => (refine' DL.has_mk KX G ?a ?l ?c ?k; (case a => k_is); (case l => k_is); (case c => k_is); (case k => k_is))
    case d__law_draws => (refine' DL.has_mk KX G ?a ?l ?c ?k; (case a => k_is); (case l => k_is); (case c => k_is); (case k => k_is))
    case d__law_choose => (refine' DL.has_mk KX G ?a ?l ?c ?k; (case a => k_is); (case l => k_is); (case c => k_is); (case k => k_is))
    case d__law_poly_worth => (refine' DL.has_mk KX G ?a ?l ?c ?k; (case a => k_is); (case l => k_is); (case c => k_is); (case k => k_is))
    case d__law_poly => (refine' DL.has_mk KX G ?a ?l ?c ?k; (case a => k_is); (case l => k_is); (case c => k_is); (case k => k_is))
    case d__law_is_term => (refine' DL.has_mk KX G ?a ?l ?c ?k; (case a => k_is); (case l => k_is); (case c => k_is); (case k => k_is))
    case d__law_fault => (refine' DL.has_mk KX G ?a ?l ?c ?k; (case a => k_is); (case l => k_is); (case c => k_is); (case k => k_is))
    case d__law_told => (refine' DL.has_mk KX G ?a ?l ?c ?k; (case a => k_is); (case l => k_is); (case c => k_is); (case k => k_is))
    case d_law => (refine' DL.has_mk KX G ?a ?l ?c ?k; (case a => k_is); (case l => k_is); (case c => k_is); (case k => k_is))
