import PyProof.Rows.All
import Wide.All
import OpenK.AllK
import Wide.FinOn
import HandS.ForMost
import HandS.ForExc
import HandS.Deep
import HandS.TupAny
import HandS.TupMul
import HandS.Zip
import HandS.Conv
import HandS.CallSlots
import HandS.Flow
import HandS.Style
import HandS.IsInst
import KE.SortData
import KE.KDictKeyed
import KE.GoesMore
import KE.GoesEnum
import PyProof.EnumMake
import HandS.SetFor
import HandS.Strs
import HandS.Text
import KE.KRevSl
import HandS.ExcIs
import HandS.TryOnly
import HandS.TupSets
import HandS.NoneIn
import KE.DatumOrd
import KE.GoesComp
import KE.GoesRaise
import HandS.ReplaceLit
import HandS.Codes
import PySem.Challenge.RW_millrows_k29_whole_no_other_records
set_option Elab.async false
set_option linter.all false
set_option maxRecDepth 100000
set_option maxHeartbeats 4000000
/-! PuA: data, results, slots; what a value stands for; the frozen part of the heap; readings by data -/
namespace Pu
open PySem L2

abbrev D := PyData
/-- a result: a value, an error of the class so named, or nothing told -/
inductive R (α : Type) where
  | ok (a : α)
  | ex (c : Str)
  | bad
def R.bind {α β : Type} (r : R α) (f : α → R β) : R β :=
  match r with
  | .ok a => f a
  | .ex c => .ex c
  | .bad => .bad
@[simp] theorem bind_ok {α β : Type} (a : α) (f : α → R β) : (R.ok a).bind f = f a := rfl
@[simp] theorem bind_ex {α β : Type} (c : Str) (f : α → R β) : (R.ex c).bind f = .ex c := rfl
@[simp] theorem bind_bad {α β : Type} (f : α → R β) : (R.bad).bind f = .bad := rfl

/-- what a name holds: nothing that is told; data that is never changed; a list of its own; a dict of its own, tuple keys, every value True -/
inductive Sl where
  | un
  | dat (d : D)
  | own (ds : List D)
  | dic (kvs : List (D × D))
  | exc
abbrev En := List Sl
inductive Fl where
  | nx (e : En)
  | rt (d : D)
  | bk (e : En)
  | ct (e : En)
  | ex (c : Str) (e : En)
  | bad

/-- the frozen frame's constants, the world; where the caught error stands -/
structure Kw where
  K : PySem.W.Frag
  w : World
  ea : Addr
instance : Coe Kw PySem.W.Frag := ⟨Kw.K⟩
@[reducible] def _root_.L2.Cx.kw (X : Cx) (ea : Addr) : Kw := ⟨X.K, X.w, ea⟩
/-- a dict whose keys are tuples: what its one object is -/
def entW (w : World) (x : NestedKey × Addr × Value) : DictEntry := ⟨x.1.hash w, .ref x.2.1, x.2.2⟩
def DicF (w : World) (a : Addr) (xs : List (NestedKey × Addr × Value)) (h : Heap) : Prop :=
  xs.length ≤ sizeLine ∧ (a == sysModules) = false ∧ ∃ o es ep, h.get? a = some o ∧ o.ExactDict ∧ o.data = .dict es ep ∧ es.toList = xs.map (entW w) ∧ (xs.map (·.1)).Nodup
def DicO (w : World) (a : Addr) (xs : List (NestedKey × Addr × Value)) : HO := .ext (DicF w a xs)
/-! data as a key -/
mutual
def nk : D → Option NestedKey
  | .none => some .none
  | .bool b => some (.num (if b then 1 else 0))
  | .int i => some (.num i)
  | .str x => some (.text x)
  | .tuple ds => (nkAll ds).map NestedKey.tup
  | .list _ => none
  | .dict _ => none
def nkAll : List D → Option (List NestedKey)
  | [] => some []
  | d :: ds => (nk d).bind fun k => (nkAll ds).map fun ks => k :: ks
end

/-- the script: a list of ints that is read alone -/
def scrD (ns : List Int) : D := .dict [(.none, .list (ns.map PyData.int))]
/-! a dict of constants, by what its one object is -/
/-- a key as it is looked up -/
def keyV : D → Option (Option Key)
  | .none => some none
  | .int i => some (some (.inl i))
  | .str x => some (some (.inr x))
  | _ => none
def keyC : Value → Option (Option Key)
  | .none => some none
  | .int i _ => some (some (.inl i))
  | .str x _ => some (some (.inr x))
  | _ => none
def valC : Value → Option D
  | .none => some .none
  | .int i _ => some (.int i)
  | .str x _ => some (.str x)
  | _ => none
def hashP (P : Params) : Option Key → Int
  | none => reduceHash 0xFCA86420
  | some (.inl i) => hashInt i
  | some (.inr x) => PyData.keyHash P x
def entC (e : DictEntry) : Option (Option Key) × Int × Option D := (keyC e.key, e.hash, valC e.val)
def rowC (P : Params) (p : D × D) : Option (Option Key) × Int × Option D := (keyV p.1, ((keyV p.1).map (hashP P)).getD 0, some p.2)
def TabF (w : World) (a : Addr) (tab : List (D × D)) (h : Heap) : Prop := ∃ o es ep, h.get? a = some o ∧ o.ExactDict ∧ o.data = .dict es ep ∧ es.toList.map entC = tab.map (rowC w.params)
def TabO (w : World) (a : Addr) (tab : List (D × D)) : HO := .ext (TabF w a tab)
/-- such a dict as data: a mark ahead of its rows -/
def tabD (tab : List (D × D)) : D := .dict ((.none, .none) :: tab)
/-- a tuple, by its object -/
def SqF (H : Hp) (a : Addr) (xs : List V) : Prop := ∃ o : Obj, H a = some (.frz o (.tup xs)) ∧ o.dict = none
mutual
inductive Rp (K : Kw) (H : Hp) : V → D → Prop
  | non : Rp K H .non .none
  | bl (b : Bool) : Rp K H (.bl b) (.bool b)
  | int (i : Int) : Rp K H (.int i) (.int i)
  | str (x : Str) : Rp K H (.str x) (.str x)
  | lst {a : Addr} {xs : List V} {ds : List D} : H a = some (.lst xs) → RpAll K H xs ds → Rp K H (.ref a) (.list ds)
  | tup {a : Addr} {xs : List V} {ds : List D} : SqF H a xs → RpAll K H xs ds → Rp K H (.ref a) (.tuple ds)
  | dct {a : Addr} {xs : List (NestedKey × Addr × Value)} {kvs : List (D × D)} : H a = some (DicO K.w a xs) → RpDct K H xs kvs → Rp K H (.ref a) (.dict kvs)
  | scr {a : Addr} {ns : List Int} : SqL K H a (ns.map V.int) → Rp K H (.ref a) (scrD ns)
  | tab {a : Addr} {t : List (D × D)} : H a = some (TabO K.w a t) → Rp K H (.ref a) (tabD t)
inductive RpAll (K : Kw) (H : Hp) : List V → List D → Prop
  | nil : RpAll K H [] []
  | cons {v : V} {vs : List V} {d : D} {ds : List D} : Rp K H v d → RpAll K H vs ds → RpAll K H (v :: vs) (d :: ds)
inductive RpDct (K : Kw) (H : Hp) : List (NestedKey × Addr × Value) → List (D × D) → Prop
  | nil : RpDct K H [] []
  | cons {k : NestedKey} {b : Addr} {u : Value} {v : V} {d e : D} {xs : List (NestedKey × Addr × Value)} {kvs : List (D × D)} : nk d = some k → k.depth ≤ 8 → Rp K H (.ref b) d → RelV v u → Rp K H v e → RpDct K H xs kvs → RpDct K H ((k, b, u) :: xs) ((d, e) :: kvs)
end
theorem SqF.sq {K : PySem.W.Frag} {H : Hp} {a : Addr} {xs : List V} (h : SqF H a xs) : SqT K H a xs := by
  obtain ⟨o, h, _⟩ := h
  exact .inl (.inr ⟨o, h⟩)
theorem SqF.mono {H H' : Hp} {a : Addr} {xs : List V} (e : Same H H') (h : SqF H a xs) : SqF H' a xs := by
  obtain ⟨o, h, d⟩ := h
  exact ⟨o, e _ _ h, d⟩

theorem Same.rd {H H' : Hp} {a : Addr} {u : HO} (e : Same H H') (h : Rd H a u) : Rd H' a u := by
  rcases h with h | ⟨o, h⟩
  · exact .inl (e _ _ h)
  · exact .inr ⟨o, e _ _ h⟩
theorem Same.sqT {K : PySem.W.Frag} {H H' : Hp} {a : Addr} {xs : List V} (e : Same H H') (h : SqT K H a xs) : SqT K H' a xs := by
  rcases h with h | h
  · exact .inl (Same.rd e h)
  · exact .inr h
section
variable {K : Kw} {H H' : Hp}
mutual
theorem Rp.mono (e : Same H H') : ∀ {d : D} {v : V}, Rp K H v d → Rp K H' v d
  | _, _, .non => .non
  | _, _, .bl b => .bl b
  | _, _, .int i => .int i
  | _, _, .str x => .str x
  | _, _, .lst h r => .lst (e _ _ h) (RpAll.mono e r)
  | _, _, .tup h r => .tup (h.mono e) (RpAll.mono e r)
  | _, _, .dct h r => .dct (e _ _ h) (RpDct.mono e r)
  | _, _, .scr h => .scr (e.seq h)
  | _, _, .tab h => .tab (e _ _ h)
theorem RpAll.mono (e : Same H H') : ∀ {ds : List D} {vs : List V}, RpAll K H vs ds → RpAll K H' vs ds
  | _, _, .nil => .nil
  | _, _, .cons h r => .cons (Rp.mono e h) (RpAll.mono e r)
theorem RpDct.mono (e : Same H H') : ∀ {kvs : List (D × D)} {xs : List (NestedKey × Addr × Value)}, RpDct K H xs kvs → RpDct K H' xs kvs
  | _, _, .nil => .nil
  | _, _, .cons hk hd h rv h' r => .cons hk hd (Rp.mono e h) rv (Rp.mono e h') (RpDct.mono e r)
end
mutual
theorem Rp.dp : ∀ {d : D} {v : V}, Rp K H v d → d.canLay0 = true → Dp K H v d
  | _, _, .non, _ => .non
  | _, _, .bl b, _ => .bl b
  | _, _, .int i, _ => .int i
  | _, _, .str x, _ => .str x
  | _, _, .lst h r, c => .lst (.inl (.inl h)) (RpAll.dp r (by simpa [PyData.canLay0] using c))
  | _, _, .tup h r, c => .tup h.sq (RpAll.dp r (by simpa [PyData.canLay0] using c))
  | _, _, .dct h _, c => by simp [PyData.canLay0] at c
  | _, _, .scr h, c => by simp [scrD, PyData.canLay0] at c
  | _, _, .tab h, c => by simp [tabD, PyData.canLay0] at c
theorem RpAll.dp : ∀ {ds : List D} {vs : List V}, RpAll K H vs ds → PyData.canLayAll0 ds = true → DpAll K H vs ds
  | _, _, .nil, _ => .nil
  | _, _, .cons h r, c => by
    simp only [PyData.canLayAll0, Bool.and_eq_true] at c
    exact .cons (Rp.dp h c.1) (RpAll.dp r c.2)
end
theorem RpAll.length : ∀ {ds : List D} {vs : List V}, RpAll K H vs ds → vs.length = ds.length
  | _, _, .nil => rfl
  | _, _, .cons _ r => by rw [List.length_cons, List.length_cons, RpAll.length r]
theorem RpAll.get {ds : List D} {vs : List V} {i : Nat} {d : D} (r : RpAll K H vs ds) (e : ds[i]? = some d) : ∃ v, vs[i]? = some v ∧ Rp K H v d := by
  induction ds generalizing vs i with
  | nil => cases e
  | cons c ds ih =>
    cases r with
    | cons h t =>
      cases i with
      | zero => cases e; exact ⟨_, List.getElem?_cons_zero, h⟩
      | succ i =>
        rw [List.getElem?_cons_succ] at e
        obtain ⟨v, g, w⟩ := ih t e
        exact ⟨v, by rw [List.getElem?_cons_succ]; exact g, w⟩
theorem RpAll.get' {ds : List D} {vs : List V} {i : Nat} {v : V} (r : RpAll K H vs ds) (e : vs[i]? = some v) : ∃ d, ds[i]? = some d ∧ Rp K H v d := by
  have lt : i < ds.length := by rw [← r.length]; exact (List.getElem?_eq_some_iff.mp e).1
  obtain ⟨w, g, h⟩ := r.get (List.getElem?_eq_getElem lt)
  obtain rfl : v = w := Option.some.inj (e.symm.trans g)
  exact ⟨ds[i], List.getElem?_eq_getElem lt, h⟩
theorem RpAll.append : ∀ {ds es : List D} {vs us : List V}, RpAll K H vs ds → RpAll K H us es → RpAll K H (vs ++ us) (ds ++ es)
  | _, _, _, _, .nil, s => s
  | _, _, _, _, .cons r t, s => .cons r (RpAll.append t s)
theorem RpAll.take : ∀ {ds : List D} {vs : List V} (n : Nat), RpAll K H vs ds → RpAll K H (vs.take n) (ds.take n)
  | _, _, 0, _ => .nil
  | _, _, _ + 1, .nil => .nil
  | _, _, n + 1, .cons r t => .cons r (RpAll.take n t)
theorem RpAll.drop : ∀ {ds : List D} {vs : List V} (n : Nat), RpAll K H vs ds → RpAll K H (vs.drop n) (ds.drop n)
  | _, _, 0, r => r
  | _, _, _ + 1, .nil => .nil
  | _, _, n + 1, .cons _ t => RpAll.drop n t
theorem RpAll.reverse {ds : List D} {vs : List V} (r : RpAll K H vs ds) : RpAll K H vs.reverse ds.reverse := by
  induction ds generalizing vs with
  | nil => cases r; exact .nil
  | cons d ds ih =>
    cases r with
    | cons h t =>
      rw [List.reverse_cons, List.reverse_cons]
      exact (ih t).append (.cons h .nil)
theorem RpAll.set {v : V} {d : D} (r : Rp K H v d) : ∀ {ds : List D} {vs : List V} (i : Nat), RpAll K H vs ds → RpAll K H (vs.set i v) (ds.set i d)
  | _, _, _, .nil => .nil
  | _, _, 0, .cons _ t => .cons r t
  | _, _, i + 1, .cons q t => .cons q (RpAll.set r i t)
theorem RpAll.one {v : V} {d : D} (r : Rp K H v d) : RpAll K H [v] [d] := .cons r .nil
theorem RpAll.snoc {ds : List D} {vs : List V} {v : V} {d : D} (t : RpAll K H vs ds) (r : Rp K H v d) : RpAll K H (vs ++ [v]) (ds ++ [d]) := t.append (.one r)
theorem RpAll.rep {ds : List D} {vs : List V} (r : RpAll K H vs ds) : ∀ n : Nat, RpAll K H (List.replicate n vs).flatten (List.replicate n ds).flatten
  | 0 => .nil
  | n + 1 => by
    rw [List.replicate_succ, List.replicate_succ, List.flatten_cons, List.flatten_cons]
    exact r.append (RpAll.rep r n)
theorem RpAll.isEmpty {ds : List D} {vs : List V} (r : RpAll K H vs ds) : vs.isEmpty = ds.isEmpty := by cases r <;> rfl
theorem RpAll.ints : ∀ {ns : List Int} {vs : List V}, RpAll K H vs (ns.map PyData.int) → vs = ns.map V.int
  | [], _, .nil => rfl
  | n :: ns, _, .cons h t => by
    cases h
    rw [RpAll.ints (ns := ns) t]
    rfl
theorem RpAll.bools : ∀ {ns : List Bool} {vs : List V}, RpAll K H vs (ns.map PyData.bool) → vs = ns.map V.bl
  | [], _, .nil => rfl
  | n :: ns, _, .cons h t => by
    cases h
    rw [RpAll.bools (ns := ns) t]
    rfl
theorem RpAll.strs_ : ∀ {ns : List Str} {vs : List V}, RpAll K H vs (ns.map PyData.str) → vs = ns.map V.str
  | [], _, .nil => rfl
  | n :: ns, _, .cons h t => by
    cases h
    rw [RpAll.strs_ (ns := ns) t]
    rfl
theorem RpAll.ofInts : ∀ (ns : List Int), RpAll K H (ns.map V.int) (ns.map PyData.int)
  | [] => .nil
  | n :: ns => .cons (.int n) (RpAll.ofInts ns)
theorem RpAll.ofStrs : ∀ (ns : List Str), RpAll K H (ns.map V.str) (ns.map PyData.str)
  | [] => .nil
  | n :: ns => .cons (.str n) (RpAll.ofStrs ns)
end

/-! ### the frozen part of the heap -/
/-- what may be changed -/
def Mu : HO → Bool
  | .tup _ => false
  | _ => true
structure Grow (Hf H Hf' H' : Hp) : Prop where
  hh : Same H H'
  ff : Same Hf Hf'
  fh : Same Hf' H'
  nf : ∀ a o, H a = some o → Mu o = true → Hf a = none → Hf' a = none
theorem Grow.refl {Hf H : Hp} (h : Same Hf H) : Grow Hf H Hf H := ⟨Same.refl _, Same.refl _, h, fun _ _ _ _ n => n⟩
theorem Grow.trans {Hf H Hf1 H1 Hf2 H2 : Hp} (a : Grow Hf H Hf1 H1) (b : Grow Hf1 H1 Hf2 H2) : Grow Hf H Hf2 H2 :=
  ⟨a.hh.trans b.hh, a.ff.trans b.ff, b.fh, fun x o h m n => b.nf x o (a.hh x o h) m (a.nf x o h m n)⟩
theorem same_upd {H : Hp} {p : Addr} {o : HO} (h : H p = none) : Same H (upd H p o) := fun b x e => by
  rw [upd_ne (ne_of_none e h)]
  exact e
/-- what H does not know may be laid over -/
theorem Same.upd {H H' : Hp} {p : Addr} {o : HO} (e : Same H H') (h : H p = none) : Same H (upd H' p o) := fun a u ha => by
  rw [upd_ne (ne_of_none ha h)]
  exact e a u ha
/-- a new object, frozen -/
theorem Grow.new {Hf H : Hp} {p : Addr} {o : HO} (h : Same Hf H) (hp : H p = none) : Grow Hf H (upd Hf p o) (upd H p o) := by
  have hf : Hf p = none := h.free hp
  refine ⟨same_upd hp, same_upd hf, fun a u e => ?_, fun a u e _ n => ?_⟩
  · by_cases z : a = p
    · subst z; rw [upd_same] at e ⊢; exact e
    · rw [upd_ne z] at e ⊢; exact h a u e
  · rw [upd_ne (ne_of_none e hp)]; exact n
/-- a new object, not frozen -/
theorem Grow.lay {Hf H : Hp} {p : Addr} {o : HO} (h : Same Hf H) (hp : H p = none) : Grow Hf H Hf (upd H p o) := by
  have hf : Hf p = none := h.free hp
  exact ⟨same_upd hp, Same.refl _, Same.upd h hf, fun a u e _ n => n⟩
/-- an object that stands outside is frozen -/
theorem Grow.freeze {Hf H : Hp} {p : Addr} {o : HO} (h : Same Hf H) (hp : H p = some o) (hf : Hf p = none) : Same Hf (upd Hf p o) ∧ Same (upd Hf p o) H := by
  refine ⟨same_upd hf, fun a u e => ?_⟩
  by_cases z : a = p
  · subst z; rw [upd_same] at e; rw [hp]; exact e
  · rw [upd_ne z] at e; exact h a u e

/-! ### slots -/
def Sl.isOwn : Sl → Bool
  | .own _ => true
  | .dic _ => true
  | _ => false
def SlOk (K : Kw) (H0 Hf H : Hp) (v : Option V) : Sl → Prop
  | .un => True
  | .dat d => ∃ x, v = some x ∧ Rp K Hf x d
  | .own ds => ∃ a xs, v = some (.ref a) ∧ H a = some (.lst xs) ∧ H0 a = none ∧ Hf a = none ∧ RpAll K Hf xs ds
  | .dic kvs => ∃ a xs, v = some (.ref a) ∧ H a = some (DicO K.w a xs) ∧ H0 a = none ∧ Hf a = none ∧ RpDct K Hf xs kvs
  | .exc => v = some (.ref K.ea)
theorem SlOk.addr {K : Kw} {H0 Hf H : Hp} {v : Option V} {s : Sl} (h : SlOk K H0 Hf H v s) (o : s.isOwn = true) : ∃ a u, v = some (.ref a) ∧ H a = some u ∧ H0 a = none ∧ Hf a = none := by
  cases s with
  | un => cases o
  | dat d => cases o
  | own ds => obtain ⟨a, xs, e, h1, h2, h3, _⟩ := h; exact ⟨a, _, e, h1, h2, h3⟩
  | dic ks => obtain ⟨a, xs, e, h1, h2, h3, _⟩ := h; exact ⟨a, _, e, h1, h2, h3⟩
  | exc => cases o
structure SR (K : Kw) (H0 Hf0 Hf H : Hp) (σ : L2.St) (e : En) : Prop where
  gr : Grow Hf0 H0 Hf H
  len : σ.length = e.length
  sl : ∀ (i : Nat) (s : Sl) (v : Option V), e[i]? = some s → σ[i]? = some v → SlOk K H0 Hf H v s
  sep : ∀ (i j : Nat) (s t : Sl) (a : Addr), i ≠ j → e[i]? = some s → e[j]? = some t → s.isOwn = true → t.isOwn = true → σ[i]? = some (some (.ref a)) → σ[j]? ≠ some (some (.ref a))
section
variable {K : Kw} {H0 Hf0 Hf H Hf' H' : Hp} {σ : L2.St} {e : En}
theorem SR.grow (S : SR K H0 Hf0 Hf H σ e) (g : Grow Hf H Hf' H') : SR K H0 Hf0 Hf' H' σ e := by
  refine ⟨S.gr.trans g, S.len, fun i s v h1 h2 => ?_, S.sep⟩
  have q := S.sl i s v h1 h2
  cases s with
  | un => trivial
  | dat d => obtain ⟨x, ev, r⟩ := q; exact ⟨x, ev, r.mono g.ff⟩
  | own ds => obtain ⟨a, xs, ev, h, h0, hf, r⟩ := q; exact ⟨a, xs, ev, g.hh _ _ h, h0, g.nf _ _ h rfl hf, r.mono g.ff⟩
  | dic ks => obtain ⟨a, xs, ev, h, h0, hf, r⟩ := q; exact ⟨a, xs, ev, g.hh _ _ h, h0, g.nf _ _ h rfl hf, r.mono g.ff⟩
  | exc => exact q
theorem SR.lt (S : SR K H0 Hf0 Hf H σ e) {i : Nat} {s : Sl} (h : e[i]? = some s) : ∃ v, σ[i]? = some v := by
  have hi : i < e.length := (List.getElem?_eq_some_iff.mp h).1
  exact ⟨_, List.getElem?_eq_getElem (by rw [S.len]; exact hi)⟩
/-- a slot is set to a value -/
theorem SR.put (S : SR K H0 Hf0 Hf H σ e) (i : Nat) (v : Option V) (s : Sl) (h : SlOk K H0 Hf H v s)
    (hs : s.isOwn = true → ∀ (a : Addr), v = some (.ref a) → ∀ (j : Nat) (t : Sl), j ≠ i → e[j]? = some t → t.isOwn = true → σ[j]? ≠ some (some (.ref a))) : SR K H0 Hf0 Hf H (σ.set i v) (e.set i s) := by
  refine ⟨S.gr, by rw [List.length_set, List.length_set]; exact S.len, fun j t u h1 h2 => ?_, fun j k t u a hjk h1 h2 o1 o2 q1 q2 => ?_⟩
  · by_cases z : i = j
    · subst z
      by_cases hi : i < e.length
      · rw [List.getElem?_set_self hi] at h1
        rw [List.getElem?_set_self (by rw [S.len]; exact hi)] at h2
        cases h1; cases h2; exact h
      · rw [List.getElem?_eq_none (by rw [List.length_set]; omega)] at h1; cases h1
    · rw [List.getElem?_set_ne z] at h1 h2
      exact S.sl j t u h1 h2
  · by_cases z1 : i = j
    · subst z1
      rw [List.getElem?_set_ne hjk] at h2 q2
      by_cases hi : i < e.length
      · rw [List.getElem?_set_self hi] at h1
        rw [List.getElem?_set_self (by rw [S.len]; exact hi)] at q1
        cases h1
        exact hs o1 a (Option.some.inj q1) k u (fun z => hjk z.symm) h2 o2 q2
      · rw [List.getElem?_eq_none (by rw [List.length_set]; omega)] at h1; cases h1
    · rw [List.getElem?_set_ne z1] at h1 q1
      by_cases z2 : i = k
      · subst z2
        by_cases hi : i < e.length
        · rw [List.getElem?_set_self hi] at h2
          rw [List.getElem?_set_self (by rw [S.len]; exact hi)] at q2
          cases h2
          exact hs o2 a (Option.some.inj q2) j t hjk h1 o1 q1
        · rw [List.getElem?_eq_none (by rw [List.length_set]; omega)] at h2; cases h2
      · rw [List.getElem?_set_ne z2] at h2 q2
        exact S.sep j k t u a hjk h1 h2 o1 o2 q1 q2
theorem SR.dat (S : SR K H0 Hf0 Hf H σ e) (i : Nat) {v : V} {d : D} (r : Rp K Hf v d) : SR K H0 Hf0 Hf H (σ.set i (some v)) (e.set i (.dat d)) :=
  S.put i (some v) (.dat d) ⟨v, rfl, r⟩ fun o => by cases o
def NoOwn (σ : L2.St) (e : En) (p : Addr) : Prop := ∀ (j : Nat) (t : Sl), e[j]? = some t → t.isOwn = true → σ[j]? ≠ some (some (V.ref p))
/-- an object that no slot of its own holds is changed or made -/
theorem SR.other (S : SR K H0 Hf0 Hf H σ e) {p : Addr} {o : HO} (h0 : H0 p = none) (hf : Hf p = none) (hs : NoOwn σ e p) : SR K H0 Hf0 Hf (upd H p o) σ e := by
  refine ⟨⟨Same.upd S.gr.hh h0, S.gr.ff, Same.upd S.gr.fh hf, S.gr.nf⟩, S.len, fun i s v h1 h2 => ?_, S.sep⟩
  have q := S.sl i s v h1 h2
  cases s with
  | un => trivial
  | dat d => exact q
  | own ds =>
    obtain ⟨a, xs, ev, h, h0', hf', r⟩ := q
    have : a ≠ p := fun z => hs i _ h1 rfl (by rw [h2, ev, z])
    exact ⟨a, xs, ev, by rw [upd_ne this]; exact h, h0', hf', r⟩
  | dic ks =>
    obtain ⟨a, xs, ev, h, h0', hf', r⟩ := q
    have : a ≠ p := fun z => hs i _ h1 rfl (by rw [h2, ev, z])
    exact ⟨a, xs, ev, by rw [upd_ne this]; exact h, h0', hf', r⟩
  | exc => exact q
/-- the place of a new object is no slot's own -/
theorem SR.fresh (S : SR K H0 Hf0 Hf H σ e) {p : Addr} (hp : H p = none) : NoOwn σ e p := fun j t h o q => by
  obtain ⟨a, u, ev, ha, _⟩ := (S.sl j t _ h q).addr o
  injection ev with ev; injection ev with ev
  subst ev
  rw [hp] at ha; cases ha
/-- a slot's own object is changed -/
theorem SR.mut (S : SR K H0 Hf0 Hf H σ e) {i : Nat} {s t : Sl} {a : Addr} {u : HO} (he : e[i]? = some s) (ho : s.isOwn = true) (hv : σ[i]? = some (some (.ref a))) (ht : t.isOwn = true) (hn : SlOk K H0 Hf (upd H a u) (some (.ref a)) t) :
    SR K H0 Hf0 Hf (upd H a u) σ (e.set i t) := by
  obtain ⟨a', u', ev, hA, h0, hf⟩ := (S.sl i s _ he hv).addr ho
  injection ev with ev; injection ev with ev
  subst ev
  have hi : i < e.length := (List.getElem?_eq_some_iff.mp he).1
  have other : ∀ (j : Nat) (w : Sl), j ≠ i → e[j]? = some w → w.isOwn = true → σ[j]? ≠ some (some (.ref a)) := fun j w hj h1 o q => S.sep i j s w a (fun z => hj z.symm) he h1 ho o hv q
  refine ⟨⟨Same.upd S.gr.hh h0, S.gr.ff, Same.upd S.gr.fh hf, S.gr.nf⟩, by rw [List.length_set]; exact S.len, fun j w v h1 h2 => ?_, fun j k w x b hjk h1 h2 o1 o2 q1 q2 => ?_⟩
  · by_cases z : i = j
    · subst z
      rw [List.getElem?_set_self hi] at h1
      cases h1
      rw [hv] at h2
      cases h2
      exact hn
    · rw [List.getElem?_set_ne z] at h1
      have q := S.sl j w v h1 h2
      cases w with
      | un => trivial
      | dat d => exact q
      | own ds =>
        obtain ⟨b, xs, ev, h, h0', hf', r⟩ := q
        have : b ≠ a := fun y => other j _ (fun y => z y.symm) h1 rfl (by rw [h2, ev, y])
        exact ⟨b, xs, ev, by rw [upd_ne this]; exact h, h0', hf', r⟩
      | dic ks =>
        obtain ⟨b, xs, ev, h, h0', hf', r⟩ := q
        have : b ≠ a := fun y => other j _ (fun y => z y.symm) h1 rfl (by rw [h2, ev, y])
        exact ⟨b, xs, ev, by rw [upd_ne this]; exact h, h0', hf', r⟩
      | exc => exact q
  · by_cases z1 : i = j
    · subst z1
      rw [List.getElem?_set_ne hjk] at h2
      rw [hv] at q1
      have eb : a = b := V.ref.inj (Option.some.inj (Option.some.inj q1))
      subst eb
      exact other k x (fun z => hjk z.symm) h2 o2 q2
    · rw [List.getElem?_set_ne z1] at h1
      by_cases z2 : i = k
      · subst z2
        rw [hv] at q2
        have eb : a = b := V.ref.inj (Option.some.inj (Option.some.inj q2))
        subst eb
        exact other j w hjk h1 o1 q1
      · rw [List.getElem?_set_ne z2] at h2
        exact S.sep j k w x b hjk h1 h2 o1 o2 q1 q2
/-- a new object goes to a slot -/
theorem SR.own (S : SR K H0 Hf0 Hf H σ e) (i : Nat) {p : Addr} {t : Sl} (hp : ∃ u, H p = some u) (hs : NoOwn σ e p) (hn : SlOk K H0 Hf H (some (.ref p)) t) :
    SR K H0 Hf0 Hf H (σ.set i (some (.ref p))) (e.set i t) :=
  S.put i _ t hn fun _ a ev j w _ h o q => by
    injection ev with ev; injection ev with ev
    subst ev
    exact hs j w h o q
end
end Pu
/-! PuB: readings of expressions, tests, statements by what they compute -/
namespace Pu
open PySem L2

theorem PE_weak {X : Cx} {e : Expr} {t t' : TE} (h : PE X e t) (k : ∀ σ H Q, t' σ H Q → t σ H Q) : PE X e t' :=
  ⟨fun pins s σ H Q I q => h.run pins s σ H Q I (k σ H Q q)⟩
theorem PT_weak {X : Cx} {e : Expr} {t t' : TT} (h : PT X e t) (k : ∀ σ H Q, t' σ H Q → t σ H Q) : PT X e t' :=
  ⟨fun pins s σ H Q I q => h.run pins s σ H Q I (k σ H Q q)⟩
theorem PW_weak {X : Cx} {e : Expr} {t t' : TT} (h : PW X e t) (k : ∀ σ H Q, t' σ H Q → t σ H Q) : PW X e t' :=
  ⟨fun wh pins s σ H Q I q => h.run wh pins s σ H Q I (k σ H Q q)⟩
theorem PTs_weak {X : Cx} {e : List Expr} {t t' : TT} (h : PTs X e t) (k : ∀ σ H Q, t' σ H Q → t σ H Q) : PTs X e t' :=
  ⟨fun pins s σ H Q I q => h.run pins s σ H Q I (k σ H Q q)⟩
theorem PA_weak {X : Cx} {e : List Expr} {t t' : TA} (h : PA X e t) (k : ∀ σ H Q, t' σ H Q → t σ H Q) : PA X e t' :=
  ⟨fun pos pins s σ H Q I q => h.run pos pins s σ H Q I (k σ H Q q)⟩
theorem PS_weak {X : Cx} {e : Stmt} {t t' : TS} (h : PS X e t) (k : ∀ D σ H, t' D σ H → t D σ H) : PS X e t' :=
  ⟨fun pins s σ H D I q => h.run pins s σ H D I (k D σ H q)⟩
theorem PSs_weak {X : Cx} {e : List Stmt} {t t' : TS} (h : PSs X e t) (k : ∀ D σ H, t' D σ H → t D σ H) : PSs X e t' :=
  ⟨fun pins s σ H D I q => h.run pins s σ H D I (k D σ H q)⟩
theorem PI_weak {X : Cx} {tg e : Expr} {t t' : TI} (h : PI X tg e t) (k : ∀ σ H Q, t' σ H Q → t σ H Q) : PI X tg e t' :=
  ⟨fun pins s σ H Q I q => h.run pins s σ H Q I (k σ H Q q)⟩
theorem PG_weak {X : Cx} {e : Expr} {t t' : TG} (h : PG X e t) (k : ∀ v σ H Q, t' v σ H Q → t v σ H Q) : PG X e t' :=
  ⟨fun pins s σ H v u Q I r q => h.run pins s σ H v u Q I r (k v σ H Q q)⟩

/-- what is wished of an error of the class so named -/
abbrev WE := Str → L2.St → Hp → Prop
def opt {α : Type} : Option α → R α
  | some a => .ok a
  | none => .bad
@[simp] theorem opt_some {α : Type} (a : α) : opt (some a) = .ok a := rfl
@[simp] theorem opt_none {α : Type} : opt (none : Option α) = .bad := rfl

/-- a value seen: frozen data, or a list or dict of frozen data -/
inductive VRp (K : Kw) (Hf H : Hp) : V → D → Prop
  | e {v : V} {d : D} : Rp K Hf v d → VRp K Hf H v d
  | l {a : Addr} {xs : List V} {ds : List D} : H a = some (.lst xs) → RpAll K Hf xs ds → VRp K Hf H (.ref a) (.list ds)
  | d {a : Addr} {xs : List (NestedKey × Addr × Value)} {kvs : List (D × D)} : H a = some (DicO K.w a xs) → RpDct K Hf xs kvs → VRp K Hf H (.ref a) (.dict kvs)
abbrev ERp (K : Kw) (Hf _H : Hp) (v : V) (d : D) : Prop := Rp K Hf v d
section
variable {K : Kw} {Hf H Hf' H' : Hp} {v : V} {d : D}
theorem VRp.mono (g : Grow Hf H Hf' H') (h : VRp K Hf H v d) : VRp K Hf' H' v d := by
  cases h with
  | e h => exact .e (h.mono g.ff)
  | l h r => exact .l (g.hh _ _ h) (r.mono g.ff)
  | d h r => exact .d (g.hh _ _ h) (r.mono g.ff)
theorem VRp.full (f : Same Hf H) (h : VRp K Hf H v d) : Rp K H v d := by
  cases h with
  | e h => exact h.mono f
  | l h r => exact .lst h (r.mono f)
  | d h r => exact .dct h (r.mono f)
theorem VRp.list {ds : List D} (f : Same Hf H) (h : VRp K Hf H v (.list ds)) : ∃ a xs, v = .ref a ∧ H a = some (.lst xs) ∧ RpAll K Hf xs ds := by
  cases h with
  | e h =>
    cases h with
    | lst h r => exact ⟨_, _, rfl, f _ _ h, r⟩
  | l h r => exact ⟨_, _, rfl, h, r⟩
theorem VRp.tup {ds : List D} (h : VRp K Hf H v (.tuple ds)) : Rp K Hf v (.tuple ds) := by
  cases h with
  | e h => exact h
theorem VRp.tuple {ds : List D} (f : Same Hf H) (h : VRp K Hf H v (.tuple ds)) : ∃ a xs, v = .ref a ∧ SqF H a xs ∧ RpAll K Hf xs ds := by
  cases h with
  | e h =>
    cases h with
    | tup h r => exact ⟨_, _, rfl, h.mono f, r⟩
theorem VRp.str {x : Str} (h : VRp K Hf H v (.str x)) : v = .str x := by
  cases h with
  | e h => cases h; rfl
theorem VRp.int {x : Int} (h : VRp K Hf H v (.int x)) : v = .int x := by
  cases h with
  | e h => cases h; rfl
theorem Rp.dict {K : Kw} {H : Hp} {v : V} {kvs : List (D × D)} (r : Rp K H v (.dict kvs)) (hs : ∀ z l, kvs ≠ (.none, z) :: l) : ∃ a xs, v = .ref a ∧ H a = some (DicO K.w a xs) ∧ RpDct K H xs kvs := by
  have gen : ∀ {d : D}, Rp K H v d → d = .dict kvs → ∃ a xs, v = .ref a ∧ H a = some (DicO K.w a xs) ∧ RpDct K H xs kvs := by
    intro d r e
    cases r with
    | dct h r => cases e; exact ⟨_, _, rfl, h, r⟩
    | scr h =>
      unfold scrD at e
      injection e with e
      exact absurd e.symm (hs _ _)
    | tab h =>
      unfold tabD at e
      injection e with e
      exact absurd e.symm (hs _ _)
    | _ => cases e
  exact gen r rfl
theorem VRp.dict {kvs : List (D × D)} (f : Same Hf H) (h : VRp K Hf H v (.dict kvs)) (hs : ∀ z l, kvs ≠ (.none, z) :: l) : ∃ a xs, v = .ref a ∧ H a = some (DicO K.w a xs) ∧ RpDct K Hf xs kvs := by
  cases h with
  | e h => obtain ⟨a, xs, e, h, r⟩ := h.dict hs; exact ⟨a, xs, e, f _ _ h, r⟩
  | d h r => exact ⟨_, _, rfl, h, r⟩
end

section
variable (K : Kw) (Rel : Hp → Hp → V → D → Prop) (W : WE)
/-- what is asked of a result -/
def Po (Q : VK) (σ : L2.St) (Hf H : Hp) : R D → Prop
  | .ok d => ∀ v Hf' H', Grow Hf H Hf' H' → Rel Hf' H' v d → Q v H'
  | .ex c => ∀ Hf' H', Grow Hf H Hf' H' → W c σ H'
  | .bad => False
/-- an expression's reading: it computes F of the slots -/
def tX (F : En → R D) : TE := fun σ H Q => ∃ H0 Hf0 Hf e, SR K H0 Hf0 Hf H σ e ∧ Po Rel W Q σ Hf H (F e)
abbrev tE (F : En → R D) : TE := tX K (ERp K) W F
abbrev tV (F : En → R D) : TE := tX K (VRp K) W F
/-- a new list of frozen data, not frozen itself -/
def PoN (Q : VK) (σ : L2.St) (Hf H : Hp) : R (List D) → Prop
  | .ok ds => ∀ p xs Hf' H', Grow Hf H Hf' H' → H p = none → Hf' p = none → H' p = some (.lst xs) → RpAll K Hf' xs ds → Q (.ref p) H'
  | .ex c => ∀ Hf' H', Grow Hf H Hf' H' → W c σ H'
  | .bad => False
def tN (F : En → R (List D)) : TE := fun σ H Q => ∃ H0 Hf0 Hf e, SR K H0 Hf0 Hf H σ e ∧ PoN K W Q σ Hf H (F e)
/-- a test -/
def PoT (Q : Bool → Hp → Prop) (σ : L2.St) (Hf H : Hp) : R Bool → Prop
  | .ok b => ∀ Hf' H', Grow Hf H Hf' H' → Q b H'
  | .ex c => ∀ Hf' H', Grow Hf H Hf' H' → W c σ H'
  | .bad => False
def tT (F : En → R Bool) : TT := fun σ H Q => ∃ H0 Hf0 Hf e, SR K H0 Hf0 Hf H σ e ∧ PoT W Q σ Hf H (F e)
/-- arguments -/
def PoA (Rel : Hp → Hp → List V → List D → Prop) (Q : List V → Hp → Prop) (σ : L2.St) (Hf H : Hp) : R (List D) → Prop
  | .ok ds => ∀ vs Hf' H', Grow Hf H Hf' H' → Rel Hf' H' vs ds → Q vs H'
  | .ex c => ∀ Hf' H', Grow Hf H Hf' H' → W c σ H'
  | .bad => False
inductive VAll (K : Kw) (Hf H : Hp) : List V → List D → Prop
  | nil : VAll K Hf H [] []
  | cons {v : V} {vs : List V} {d : D} {ds : List D} : VRp K Hf H v d → VAll K Hf H vs ds → VAll K Hf H (v :: vs) (d :: ds)
def tA (F : En → R (List D)) : TA := fun σ H Q => ∃ H0 Hf0 Hf e, SR K H0 Hf0 Hf H σ e ∧ PoA W (fun Hf _ vs ds => RpAll K Hf vs ds) Q σ Hf H (F e)
def tAV (F : En → R (List D)) : TA := fun σ H Q => ∃ H0 Hf0 Hf e, SR K H0 Hf0 Hf H σ e ∧ PoA W (VAll K) Q σ Hf H (F e)
/-- what is asked behind a statement -/
def PoS (D : Ends) (H0 Hf0 Hf : Hp) : Fl → Prop
  | .nx e => ∀ σ Hf' H', SR K H0 Hf0 Hf' H' σ e → Same Hf Hf' → D.nx σ H'
  | .rt d => ∀ v Hf' H', Grow Hf0 H0 Hf' H' → Rp K Hf' v d → D.rt v H'
  | .bk e => ∀ σ Hf' H', SR K H0 Hf0 Hf' H' σ e → Same Hf Hf' → D.bk σ H'
  | .ct e => ∀ σ Hf' H', SR K H0 Hf0 Hf' H' σ e → Same Hf Hf' → D.ct σ H'
  | .ex c e => ∀ σ Hf' H', SR K H0 Hf0 Hf' H' σ e → Same Hf Hf' → W c σ H'
  | .bad => False
def tS (G : En → Fl) : TS := fun D σ H => ∃ H0 Hf0 Hf e, SR K H0 Hf0 Hf H σ e ∧ PoS K W D H0 Hf0 Hf (G e)
end

section
variable {K : Kw} {Rel : Hp → Hp → V → D → Prop} {W : WE} {σ : L2.St} {Hf H Hf' H' : Hp}
theorem PoS.same {D : Ends} {H0 Hf0 Hf1 : Hp} {r : Fl} (p : PoS K W D H0 Hf0 Hf r) (h : Same Hf Hf1) : PoS K W D H0 Hf0 Hf1 r := by
  cases r with
  | nx e => exact fun σ Hf' H' S s => p σ Hf' H' S (h.trans s)
  | rt d => exact p
  | bk e => exact fun σ Hf' H' S s => p σ Hf' H' S (h.trans s)
  | ct e => exact fun σ Hf' H' S s => p σ Hf' H' S (h.trans s)
  | ex c e => exact fun σ Hf' H' S s => p σ Hf' H' S (h.trans s)
  | bad => exact p
theorem VAll.mono (g : Grow Hf H Hf' H') : ∀ {vs : List V} {ds : List D}, VAll K Hf H vs ds → VAll K Hf' H' vs ds
  | _, _, .nil => .nil
  | _, _, .cons h t => .cons (h.mono g) (VAll.mono g t)
theorem Po.grow {Q : VK} {r : R D} (p : Po Rel W Q σ Hf H r) (g : Grow Hf H Hf' H') : Po Rel W Q σ Hf' H' r := by
  cases r with
  | ok d => exact fun v Hf2 H2 g2 q => p v Hf2 H2 (g.trans g2) q
  | ex c => exact fun Hf2 H2 g2 => p Hf2 H2 (g.trans g2)
  | bad => exact p
theorem PoN.grow {Q : VK} {r : R (List D)} (p : PoN K W Q σ Hf H r) (g : Grow Hf H Hf' H') : PoN K W Q σ Hf' H' r := by
  cases r with
  | ok d => exact fun v xs Hf2 H2 g2 hn => p v xs Hf2 H2 (g.trans g2) (g.hh.free hn)
  | ex c => exact fun Hf2 H2 g2 => p Hf2 H2 (g.trans g2)
  | bad => exact p
theorem PoT.grow {Q : Bool → Hp → Prop} {r : R Bool} (p : PoT W Q σ Hf H r) (g : Grow Hf H Hf' H') : PoT W Q σ Hf' H' r := by
  cases r with
  | ok d => exact fun Hf2 H2 g2 => p Hf2 H2 (g.trans g2)
  | ex c => exact fun Hf2 H2 g2 => p Hf2 H2 (g.trans g2)
  | bad => exact p
theorem PoA.grow {R2 : Hp → Hp → List V → List D → Prop} {Q : List V → Hp → Prop} {r : R (List D)} (p : PoA W R2 Q σ Hf H r) (g : Grow Hf H Hf' H') : PoA W R2 Q σ Hf' H' r := by
  cases r with
  | ok d => exact fun v Hf2 H2 g2 q => p v Hf2 H2 (g.trans g2) q
  | ex c => exact fun Hf2 H2 g2 => p Hf2 H2 (g.trans g2)
  | bad => exact p
/-- first this, then that -/
theorem Po.bind {Rel2 : Hp → Hp → V → D → Prop} {Q : VK} {r : R D} {f : D → R D} (p : Po Rel W Q σ Hf H (r.bind f)) : Po Rel2 W (fun v H1 => ∃ Hf1 d, Grow Hf H Hf1 H1 ∧ Rel2 Hf1 H1 v d ∧ Po Rel W Q σ Hf1 H1 (f d)) σ Hf H r := by
  cases r with
  | ok d => exact fun v Hf2 H2 g2 q => ⟨Hf2, d, g2, q, p.grow g2⟩
  | ex c => exact p
  | bad => exact p
theorem Po.bindT {Q : VK} {r : R Bool} {f : Bool → R D} (p : Po Rel W Q σ Hf H (r.bind f)) : PoT W (fun b H1 => ∃ Hf1, Grow Hf H Hf1 H1 ∧ Po Rel W Q σ Hf1 H1 (f b)) σ Hf H r := by
  cases r with
  | ok d => exact fun Hf2 H2 g2 => ⟨Hf2, g2, p.grow g2⟩
  | ex c => exact p
  | bad => exact p
theorem Po.bindA {R2 : Hp → Hp → List V → List D → Prop} {Q : VK} {r : R (List D)} {f : List D → R D} (p : Po Rel W Q σ Hf H (r.bind f)) : PoA W R2 (fun v H1 => ∃ Hf1 d, Grow Hf H Hf1 H1 ∧ R2 Hf1 H1 v d ∧ Po Rel W Q σ Hf1 H1 (f d)) σ Hf H r := by
  cases r with
  | ok d => exact fun v Hf2 H2 g2 q => ⟨Hf2, d, g2, q, p.grow g2⟩
  | ex c => exact p
  | bad => exact p
theorem PoN.bind {Rel2 : Hp → Hp → V → D → Prop} {Q : VK} {r : R D} {f : D → R (List D)} (p : PoN K W Q σ Hf H (r.bind f)) : Po Rel2 W (fun v H1 => ∃ Hf1 d, Grow Hf H Hf1 H1 ∧ Rel2 Hf1 H1 v d ∧ PoN K W Q σ Hf1 H1 (f d)) σ Hf H r := by
  cases r with
  | ok d => exact fun v Hf2 H2 g2 q => ⟨Hf2, d, g2, q, p.grow g2⟩
  | ex c => exact p
  | bad => exact p
theorem PoN.bindA {R2 : Hp → Hp → List V → List D → Prop} {Q : VK} {r : R (List D)} {f : List D → R (List D)} (p : PoN K W Q σ Hf H (r.bind f)) : PoA W R2 (fun v H1 => ∃ Hf1 d, Grow Hf H Hf1 H1 ∧ R2 Hf1 H1 v d ∧ PoN K W Q σ Hf1 H1 (f d)) σ Hf H r := by
  cases r with
  | ok d => exact fun v Hf2 H2 g2 q => ⟨Hf2, d, g2, q, p.grow g2⟩
  | ex c => exact p
  | bad => exact p
theorem PoT.bind {Rel2 : Hp → Hp → V → D → Prop} {Q : Bool → Hp → Prop} {r : R D} {f : D → R Bool} (p : PoT W Q σ Hf H (r.bind f)) : Po Rel2 W (fun v H1 => ∃ Hf1 d, Grow Hf H Hf1 H1 ∧ Rel2 Hf1 H1 v d ∧ PoT W Q σ Hf1 H1 (f d)) σ Hf H r := by
  cases r with
  | ok d => exact fun v Hf2 H2 g2 q => ⟨Hf2, d, g2, q, p.grow g2⟩
  | ex c => exact p
  | bad => exact p
theorem PoT.bindT {Q : Bool → Hp → Prop} {r : R Bool} {f : Bool → R Bool} (p : PoT W Q σ Hf H (r.bind f)) : PoT W (fun b H1 => ∃ Hf1, Grow Hf H Hf1 H1 ∧ PoT W Q σ Hf1 H1 (f b)) σ Hf H r := by
  cases r with
  | ok d => exact fun Hf2 H2 g2 => ⟨Hf2, g2, p.grow g2⟩
  | ex c => exact p
  | bad => exact p
theorem PoA.bind {R2 : Hp → Hp → List V → List D → Prop} {Rel2 : Hp → Hp → V → D → Prop} {Q : List V → Hp → Prop} {r : R D} {f : D → R (List D)} (p : PoA W R2 Q σ Hf H (r.bind f)) : Po Rel2 W (fun v H1 => ∃ Hf1 d, Grow Hf H Hf1 H1 ∧ Rel2 Hf1 H1 v d ∧ PoA W R2 Q σ Hf1 H1 (f d)) σ Hf H r := by
  cases r with
  | ok d => exact fun v Hf2 H2 g2 q => ⟨Hf2, d, g2, q, p.grow g2⟩
  | ex c => exact p
  | bad => exact p
theorem PoA.bindA {R2 R3 : Hp → Hp → List V → List D → Prop} {Q : List V → Hp → Prop} {r : R (List D)} {f : List D → R (List D)} (p : PoA W R2 Q σ Hf H (r.bind f)) : PoA W R3 (fun v H1 => ∃ Hf1 d, Grow Hf H Hf1 H1 ∧ R3 Hf1 H1 v d ∧ PoA W R2 Q σ Hf1 H1 (f d)) σ Hf H r := by
  cases r with
  | ok d => exact fun v Hf2 H2 g2 q => ⟨Hf2, d, g2, q, p.grow g2⟩
  | ex c => exact p
  | bad => exact p
theorem Po.mono {Q Q' : VK} {r : R D} (p : Po Rel W Q σ Hf H r) (k : ∀ v H1, Q v H1 → Q' v H1) : Po Rel W Q' σ Hf H r := by
  cases r with
  | ok d => exact fun v Hf2 H2 g2 q => k _ _ (p v Hf2 H2 g2 q)
  | ex c => exact p
  | bad => exact p
theorem PoT.mono {Q Q' : Bool → Hp → Prop} {r : R Bool} (p : PoT W Q σ Hf H r) (k : ∀ v H1, Q v H1 → Q' v H1) : PoT W Q' σ Hf H r := by
  cases r with
  | ok d => exact fun Hf2 H2 g2 => k _ _ (p Hf2 H2 g2)
  | ex c => exact p
  | bad => exact p
theorem PoA.mono {R2 : Hp → Hp → List V → List D → Prop} {Q Q' : List V → Hp → Prop} {r : R (List D)} (p : PoA W R2 Q σ Hf H r) (k : ∀ v H1, Q v H1 → Q' v H1) : PoA W R2 Q' σ Hf H r := by
  cases r with
  | ok d => exact fun v Hf2 H2 g2 q => k _ _ (p v Hf2 H2 g2 q)
  | ex c => exact p
  | bad => exact p
theorem PoN.mono {Q Q' : VK} {r : R (List D)} (p : PoN K W Q σ Hf H r) (k : ∀ v H1, Q v H1 → Q' v H1) : PoN K W Q' σ Hf H r := by
  cases r with
  | ok d => exact fun v xs Hf2 H2 g2 a b c q => k _ _ (p v xs Hf2 H2 g2 a b c q)
  | ex c => exact p
  | bad => exact p
/-- a plain value is told -/
theorem Po.of_opt {Q : VK} {o : Option D} (p : Po Rel W Q σ Hf H (opt o)) : ∃ d, o = some d ∧ ∀ v Hf' H', Grow Hf H Hf' H' → Rel Hf' H' v d → Q v H' := by
  cases o with
  | some d => exact ⟨d, rfl, p⟩
  | none => exact p.elim
theorem PoT.of_opt {Q : Bool → Hp → Prop} {o : Option Bool} (p : PoT W Q σ Hf H (opt o)) : ∃ d, o = some d ∧ ∀ Hf' H', Grow Hf H Hf' H' → Q d H' := by
  cases o with
  | some d => exact ⟨d, rfl, p⟩
  | none => exact p.elim
theorem PoN.of_opt {Q : VK} {o : Option (List D)} (p : PoN K W Q σ Hf H (opt o)) : ∃ ds, o = some ds ∧ ∀ v xs Hf' H', Grow Hf H Hf' H' → H v = none → Hf' v = none → H' v = some (.lst xs) → RpAll K Hf' xs ds → Q (.ref v) H' := by
  cases o with
  | some d => exact ⟨d, rfl, p⟩
  | none => exact p.elim
end
section
variable {X : Cx} {W : WE} {a : Expr} {F : En → R D}
/-- frozen data may be looked at -/
theorem e2v (h : PE X a (tE (X.kw ea) W F)) : PE X a (tV (X.kw ea) W F) := PE_weak h fun σ H Q ⟨H0, Hf0, Hf, e, S, p⟩ => ⟨H0, Hf0, Hf, e, S, by
  revert p
  cases F e with
  | ok d => exact fun p v Hf' H' g r => p v Hf' H' g (.e r)
  | ex c => exact fun p => p
  | bad => exact fun p => p⟩
def asL (F : En → R (List D)) : En → R D := fun e => (F e).bind fun ds => .ok (.list ds)
/-- a new list is frozen -/
theorem n2e {F : En → R (List D)} (h : PE X a (tN (X.kw ea) W F)) : PE X a (tE (X.kw ea) W (asL F)) := PE_weak h fun σ H Q ⟨H0, Hf0, Hf, e, S, p⟩ => ⟨H0, Hf0, Hf, e, S, by
  revert p
  unfold asL
  cases F e with
  | ok ds =>
    intro p q xs Hf' H' g hn hf hl r
    have z := Grow.freeze g.fh hl hf
    exact p (.ref q) (upd Hf' q (.lst xs)) H' ⟨g.hh, g.ff.trans z.1, z.2, fun b o hb m nb => by rw [upd_ne (ne_of_none hb hn)]; exact g.nf b o hb m nb⟩ (.lst upd_same (r.mono z.1))
  | ex c => exact fun p => p
  | bad => exact fun p => p⟩
end
end Pu
/-! PuB2: new tuples, known by their objects -/
namespace Pu
open PySem L2
/-- a new tuple of xs goes on -/
def TupN (H : Hp) (Q : VK) (xs : List V) : Prop := ∀ (p : Addr) (o : Obj), H p = none → o.dict = none → Q (.ref p) (upd H p (.frz o (.tup xs)))
section
variable {X : Cx} {pins : List (Addr × Obj)} {σ : L2.St} {H : Hp} {s : Shared}
theorem tup_new {Q : VK} {xs : List V} {us : List Value} {tk : Nat} (I : Inv X pins σ H s) (r : Vals xs us) (hz : xs.length ≤ sizeLine) (q : TupN H Q xs) :
    EP X pins σ Q (.ref s.heap.objs.size) { s with heap := s.heap.push { cls := .type "tuple", data := .seq us.toArray }, toks := tk } :=
  ⟨.ref s.heap.objs.size, _, I.laid (t' := tk) (o := .frz { cls := .type "tuple", data := .seq us.toArray } (.tup xs)) (fun b ob e => Heap.get?_push_of_some _ e) (Nat.le_refl _)
    ⟨Heap.get?_push_size _ rfl, hz, us, r, ⟨_, Heap.get?_push_size _ rfl, rfl, _, rfl⟩⟩, rfl, q _ _ (I.hok.fresh (Nat.le_refl _)) rfl⟩
def tTupF (t : TA) : TE := fun σ H Q => t σ H fun xs H1 => xs.length ≤ sizeLine ∧ TupN H1 Q xs
theorem pe_tupF {es : List Expr} {t : TA} {pos : Pos} {x1} (h : PA X es t) : PE X (.Tuple es x1 pos) (tTupF t) :=
  ⟨fun pins s σ H Q I hq => wpAny_Tuple_spliced (thn (h.run pos pins s σ H _ I hq) fun us s1 ⟨xs, H1, I1, r, z, q⟩ => ⟨by rw [← r.length]; exact z, tup_new (tk := s1.toks) I1 r z q⟩)⟩
/-- the values of a tuple that H knows -/
theorem tup_at {a : Addr} {xs : List V} (I : Inv X pins σ H s) (h : SqT X.K H a xs) : ∃ us : List Value, Vals xs us ∧ PyProof.Rows.IsTup s.heap a us.toArray ∧ us.length = xs.length ∧ us.length ≤ sizeLine :=
  let ⟨us, r, t, z⟩ := I.tuple h
  ⟨us, r, t, r.length.symm, Nat.le_trans (Nat.le_of_eq r.length.symm) z⟩
theorem call_tupleF : CallR X (.type "tuple") (fun xs H Q => ∃ p ys, xs = [.ref p] ∧ ((SqL X.K H p ys ∧ TupN H Q ys) ∨ (SqT X.K H p ys ∧ Q (.ref p) H))) :=
  fun pins s σ H _ _ Q I rs ⟨p, ys, ex, alt⟩ => by
    subst ex
    obtain ⟨_, rfl, rfl⟩ := vals1 rs
    exact alt.elim
      (fun ⟨hq, q⟩ =>
        let ⟨us, r, pl, z⟩ := I.list hq
        call_tuple_list pl.isList (fun h' kp => tup_new (s := { s with heap := h' }) (I.kept (t' := s.toks) kp) r z q) (by rw [List.size_toArray, ← r.length]; exact z))
      (fun ⟨hq, q⟩ =>
        let ⟨us, _, t, _⟩ := tup_at I hq
        call_tuple_same t ⟨.ref p, H, I, rfl, q⟩)
def rCatF (K : PySem.W.Frag) : R2 := fun x y H Q => ∃ a b xs ys, x = .ref a ∧ y = .ref b ∧ SqT K H a xs ∧ SqT K H b ys ∧ xs.length + ys.length ≤ sizeLine ∧
  (xs = [] → Q (.ref b) H) ∧ (xs ≠ [] → ys = [] → Q (.ref a) H) ∧ (xs ≠ [] → ys ≠ [] → TupN H Q (xs ++ ys))
theorem op_catF : OpR X (binaryOp .Add) (rCatF X.K) := fun pins s σ H _ _ v u Q I rx ry ⟨a, b, xs, ys, ex, ey, ha, hb, hz, q0, q1, q2⟩ => by
  subst ex ey
  obtain rfl : v = .ref a := rx
  obtain rfl : u = .ref b := ry
  obtain ⟨us, ru, ta, _, _⟩ := tup_at I ha
  obtain ⟨ws, rs, tb, _, _⟩ := tup_at I hb
  cases ru with
  | nil => exact cat_tup0 ta tb ⟨.ref b, H, I, rfl, q0 rfl⟩
  | cons r1 ru =>
    have all := Vals.append (.cons r1 ru) rs
    refine HT.cat_tup ta tb (List.cons_ne_nil _ _) (fun z => ?_) (fun z => ?_) ?_
    · subst z
      cases rs
      exact ⟨.ref a, H, I, rfl, q1 (List.cons_ne_nil _ _) rfl⟩
    · exact tup_new (tk := s.toks) I all (by rw [List.length_append]; exact hz) (q2 (List.cons_ne_nil _ _) fun e => by subst e; cases rs; exact z rfl)
    · rw [List.length_cons, ← ru.length, ← rs.length]
      exact hz
def rSlF (K : PySem.W.Frag) : V → Option Int → Option Int → Hp → VK → Prop := fun x lo hi H Q => ∃ a xs, x = .ref a ∧ SqT K H a xs ∧
  (HT.sIx xs.length 0 lo = 0 ∧ HT.sIx xs.length xs.length hi = xs.length → Q (.ref a) H) ∧ (¬ (HT.sIx xs.length 0 lo = 0 ∧ HT.sIx xs.length xs.length hi = xs.length) → TupN H Q (cutV xs lo hi))
theorem sl_tupF : SlR X (rSlF X.K) := fun pins s σ H _ v vl vu lo hi sl Q I rx hs pl pu ⟨a, xs, ex, hx, whole, part⟩ => by
  subst ex
  obtain rfl : v = .ref a := rx
  obtain ⟨us, ru, ta, el, zl⟩ := tup_at I hx
  have en : us.toArray.size = xs.length := by rw [List.size_toArray, el]
  refine ⟨_, _, PyProof.Rows.slot_tuple_getitem.lookup, ta.typeIs, ?_⟩
  rcases Classical.em (HT.sIx xs.length 0 lo = 0 ∧ HT.sIx xs.length xs.length hi = xs.length) with y | n
  · exact getItem_tuple_whole ta hs pl pu (by rw [en]; exact y) ⟨.ref a, H, I, rfl, whole y⟩
  · have cut := (ru.drop (HT.sIx xs.length 0 lo)).take (HT.sIx xs.length xs.length hi - HT.sIx xs.length 0 lo)
    have zc : (cutV xs lo hi).length ≤ sizeLine := Nat.le_trans (cutV_length xs lo hi) (el ▸ zl)
    have fin := tup_new (tk := s.toks) I cut zc (part n)
    rw [← en] at fin n
    exact HT.getItem_tuple_cut ta hs pl pu n fin (by rw [List.size_toArray]; exact zl)
end
end Pu
namespace L2
open PySem PySem.Spec PyProof.Rows
def rRepF (K : PySem.W.Frag) : R2 := fun x y H Q => ∃ (l : Addr) (k : Int) (xs : List V), x = .ref l ∧ y = .int k ∧ SqT K H l xs ∧ xs ≠ [] ∧ 2 ≤ k ∧ k ≤ 1000 ∧ xs.length ≤ 1000 ∧ Pu.TupN H Q (List.replicate k.toNat xs).flatten
/-- t * k of a tuple that is not empty, k from 2 on -/
theorem mul_tup {P : Program} {w : World} {A : Around} {E : Value → Shared → Prop} {s : Shared} {l : Addr} {u : Value} {us : List Value} {m : Nat} {t : Tok} {Q : Value → Shared → Prop} (ht : IsTup s.heap l (u :: us).toArray) (hm : 2 ≤ m) (hb : m * (u :: us).length ≤ 1000000)
    (h : Q (.ref s.heap.objs.size) { s with heap := s.heap.push { cls := .type "tuple", data := .seq (List.replicate m (u :: us)).flatten.toArray } }) : wpAny (model P w) A (binaryOp .Mult (.ref l) (.int (m : Int) t)) Q E s := by
  obtain ⟨⟨cl, dd, da, sl⟩, ho, ec, n, ed⟩ := ht
  obtain rfl : cl = .type "tuple" := ec
  obtain rfl : da = .seq (u :: us).toArray n := ed
  have big : (((u :: us).toArray.size : Nat) : Int) * (m : Int) ≤ 1000000 := by
    rw [List.size_toArray, ← Int.natCast_mul, Nat.mul_comm]
    exact Int.ofNat_le.mpr hb
  have m63 : (m : Int) ≤ 1000000 := by
    have : m * 1 ≤ m * (u :: us).length := Nat.mul_le_mul_left _ (Nat.succ_le_succ (Nat.zero_le _))
    omega
  have len : (List.foldl (fun x1 x2 => x1 ++ x2) #[] (List.replicate m (u :: us).toArray)) = (List.replicate m (u :: us)).flatten.toArray := size_rep _ m
  have small : (List.replicate m (u :: us)).flatten.length ≤ sizeLine := by
    rw [lm_len_rep_flat, sizeLine_eq]
    omega
  have body := tuple_mulW l (u :: us).toArray n dd sl (m : Int) t (by simp; omega) (by simp; omega) (by simp; omega) (by omega) (by unfold Builtin.Tuple.tupleTooMany; rw [sizeLine_eq]; exact decide_eq_false (by omega)) (by rw [Int.toNat_natCast, len, List.size_toArray]; exact small)
  rw [Int.toNat_natCast, len] at body
  have isT : s.TypeIs (.ref l) "tuple" := ⟨_, ho, rfl⟩
  refine wpAny_binaryOp_repeat_ref (by decide) isT (fun z => typeIs_int z _ t) noFill_tuple_mul F.fills_int_mul F.slot_int_rmul repeat_tuple F.slot_int_index.lookup ?_
  refine call_meets F.slot_int_rmul (typeIs_int s _ t) F.entry_int_rmul (F.args_int_rmul_2 _ _) (int_rmul_tuple _ t l _ n dd sl) ⟨ho, rfl, isT, ?_⟩
  exact call_meets F.slot_tuple_mul isT F.entry_tuple_mul (F.args_tuple_mul_2 _ _) body ⟨ho, h⟩
theorem op_repF {X : Cx} : OpR X (binaryOp .Mult) (rRepF X.K) := fun pins s σ H _ _ v u Q I rx ry ⟨l, k, xs, ex, ey, hT, hne, k2, kz, hz, q⟩ => by
  subst ex ey
  obtain rfl : v = .ref l := rx
  obtain ⟨t, rfl⟩ := ry
  obtain ⟨us, ru, tu, el, _⟩ := Pu.tup_at I hT
  obtain ⟨m, rfl⟩ : ∃ m : Nat, k = m := ⟨k.toNat, by omega⟩
  rw [Int.toNat_natCast] at q
  have room : m * xs.length ≤ 1000000 := Nat.mul_le_mul (show m ≤ 1000 by omega) hz
  have rr := ru.rep m
  have zr : (List.replicate m xs).flatten.length ≤ sizeLine := by
    rw [lm_len_rep_flat, sizeLine_eq]
    omega
  cases us with
  | nil => exact absurd (List.eq_nil_of_length_eq_zero (el.symm.trans List.length_nil)) hne
  | cons a us => exact mul_tup tu (by omega) (by rw [el]; exact room) (Pu.tup_new (tk := s.toks) I rr zr q)
end L2
namespace Pu
open PySem L2
section
variable {K : Kw} {Hf H : Hp} {xs : List V} {ds : List D} {p : Addr} {o : Obj}
/-- a new tuple stands for its data -/
theorem Rp.new (f : Same Hf H) (hp : H p = none) (ho : o.dict = none) (r : RpAll K Hf xs ds) : Grow Hf H (upd Hf p (.frz o (.tup xs))) (upd H p (.frz o (.tup xs))) ∧ Rp K (upd Hf p (.frz o (.tup xs))) (.ref p) (.tuple ds) :=
  ⟨Grow.new f hp, .tup ⟨o, upd_same, ho⟩ (r.mono (same_upd (f.free hp)))⟩
/-- what is wished of a new tuple -/
theorem TupN.of {Q : VK} (f : Same Hf H) (r : RpAll K Hf xs ds) (q : ∀ v Hf' H', Grow Hf H Hf' H' → Rp K Hf' v (.tuple ds) → Q v H') : TupN H Q xs := fun p o hp ho =>
  let ⟨g, r'⟩ := Rp.new f hp ho r
  q _ _ _ g r'
end
end Pu
/-! PuB3: data as keys of dicts -/
namespace Pu
open PySem L2
def isTup : D → Bool
  | .tuple _ => true
  | _ => false
/-- data as a key -/
def keyD (d : D) : Option NestedKey := if isTup d then (nk d).bind fun k => if k.depth ≤ 8 then some k else none else none
theorem keyD_of {d : D} {k : NestedKey} (h : keyD d = some k) : nk d = some k ∧ k.depth ≤ 8 ∧ ∃ ds, d = .tuple ds := by
  unfold keyD at h
  split at h
  · rename_i ht
    cases q : nk d with
    | none => rw [q] at h; cases h
    | some k' =>
      rw [q] at h
      have h : (if k'.depth ≤ 8 then some k' else none) = some k := h
      split at h
      · rename_i hd
        cases h
        refine ⟨rfl, hd, ?_⟩
        cases d with
        | tuple ds => exact ⟨ds, rfl⟩
        | _ => cases ht
      · cases h
  · cases h
def dget : List (D × D) → NestedKey → Option D
  | [], _ => none
  | (d, e) :: r, k => if nk d = some k then some e else dget r k
/-- d[k] = e; x is the key's data -/
def dput (kvs : List (D × D)) (k : NestedKey) (x e : D) : List (D × D) :=
  if (dget kvs k).isSome then kvs.map fun p => if nk p.1 = some k then (p.1, e) else p else kvs ++ [(x, e)]
section
variable {X : Cx} {pins : List (Addr × Obj)} {σ : L2.St} {H : Hp} {s : Shared}
mutual
theorem Rp.nested (I : L2.Inv X pins σ H s) : ∀ {d : D} {v : V} {u : Value} {k : NestedKey}, Rp (X.kw ea) H v d → RelV v u → nk d = some k → NestedIs s.heap k u
  | _, _, _, _, .non, r, h => by cases h; cases r; exact .none
  | _, _, _, _, .bl b, r, h => by cases h; cases r; exact .bool rfl
  | _, _, _, _, .int i, r, h => by cases h; obtain ⟨t, rfl⟩ := r; exact .int _ _
  | _, _, _, _, .str x, r, h => by cases h; obtain ⟨t, rfl⟩ := r; exact .text _ _
  | _, _, _, _, .lst _ _, r, h => by cases h
  | _, _, _, _, .tup hl ra, r, h => by
    cases r
    rename_i a xs ds
    have h : (nkAll ds).map NestedKey.tup = _ := h
    cases q : nkAll ds with
    | none => rw [q] at h; cases h
    | some ks =>
      rw [q] at h
      cases h
      obtain ⟨its, rv, ⟨o, ho, hc, n, hd⟩, _⟩ := I.tuple hl.sq
      exact .tup ho hc hd (by simpa using RpAll.nested I ra rv q)
  | _, _, _, _, .dct _ _, r, h => by cases h
  | _, _, _, _, .scr _, r, h => by cases h
  | _, _, _, _, .tab _, r, h => by cases h
theorem RpAll.nested (I : L2.Inv X pins σ H s) : ∀ {ds : List D} {vs : List V} {us : List Value} {ks : List NestedKey}, RpAll (X.kw ea) H vs ds → Vals vs us → nkAll ds = some ks → NestedAll s.heap ks us
  | _, _, _, _, .nil, .nil, h => by cases h; exact .nil
  | _, _, _, _, .cons (d := d) (ds := ds) h1 t1, .cons r t, h => by
    have h : ((nk d).bind fun k => (nkAll ds).map fun ks => k :: ks) = _ := h
    cases q : nk d with
    | none => rw [q] at h; cases h
    | some k =>
      rw [q] at h
      have h : ((nkAll ds).map fun ks => k :: ks) = _ := h
      cases q2 : nkAll ds with
      | none => rw [q2] at h; cases h
      | some ks => rw [q2] at h; cases h; exact .cons (Rp.nested I h1 r q) (RpAll.nested I t1 t q2)
end
theorem RpDct.is (I : L2.Inv X pins σ H s) : ∀ {xs : List (NestedKey × Addr × Value)} {kvs : List (D × D)}, RpDct (X.kw ea) H xs kvs → ∀ x ∈ xs, (nestedKind X.prog X.w).is s.heap x.1 x.2.1
  | _, _, .nil, x, h => by cases h
  | _, _, .cons hk hd hb _ _ t, x, h => by
    rcases List.mem_cons.mp h with rfl | h
    · exact ⟨Rp.nested I hb rfl hk, hd⟩
    · exact RpDct.is I t x h
/-- the dict, as the library has it -/
theorem dic_of (I : L2.Inv X pins σ H s) {a : Addr} {xs : List (NestedKey × Addr × Value)} {kvs : List (D × D)} (h : H a = some (DicO X.w a xs)) (r : RpDct (X.kw ea) H xs kvs) :
    xs.length ≤ sizeLine ∧ (a == sysModules) = false ∧ s.heap.DictOfH (nestedKind X.prog X.w) a xs := by
  obtain ⟨⟨hz, hsm, o, es, ep, ho, hx, hd, he, hn⟩, _⟩ := (show ObjOk X.prog X.w H s.heap a (DicO X.w a xs) from I.hok a _ h)
  exact ⟨hz, hsm, o, es, ep, ho, hx, hd, he, RpDct.is I r, hn⟩
theorem dic_ok {P : Program} {w : World} {h : Heap} {a : Addr} {xs : List (NestedKey × Addr × Value)} {H : Hp} (hz : xs.length ≤ sizeLine) (hsm : (a == sysModules) = false) (hm : h.DictOfH (nestedKind P w) a xs) : ObjOk P w H h a (DicO w a xs) := by
  obtain ⟨o, es, ep, ho, hx, hd, he, _, hn⟩ := hm
  refine ⟨⟨hz, hsm, o, es, ep, ho, hx, hd, he, hn⟩, ⟨o, ho⟩, fun h1 h2 z k => ?_⟩
  obtain ⟨z1, z2, o1, es1, ep1, q1, q2⟩ := z
  exact ⟨z1, z2, o1, es1, ep1, k _ q1, q2⟩
end
section
variable {K : Kw} {H : Hp}
theorem atKey_get : ∀ {xs : List (NestedKey × Addr × Value)} {kvs : List (D × D)} (k : NestedKey), RpDct K H xs kvs →
    (atKey xs k = none ∧ dget kvs k = none) ∨ ∃ b u v e, atKey xs k = some (b, u) ∧ dget kvs k = some e ∧ RelV v u ∧ Rp K H v e
  | _, _, k, .nil => .inl ⟨rfl, rfl⟩
  | _, _, k, .cons (k := k') (b := b) (u := u) (v := v) (d := d) (e := e) (xs := xs) (kvs := kvs) hk hd hb rv he t => by
    by_cases hkk : k' = k
    · subst hkk
      exact .inr ⟨b, u, v, e, by simp [atKey], by simp [dget, hk], rv, he⟩
    · have e1 : atKey ((k', b, u) :: xs) k = atKey xs k := by simp [atKey, hkk]
      have e2 : dget ((d, e) :: kvs) k = dget kvs k := by simp [dget, hk, hkk]
      rw [e1, e2]
      exact atKey_get k t
theorem put_all {k : NestedKey} {u : Value} {v : V} {e : D} (rv : RelV v u) (re : Rp K H v e) : ∀ {xs : List (NestedKey × Addr × Value)} {kvs : List (D × D)}, RpDct K H xs kvs →
    RpDct K H (xs.map (PySem.putAt k u)) (kvs.map fun p => if nk p.1 = some k then (p.1, e) else p)
  | _, _, .nil => .nil
  | _, _, .cons (k := k') (d := d) hk hd hb rv' he t => by
    rw [List.map_cons, List.map_cons]
    by_cases hkk : k' = k
    · subst hkk
      simp only [PySem.putAt, if_true, hk]
      exact .cons hk hd hb rv re (put_all rv re t)
    · have hne : ¬ (some k' = some k) := fun z => hkk (Option.some.inj z)
      simp only [PySem.putAt, hkk, if_false, hk, hne]
      exact .cons hk hd hb rv' he (put_all rv re t)
theorem RpDct.append : ∀ {xs ys : List (NestedKey × Addr × Value)} {kvs ms : List (D × D)}, RpDct K H xs kvs → RpDct K H ys ms → RpDct K H (xs ++ ys) (kvs ++ ms)
  | _, _, _, _, .nil, s => s
  | _, _, _, _, .cons h1 h2 h3 h4 h5 t, s => .cons h1 h2 h3 h4 h5 (RpDct.append t s)
theorem RpDct.stored {xs : List (NestedKey × Addr × Value)} {kvs : List (D × D)} {k : NestedKey} {b : Addr} {u : Value} {v : V} {d e : D} (r : RpDct K H xs kvs) (hk : nk d = some k) (hd : k.depth ≤ 8) (rb : Rp K H (.ref b) d) (rv : RelV v u) (re : Rp K H v e) :
    RpDct K H (storedH xs k b u) (dput kvs k d e) := by
  unfold dput
  rcases atKey_get k r with ⟨h1, h2⟩ | ⟨b', u', v', e', h1, h2, _⟩
  · rw [storedH_new h1, h2]
    exact r.append (.cons hk hd rb rv re .nil)
  · rw [storedH_old h1, h2]
    exact put_all rv re r
theorem stored_len {xs : List (NestedKey × Addr × Value)} {k : NestedKey} {b : Addr} {u : Value} : (storedH xs k b u).length ≤ xs.length + 1 := by
  unfold storedH
  split
  · rw [List.length_map]; omega
  · rw [List.length_append]; exact Nat.le_refl _
end
section
variable {X : Cx}
/-- d[k] = v -/
def rSetD (K : Kw) : V → V → V → Hp → (Hp → Prop) → Prop := fun o i v H Q => ∃ (p b : Addr) (xs : List (NestedKey × Addr × Value)) (kvs : List (D × D)) (d : D) (k : NestedKey), o = .ref p ∧ i = .ref b ∧ H p = some (DicO K.w p xs) ∧ RpDct K H xs kvs ∧ Rp K H (.ref b) d ∧ nk d = some k ∧ k.depth ≤ 8 ∧ xs.length < sizeLine ∧
  ∀ u, RelV v u → Q (upd H p (DicO K.w p (storedH xs k b u)))
theorem set_dict {j : Nat} (hr : Room j X.A) : PSet X (rSetD (X.kw ea)) := by
  intro pins s σ H o i v ov iv u Q I ro ri rv h
  obtain ⟨p, b, xs, kvs, d, k, rfl, rfl, hp, r, rb, hk, hd, hz, q⟩ := h
  cases ro
  cases ri
  have hu := hr.un
  obtain ⟨hz', hsm, hm⟩ := dic_of I hp r
  have hroom : (nestedKind X.prog X.w).room X.A.in1 := by show X.A.units + 1 + 8 < cLine; omega
  refine wpAny_setItem_heap (hsz := hz') hroom ⟨Rp.nested I rb rfl hk, hd⟩ hm fun h' hm' sb => ?_
  have hmm := hm'
  obtain ⟨o', _, _, ho', _⟩ := hmm
  exact ⟨_, I.write (x := p) (e := p) (by rw [hp]; trivial) (.inl rfl) (fun c w hc e => (sb.2 c hc).trans e) ⟨o', ho'⟩ (dic_ok (Nat.le_trans stored_len hz) hsm hm'), q u rv⟩
def tDNew (K : Kw) : TE := fun _ H Q => ∀ p, H p = none → Q (.ref p) (upd H p (DicO K.w p []))
theorem pe_dnew {pos : Pos} : PE X (.Dict [] [] pos) (tDNew (X.kw ea)) := ⟨fun pins s σ H Q I h =>
  wpAny_Dict_empty ⟨.ref s.heap.objs.size, _, I.laid (a := s.heap.objs.size) (o := DicO X.w s.heap.objs.size []) (t' := s.toks) (fun _ _ q => Heap.get?_push_of_some _ q) (Nat.le_refl _)
    (dic_ok (Nat.zero_le _) (beq_eq_false_iff_ne.mpr (Ne.symm (Nat.ne_of_lt I.big))) (Heap.DictOfH.new _)), rfl, h _ (I.hok.fresh (Nat.le_refl _))⟩⟩
end
end Pu
/-! PuC: names, constants, displays, operators, comparisons, truth -/
namespace Pu
open PySem L2
section
variable {X : Cx} {W : WE} {a b c : Expr} {F G Fc : En → R D} {pos : Pos}
/-! ### names and constants -/
def getE (e : En) (i : Nat) : R D := match e[i]? with
  | some (.dat d) => .ok d
  | _ => .bad
def getV (e : En) (i : Nat) : R D := match e[i]? with
  | some (.dat d) => .ok d
  | some (.own ds) => .ok (.list ds)
  | some (.dic kvs) => .ok (.dict kvs)
  | _ => .bad
def xvE (i : Nat) : En → R D := fun e => getE e i
def xvV (i : Nat) : En → R D := fun e => getV e i
theorem pxE (i : Nat) {x : Str} (h : PE X (.Name x pos) (tVar i)) : PE X (.Name x pos) (tE (X.kw ea) W (xvE i)) := PE_weak h fun σ H Q ⟨H0, Hf0, Hf, e, S, p⟩ => by
  unfold xvE getE at p
  cases q : e[i]? with
  | none => rw [q] at p; exact p.elim
  | some s =>
    rw [q] at p
    cases s with
    | dat d =>
      obtain ⟨v, hv⟩ := S.lt q
      obtain ⟨y, ey, r⟩ := S.sl i _ v q hv
      subst ey
      exact ⟨y, hv, p y Hf H (Grow.refl S.gr.fh) r⟩
    | un => exact p.elim
    | own ds => exact p.elim
    | dic ks => exact p.elim
    | exc => exact p.elim
theorem pxV (i : Nat) {x : Str} (h : PE X (.Name x pos) (tVar i)) : PE X (.Name x pos) (tV (X.kw ea) W (xvV i)) := PE_weak h fun σ H Q ⟨H0, Hf0, Hf, e, S, p⟩ => by
  unfold xvV getV at p
  cases q : e[i]? with
  | none => rw [q] at p; exact p.elim
  | some s =>
    rw [q] at p
    obtain ⟨v, hv⟩ := S.lt q
    have z := S.sl i _ v q hv
    cases s with
    | dat d =>
      obtain ⟨y, ey, r⟩ := z
      subst ey
      exact ⟨y, hv, p y Hf H (Grow.refl S.gr.fh) (.e r)⟩
    | un => exact p.elim
    | own ds =>
      obtain ⟨y, xs, ey, h1, h2, h3, r⟩ := z
      subst ey
      exact ⟨_, hv, p _ Hf H (Grow.refl S.gr.fh) (.l h1 r)⟩
    | dic ks =>
      obtain ⟨y, xs, ey, h1, h2, h3, r⟩ := z
      subst ey
      exact ⟨_, hv, p _ Hf H (Grow.refl S.gr.fh) (.d h1 r)⟩
    | exc => exact p.elim
def xc (d : D) : En → R D := fun _ => .ok d
theorem xC {v : V} {d : D} (h : PE X a (tC v)) (r : ∀ H, Rp (X.kw ea) H v d) : PE X a (tE (X.kw ea) W (xc d)) := PE_weak h fun σ H Q ⟨H0, Hf0, Hf, e, S, p⟩ => p v Hf H (Grow.refl S.gr.fh) (r _)
theorem xInt {i j : _} : PE X (.Constant (.int i) j pos) (tE (X.kw ea) W (xc (.int i))) := xC pe_int fun _ => .int i
theorem xBool {i j : _} : PE X (.Constant (.bool i) j pos) (tE (X.kw ea) W (xc (.bool i))) := xC pe_bl fun _ => .bl i
theorem xNone {j : _} : PE X (.Constant .none j pos) (tE (X.kw ea) W (xc .none)) := xC pe_non fun _ => .non
theorem xStr {i j : _} : PE X (.Constant (.str i) j pos) (tE (X.kw ea) W (xc (.str i))) := xC pe_str fun _ => .str i
/-- a module's own constant -/
theorem xGlob {x : Str} {v : V} {u : Value} {d : D} (hg : Gl X x) (hm : X.mg x = some u) (rv : RelV v u) (r : ∀ H, Rp (X.kw ea) H v d) (hd : (x == ("__debug__" : Str)) = false := by decide) : PE X (.Name x pos) (tE (X.kw ea) W (xc d)) := xC (pe_glob hg hm rv hd) r

/-! ### argument lists, displays -/
def lnil : En → R (List D) := fun _ => .ok []
def lcons (F : En → R D) (G : En → R (List D)) : En → R (List D) := fun e => (F e).bind fun d => (G e).bind fun ds => .ok (d :: ds)
theorem aNil : PA X [] (tA (X.kw ea) W lnil) := PA_weak pa_nil fun σ H Q ⟨H0, Hf0, Hf, e, S, p⟩ => p [] Hf H (Grow.refl S.gr.fh) .nil
theorem aCons {es : List Expr} {L : En → R (List D)} (ha : PE X a (tE (X.kw ea) W F)) (hr : PA X es (tA (X.kw ea) W L)) (hs : starEach (a :: es) X.env = (false, eval a X.env) :: starEach es X.env := by rfl) : PA X (a :: es) (tA (X.kw ea) W (lcons F L)) :=
  PA_weak (pa_cons ha hr hs) fun σ H Q ⟨H0, Hf0, Hf, e, S, p⟩ => ⟨H0, Hf0, Hf, e, S, p.bind.mono fun v H1 ⟨Hf1, d, g, r, p1⟩ => ⟨H0, Hf0, Hf1, e, S.grow g, p1.bindA.mono fun vs H2 ⟨Hf2, ds, g2, r2, p2⟩ =>
    p2 (v :: vs) Hf2 H2 (Grow.refl g2.fh) (.cons (r.mono g2.ff) r2)⟩⟩
theorem avNil : PA X [] (tAV (X.kw ea) W lnil) := PA_weak pa_nil fun σ H Q ⟨H0, Hf0, Hf, e, S, p⟩ => p [] Hf H (Grow.refl S.gr.fh) .nil
theorem avCons {es : List Expr} {L : En → R (List D)} (ha : PE X a (tV (X.kw ea) W F)) (hr : PA X es (tAV (X.kw ea) W L)) (hs : starEach (a :: es) X.env = (false, eval a X.env) :: starEach es X.env := by rfl) : PA X (a :: es) (tAV (X.kw ea) W (lcons F L)) :=
  PA_weak (pa_cons ha hr hs) fun σ H Q ⟨H0, Hf0, Hf, e, S, p⟩ => ⟨H0, Hf0, Hf, e, S, p.bind.mono fun v H1 ⟨Hf1, d, g, r, p1⟩ => ⟨H0, Hf0, Hf1, e, S.grow g, p1.bindA.mono fun vs H2 ⟨Hf2, ds, g2, r2, p2⟩ =>
    p2 (v :: vs) Hf2 H2 (Grow.refl g2.fh) (.cons (r.mono g2) r2)⟩⟩
/-- lists and tuples hold at most so many -/
def many : Nat := 1000000
theorem many_line {n : Nat} (h : n ≤ many) : n ≤ sizeLine := Nat.le_trans h (by decide)
theorem many_lt {n : Nat} (h : n < many) : n < sizeLine := Nat.lt_of_lt_of_le h (by decide)
def mkT (ds : List D) : R D := if ds.length ≤ many then .ok (.tuple ds) else .bad
def mkL (ds : List D) : R (List D) := if ds.length ≤ many then .ok ds else .bad
def xtup (L : En → R (List D)) : En → R D := fun e => (L e).bind mkT
def xlst (L : En → R (List D)) : En → R (List D) := fun e => (L e).bind mkL
theorem xTup {es : List Expr} {L : En → R (List D)} {k : Nat} (h : PA X es (tA (X.kw ea) W L)) : PE X (.Tuple es k pos) (tE (X.kw ea) W (xtup L)) :=
  PE_weak (pe_tupF h) fun σ H Q ⟨H0, Hf0, Hf, e, S, p⟩ => ⟨H0, Hf0, Hf, e, S, p.bindA.mono fun vs H1 ⟨Hf1, ds, g, r, p1⟩ => by
    unfold mkT at p1
    split at p1
    · rename_i hl
      rw [← r.length] at hl
      exact ⟨many_line hl, TupN.of g.fh r p1⟩
    · exact p1.elim⟩
theorem xLst {es : List Expr} {L : En → R (List D)} (h : PA X es (tA (X.kw ea) W L)) : PE X (.List es pos) (tN (X.kw ea) W (xlst L)) :=
  PE_weak (pe_lst h) fun σ H Q ⟨H0, Hf0, Hf, e, S, p⟩ => ⟨H0, Hf0, Hf, e, S, p.bindA.mono fun vs H1 ⟨Hf1, ds, g, r, p1⟩ => by
    unfold mkL at p1
    split at p1
    · rename_i hl
      rw [← r.length] at hl
      exact ⟨many_line hl, fun q hq => p1 q vs Hf1 _ (Grow.lay g.fh hq) hq (g.fh.free hq) upd_same r⟩
    · exact p1.elim⟩

/-! ### operators -/
def bin (f : D → D → Option D) (F G : En → R D) : En → R D := fun e => (F e).bind fun x => (G e).bind fun y => opt (f x y)
def un1 (f : D → Option D) (F : En → R D) : En → R D := fun e => (F e).bind fun x => opt (f x)
/-- a two-place operation on data, its operands seen by Rel -/
def rB (K : Kw) (Rel : Hp → Hp → V → D → Prop) (f : D → D → Option D) : R2 := fun x y H Q => ∃ Hf dx dy z, Same Hf H ∧ Rel Hf H x dx ∧ Rel Hf H y dy ∧ f dx dy = some z ∧ ∀ v Hf' H', Grow Hf H Hf' H' → Rp K Hf' v z → Q v H'
def rBN (K : Kw) (Rel : Hp → Hp → V → D → Prop) (f : D → D → Option (List D)) : R2 := fun x y H Q => ∃ Hf dx dy z, Same Hf H ∧ Rel Hf H x dx ∧ Rel Hf H y dy ∧ f dx dy = some z ∧ ∀ p xs Hf' H', Grow Hf H Hf' H' → H p = none → Hf' p = none → H' p = some (.lst xs) → RpAll K Hf' xs z → Q (.ref p) H'
def rU1 (K : Kw) (Rel : Hp → Hp → V → D → Prop) (f : D → Option D) : V → Hp → VK → Prop := fun x H Q => ∃ Hf dx z, Same Hf H ∧ Rel Hf H x dx ∧ f dx = some z ∧ ∀ v Hf' H', Grow Hf H Hf' H' → Rp K Hf' v z → Q v H'
/-- a relation that stays -/
def Stays (Rel : Hp → Hp → V → D → Prop) : Prop := ∀ Hf H Hf' H' v d, Grow Hf H Hf' H' → Rel Hf H v d → Rel Hf' H' v d
theorem stE {K : Kw} : Stays (ERp K) := fun _ _ _ _ _ _ g r => r.mono g.ff
theorem stV {K : Kw} : Stays (VRp K) := fun _ _ _ _ _ _ g r => r.mono g
theorem tX_bin {K : Kw} {Rel : Hp → Hp → V → D → Prop} (st : Stays Rel) {f : D → D → Option D} {σ : L2.St} {H : Hp} {Q : VK} (h : tE K W (bin f F G) σ H Q) : tOp (rB K Rel f) (tX K Rel W F) (tX K Rel W G) σ H Q := by
  obtain ⟨H0, Hf0, Hf, e, S, p⟩ := h
  refine ⟨H0, Hf0, Hf, e, S, p.bind.mono fun x H1 ⟨Hf1, dx, g1, rx, p1⟩ => ⟨H0, Hf0, Hf1, e, S.grow g1, p1.bind.mono fun y H2 ⟨Hf2, dy, g2, ry, p2⟩ => ?_⟩⟩
  obtain ⟨z, ez, q⟩ := p2.of_opt
  exact ⟨Hf2, dx, dy, z, g2.fh, st _ _ _ _ _ _ g2 rx, ry, ez, q⟩
theorem tX_un {K : Kw} {Rel : Hp → Hp → V → D → Prop} {f : D → Option D} {σ : L2.St} {H : Hp} {Q : VK} (h : tE K W (un1 f F) σ H Q) : tUn (rU1 K Rel f) (tX K Rel W F) σ H Q := by
  obtain ⟨H0, Hf0, Hf, e, S, p⟩ := h
  refine ⟨H0, Hf0, Hf, e, S, p.bind.mono fun x H1 ⟨Hf1, dx, g1, rx, p1⟩ => ?_⟩
  obtain ⟨z, ez, q⟩ := p1.of_opt
  exact ⟨Hf1, dx, z, g1.fh, rx, ez, q⟩
theorem xBin {op : Operator} {f : D → D → Option D} (ho : OpR X (binaryOp op) (rB (X.kw ea) (ERp (X.kw ea)) f)) (ha : PE X a (tE (X.kw ea) W F)) (hb : PE X b (tE (X.kw ea) W G)) : PE X (.BinOp a op b pos) (tE (X.kw ea) W (bin f F G)) :=
  PE_weak (pe_op ho ha hb) fun σ H Q h => tX_bin stE h
theorem xUn {op : UnaryOp} {f : D → Option D} (ho : UnR X (unaryOp op) (rU1 (X.kw ea) (ERp (X.kw ea)) f)) (ha : PE X a (tE (X.kw ea) W F)) : PE X (.UnaryOp op a pos) (tE (X.kw ea) W (un1 f F)) :=
  PE_weak (pe_un ho ha) fun σ H Q h => tX_un h
theorem xCmp {op : CmpOp} {f : D → D → Option D} (ho : OpR X (compareOp op) (rB (X.kw ea) (VRp (X.kw ea)) f)) (ha : PE X a (tV (X.kw ea) W F)) (hb : PE X b (tV (X.kw ea) W G)) (hm : behindInMarks op b = false) : PE X (.Compare a [op] [b] pos) (tE (X.kw ea) W (bin f F G)) :=
  PE_weak (pe_cmpR ho ha hb hm) fun σ H Q h => tX_bin stV h
/-- a op b op' c -/
def chn (f f' : D → D → Option D) (F G Fc : En → R D) : En → R D := fun e => (F e).bind fun x => (G e).bind fun y => (opt (f x y)).bind fun z => match z with
  | .bool true => (Fc e).bind fun w => opt (f' y w)
  | .bool false => .ok (.bool false)
  | _ => .bad
theorem xChn {op op' : CmpOp} {f f' : D → D → Option D} (ho : OpR X (compareOp op) (rB (X.kw ea) (VRp (X.kw ea)) f)) (ho' : OpR X (compareOp op') (rB (X.kw ea) (VRp (X.kw ea)) f')) (ha : PE X a (tV (X.kw ea) W F)) (hb : PE X b (tV (X.kw ea) W G)) (hc : PE X c (tV (X.kw ea) W Fc))
    (hm : lastMarks [op, op'] [b, c] = false := by with_unfolding_all rfl) : PE X (.Compare a [op, op'] [b, c] pos) (tE (X.kw ea) W (chn f f' F G Fc)) :=
  PE_weak (pe_chain ho ho' ha hb hc hm) fun σ H Q ⟨H0, Hf0, Hf, e, S, p⟩ => ⟨H0, Hf0, Hf, e, S, p.bind.mono fun x H1 ⟨Hf1, dx, g1, rx, p1⟩ => ⟨H0, Hf0, Hf1, e, S.grow g1, p1.bind.mono fun y H2 ⟨Hf2, dy, g2, ry, p2⟩ => by
    cases hz : f dx dy with
    | none => rw [hz] at p2; exact p2.elim
    | some z =>
      rw [hz] at p2
      refine ⟨Hf2, dx, dy, z, g2.fh, rx.mono g2, ry, hz, fun v Hf3 H3 g3 r3 => ?_⟩
      have S3 := ((S.grow g1).grow g2).grow g3
      cases z with
      | bool k =>
        cases r3
        cases k with
        | true =>
          refine ⟨true, rfl, ?_⟩
          rw [if_pos rfl]
          have p3 : Po (ERp (X.kw ea)) W Q σ Hf2 H2 ((Fc e).bind fun w => opt (f' dy w)) := p2
          refine ⟨H0, Hf0, Hf3, e, S3, (p3.grow g3).bind.mono fun w H4 ⟨Hf4, dw, g4, rw4, p4⟩ => ?_⟩
          obtain ⟨z', ez, q⟩ := p4.of_opt
          exact ⟨Hf4, dy, dw, z', g4.fh, (ry.mono g3).mono g4, rw4, ez, q⟩
        | false =>
          refine ⟨false, rfl, ?_⟩
          rw [if_neg Bool.false_ne_true]
          have p3 : ∀ v Hf' H', Grow Hf2 H2 Hf' H' → Rp (X.kw ea) Hf' v (.bool false) → Q v H' := p2
          exact p3 _ Hf3 H3 g3 (.bl false)
      | none => exact p2.elim
      | int i => exact p2.elim
      | str i => exact p2.elim
      | list i => exact p2.elim
      | tuple i => exact p2.elim
      | dict i => exact p2.elim⟩⟩

/-! ### truth -/
def truD : D → Option Bool
  | .none => some false
  | .bool b => some b
  | .int i => some (i != 0)
  | .str x => if x.length ≤ many then some ((x.length : Int) != 0) else none
  | .list ds => some (!ds.isEmpty)
  | .tuple ds => some (!ds.isEmpty)
  | .dict _ => none
theorem truV {K : Kw} {Hf H : Hp} {v : V} {d : D} {k : Bool} (f : Same Hf H) (r : VRp K Hf H v d) (h : truD d = some k) : TruV K v H k := by
  cases d with
  | none =>
    have r' := r.full f
    cases r'; cases h; rfl
  | bool b =>
    have r' := r.full f
    cases r'; cases h; rfl
  | int i =>
    have r' := r.full f
    cases r'; cases h; rfl
  | str x =>
    have r' := r.full f
    cases r'
    have h' : (if x.length ≤ many then some ((x.length : Int) != 0) else none) = some k := h
    split at h'
    · cases h'; rename_i hl; exact ⟨many_line hl, rfl⟩
    · cases h'
  | list ds =>
    obtain ⟨a, xs, rfl, hl, ra⟩ := r.list f
    cases h
    exact .inl ⟨xs, SqL.of hl, by rw [ra.isEmpty]⟩
  | tuple ds =>
    obtain ⟨a, xs, rfl, hl, ra⟩ := r.tuple f
    cases h
    exact .inr (.inl ⟨xs, hl.sq, by rw [ra.isEmpty]⟩)
  | dict ds => cases h
def xtru (F : En → R D) : En → R Bool := fun e => (F e).bind fun d => opt (truD d)
def xnot (F : En → R D) : En → R D := fun e => (xtru F e).bind fun k => .ok (.bool (!k))
theorem xNot (ha : PE X a (tV (X.kw ea) W F)) : PE X (.UnaryOp .Not a pos) (tE (X.kw ea) W (xnot F)) :=
  PE_weak (pe_notT ha) fun σ H Q ⟨H0, Hf0, Hf, e, S, p⟩ => ⟨H0, Hf0, Hf, e, S, by
    have p' : Po (ERp (X.kw ea)) W Q σ Hf H ((F e).bind fun d => (opt (truD d)).bind fun k => .ok (.bool (!k))) := by
      unfold xnot xtru at p
      revert p
      cases F e <;> exact fun p => p
    refine p'.bind.mono fun x H1 ⟨Hf1, dx, g1, rx, p1⟩ => ?_
    cases hk : truD dx with
    | none => rw [hk] at p1; exact p1.elim
    | some k =>
      rw [hk] at p1
      exact ⟨k, truV g1.fh rx hk, p1 (.bl (!k)) Hf1 H1 (Grow.refl g1.fh) (.bl _)⟩⟩
/-- x or y, x and y as values -/
def xorV (F G : En → R D) : En → R D := fun e => (F e).bind fun d => (opt (truD d)).bind fun k => if k = true then .ok d else G e
def xandV (F G : En → R D) : En → R D := fun e => (F e).bind fun d => (opt (truD d)).bind fun k => if k = true then G e else .ok d
theorem xOr {rest : List Expr} (ha : PE X a (tE (X.kw ea) W F)) (hb : PE X (.BoolOp .Or (b :: rest) pos) (tE (X.kw ea) W G)) : PE X (.BoolOp .Or (a :: b :: rest) pos) (tE (X.kw ea) W (xorV F G)) :=
  PE_weak (pe_orT ha hb) fun σ H Q ⟨H0, Hf0, Hf, e, S, p⟩ => ⟨H0, Hf0, Hf, e, S, by
    refine p.bind.mono fun x H1 ⟨Hf1, dx, g1, rx, p1⟩ => ?_
    cases hk : truD dx with
    | none => rw [hk] at p1; exact p1.elim
    | some k =>
      rw [hk] at p1
      refine ⟨k, truV g1.fh (.e rx) hk, ?_⟩
      cases k with
      | true => rw [if_pos rfl]; exact p1 x Hf1 H1 (Grow.refl g1.fh) rx
      | false => rw [if_neg Bool.false_ne_true]; exact ⟨H0, Hf0, Hf1, e, S.grow g1, p1⟩⟩
theorem xAnd {rest : List Expr} (ha : PE X a (tE (X.kw ea) W F)) (hb : PE X (.BoolOp .And (b :: rest) pos) (tE (X.kw ea) W G)) : PE X (.BoolOp .And (a :: b :: rest) pos) (tE (X.kw ea) W (xandV F G)) :=
  PE_weak (pe_andT ha hb) fun σ H Q ⟨H0, Hf0, Hf, e, S, p⟩ => ⟨H0, Hf0, Hf, e, S, by
    refine p.bind.mono fun x H1 ⟨Hf1, dx, g1, rx, p1⟩ => ?_
    cases hk : truD dx with
    | none => rw [hk] at p1; exact p1.elim
    | some k =>
      rw [hk] at p1
      refine ⟨k, truV g1.fh (.e rx) hk, ?_⟩
      cases k with
      | true => rw [if_pos rfl]; exact ⟨H0, Hf0, Hf1, e, S.grow g1, p1⟩
      | false => rw [if_neg Bool.false_ne_true]; exact p1 x Hf1 H1 (Grow.refl g1.fh) rx⟩
theorem xOne {op : BoolOp} (ha : PE X a (tE (X.kw ea) W F)) : PE X (.BoolOp op [a] pos) (tE (X.kw ea) W F) := pe_one ha
/-! ### tests -/
variable {T U : En → R Bool}
theorem tTru (ha : PE X a (tV (X.kw ea) W F)) (he : ∀ whole, isTrue a X.env whole = (do let v ← whole; standAt a.pos; holding [v] (truthy v)) := by intro _; rfl) : PT X a (tT (X.kw ea) W (xtru F)) :=
  PT_weak (pt_truth ha he) fun σ H Q ⟨H0, Hf0, Hf, e, S, p⟩ => ⟨H0, Hf0, Hf, e, S, p.bind.mono fun x H1 ⟨Hf1, dx, g1, rx, p1⟩ => by
    obtain ⟨k, hk, q⟩ := p1.of_opt
    exact ⟨k, truV g1.fh rx hk, q Hf1 H1 (Grow.refl g1.fh)⟩⟩
def xbl (F : En → R D) : En → R Bool := fun e => (F e).bind fun d => match d with
  | .bool b => .ok b
  | _ => .bad
/-- a comparison as a test -/
theorem tCmp {op : CmpOp} {f : D → D → Option D} (ho : OpR X (compareOp op) (rB (X.kw ea) (VRp (X.kw ea)) f)) (ha : PE X a (tV (X.kw ea) W F)) (hb : PE X b (tV (X.kw ea) W G)) (hm : behindInMarks op b = false) : PT X (.Compare a [op] [b] pos) (tT (X.kw ea) W (xbl (bin f F G))) :=
  PT_weak (pt_cmpR ho ha hb hm) fun σ H Q ⟨H0, Hf0, Hf, e, S, p⟩ => tX_bin stV ⟨H0, Hf0, Hf, e, S, p.bind.mono fun x H1 ⟨Hf1, dx, g1, rx, p1⟩ => by
    cases dx with
    | bool k => cases rx; exact ⟨k, rfl, p1 Hf1 H1 (Grow.refl g1.fh)⟩
    | none => exact p1.elim
    | int i => exact p1.elim
    | str i => exact p1.elim
    | list i => exact p1.elim
    | tuple i => exact p1.elim
    | dict i => exact p1.elim⟩
def tand (T U : En → R Bool) : En → R Bool := fun e => (T e).bind fun k => if k = true then U e else .ok false
def tor (T U : En → R Bool) : En → R Bool := fun e => (T e).bind fun k => if k = true then .ok true else U e
def tnot (T : En → R Bool) : En → R Bool := fun e => (T e).bind fun k => .ok (!k)
theorem tNot (ha : PT X a (tT (X.kw ea) W T)) : PT X (.UnaryOp .Not a pos) (tT (X.kw ea) W (tnot T)) :=
  PT_weak (pt_not ha) fun σ H Q ⟨H0, Hf0, Hf, e, S, p⟩ => ⟨H0, Hf0, Hf, e, S, p.bindT.mono fun k H1 ⟨Hf1, g1, p1⟩ => p1 Hf1 H1 (Grow.refl g1.fh)⟩
theorem tAnd1 (ha : PT X a (tT (X.kw ea) W T)) : PW X (.BoolOp .And [a] pos) (tT (X.kw ea) W T) := pw_and1 ha
theorem tOr1 (ha : PT X a (tT (X.kw ea) W T)) : PW X (.BoolOp .Or [a] pos) (tT (X.kw ea) W T) := pw_or1 ha
theorem tAnd {rest : List Expr} (ha : PT X a (tT (X.kw ea) W T)) (hb : PW X (.BoolOp .And (b :: rest) pos) (tT (X.kw ea) W U)) : PW X (.BoolOp .And (a :: b :: rest) pos) (tT (X.kw ea) W (tand T U)) :=
  PW_weak (pw_and ha hb) fun σ H Q ⟨H0, Hf0, Hf, e, S, p⟩ => ⟨H0, Hf0, Hf, e, S, p.bindT.mono fun k H1 ⟨Hf1, g1, p1⟩ => by
    cases k with
    | true => rw [if_pos rfl]; exact ⟨H0, Hf0, Hf1, e, S.grow g1, p1⟩
    | false => rw [if_neg Bool.false_ne_true]; exact p1 Hf1 H1 (Grow.refl g1.fh)⟩
theorem tOr {rest : List Expr} (ha : PT X a (tT (X.kw ea) W T)) (hb : PW X (.BoolOp .Or (b :: rest) pos) (tT (X.kw ea) W U)) : PW X (.BoolOp .Or (a :: b :: rest) pos) (tT (X.kw ea) W (tor T U)) :=
  PW_weak (pw_or ha hb) fun σ H Q ⟨H0, Hf0, Hf, e, S, p⟩ => ⟨H0, Hf0, Hf, e, S, p.bindT.mono fun k H1 ⟨Hf1, g1, p1⟩ => by
    cases k with
    | true => rw [if_pos rfl]; exact p1 Hf1 H1 (Grow.refl g1.fh)
    | false => rw [if_neg Bool.false_ne_true]; exact ⟨H0, Hf0, Hf1, e, S.grow g1, p1⟩⟩
theorem tW (h : PW X a (tT (X.kw ea) W T)) : PT X a (tT (X.kw ea) W T) := h.pt
/-- a if t else b -/
def xif (T : En → R Bool) (F G : En → R D) : En → R D := fun e => (T e).bind fun k => if k = true then F e else G e
theorem xIf (hc : PT X c (tT (X.kw ea) W T)) (ha : PE X a (tE (X.kw ea) W F)) (hb : PE X b (tE (X.kw ea) W G)) : PE X (.IfExp c a b pos) (tE (X.kw ea) W (xif T F G)) :=
  PE_weak (pe_ifExp hc ha hb) fun σ H Q ⟨H0, Hf0, Hf, e, S, p⟩ => ⟨H0, Hf0, Hf, e, S, p.bindT.mono fun k H1 ⟨Hf1, g1, p1⟩ => by
    cases k with
    | true => rw [if_pos rfl] at p1 ⊢; exact ⟨H0, Hf0, Hf1, e, S.grow g1, p1⟩
    | false => rw [if_neg Bool.false_ne_true] at p1 ⊢; exact ⟨H0, Hf0, Hf1, e, S.grow g1, p1⟩⟩
end
end Pu
/-! PuD: the operators and comparisons on data -/
namespace Pu
open PySem L2
/-! ### what they compute -/
def addD : D → D → Option D
  | .int i, .int j => some (.int (i + j))
  | .str x, .str y => if x.length + y.length ≤ many then some (.str (x ++ y)) else none
  | .tuple xs, .tuple ys => if xs.length + ys.length ≤ many then some (.tuple (xs ++ ys)) else none
  | .list xs, .list ys => if xs.length + ys.length ≤ many then some (.list (xs ++ ys)) else none
  | _, _ => none
def addN : D → D → Option (List D)
  | .list xs, .list ys => if xs.length + ys.length ≤ many then some (xs ++ ys) else none
  | _, _ => none
def subD : D → D → Option D
  | .int i, .int j => some (.int (i - j))
  | _, _ => none
def small64 (i : Int) : Bool := decide (-(2 ^ 64) < i) && decide (i < 2 ^ 64)
def mulD : D → D → Option D
  | .int i, .int j => if small64 i || small64 j then some (.int (i * j)) else none
  | .list xs, .int k => if (0 ≤ k && decide (k ≤ 1000)) && decide (xs.length ≤ 1000) then some (.list (List.replicate k.toNat xs).flatten) else none
  | .tuple xs, .int k => if (2 ≤ k && decide (k ≤ 1000)) && decide (xs.length ≤ 1000) && !xs.isEmpty then some (.tuple (List.replicate k.toNat xs).flatten) else none
  | .str x, .int k => if (2 ≤ k && decide (k ≤ 1000)) && decide (x.length ≤ 1000) && decide (0 < x.length) then some (.str ⟨(List.replicate k.toNat x.cps.toList).flatten.toArray⟩) else none
  | _, _ => none
def modD : D → D → Option D
  | .int i, .int j => if 0 < j then some (.int (i % j)) else none
  | _, _ => none
def fdivD : D → D → Option D
  | .int i, .int j => if 0 < j ∧ j < 1073741824 then some (.int (i / j)) else none
  | _, _ => none
def negD : D → Option D
  | .int i => some (.int (-i))
  | _ => none
def eqD (x y : D) : Option D := if SeqAt.shaped x && SeqAt.shaped y then some (.bool (PyData.eqv x y)) else none
def neD (x y : D) : Option D := if SeqAt.shaped x && SeqAt.shaped y then some (.bool (!PyData.eqv x y)) else none
def intsOf : List D → Option (List Int)
  | [] => some []
  | .int i :: r => (intsOf r).map (i :: ·)
  | _ => none
def ltD : D → D → Option D
  | .int i, .int j => some (.bool (decide (i < j)))
  | .tuple xs, .tuple ys => match intsOf xs, intsOf ys with
    | some ns, some ms => some (.bool (HT.lexLt ns ms))
    | _, _ => none
  | _, _ => none
def leD : D → D → Option D
  | .int i, .int j => some (.bool (decide (i ≤ j)))
  | _, _ => none
def gtD : D → D → Option D
  | .int i, .int j => some (.bool (decide (j < i)))
  | _, _ => none
def geD : D → D → Option D
  | .int i, .int j => some (.bool (decide (j ≤ i)))
  | _, _ => none
def isNoneD : D → Bool
  | .none => true
  | _ => false
def isD : D → D → Option D
  | x, .none => some (.bool (isNoneD x))
  | .bool a, .bool b => some (.bool (a == b))
  | _, _ => none
def isNotD : D → D → Option D
  | x, .none => some (.bool (!isNoneD x))
  | .bool a, .bool b => some (.bool (!(a == b)))
  | _, _ => none
def inTxt (x y : Str) : Bool := match x.cps.toList with
  | [c] => decide (c ∈ y.cps.toList)
  | _ => !(Builtin.Str.occurrences y x 0 y.length 1).isEmpty
def noScr : List (D × D) → Bool
  | (.none, _) :: _ => false
  | _ => true
theorem noScr_ne {kvs : List (D × D)} (h : noScr kvs = true) : ∀ z l, kvs ≠ (.none, z) :: l := fun z l e => by subst e; cases h
def inB (x : D) : D → Option Bool
  | .list ds => if SeqAt.shaped x && SeqAt.shaped (.list ds) then some (ds.any fun z => PyData.eqv z x) else none
  | .tuple ds => if SeqAt.shaped x && SeqAt.shaped (.tuple ds) then some (ds.any fun z => PyData.eqv z x) else none
  | .str y => match x with
    | .str z => some (inTxt z y)
    | _ => none
  | .dict kvs => if noScr kvs then (keyD x).map fun k => (dget kvs k).isSome else none
  | _ => none
def inD (x y : D) : Option D := (inB x y).map fun b => .bool b
def notInD (x y : D) : Option D := (inB x y).map fun b => .bool (!b)

theorem intsOf_eq : ∀ {ds : List D} {ns : List Int}, intsOf ds = some ns → ds = ns.map PyData.int
  | [], ns, h => by cases h; rfl
  | .int i :: r, ns, h => by
    unfold intsOf at h
    cases q : intsOf r with
    | none => rw [q] at h; cases h
    | some ms => rw [q] at h; cases h; rw [intsOf_eq q]; rfl
  | .none :: r, ns, h => by cases h
  | .bool _ :: r, ns, h => by cases h
  | .str _ :: r, ns, h => by cases h
  | .list _ :: r, ns, h => by cases h
  | .tuple _ :: r, ns, h => by cases h
  | .dict _ :: r, ns, h => by cases h
theorem intsOf_map : ∀ ns : List Int, intsOf (ns.map PyData.int) = some ns
  | [] => rfl
  | n :: ns => by
    show (intsOf (ns.map PyData.int)).map (n :: ·) = _
    rw [intsOf_map ns]
    rfl

section
variable {X : Cx}
/-! ### the rules -/
theorem op_addB : OpR X (binaryOp .Add) (rB (X.kw ea) (ERp (X.kw ea)) addD) := by
  intro pins s σ H x y v u Q I rx ry ⟨Hf, dx, dy, z, f, hx, hy, ez, q⟩
  cases hx with
  | int i =>
    cases hy with
    | int j => cases ez; exact op_add pins s σ H _ _ v u Q I rx ry ⟨i, j, rfl, rfl, q _ Hf H (Grow.refl f) (.int _)⟩
    | _ => cases ez
  | str i =>
    cases hy with
    | str j =>
      have ez' : (if i.length + j.length ≤ many then some (PyData.str (i ++ j)) else none) = some z := ez
      split at ez'
      · cases ez'
        rename_i hl
        exact op_add_str pins s σ H _ _ v u Q I rx ry ⟨i, j, rfl, rfl, many_line hl, q _ Hf H (Grow.refl f) (.str _)⟩
      · cases ez'
    | _ => cases ez
  | tup ha ra =>
    cases hy with
    | tup hb rb =>
      rename_i a xs ds b ys es
      have ez' : (if ds.length + es.length ≤ many then some (PyData.tuple (ds ++ es)) else none) = some z := ez
      split at ez'
      · cases ez'
        rename_i hl
        rw [← ra.length, ← rb.length] at hl
        refine op_catF pins s σ H _ _ v u Q I rx ry ⟨_, _, _, _, rfl, rfl, (ha.mono f).sq, (hb.mono f).sq, many_line hl, fun e => ?_, fun _ e => ?_, fun _ _ => ?_⟩
        · subst e
          cases ra
          exact q _ Hf H (Grow.refl f) (.tup hb rb)
        · subst e
          cases rb
          rw [List.append_nil] at q
          exact q _ Hf H (Grow.refl f) (.tup ha ra)
        · exact TupN.of f (ra.append rb) q
      · cases ez'
    | _ => cases ez
  | lst ha ra =>
    cases hy with
    | lst hb rb =>
      rename_i a xs ds b ys es
      have ez' : (if ds.length + es.length ≤ many then some (PyData.list (ds ++ es)) else none) = some z := ez
      split at ez'
      · cases ez'
        rename_i hl
        rw [← ra.length, ← rb.length] at hl
        exact op_cat pins s σ H _ _ v u Q I rx ry ⟨_, _, _, _, rfl, rfl, f _ _ ha, f _ _ hb, many_line hl, fun p hp => q _ _ _ (Grow.new f hp) (.lst upd_same ((ra.append rb).mono (same_upd (f.free hp))))⟩
      · cases ez'
    | _ => cases ez
  | _ => cases ez
theorem op_addL : OpR X (binaryOp .Add) (rBN (X.kw ea) (VRp (X.kw ea)) addN) := by
  intro pins s σ H x y v u Q I rx ry ⟨Hf, dx, dy, z, f, hx, hy, ez, q⟩
  cases dx with
  | list ds =>
    cases dy with
    | list es =>
      obtain ⟨a, xs, rfl, ha, ra⟩ := hx.list f
      obtain ⟨b, ys, rfl, hb, rb⟩ := hy.list f
      have ez' : (if ds.length + es.length ≤ many then some (ds ++ es) else none) = some z := ez
      split at ez'
      · cases ez'
        rename_i hl
        rw [← ra.length, ← rb.length] at hl
        exact op_cat pins s σ H _ _ v u Q I rx ry ⟨_, _, _, _, rfl, rfl, ha, hb, many_line hl, fun p hp => q p _ Hf _ (Grow.lay f hp) hp (f.free hp) upd_same (ra.append rb)⟩
      · cases ez'
    | _ => cases ez
  | _ => cases ez
theorem op_subB : OpR X (binaryOp .Sub) (rB (X.kw ea) (ERp (X.kw ea)) subD) := by
  intro pins s σ H x y v u Q I rx ry ⟨Hf, dx, dy, z, f, hx, hy, ez, q⟩
  cases hx with
  | int i =>
    cases hy with
    | int j => cases ez; exact op_sub pins s σ H _ _ v u Q I rx ry ⟨i, j, rfl, rfl, q _ Hf H (Grow.refl f) (.int _)⟩
    | _ => cases ez
  | _ => cases ez
theorem op_modB : OpR X (binaryOp .Mod) (rB (X.kw ea) (ERp (X.kw ea)) modD) := by
  intro pins s σ H x y v u Q I rx ry ⟨Hf, dx, dy, z, f, hx, hy, ez, q⟩
  cases hx with
  | int i =>
    cases hy with
    | int j =>
      have ez' : (if 0 < j then some (PyData.int (i % j)) else none) = some z := ez
      split at ez'
      · cases ez'
        rename_i hl
        exact op_mod pins s σ H _ _ v u Q I rx ry ⟨i, j, rfl, rfl, hl, q _ Hf H (Grow.refl f) (.int _)⟩
      · cases ez'
    | _ => cases ez
  | _ => cases ez
theorem op_fdivB : OpR X (binaryOp .FloorDiv) (rB (X.kw ea) (ERp (X.kw ea)) fdivD) := by
  intro pins s σ H x y v u Q I rx ry ⟨Hf, dx, dy, z, f, hx, hy, ez, q⟩
  cases hx with
  | int i =>
    cases hy with
    | int j =>
      have ez' : (if 0 < j ∧ j < 1073741824 then some (PyData.int (i / j)) else none) = some z := ez
      split at ez'
      · cases ez'
        rename_i hl
        exact op_fdiv pins s σ H _ _ v u Q I rx ry ⟨i, j, rfl, rfl, hl, q _ Hf H (Grow.refl f) (.int _)⟩
      · cases ez'
    | _ => cases ez
  | _ => cases ez
theorem small_of {i : Int} (h : small64 i = true) : -(2 ^ 64) < i ∧ i < 2 ^ 64 := by
  unfold small64 at h
  rw [Bool.and_eq_true] at h
  exact ⟨of_decide_eq_true h.1, of_decide_eq_true h.2⟩
theorem rep_arr (a : Array Nat) : ∀ n : Nat, (List.replicate n a).foldl (· ++ ·) #[] = (List.replicate n a.toList).flatten.toArray := by
  have go : ∀ (n : Nat) (b : Array Nat), (List.replicate n a).foldl (· ++ ·) b = b ++ (List.replicate n a.toList).flatten.toArray := by
    intro n
    induction n with
    | zero => intro b; simp
    | succ n ih =>
      intro b
      rw [List.replicate_succ, List.replicate_succ, List.foldl_cons, ih, List.flatten_cons]
      apply Array.toList_inj.mp
      simp
  intro n
  rw [go n #[]]
  simp
theorem op_mulB : OpR X (binaryOp .Mult) (rB (X.kw ea) (ERp (X.kw ea)) mulD) := by
  intro pins s σ H x y v u Q I rx ry ⟨Hf, dx, dy, z, f, hx, hy, ez, q⟩
  cases hx with
  | int i =>
    cases hy with
    | int j =>
      have ez' : (if small64 i || small64 j then some (PyData.int (i * j)) else none) = some z := ez
      split at ez'
      · cases ez'
        rename_i hl
        rw [Bool.or_eq_true] at hl
        exact op_mul pins s σ H _ _ v u Q I rx ry ⟨i, j, rfl, rfl, hl.elim (fun h => .inl (small_of h)) (fun h => .inr (small_of h)), q _ Hf H (Grow.refl f) (.int _)⟩
      · cases ez'
    | _ => cases ez
  | lst ha ra =>
    cases hy with
    | int k =>
      rename_i a xs ds
      have ez' : (if ((0 : Int) ≤ k && decide (k ≤ 1000)) && decide (ds.length ≤ 1000) then some (PyData.list (List.replicate k.toNat ds).flatten) else none) = some z := ez
      split at ez'
      · cases ez'
        rename_i hl
        simp only [Bool.and_eq_true, decide_eq_true_eq] at hl
        have hz : xs.length * k.toNat ≤ sizeLine := by
          rw [ra.length]
          exact Nat.le_trans (Nat.mul_le_mul hl.2 (show k.toNat ≤ 1000 by omega)) (by decide)
        exact op_rep pins s σ H _ _ v u Q I rx ry ⟨_, _, _, rfl, rfl, f _ _ ha, by omega, by omega, hz, fun p hp => q _ _ _ (Grow.new f hp) (.lst upd_same ((ra.rep _).mono (same_upd (f.free hp))))⟩
      · cases ez'
    | _ => cases ez
  | tup ha ra =>
    cases hy with
    | int k =>
      rename_i a xs ds
      have ez' : (if ((2 : Int) ≤ k && decide (k ≤ 1000)) && decide (ds.length ≤ 1000) && !ds.isEmpty then some (PyData.tuple (List.replicate k.toNat ds).flatten) else none) = some z := ez
      split at ez'
      · cases ez'
        rename_i hl
        simp only [Bool.and_eq_true, decide_eq_true_eq] at hl
        have hne : xs ≠ [] := fun e => by
          have h2 := hl.2
          rw [← ra.isEmpty, e] at h2
          cases h2
        exact op_repF pins s σ H _ _ v u Q I rx ry ⟨_, _, _, rfl, rfl, (ha.mono f).sq, hne, hl.1.1.1, hl.1.1.2, by rw [ra.length]; exact hl.1.2, TupN.of f (ra.rep _) q⟩
      · cases ez'
    | _ => cases ez
  | str x =>
    cases hy with
    | int k =>
      have ez' : (if ((2 : Int) ≤ k && decide (k ≤ 1000)) && decide (x.length ≤ 1000) && decide (0 < x.length) then some (PyData.str ⟨(List.replicate k.toNat x.cps.toList).flatten.toArray⟩) else none) = some z := ez
      split at ez'
      · cases ez'
        rename_i hl
        simp only [Bool.and_eq_true, decide_eq_true_eq] at hl
        obtain ⟨⟨⟨h2, h3⟩, h4⟩, h5⟩ := hl
        obtain ⟨t, rfl⟩ := rx
        obtain ⟨t', rfl⟩ := ry
        have hlen : x.length * k.toNat ≤ 1000000 := Nat.le_trans (Nat.mul_le_mul h4 (show k.toNat ≤ 1000 by omega)) (by decide)
        refine PySem.P.mul_str (by
            have a1 : ¬ k < -(2 ^ 63 : Int) := by omega
            have a2 : ¬ k ≥ 2 ^ 63 := by omega
            rw [decide_eq_false a1, decide_eq_false a2]; rfl) (fun _ _ hh => ?_) (fun _ _ => ?_) ?_
        · have : (2 ^ 63 - 1 : Int) / k ≥ (2 ^ 63 - 1 : Int) / 1000 := by
            apply Int.le_of_lt_add_one
            apply Int.ediv_lt_of_lt_mul (by decide)
            have hk : 0 < k := by omega
            have e1 := Int.lt_mul_ediv_self_add (x := (2 ^ 63 - 1 : Int)) hk
            have : k * ((2 ^ 63 - 1 : Int) / k) + k ≤ 1000 * ((2 ^ 63 - 1 : Int) / k) + 1000 := by
              have e2 : 0 ≤ (2 ^ 63 - 1 : Int) / k := Int.ediv_nonneg (by decide) (by omega)
              have e3 : k * ((2 ^ 63 - 1 : Int) / k) ≤ 1000 * ((2 ^ 63 - 1 : Int) / k) := Int.mul_le_mul_of_nonneg_right (by omega) e2
              omega
            omega
          have : (2 ^ 63 - 1 : Int) / 1000 ≥ 1000 := by decide
          omega
        · unfold Builtin.Str.tooLong
          exact decide_eq_false (by have := sizeLine_eq; omega)
        · rw [if_neg (by omega), if_neg (by
            rw [Bool.or_eq_true]
            intro hh
            rcases hh with hh | hh
            · have := eq_of_beq hh; omega
            · have := eq_of_beq hh; omega)]
          have ef : (List.replicate k.toNat x.cps).foldl (· ++ ·) #[] = (List.replicate k.toNat x.cps.toList).flatten.toArray := rep_arr x.cps k.toNat
          rw [ef]
          refine ⟨?_, .str _, H, I.tok _, ⟨_, rfl⟩, q _ Hf H (Grow.refl f) (.str _)⟩
          show (List.replicate k.toNat x.cps.toList).flatten.toArray.size ≤ sizeLine
          rw [List.size_toArray, List.length_flatten, List.map_replicate, List.sum_replicate_nat, Array.length_toList, Nat.mul_comm]
          exact Nat.le_trans hlen (by decide)
      · cases ez'
    | _ => cases ez
  | _ => cases ez
theorem un_negB : UnR X (unaryOp .USub) (rU1 (X.kw ea) (ERp (X.kw ea)) negD) := by
  intro pins s σ H x v Q I rx ⟨Hf, dx, z, f, hx, ez, q⟩
  cases hx with
  | int i => cases ez; exact un_neg pins s σ H _ v Q I rx ⟨i, rfl, q _ Hf H (Grow.refl f) (.int _)⟩
  | _ => cases ez
theorem op_eqB {k : Nat} (hr : Room k X.A) : OpR X (compareOp .Eq) (rB (X.kw ea) (VRp (X.kw ea)) eqD) := by
  intro pins s σ H x y v u Q I rx ry ⟨Hf, dx, dy, z, f, hx, hy, ez, q⟩
  unfold eqD at ez
  split at ez
  · cases ez
    rename_i hl
    rw [Bool.and_eq_true] at hl
    exact op_eqD hr.units pins s σ H _ _ v u Q I rx ry ⟨dx, dy, (hx.full f).dp (SeqAt.canLay_of_shaped hl.1), (hy.full f).dp (SeqAt.canLay_of_shaped hl.2), hl.1, hl.2, q _ Hf H (Grow.refl f) (.bl _)⟩
  · cases ez
theorem op_neB {k : Nat} (hr : Room k X.A) : OpR X (compareOp .NotEq) (rB (X.kw ea) (VRp (X.kw ea)) neD) := by
  intro pins s σ H x y v u Q I rx ry ⟨Hf, dx, dy, z, f, hx, hy, ez, q⟩
  unfold neD at ez
  split at ez
  · cases ez
    rename_i hl
    rw [Bool.and_eq_true] at hl
    exact op_neD hr.units pins s σ H _ _ v u Q I rx ry ⟨dx, dy, (hx.full f).dp (SeqAt.canLay_of_shaped hl.1), (hy.full f).dp (SeqAt.canLay_of_shaped hl.2), hl.1, hl.2, q _ Hf H (Grow.refl f) (.bl _)⟩
  · cases ez
theorem op_ltB {k : Nat} (hr : Room k X.A) : OpR X (compareOp .Lt) (rB (X.kw ea) (VRp (X.kw ea)) ltD) := by
  intro pins s σ H x y v u Q I rx ry ⟨Hf, dx, dy, z, f, hx, hy, ez, q⟩
  cases dx with
  | int i =>
    cases dy with
    | int j => cases ez; rw [hx.int] at rx; rw [hy.int] at ry; exact op_lt pins s σ H _ _ v u Q I rx ry ⟨i, j, rfl, rfl, q _ Hf H (Grow.refl f) (.bl _)⟩
    | _ => cases ez
  | tuple ds =>
    cases dy with
    | tuple es =>
      obtain ⟨a, xs, rfl, ha, ra⟩ := hx.tuple f
      obtain ⟨b, ys, rfl, hb, rb⟩ := hy.tuple f
      have ez' : (match intsOf ds, intsOf es with | some ns, some ms => some (PyData.bool (HT.lexLt ns ms)) | _, _ => none) = some z := ez
      cases e1 : intsOf ds with
      | none => rw [e1] at ez'; cases ez'
      | some ns =>
        cases e2 : intsOf es with
        | none => rw [e1, e2] at ez'; cases ez'
        | some ms =>
          rw [e1, e2] at ez'
          cases ez'
          rw [intsOf_eq e1] at ra
          rw [intsOf_eq e2] at rb
          rw [ra.ints] at ha
          rw [rb.ints] at hb
          exact op_ltT hr.units0 pins s σ H _ _ v u Q I rx ry ⟨a, b, ns, ms, rfl, rfl, ha.sq, hb.sq, q _ Hf H (Grow.refl f) (.bl _)⟩
    | _ => cases ez
  | _ => cases ez
theorem op_leB : OpR X (compareOp .LtE) (rB (X.kw ea) (VRp (X.kw ea)) leD) := by
  intro pins s σ H x y v u Q I rx ry ⟨Hf, dx, dy, z, f, hx, hy, ez, q⟩
  cases dx with
  | int i =>
    cases dy with
    | int j => cases ez; rw [hx.int] at rx; rw [hy.int] at ry; exact op_le pins s σ H _ _ v u Q I rx ry ⟨i, j, rfl, rfl, q _ Hf H (Grow.refl f) (.bl _)⟩
    | _ => cases ez
  | _ => cases ez
theorem op_gtB : OpR X (compareOp .Gt) (rB (X.kw ea) (VRp (X.kw ea)) gtD) := by
  intro pins s σ H x y v u Q I rx ry ⟨Hf, dx, dy, z, f, hx, hy, ez, q⟩
  cases dx with
  | int i =>
    cases dy with
    | int j => cases ez; rw [hx.int] at rx; rw [hy.int] at ry; exact op_gt pins s σ H _ _ v u Q I rx ry ⟨i, j, rfl, rfl, q _ Hf H (Grow.refl f) (.bl _)⟩
    | _ => cases ez
  | _ => cases ez
theorem op_geB : OpR X (compareOp .GtE) (rB (X.kw ea) (VRp (X.kw ea)) geD) := by
  intro pins s σ H x y v u Q I rx ry ⟨Hf, dx, dy, z, f, hx, hy, ez, q⟩
  cases dx with
  | int i =>
    cases dy with
    | int j => cases ez; rw [hx.int] at rx; rw [hy.int] at ry; exact op_ge pins s σ H _ _ v u Q I rx ry ⟨i, j, rfl, rfl, q _ Hf H (Grow.refl f) (.bl _)⟩
    | _ => cases ez
  | _ => cases ez
theorem isNone_iff {K : Kw} {H : Hp} {x : V} {d : D} (r : Rp K H x d) : decide (x = .non) = isNoneD d := by
  cases r <;> rfl
theorem op_isB : OpR X (compareOp .Is) (rB (X.kw ea) (VRp (X.kw ea)) isD) := by
  intro pins s σ H x y v u Q I rx ry ⟨Hf, dx, dy, z, f, hx, hy, ez, q⟩
  have hx' := hx.full f
  have hy' := hy.full f
  cases dy with
  | none =>
    cases hy'
    have ez' : some (PyData.bool (isNoneD dx)) = some z := by cases dx <;> exact ez
    cases ez'
    exact op_isN pins s σ H _ _ v u Q I rx ry ⟨rfl, by rw [isNone_iff hx']; exact q _ Hf H (Grow.refl f) (.bl _)⟩
  | bool b =>
    cases dx with
    | bool a => cases ez; cases hx'; cases hy'; exact op_isBl pins s σ H _ _ v u Q I rx ry ⟨a, b, rfl, rfl, by rw [← Bool.beq_eq_decide_eq]; exact q _ Hf H (Grow.refl f) (.bl _)⟩
    | _ => cases ez
  | _ => cases dx <;> cases ez
theorem op_isNotB : OpR X (compareOp .IsNot) (rB (X.kw ea) (VRp (X.kw ea)) isNotD) := by
  intro pins s σ H x y v u Q I rx ry ⟨Hf, dx, dy, z, f, hx, hy, ez, q⟩
  have hx' := hx.full f
  have hy' := hy.full f
  cases dy with
  | none =>
    cases hy'
    have ez' : some (PyData.bool (!isNoneD dx)) = some z := by cases dx <;> exact ez
    cases ez'
    exact op_notN pins s σ H _ _ v u Q I rx ry ⟨rfl, by rw [isNone_iff hx']; exact q _ Hf H (Grow.refl f) (.bl _)⟩
  | bool b =>
    cases dx with
    | bool a => cases ez; cases hx'; cases hy'; exact op_notBl pins s σ H _ _ v u Q I rx ry ⟨a, b, rfl, rfl, by rw [← Bool.beq_eq_decide_eq]; exact q _ Hf H (Grow.refl f) (.bl _)⟩
    | _ => cases ez
  | _ => cases dx <;> cases ez
theorem room_in (A : Around) {k : Nat} (hr : Room k A) : A.units + 65 < cLine := by have := hr.un; omega
theorem room_nk {P : Program} {w : World} {A : Around} {k : Nat} (hr : Room k A) : (nestedKind P w).room A.in1 := by have := hr.un; show A.units + 1 + 8 < cLine; omega
theorem op_inAny {op : CmpOp} (g : Bool → Bool) {k : Nat} (hr : Room k X.A)
    (hl : ∀ {M : Shared} {c x : Value} {xs : List D} {d : D} {as bs : List Addr} {Q : Value → Shared → Prop}, Reads M.heap c (.list xs) as → Reads M.heap x d bs → PyData.canLayAll0 xs = true → d.canLay0 = true → X.A.units + 1 + min (PyData.depthAll xs) d.depth < cLine →
      Q (.bool (g (xs.any fun y => PyData.eqv y d))) M → wpAny (model X.prog X.w) X.A (compareOp op x c) Q X.xe M)
    (ht : ∀ {M : Shared} {c x : Value} {xs : List D} {d : D} {as bs : List Addr} {Q : Value → Shared → Prop}, Reads M.heap c (.tuple xs) as → Reads M.heap x d bs → PyData.canLayAll0 xs = true → d.canLay0 = true → X.A.units + 1 + min (PyData.depthAll xs) d.depth < cLine →
      Q (.bool (g (xs.any fun y => PyData.eqv y d))) M → wpAny (model X.prog X.w) X.A (compareOp op x c) Q X.xe M)
    (hs : OpR X (compareOp op) (fun x y H Q => ∃ i j, x = .str i ∧ y = .str j ∧ Q (.bl (g (!(Builtin.Str.occurrences j i 0 j.length 1).isEmpty))) H))
    (hc : OpR X (compareOp op) (fun x y H Q => ∃ (c : Nat) (z : Str), x = .str ⟨#[c]⟩ ∧ y = .str z ∧ Q (.bl (g (decide (c ∈ z.cps.toList)))) H))
    (hd : ∀ {M : Shared} {c x : Addr} {xs : List (NestedKey × Addr × Value)} {k : NestedKey} {Q : Value → Shared → Prop}, (nestedKind X.prog X.w).is M.heap k x → (c == sysModules) = false → M.heap.DictOfH (nestedKind X.prog X.w) c xs → (∀ t, Q (.bool (g (atKey xs k).isSome)) { M with toks := t }) →
      wpAny (model X.prog X.w) X.A (compareOp op (.ref x) (.ref c)) Q X.xe M) :
    OpR X (compareOp op) (rB (X.kw ea) (VRp (X.kw ea)) fun x y => (inB x y).map fun b => .bool (g b)) := by
  intro pins s σ H x y v u Q I rx ry ⟨Hf, dx, dy, z, f, hx, hy, ez, q⟩
  have hx' := hx.full f
  have hy' := hy.full f
  cases dy with
  | list ds =>
    have ez' : ((if SeqAt.shaped dx && SeqAt.shaped (.list ds) then some (ds.any fun z => PyData.eqv z dx) else none).map fun b => PyData.bool (g b)) = some z := ez
    split at ez'
    · rename_i hh
      cases ez'
      rw [Bool.and_eq_true] at hh
      obtain ⟨as, r1⟩ := Dp.reads I dx x v (hx'.dp (SeqAt.canLay_of_shaped hh.1)) rx
      obtain ⟨bs, r2⟩ := Dp.reads I (.list ds) y u (hy'.dp (SeqAt.canLay_of_shaped hh.2)) ry
      exact hl r2 r1 (SeqAt.canLay_of_shaped hh.2) (SeqAt.canLay_of_shaped hh.1) (PyProof.Rows.room_in_shaped hh.1 (room_in _ hr)) ⟨.bl _, H, I, rfl, q _ Hf H (Grow.refl f) (.bl _)⟩
    · cases ez'
  | tuple ds =>
    have ez' : ((if SeqAt.shaped dx && SeqAt.shaped (.tuple ds) then some (ds.any fun z => PyData.eqv z dx) else none).map fun b => PyData.bool (g b)) = some z := ez
    split at ez'
    · rename_i hh
      cases ez'
      rw [Bool.and_eq_true] at hh
      obtain ⟨as, r1⟩ := Dp.reads I dx x v (hx'.dp (SeqAt.canLay_of_shaped hh.1)) rx
      obtain ⟨bs, r2⟩ := Dp.reads I (.tuple ds) y u (hy'.dp (SeqAt.canLay_of_shaped hh.2)) ry
      exact ht r2 r1 (SeqAt.canLay_of_shaped hh.2) (SeqAt.canLay_of_shaped hh.1) (PyProof.Rows.room_in_shaped hh.1 (room_in _ hr)) ⟨.bl _, H, I, rfl, q _ Hf H (Grow.refl f) (.bl _)⟩
    · cases ez'
  | str y' =>
    cases dx with
    | str x' =>
      have ez' : some (PyData.bool (g (inTxt x' y'))) = some z := ez
      cases ez'
      cases hx'
      cases hy'
      have q' := q _ Hf H (Grow.refl f) (.bl _)
      unfold inTxt at q'
      split at q'
      · rename_i c hcc
        have e : x' = ⟨#[c]⟩ := by
          cases x' with
          | mk cps => exact congrArg Str.mk (Array.toList_inj.mp hcc)
        exact hc pins s σ H _ _ v u Q I rx ry ⟨c, y', by rw [e], rfl, q'⟩
      · exact hs pins s σ H _ _ v u Q I rx ry ⟨x', y', rfl, rfl, q'⟩
    | _ => cases ez
  | dict kvs =>
    have ez' : ((if noScr kvs then (keyD dx).map fun k => (dget kvs k).isSome else none).map fun b => PyData.bool (g b)) = some z := ez
    split at ez'
    · rename_i hh
      obtain ⟨a, xs, rfl, ha, rk⟩ := hy.dict f (noScr_ne hh)
      cases ry
      cases hk : keyD dx with
      | none => rw [hk] at ez'; cases ez'
      | some k =>
        rw [hk] at ez'
        cases ez'
        obtain ⟨h1, h2, ds, rfl⟩ := keyD_of hk
        obtain ⟨b, ys, rfl, hb, rb⟩ := hx.tuple f
        cases rx
        obtain ⟨hz, hsm, hm⟩ := dic_of I ha (rk.mono f)
        refine hd ⟨Rp.nested I hx' rfl h1, h2⟩ hsm hm fun t => ?_
        have e1 : (atKey xs k).isSome = (dget kvs k).isSome := by
          rcases atKey_get k rk with ⟨e1, e2⟩ | ⟨_, _, _, _, e1, e2, _⟩ <;> rw [e1, e2] <;> rfl
        rw [e1]
        exact ⟨.bl _, H, I.tok t, rfl, q _ Hf H (Grow.refl f) (.bl _)⟩
    · cases ez'
  | _ => cases ez
theorem op_inB {k : Nat} (hr : Room k X.A) : OpR X (compareOp .In) (rB (X.kw ea) (VRp (X.kw ea)) inD) :=
  op_inAny (fun b => b) hr (fun r1 r2 h1 h2 h3 q => SeqAt.in_list_reads r1 r2 h1 h2 h3 q) (fun r1 r2 h1 h2 h3 q => SeqAt.in_tuple_reads r1 r2 h1 h2 h3 q) op_in_str op_in_sign
    (fun h1 h2 h3 q => wpAny_in_heap (room_nk hr) h1 h2 h3 (q _))
theorem op_notInB {k : Nat} (hr : Room k X.A) : OpR X (compareOp .NotIn) (rB (X.kw ea) (VRp (X.kw ea)) notInD) :=
  op_inAny (fun b => !b) hr (fun r1 r2 h1 h2 h3 q => SeqAt.notIn_list_reads r1 r2 h1 h2 h3 q) (fun r1 r2 h1 h2 h3 q => SeqAt.notIn_tuple_reads r1 r2 h1 h2 h3 q) op_notin_str op_notIn_sign
    (fun h1 h2 h3 q => wpAny_bind (wpAny_contains_heap (room_nk hr) h1 h2 h3 (wpAny_pure (q _))))
end
end Pu
/-! PuE: subscripts, slices, calls of built-ins -/
namespace Pu
open PySem L2
theorem RpAll.atI_ {K : Kw} {H : Hp} {vs : List V} {ds : List D} {i : Int} {d : D} (r : RpAll K H vs ds) (h : atI ds i = some d) : ∃ v, atI vs i = some v ∧ Rp K H v d := by
  unfold atI at h ⊢
  rw [r.length]
  cases q : ixN ds.length i with
  | none => rw [q] at h; cases h
  | some j =>
    rw [q] at h
    exact r.get h
def scrOf : List (D × D) → Option (List Int)
  | [(.none, .list ds)] => intsOf ds
  | _ => none
theorem scrOf_eq {kvs : List (D × D)} {ns : List Int} (h : scrOf kvs = some ns) : (.dict kvs : D) = scrD ns := by
  match kvs, h with
  | [(.none, .list ds)], h =>
    have h' : intsOf ds = some ns := h
    rw [intsOf_eq h']
    rfl
theorem scrOf_map (ns : List Int) : scrOf [(.none, .list (ns.map PyData.int))] = some ns := intsOf_map ns
def ixD : D → D → Option D
  | .list ds, .int i => atI ds i
  | .tuple ds, .int i => atI ds i
  | .str x, .int i => if x.length ≤ many then (atI x.cps.toList i).map fun c => .str ⟨#[c]⟩ else none
  | .dict kvs, .int i => (scrOf kvs).bind fun ns => (atI ns i).map PyData.int
  | _, _ => none
def cutD {α : Type} (xs : List α) (lo hi : Option Int) : List α := (xs.drop (HT.sIx xs.length 0 lo)).take (HT.sIx xs.length xs.length hi - HT.sIx xs.length 0 lo)
theorem RpAll.cut {K : Kw} {H : Hp} {vs : List V} {ds : List D} (r : RpAll K H vs ds) (lo hi : Option Int) : RpAll K H (cutV vs lo hi) (cutD ds lo hi) := by
  unfold cutV cutD
  rw [r.length]
  exact (r.drop _).take _
theorem ints_map_at {ns : List Int} {i : Int} {n : Int} (h : atI ns i = some n) : atI (ns.map V.int) i = some (.int n) := by
  unfold atI at h ⊢
  rw [List.length_map]
  cases q : ixN ns.length i with
  | none => rw [q] at h; cases h
  | some j =>
    rw [q] at h
    show (ns.map V.int)[j]? = _
    rw [List.getElem?_map]
    have h' : ns[j]? = some n := h
    rw [h']
    rfl
/-- the script's data is the script's -/
theorem Rp.script {K : Kw} {H : Hp} {v : V} {ns : List Int} (r : Rp K H v (scrD ns)) : ∃ a, v = .ref a ∧ SqL K H a (ns.map V.int) := by
  have gen : ∀ {d : D}, Rp K H v d → d = scrD ns → ∃ a, v = .ref a ∧ SqL K H a (ns.map V.int) := by
    intro d r e
    cases r with
    | dct h r =>
      unfold scrD at e
      injection e with e
      subst e
      cases r with
      | cons _ _ hb _ _ _ => cases hb
    | scr hq =>
      rename_i a ms
      unfold scrD at e
      injection e with e
      injection e with e1 e2
      injection e1 with e1 e3
      injection e3 with e3
      have : ms = ns := by
        have z := congrArg intsOf e3
        rw [intsOf_map, intsOf_map] at z
        exact Option.some.inj z
      subst this
      exact ⟨a, rfl, hq⟩
    | tab h =>
      unfold tabD scrD at e
      injection e with e
      injection e with e1 e2
      injection e1 with e1 e3
      cases e3
    | _ => cases e
  exact gen r rfl
section
variable {X : Cx} {W : WE} {a b c : Expr} {F G Fc : En → R D} {pos : Pos}
theorem ix_B : IxR X (rB (X.kw ea) (VRp (X.kw ea)) ixD) := by
  intro value slice pins s σ H x y v u Q I rx ry ⟨Hf, dx, dy, z, f, hx, hy, ez, q⟩ hs
  refine ix_seq value slice pins s σ H x y v u Q I rx ry ?_ hs
  cases dx with
  | list ds =>
    cases dy with
    | int i =>
      obtain ⟨a, xs, rfl, ha, ra⟩ := hx.list f
      obtain ⟨w, hw, rw'⟩ := ra.atI_ ez
      exact .inl ⟨a, xs, i, w, rfl, hy.int, SqL.of ha, hw, q w Hf H (Grow.refl f) rw'⟩
    | _ => cases ez
  | tuple ds =>
    cases dy with
    | int i =>
      obtain ⟨a, xs, rfl, ha, ra⟩ := hx.tuple f
      obtain ⟨w, hw, rw'⟩ := ra.atI_ ez
      exact .inr (.inl ⟨a, xs, i, w, rfl, hy.int, ha.sq, hw, q w Hf H (Grow.refl f) rw'⟩)
    | _ => cases ez
  | str t =>
    cases dy with
    | int i =>
      have ez' : (if t.length ≤ many then (atI t.cps.toList i).map fun c => PyData.str ⟨#[c]⟩ else none) = some z := ez
      split at ez'
      · rename_i hl
        cases hc : atI t.cps.toList i with
        | none => rw [hc] at ez'; cases ez'
        | some c =>
          rw [hc] at ez'
          cases ez'
          exact .inr (.inr ⟨t, i, c, hx.str, hy.int, many_line hl, hc, q _ Hf H (Grow.refl f) (.str _)⟩)
      · cases ez'
    | _ => cases ez
  | dict kvs =>
    cases dy with
    | int i =>
      have ez' : ((scrOf kvs).bind fun ns => (atI ns i).map PyData.int) = some z := ez
      cases h1 : scrOf kvs with
      | none => rw [h1] at ez'; cases ez'
      | some ns =>
        rw [h1] at ez'
        have ez2 : ((atI ns i).map PyData.int) = some z := ez'
        cases h2 : atI ns i with
        | none => rw [h2] at ez2; cases ez2
        | some n =>
          rw [h2] at ez2
          cases ez2
          rw [scrOf_eq h1] at hx
          obtain ⟨a, rfl, hl⟩ := (hx.full f).script
          exact .inl ⟨a, _, i, .int n, rfl, hy.int, hl, ints_map_at h2, q _ Hf H (Grow.refl f) (.int n)⟩
    | _ => cases ez
  | _ => cases ez
theorem xIx (ha : PE X a (tV (X.kw ea) W F)) (hb : PE X b (tV (X.kw ea) W G)) (hs : PlainIx b) : PE X (.Subscript a b pos) (tE (X.kw ea) W (bin ixD F G)) :=
  PE_weak (pe_ix ix_B ha hb hs) fun σ H Q h => tX_bin stV h
/-! ### slices -/
def tO (K : Kw) (W : WE) (F : En → R (Option Int)) : TO := fun σ H Q => ∃ H0 Hf0 Hf e, SR K H0 Hf0 Hf H σ e ∧ match F e with
  | .ok o => ∀ Hf' H', Grow Hf H Hf' H' → Q o H'
  | .ex c => ∀ Hf' H', Grow Hf H Hf' H' → W c σ H'
  | .bad => False
def onone : En → R (Option Int) := fun _ => .ok none
def osome (F : En → R D) : En → R (Option Int) := fun e => (F e).bind fun d => match d with
  | .int i => .ok (some i)
  | _ => .bad
theorem PO_weak {e : Option Expr} {t t' : TO} (h : PO X e t) (k : ∀ σ H Q, t' σ H Q → t σ H Q) : PO X e t' :=
  ⟨fun pins s σ H Q I q => h.run pins s σ H Q I (k σ H Q q)⟩
theorem oNone : PO X none (tO (X.kw ea) W onone) := PO_weak po_none fun σ H Q ⟨H0, Hf0, Hf, e, S, p⟩ => p Hf H (Grow.refl S.gr.fh)
theorem oSome (h : PE X a (tE (X.kw ea) W F)) : PO X (some a) (tO (X.kw ea) W (osome F)) := PO_weak (po_some h) fun σ H Q ⟨H0, Hf0, Hf, e, S, p⟩ => ⟨H0, Hf0, Hf, e, S, by
  revert p
  unfold osome
  cases F e with
  | ok d =>
    intro p v Hf' H' g r
    cases d with
    | int i => cases r; exact ⟨i, rfl, p Hf' H' g⟩
    | _ => exact p.elim
  | ex c => exact fun p => p
  | bad => exact fun p => p⟩
def sliceD : D → Option Int → Option Int → Option D
  | .list ds, lo, hi => some (.list (cutD ds lo hi))
  | .tuple ds, lo, hi => some (.tuple (cutD ds lo hi))
  | .str x, lo, hi => if x.length ≤ many then some (.str (cutS x lo hi)) else none
  | _, _, _ => none
def xsl (F : En → R D) (L U : En → R (Option Int)) : En → R D := fun e => (F e).bind fun d => (L e).bind fun lo => (U e).bind fun hi => opt (sliceD d lo hi)
theorem cut_whole {α : Type} (xs : List α) (lo hi : Option Int) (h : HT.sIx xs.length 0 lo = 0 ∧ HT.sIx xs.length xs.length hi = xs.length) : cutD xs lo hi = xs := by
  unfold cutD
  rw [h.1, h.2]
  simp
theorem xSl {lo hi : Option Expr} {p2 : Pos} {L U : En → R (Option Int)} (ha : PE X a (tV (X.kw ea) W F)) (hl : PO X lo (tO (X.kw ea) W L)) (hu : PO X hi (tO (X.kw ea) W U)) : PE X (.Subscript a (.Slice lo hi none p2) pos) (tE (X.kw ea) W (xsl F L U)) :=
  PE_weak (pe_slice (SlR.or sl_list (SlR.or sl_tupF sl_str)) ha hl hu) fun σ H Q ⟨H0, Hf0, Hf, e, S, p⟩ => ⟨H0, Hf0, Hf, e, S, p.bind.mono fun x H1 ⟨Hf1, d, g1, r1, p1⟩ => ⟨H0, Hf0, Hf1, e, S.grow g1, by
    revert p1
    cases L e with
    | ok lo =>
      intro p1 Hf2 H2 g2
      refine ⟨H0, Hf0, Hf2, e, (S.grow g1).grow g2, ?_⟩
      have p2 := p1.grow g2
      revert p2
      show Po (ERp (X.kw ea)) W Q σ Hf2 H2 ((U e).bind fun hi => opt (sliceD d lo hi)) → _
      cases U e with
      | ok hi =>
        intro p2 Hf3 H3 g3
        obtain ⟨z, ez, q⟩ := (p2.grow g3).of_opt
        have r3 := (r1.mono g2).mono g3
        cases d with
        | list ds =>
          cases ez
          obtain ⟨a, xs, rfl, ha, ra⟩ := r3.list g3.fh
          exact .inl ⟨a, xs, rfl, SqL.of ha, fun p hp => q _ _ _ (Grow.new g3.fh hp) (.lst upd_same ((ra.cut lo hi).mono (same_upd (g3.fh.free hp))))⟩
        | tuple ds =>
          cases ez
          obtain ⟨a, xs, rfl, ha, ra⟩ := r3.tuple g3.fh
          refine .inr (.inl ⟨a, xs, rfl, ha.sq, fun hw => ?_, fun _ => TupN.of g3.fh (ra.cut lo hi) q⟩)
          rw [ra.length] at hw
          rw [cut_whole ds lo hi hw] at q
          exact q _ _ _ (Grow.refl g3.fh) r3.tup
        | str t =>
          have ez' : (if t.length ≤ many then some (PyData.str (cutS t lo hi)) else none) = some z := ez
          split at ez'
          · rename_i hl
            cases ez'
            exact .inr (.inr ⟨t, r3.str, many_line hl, q _ _ _ (Grow.refl g3.fh) (.str _)⟩)
          · cases ez'
        | _ => cases ez
      | ex c => exact fun p2 => p2
      | bad => exact fun p2 => p2
    | ex c => exact fun p1 => p1
    | bad => exact fun p1 => p1⟩⟩

/-! ### calls of built-ins -/
def rC1 (K : Kw) (Rel : Hp → Hp → V → D → Prop) (f : D → Option D) : List V → Hp → VK → Prop := fun xs H Q => ∃ x Hf dx z, xs = [x] ∧ Same Hf H ∧ Rel Hf H x dx ∧ f dx = some z ∧ ∀ v Hf' H', Grow Hf H Hf' H' → Rp K Hf' v z → Q v H'
def rC1N (K : Kw) (Rel : Hp → Hp → V → D → Prop) (f : D → Option (List D)) : List V → Hp → VK → Prop := fun xs H Q => ∃ x Hf dx z, xs = [x] ∧ Same Hf H ∧ Rel Hf H x dx ∧ f dx = some z ∧
  ∀ p xs Hf' H', Grow Hf H Hf' H' → H p = none → Hf' p = none → H' p = some (.lst xs) → RpAll K Hf' xs z → Q (.ref p) H'
def rC2 (K : Kw) (Rel : Hp → Hp → V → D → Prop) (f : D → D → Option D) : List V → Hp → VK → Prop := fun xs H Q => ∃ x y Hf dx dy z, xs = [x, y] ∧ Same Hf H ∧ Rel Hf H x dx ∧ Rel Hf H y dy ∧ f dx dy = some z ∧ ∀ v Hf' H', Grow Hf H Hf' H' → Rp K Hf' v z → Q v H'
def un1N (f : D → Option (List D)) (F : En → R D) : En → R (List D) := fun e => (F e).bind fun x => opt (f x)
theorem tX_c1 {K : Kw} {Rel : Hp → Hp → V → D → Prop} {f : D → Option D} {σ : L2.St} {H : Hp} {Q : VK} (h : tE K W (un1 f F) σ H Q) : tCB (rC1 K Rel f) (tCons (tX K Rel W F) tNil) σ H Q := by
  obtain ⟨H0, Hf0, Hf, e, S, p⟩ := h
  refine ⟨H0, Hf0, Hf, e, S, p.bind.mono fun x H1 ⟨Hf1, dx, g1, rx, p1⟩ => ?_⟩
  obtain ⟨z, ez, q⟩ := p1.of_opt
  exact ⟨x, Hf1, dx, z, rfl, g1.fh, rx, ez, q⟩
theorem tX_c1N {K : Kw} {Rel : Hp → Hp → V → D → Prop} {f : D → Option (List D)} {σ : L2.St} {H : Hp} {Q : VK} (h : tN K W (un1N f F) σ H Q) : tCB (rC1N K Rel f) (tCons (tX K Rel W F) tNil) σ H Q := by
  obtain ⟨H0, Hf0, Hf, e, S, p⟩ := h
  refine ⟨H0, Hf0, Hf, e, S, p.bind.mono fun x H1 ⟨Hf1, dx, g1, rx, p1⟩ => ?_⟩
  obtain ⟨z, ez, q⟩ := p1.of_opt
  exact ⟨x, Hf1, dx, z, rfl, g1.fh, rx, ez, q⟩
theorem tX_c2 {K : Kw} {Rel : Hp → Hp → V → D → Prop} (st : Stays Rel) {f : D → D → Option D} {σ : L2.St} {H : Hp} {Q : VK} (h : tE K W (bin f F G) σ H Q) : tCB (rC2 K Rel f) (tCons (tX K Rel W F) (tCons (tX K Rel W G) tNil)) σ H Q := by
  obtain ⟨H0, Hf0, Hf, e, S, p⟩ := h
  refine ⟨H0, Hf0, Hf, e, S, p.bind.mono fun x H1 ⟨Hf1, dx, g1, rx, p1⟩ => ⟨H0, Hf0, Hf1, e, S.grow g1, p1.bind.mono fun y H2 ⟨Hf2, dy, g2, ry, p2⟩ => ?_⟩⟩
  obtain ⟨z, ez, q⟩ := p2.of_opt
  exact ⟨x, y, Hf2, dx, dy, z, rfl, g2.fh, st _ _ _ _ _ _ g2 rx, ry, ez, q⟩
section
variable {x : Str} {p : Pos} {id : String} {T : String}
theorem xB1 {f : D → Option D} (hc : CallR X (.builtin id) (rC1 (X.kw ea) (VRp (X.kw ea)) f)) (hg : Gl X x) (hm : X.mg x = none) (hv : bootBuiltins x = some (.builtin id)) (ha : PE X a (tV (X.kw ea) W F)) (hn : x ≠ "__name__" := by decide) (hdb : (x == ("__debug__" : Str)) = false := by decide)
    (he : starEach [a] X.env = [(false, eval a X.env)] := by rfl) : PE X (.Call (.Name x p) [a] [] pos) (tE (X.kw ea) W (un1 f F)) :=
  PE_weak (pe_callB hc hg hm hv (pa_cons ha pa_nil he) hn hdb he) fun σ H Q h => tX_c1 h
theorem xT1 {f : D → Option D} (hc : CallR X (.type T) (rC1 (X.kw ea) (VRp (X.kw ea)) f)) (hg : Gl X x) (hm : X.mg x = none) (hv : bootBuiltins x = some (.type T)) (ha : PE X a (tV (X.kw ea) W F)) (hn : x ≠ "__name__" := by decide) (hdb : (x == ("__debug__" : Str)) = false := by decide)
    (he : starEach [a] X.env = [(false, eval a X.env)] := by rfl) : PE X (.Call (.Name x p) [a] [] pos) (tE (X.kw ea) W (un1 f F)) :=
  PE_weak (pe_callTy hc hg hm hv (pa_cons ha pa_nil he) hn hdb he) fun σ H Q h => tX_c1 h
theorem xB1N {f : D → Option (List D)} (hc : CallR X (.builtin id) (rC1N (X.kw ea) (VRp (X.kw ea)) f)) (hg : Gl X x) (hm : X.mg x = none) (hv : bootBuiltins x = some (.builtin id)) (ha : PE X a (tV (X.kw ea) W F)) (hn : x ≠ "__name__" := by decide) (hdb : (x == ("__debug__" : Str)) = false := by decide)
    (he : starEach [a] X.env = [(false, eval a X.env)] := by rfl) : PE X (.Call (.Name x p) [a] [] pos) (tN (X.kw ea) W (un1N f F)) :=
  PE_weak (pe_callB hc hg hm hv (pa_cons ha pa_nil he) hn hdb he) fun σ H Q h => tX_c1N h
theorem xT1N {f : D → Option (List D)} (hc : CallR X (.type T) (rC1N (X.kw ea) (VRp (X.kw ea)) f)) (hg : Gl X x) (hm : X.mg x = none) (hv : bootBuiltins x = some (.type T)) (ha : PE X a (tV (X.kw ea) W F)) (hn : x ≠ "__name__" := by decide) (hdb : (x == ("__debug__" : Str)) = false := by decide)
    (he : starEach [a] X.env = [(false, eval a X.env)] := by rfl) : PE X (.Call (.Name x p) [a] [] pos) (tN (X.kw ea) W (un1N f F)) :=
  PE_weak (pe_callTy hc hg hm hv (pa_cons ha pa_nil he) hn hdb he) fun σ H Q h => tX_c1N h
theorem xB2 {f : D → D → Option D} (hc : CallR X (.builtin id) (rC2 (X.kw ea) (VRp (X.kw ea)) f)) (hg : Gl X x) (hm : X.mg x = none) (hv : bootBuiltins x = some (.builtin id)) (ha : PE X a (tV (X.kw ea) W F)) (hb : PE X b (tV (X.kw ea) W G)) (hn : x ≠ "__name__" := by decide) (hdb : (x == ("__debug__" : Str)) = false := by decide)
    (he : starEach [a, b] X.env = [(false, eval a X.env), (false, eval b X.env)] := by rfl) (he2 : starEach [b] X.env = [(false, eval b X.env)] := by rfl) : PE X (.Call (.Name x p) [a, b] [] pos) (tE (X.kw ea) W (bin f F G)) :=
  PE_weak (pe_callB hc hg hm hv (pa_cons ha (pa_cons hb pa_nil he2) (he.trans (by rw [he2]))) hn hdb (he.trans (by rw [he2])) (by rw [he2]; rfl)) fun σ H Q h => tX_c2 stV h
end
/-! len, tuple, list, all, any, sum, min, max, int, str -/
def lenD : D → Option D
  | .list ds => some (.int ds.length)
  | .tuple ds => some (.int ds.length)
  | .str x => if x.length ≤ many then some (.int x.length) else none
  | .dict kvs => (scrOf kvs).map fun ns => .int ns.length
  | _ => none
theorem call_lenB : CallR X (.builtin "len") (rC1 (X.kw ea) (VRp (X.kw ea)) lenD) := by
  intro pins s σ H xs us Q I r ⟨x, Hf, dx, z, ex, f, hx, ez, q⟩
  subst ex
  refine call_len pins s σ H _ us Q I r ?_
  cases dx with
  | list ds =>
    cases ez
    obtain ⟨a, ys, rfl, ha, ra⟩ := hx.list f
    exact ⟨_, ys.length, rfl, .inl ⟨ys, SqL.of ha, rfl⟩, by rw [ra.length]; exact q _ Hf H (Grow.refl f) (.int _)⟩
  | tuple ds =>
    cases ez
    obtain ⟨a, ys, rfl, ha, ra⟩ := hx.tuple f
    exact ⟨_, ys.length, rfl, .inr ⟨ys, ha.sq, rfl⟩, by rw [ra.length]; exact q _ Hf H (Grow.refl f) (.int _)⟩
  | str t =>
    have ez' : (if t.length ≤ many then some (PyData.int t.length) else none) = some z := ez
    split at ez'
    · rename_i hl
      cases ez'
      rw [hx.str]
      exact ⟨_, t.length, rfl, ⟨many_line hl, rfl⟩, q _ Hf H (Grow.refl f) (.int _)⟩
    · cases ez'
  | dict kvs =>
    have ez' : ((scrOf kvs).map fun ns => PyData.int ns.length) = some z := ez
    cases h1 : scrOf kvs with
    | none => rw [h1] at ez'; cases ez'
    | some ns =>
      rw [h1] at ez'
      cases ez'
      rw [scrOf_eq h1] at hx
      obtain ⟨a, rfl, hl⟩ := (hx.full f).script
      exact ⟨_, ns.length, rfl, .inl ⟨_, hl, by rw [List.length_map]⟩, q _ Hf H (Grow.refl f) (.int _)⟩
  | _ => cases ez
def tupleD : D → Option D
  | .list ds => some (.tuple ds)
  | .tuple ds => some (.tuple ds)
  | _ => none
theorem call_tupleB : CallR X (.type "tuple") (rC1 (X.kw ea) (VRp (X.kw ea)) tupleD) := by
  intro pins s σ H xs us Q I r ⟨x, Hf, dx, z, ex, f, hx, ez, q⟩
  subst ex
  refine call_tupleF pins s σ H _ us Q I r ?_
  cases dx with
  | list ds =>
    cases ez
    obtain ⟨a, ys, rfl, ha, ra⟩ := hx.list f
    exact ⟨a, ys, rfl, .inl ⟨SqL.of ha, TupN.of f ra q⟩⟩
  | tuple ds =>
    cases ez
    have hx := hx.tup
    cases hx with
    | tup ha ra => exact ⟨_, _, rfl, .inr ⟨(ha.mono f).sq, q _ Hf H (Grow.refl f) (.tup ha ra)⟩⟩
  | _ => cases ez
def listN : D → Option (List D)
  | .list ds => some ds
  | .tuple ds => some ds
  | _ => none
theorem call_listB : CallR X (.type "list") (rC1N (X.kw ea) (VRp (X.kw ea)) listN) := by
  intro pins s σ H xs us Q I r ⟨x, Hf, dx, z, ex, f, hx, ez, q⟩
  subst ex
  refine call_list_of pins s σ H _ us Q I r ?_
  cases dx with
  | list ds =>
    cases ez
    obtain ⟨a, ys, rfl, ha, ra⟩ := hx.list f
    exact ⟨a, ys, rfl, .inl (SqL.of ha), fun p hp => q p _ Hf _ (Grow.lay f hp) hp (f.free hp) upd_same ra⟩
  | tuple ds =>
    cases ez
    obtain ⟨a, ys, rfl, ha, ra⟩ := hx.tuple f
    exact ⟨a, ys, rfl, .inr (ha.sq), fun p hp => q p _ Hf _ (Grow.lay f hp) hp (f.free hp) upd_same ra⟩
  | _ => cases ez
def boolsOf : List D → Option (List Bool)
  | [] => some []
  | .bool i :: r => (boolsOf r).map (i :: ·)
  | _ => none
theorem boolsOf_eq : ∀ {ds : List D} {ns : List Bool}, boolsOf ds = some ns → ds = ns.map PyData.bool
  | [], ns, h => by cases h; rfl
  | .bool i :: r, ns, h => by
    unfold boolsOf at h
    cases q : boolsOf r with
    | none => rw [q] at h; cases h
    | some ms => rw [q] at h; cases h; rw [boolsOf_eq q]; rfl
  | .none :: r, ns, h => by cases h
  | .int _ :: r, ns, h => by cases h
  | .str _ :: r, ns, h => by cases h
  | .list _ :: r, ns, h => by cases h
  | .tuple _ :: r, ns, h => by cases h
  | .dict _ :: r, ns, h => by cases h
theorem boolsOf_map : ∀ ns : List Bool, boolsOf (ns.map PyData.bool) = some ns
  | [] => rfl
  | n :: ns => by
    show (boolsOf (ns.map PyData.bool)).map (n :: ·) = _
    rw [boolsOf_map ns]
    rfl
def allD : D → Option D
  | .list ds => (boolsOf ds).map fun bs => .bool (bs.all id)
  | _ => none
def anyD : D → Option D
  | .list ds => (boolsOf ds).map fun bs => .bool (bs.any id)
  | _ => none
theorem call_allB (hc : X.calm = true) : CallR X (.builtin "all") (rC1 (X.kw ea) (VRp (X.kw ea)) allD) := by
  intro pins s σ H xs us Q I r ⟨x, Hf, dx, z, ex, f, hx, ez, q⟩
  subst ex
  refine cr_all hc pins s σ H _ us Q I r ?_
  cases dx with
  | list ds =>
    obtain ⟨a, ys, rfl, ha, ra⟩ := hx.list f
    have ez' : ((boolsOf ds).map fun bs => PyData.bool (bs.all id)) = some z := ez
    cases h1 : boolsOf ds with
    | none => rw [h1] at ez'; cases ez'
    | some bs =>
      rw [h1] at ez'
      cases ez'
      rw [boolsOf_eq h1] at ra
      rw [ra.bools] at ha
      exact ⟨a, bs, rfl, SqL.of ha, q _ Hf H (Grow.refl f) (.bl _)⟩
  | _ => cases ez
theorem call_anyB (hc : X.calm = true) : CallR X (.builtin "any") (rC1 (X.kw ea) (VRp (X.kw ea)) anyD) := by
  intro pins s σ H xs us Q I r ⟨x, Hf, dx, z, ex, f, hx, ez, q⟩
  subst ex
  refine cr_any hc pins s σ H _ us Q I r ?_
  cases dx with
  | list ds =>
    obtain ⟨a, ys, rfl, ha, ra⟩ := hx.list f
    have ez' : ((boolsOf ds).map fun bs => PyData.bool (bs.any id)) = some z := ez
    cases h1 : boolsOf ds with
    | none => rw [h1] at ez'; cases ez'
    | some bs =>
      rw [h1] at ez'
      cases ez'
      rw [boolsOf_eq h1] at ra
      rw [ra.bools] at ha
      exact ⟨a, bs, rfl, SqL.of ha, q _ Hf H (Grow.refl f) (.bl _)⟩
  | _ => cases ez
def sumD : D → Option D
  | .list ds => (intsOf ds).map fun ns => .int ns.sum
  | _ => none
theorem call_sumB (hc : X.calm = true) : CallR X (.builtin "sum") (rC1 (X.kw ea) (VRp (X.kw ea)) sumD) := by
  intro pins s σ H xs us Q I r ⟨x, Hf, dx, z, ex, f, hx, ez, q⟩
  subst ex
  refine cr_sum hc pins s σ H _ us Q I r ?_
  cases dx with
  | list ds =>
    obtain ⟨a, ys, rfl, ha, ra⟩ := hx.list f
    have ez' : ((intsOf ds).map fun bs => PyData.int bs.sum) = some z := ez
    cases h1 : intsOf ds with
    | none => rw [h1] at ez'; cases ez'
    | some bs =>
      rw [h1] at ez'
      cases ez'
      rw [intsOf_eq h1] at ra
      rw [ra.ints] at ha
      exact ⟨a, bs, rfl, SqL.of ha, q _ Hf H (Grow.refl f) (.int _)⟩
  | _ => cases ez
def maxL : List Int → Option Int
  | [] => none
  | n :: ns => some (ns.foldl max n)
def minL : List Int → Option Int
  | [] => none
  | n :: ns => some (ns.foldl min n)
theorem foldl_max (ns : List Int) : ∀ n : Int, (ns.foldl max n = n ∨ ns.foldl max n ∈ ns) ∧ n ≤ ns.foldl max n ∧ ∀ y ∈ ns, y ≤ ns.foldl max n := by
  induction ns with
  | nil => intro n; exact ⟨.inl rfl, Int.le_refl _, fun y h => by cases h⟩
  | cons m ns ih =>
    intro n
    obtain ⟨h1, h2, h3⟩ := ih (max n m)
    rw [List.foldl_cons]
    refine ⟨?_, by omega, fun y hy => ?_⟩
    · rcases h1 with h1 | h1
      · rw [h1]
        by_cases z : n ≤ m
        · right; rw [Int.max_eq_right z]; exact List.mem_cons_self
        · left; rw [Int.max_eq_left (by omega)]
      · right; exact List.mem_cons_of_mem _ h1
    · rcases List.mem_cons.mp hy with rfl | hy
      · omega
      · exact h3 y hy
theorem foldl_min (ns : List Int) : ∀ n : Int, (ns.foldl min n = n ∨ ns.foldl min n ∈ ns) ∧ ns.foldl min n ≤ n ∧ ∀ y ∈ ns, ns.foldl min n ≤ y := by
  induction ns with
  | nil => intro n; exact ⟨.inl rfl, Int.le_refl _, fun y h => by cases h⟩
  | cons m ns ih =>
    intro n
    obtain ⟨h1, h2, h3⟩ := ih (min n m)
    rw [List.foldl_cons]
    refine ⟨?_, by omega, fun y hy => ?_⟩
    · rcases h1 with h1 | h1
      · rw [h1]
        by_cases z : n ≤ m
        · left; rw [Int.min_eq_left z]
        · right; rw [Int.min_eq_right (by omega)]; exact List.mem_cons_self
      · right; exact List.mem_cons_of_mem _ h1
    · rcases List.mem_cons.mp hy with rfl | hy
      · omega
      · exact h3 y hy
def maxD : D → Option D
  | .list ds => (intsOf ds).bind fun ns => (maxL ns).map PyData.int
  | _ => none
def minD : D → Option D
  | .list ds => (intsOf ds).bind fun ns => (minL ns).map PyData.int
  | _ => none
theorem call_maxB (hc : X.calm = true) : CallR X (.builtin "max") (rC1 (X.kw ea) (VRp (X.kw ea)) maxD) := by
  intro pins s σ H xs us Q I r ⟨x, Hf, dx, z, ex, f, hx, ez, q⟩
  subst ex
  refine cr_max hc pins s σ H _ us Q I r ?_
  cases dx with
  | list ds =>
    obtain ⟨a, ys, rfl, ha, ra⟩ := hx.list f
    have ez' : ((intsOf ds).bind fun ns => (maxL ns).map PyData.int) = some z := ez
    cases h1 : intsOf ds with
    | none => rw [h1] at ez'; cases ez'
    | some bs =>
      rw [h1] at ez'
      rw [intsOf_eq h1] at ra
      rw [ra.ints] at ha
      cases bs with
      | nil => cases ez'
      | cons n ns =>
        cases ez'
        refine ⟨a, n :: ns, rfl, SqL.of ha, by simp, fun m hm hle => ?_⟩
        have e : m = ns.foldl max n := by
          obtain ⟨h1, h2, h3⟩ := foldl_max ns n
          have a1 : m ≤ ns.foldl max n := by
            rcases List.mem_cons.mp hm with rfl | hm
            · exact h2
            · exact h3 m hm
          have a2 : ns.foldl max n ≤ m := by
            rcases h1 with h1 | h1
            · rw [h1]; exact hle n List.mem_cons_self
            · exact hle _ (List.mem_cons_of_mem _ h1)
          omega
        rw [e]
        exact q _ Hf H (Grow.refl f) (.int _)
  | _ => cases ez
theorem call_minB (hc : X.calm = true) : CallR X (.builtin "min") (rC1 (X.kw ea) (VRp (X.kw ea)) minD) := by
  intro pins s σ H xs us Q I r ⟨x, Hf, dx, z, ex, f, hx, ez, q⟩
  subst ex
  refine cr_min hc pins s σ H _ us Q I r ?_
  cases dx with
  | list ds =>
    obtain ⟨a, ys, rfl, ha, ra⟩ := hx.list f
    have ez' : ((intsOf ds).bind fun ns => (minL ns).map PyData.int) = some z := ez
    cases h1 : intsOf ds with
    | none => rw [h1] at ez'; cases ez'
    | some bs =>
      rw [h1] at ez'
      rw [intsOf_eq h1] at ra
      rw [ra.ints] at ha
      cases bs with
      | nil => cases ez'
      | cons n ns =>
        cases ez'
        refine ⟨a, n :: ns, rfl, SqL.of ha, by simp, fun m hm hle => ?_⟩
        have e : m = ns.foldl min n := by
          obtain ⟨h1, h2, h3⟩ := foldl_min ns n
          have a1 : ns.foldl min n ≤ m := by
            rcases List.mem_cons.mp hm with rfl | hm
            · exact h2
            · exact h3 m hm
          have a2 : m ≤ ns.foldl min n := by
            rcases h1 with h1 | h1
            · rw [h1]; exact hle n List.mem_cons_self
            · exact hle _ (List.mem_cons_of_mem _ h1)
          omega
        rw [e]
        exact q _ Hf H (Grow.refl f) (.int _)
  | _ => cases ez
def max2D : D → D → Option D
  | .int i, .int j => some (.int (if j > i then j else i))
  | _, _ => none
def min2D : D → D → Option D
  | .int i, .int j => some (.int (if j < i then j else i))
  | _, _ => none
theorem call_max2B (hc : X.calm = true) : CallR X (.builtin "max") (rC2 (X.kw ea) (VRp (X.kw ea)) max2D) := by
  intro pins s σ H xs us Q I r ⟨x, y, Hf, dx, dy, z, ex, f, hx, hy, ez, q⟩
  subst ex
  refine call_max2 hc pins s σ H _ us Q I r ?_
  cases dx with
  | int i =>
    cases dy with
    | int j => cases ez; rw [hx.int, hy.int]; exact ⟨i, j, rfl, q _ Hf H (Grow.refl f) (.int _)⟩
    | _ => cases ez
  | _ => cases ez
theorem call_min2B (hc : X.calm = true) : CallR X (.builtin "min") (rC2 (X.kw ea) (VRp (X.kw ea)) min2D) := by
  intro pins s σ H xs us Q I r ⟨x, y, Hf, dx, dy, z, ex, f, hx, hy, ez, q⟩
  subst ex
  refine call_min2 hc pins s σ H _ us Q I r ?_
  cases dx with
  | int i =>
    cases dy with
    | int j => cases ez; rw [hx.int, hy.int]; exact ⟨i, j, rfl, q _ Hf H (Grow.refl f) (.int _)⟩
    | _ => cases ez
  | _ => cases ez
def intD : D → Option D
  | .int i => some (.int i)
  | .bool k => some (.int (if k then 1 else 0))
  | .str x => if x.length ≤ 640 then (PySem.intText? x).map PyData.int else none
  | _ => none
theorem call_intB : CallR X (.type "int") (rC1 (X.kw ea) (VRp (X.kw ea)) intD) := by
  intro pins s σ H xs us Q I r ⟨x, Hf, dx, z, ex, f, hx, ez, q⟩
  subst ex
  have hx' := hx.full f
  cases dx with
  | int i => cases ez; cases hx'; exact call_int1 pins s σ H _ us Q I r (.inl ⟨i, rfl, q _ Hf H (Grow.refl f) (.int _)⟩)
  | bool i => cases ez; cases hx'; exact call_int1 pins s σ H _ us Q I r (.inr ⟨i, rfl, q _ Hf H (Grow.refl f) (.int _)⟩)
  | str t =>
    cases hx'
    have ez' : (if t.length ≤ 640 then (PySem.intText? t).map PyData.int else none) = some z := ez
    split at ez'
    · rename_i hl
      cases h1 : PySem.intText? t with
      | none => rw [h1] at ez'; cases ez'
      | some n => rw [h1] at ez'; cases ez'; exact call_int_str pins s σ H _ us Q I r ⟨t, n, rfl, h1, hl, q _ Hf H (Grow.refl f) (.int _)⟩
    · cases ez'
  | _ => cases ez
def strD : D → Option D
  | .int i => if i.natAbs.log2 < 1920 then some (.str (toString i : String)) else none
  | _ => none
theorem call_strB : CallR X (.type "str") (rC1 (X.kw ea) (VRp (X.kw ea)) strD) := by
  intro pins s σ H xs us Q I r ⟨x, Hf, dx, z, ex, f, hx, ez, q⟩
  subst ex
  cases dx with
  | int i =>
    rw [hx.int] at r
    have ez' : (if i.natAbs.log2 < 1920 then some (PyData.str (toString i : String)) else none) = some z := ez
    split at ez'
    · rename_i hl
      cases ez'
      exact call_str_int pins s σ H _ us Q I r ⟨i, rfl, hl, q _ Hf H (Grow.refl f) (.str _)⟩
    · cases ez'
  | _ => cases ez
end
end Pu
/-! PuF: what is walked: lists, tuples, texts, ranges, enumerate, zip -/
namespace Pu
open PySem
/-- the heap with an enumerate over the new iterator o -/
def enumOn (h : Heap) (o : Obj) : Heap := (h.push o).push { cls := .type "enumerate", data := .fields #[.none, .bool false, .ref h.objs.size, rawInt 0, .none, .none] }
theorem enum_new {v : Value} {o : Obj} {Z : Heap → Prop} (B : Begins v o Z) :
    Meets (Builtin.«enumerate.__new__» ⟨[.type "enumerate", v], []⟩) (fun _ R s => Z s.heap ∧ R (.ok (.ret (.ref (s.heap.push o).objs.size))) { s with heap := enumOn s.heap o }) := .of_wp fun P w A R s ⟨hz, hr⟩ => by
  cases s with
  | mk h gs dr tk os =>
    have sub := sub_enumerate
    have go : ∀ {A' : Around} {E : Value → Shared → Prop} {Q : Value → Shared → Prop}, Q (.ref h.objs.size) ⟨h.push o, gs, dr, tk, os⟩ → wpAny (model P w) A' (pyIter v) Q E ⟨h, gs, dr, tk, os⟩ := fun q => B.iter P w _ _ ⟨h, gs, dr, tk, os⟩ _ hz q
    wp_walk
    apply wpAny_stack_any
    intro st
    apply wpAny_pure
    split
    · rename_i c _ _ _ _ _
      rcases Bool.eq_false_or_eq_true (c == Value.type "enumerate") with y | y <;> (rw [y]; wp_walk using go; exact ⟨_, rfl, hr⟩)
    · wp_walk using go
      exact ⟨_, rfl, hr⟩
theorem enum_on {v : Value} {o : Obj} {Z : Heap → Prop} {P : Program} {w : World} {A : Around} {E : Value → Shared → Prop} {s : Shared} {Q : Value → Shared → Prop} (B : Begins v o Z) (hz : Z s.heap) (hq : Q (.ref (s.heap.objs.size + 1)) { s with heap := enumOn s.heap o }) :
    wpAny (model P w) A (call (.type "enumerate") [v]) Q E s := by
  have n1 : (s.heap.push o).objs.size = s.heap.objs.size + 1 := Heap.size_push ..
  refine callType_new F.called_enumerate (by decide) (F.typeCall_enumerate_1 v) (F.newCall_enumerate_1 v) (fun x => F.args_object_init_2 x v) F.entry_enumerate_new (enum_new B) ⟨hz, ?_⟩
  exact ⟨⟨_, Heap.get?_push_size _ rfl, rfl⟩, n1 ▸ hq⟩
end Pu
namespace L2
open PySem PySem.Spec PyProof.Rows
section
variable {X : Cx} {pins : List (Addr × Obj)} {σ : St} {H : Hp} {s : Shared}
/-- a pair laid at the heap's end, while nothing but ch has changed -/
theorem pair_laid {ch : List Addr} {g : Heap} {tk : Nat} {x y : V} {u v : Value} (I : Inv X pins σ H s) (own : ∀ b ∈ ch, FpOk X pins H b) (k : ∀ b o, b ∉ ch → s.heap.get? b = some o → g.get? b = some o)
    (hT : g.get? s.heap.objs.size = some { cls := .type "tuple", data := .seq #[u, v] }) (rx : RelV x u) (ry : RelV y v) :
    Inv X pins σ (upd H s.heap.objs.size (.frz { cls := .type "tuple", data := .seq #[u, v] } (.tup [x, y]))) { s with heap := g, toks := tk } :=
  have two : [x, y].length ≤ sizeLine := show 2 ≤ sizeLine by decide
  I.turnedNew k own (Nat.le_refl _) ⟨hT, two, [u, v], .cons rx (.cons ry .nil), _, hT, rfl, _, rfl⟩
theorem free_old {ch : List Addr} {o : HO} (own : ∀ b ∈ ch, FpOk X pins H b) (lo : ∀ b ∈ ch, b < s.heap.objs.size) : ∀ b ∈ ch, upd H s.heap.objs.size o b = none :=
  fun b hb => (upd_ne (Nat.ne_of_lt (lo b hb))).trans (own b hb).1
theorem fresh_all {ch : List Addr} (I : Inv X pins σ H s) (hi : ∀ b ∈ ch, s.heap.objs.size ≤ b) : ∀ b ∈ ch, FpOk X pins H b := fun b hb => I.fpOk (hi b hb) (I.hok.fresh (hi b hb))
end
/-- what is walked from a by the iterator at j: a list or a tuple -/
structure Sour (P : Program) (w : World) (K : PySem.W.Frag) (a j : Addr) (sq : Hp → List V → Prop) (at_ : Nat → Heap → Prop) (is : Array Value → Heap → Prop) : Prop where
  read : ∀ {X : Cx} {pins : List (Addr × Obj)} {σ : St} {H : Hp} {s : Shared} {xs : List V}, X.K = K → Inv X pins σ H s → sq H xs → ∃ us : List Value, Vals xs us ∧ is us.toArray s.heap
  only : ∀ {X : Cx} {pins : List (Addr × Obj)} {σ : St} {H : Hp} {s : Shared} {xs ys : List V}, X.K = K → Inv X pins σ H s → sq H xs → sq H ys → xs = ys
  draw : ∀ {A : Around}, A.handled = none → a ≠ j → ∀ us : Array Value, Draws P w A j [j, a] us.size (fun i v => us[i]? = some v) (fun i h => at_ i h ∧ is us h)
  seqO : ∀ {us : Array Value} {h : Heap}, is us h → ∃ o T, h.get? a = some o ∧ o.cls = .type T ∧ (T = "list" ∨ T = "tuple")
  itO : ∀ {i : Nat} {h : Heap}, at_ i h → ∃ o T vs, h.get? j = some o ∧ o.cls = .type T ∧ (T = "list_iterator" ∨ T = "tuple_iterator") ∧ o.data = .fields vs
  keep : ∀ {i : Nat} {h h' : Heap}, at_ i h → (∀ o, h.get? j = some o → h'.get? j = some o) → at_ i h'
theorem sourL {P : Program} {w : World} {K : PySem.W.Frag} (a j : Addr) : Sour P w K a j (fun H => SqL K H a) (fun i h => h.IsListIter j a i) (fun us h => h.IsList a us) where
  read := fun e I h => by subst e; exact let ⟨us, r, p, _⟩ := I.list h; ⟨us, r, p.isList⟩
  only := fun e I h h' => by subst e; exact I.list_inj h h'
  draw := fun hh ne us => Draws.list hh j a ne us
  seqO := fun ⟨o, g, c, _⟩ => ⟨o, "list", g, c, .inl rfl⟩
  itO := fun ⟨o, g, c, d⟩ => ⟨o, _, _, g, c, .inl rfl, d⟩
  keep := fun x k => x.at k
theorem sourT {P : Program} {w : World} {K : PySem.W.Frag} (a j : Addr) : Sour P w K a j (fun H => SqT K H a) (fun i h => h.IsTupleIter j a i) (fun us h => h.IsTuple a us) where
  read := fun e I h => by subst e; exact let ⟨us, r, p, _⟩ := I.tuple h; ⟨us, r, p⟩
  only := fun e I h h' => by subst e; exact I.tuple_inj h h'
  draw := fun hh ne us => Draws.tuple hh j a ne us
  seqO := fun ⟨o, g, c, _⟩ => ⟨o, "tuple", g, c, .inr rfl⟩
  itO := fun ⟨o, g, c, d⟩ => ⟨o, _, _, g, c, .inr rfl, d⟩
  keep := fun x k => x.at k
section
variable {P : Program} {w : World} {K : PySem.W.Frag} {a j : Addr} {sq : Hp → List V → Prop} {at_ : Nat → Heap → Prop} {is : Array Value → Heap → Prop}
theorem Sour.ne (Z : Sour P w K a j sq at_ is) {i : Nat} {us : Array Value} {h : Heap} (x : at_ i h) (y : is us h) : a ≠ j := fun e => by
  obtain ⟨o, T, g, c, d⟩ := Z.seqO y
  obtain ⟨o', T', vs, g', c', d', _⟩ := Z.itO x
  rw [e, g', Option.some.injEq] at g
  rw [g, c, Value.type.injEq] at c'
  rw [← c'] at d'
  rcases d with d | d <;> (subst d; exact absurd d' (by decide))
theorem Sour.off (Z : Sour P w K a j sq at_ is) {us : Array Value} {h : Heap} (y : is us h) {e : Addr} {o : Obj} {T : String} (g : h.get? e = some o) (c : o.cls = .type T) (d : T ≠ "list" ∧ T ≠ "tuple") : e ≠ a := fun q => by
  obtain ⟨o', T', g', c', d'⟩ := Z.seqO y
  rw [← q, g, Option.some.injEq] at g'
  rw [← g', c, Value.type.injEq] at c'
  exact d'.elim (fun z => d.1 (c'.trans z)) fun z => d.2 (c'.trans z)
theorem Sour.lt (Z : Sour P w K a j sq at_ is) {i : Nat} {h : Heap} (x : at_ i h) : j < h.objs.size := let ⟨_, _, _, g, _⟩ := Z.itO x; Heap.lt_size g
/-- i and the item, in a new pair -/
def Ien (sq : Hp → List V → Prop) : It where
  go i H := ∃ (xs : List V) (x : V), sq H xs ∧ xs[i]? = some x
  yld i H v H' := ∃ T x o, v = .ref T ∧ H T = none ∧ o.dict = none ∧ H' = upd H T (.frz o (.tup [.int (i : Nat), x])) ∧ ∀ xs, sq H xs → xs[i]? = some x
  stop i H := ∃ xs : List V, sq H xs ∧ xs.length = i
theorem turn_en {elts : List Expr} {kk : Nat} {tpos : Pos} (Z : Sour P w K a j sq at_ is) (e : Addr) :
    Turn P w K (.Tuple elts kk tpos) (Ien sq) [e, j] e (fun i h => (∃ old, IsEnum h e j ((i : Nat) : Int) old) ∧ at_ i h ∧ e ≠ j) where
  mem := List.mem_cons_self
  obj := fun i h ⟨⟨old, he⟩, x, _⟩ b hb => by
    rcases List.mem_cons.mp hb with q | q
    · exact q ▸ ⟨_, he, fun _ z => nomatch z⟩
    · obtain ⟨o, _, vs, g, _, _, d⟩ := Z.itO x
      exact List.mem_singleton.mp q ▸ ⟨o, g, fun v z => nomatch d.symm.trans z⟩
  keep := fun i h h' ⟨⟨old, he⟩, x, ne⟩ k => ⟨⟨old, k e List.mem_cons_self _ he⟩, Z.keep x (k j (List.mem_cons_of_mem _ List.mem_cons_self)), ne⟩
  item := fun X eP ew eK calm i pins s σ H E I own ⟨⟨old, he⟩, x, ne⟩ ⟨xs, v, hs, hv⟩ => by
    subst eP ew
    obtain ⟨us, rv, hu⟩ := Z.read eK I hs
    obtain ⟨u, gu, ru⟩ := rv.get hv
    have lo : ∀ b ∈ [e, j], b < s.heap.objs.size := fun b hb => (List.mem_cons.mp hb).elim (fun q => q ▸ Heap.lt_size he) fun q => List.mem_singleton.mp q ▸ Z.lt x
    have off : e ∉ [j, a] := fun q => (List.mem_cons.mp q).elim ne fun q => Z.off hu he rfl ⟨by decide, by decide⟩ (List.mem_singleton.mp q)
    have lt : i < us.toArray.size := (List.getElem?_eq_some_iff.mp gu).1
    refine wpAny_pyNext_enum_itemD (Z.draw (A := X.A.in1) (I.ok.hd calm) (Z.ne x hu) us.toArray) he ⟨x, hu⟩ lt ne off fun y g1 tk hy out nx tup _ oth => ⟨_, rfl, wpAny_letOwnedTupleGo_enum out fun g2 en sb => ?_⟩
    obtain rfl : y = u := Option.some.inj ((show us[i]? = some y by simpa using hy).symm.trans gu)
    have same : ∀ b o, b ∉ [e, j] → s.heap.get? b = some o → g2.get? b = some o := fun b o nb g => (sb.2 b (fun q => nb (q ▸ List.mem_cons_self))).trans (oth b o (fun q => nb (q ▸ List.mem_cons_self)) (fun q => nb (q ▸ List.mem_cons_of_mem _ List.mem_cons_self)) g)
    have I2 := pair_laid (tk := tk + 1) (x := .int (i : Nat)) I own same ((sb.2 _ (Nat.ne_of_gt (Heap.lt_size he))).trans tup) ⟨_, rfl⟩ ru
    have up : ((i : Int) + 1) = ((i + 1 : Nat) : Int) := (Int.natCast_succ i).symm
    exact ⟨.ref s.heap.objs.size, _, I2, rfl, ⟨_, v, _, rfl, I.hok.fresh (Nat.le_refl _), rfl, rfl, fun ys hy => (Z.only eK I hs hy) ▸ hv⟩, ⟨⟨y, up ▸ en⟩, Z.keep nx.1 fun o q => (sb.2 j ne.symm).trans q, ne⟩, free_old own lo⟩
  done := fun X eP ew eK calm i pins s σ H E I own ⟨⟨old, he⟩, x, ne⟩ ⟨xs, hs, hl⟩ => by
    subst eP ew
    obtain ⟨us, rv, hu⟩ := Z.read eK I hs
    have el : us.toArray.size = i := by rw [List.size_toArray, ← rv.length, hl]
    obtain ⟨n0, n1, _, n3, n4, n5⟩ := own j (List.mem_cons_of_mem _ List.mem_cons_self)
    exact wpAny_pyNext_enum_endD (Z.draw (A := X.A.in1) (I.ok.hd calm) (Z.ne x hu) us.toArray) he ⟨el.symm ▸ x, hu⟩ fun g eb => ⟨rfl, I.turned (t' := s.toks) eb n0 n1 n3 n4 n5⟩
  self := fun A i s Q E ⟨⟨_, he⟩, _⟩ q => wpAny_pyIter_enum he q
end
section
variable {P : Program} {w : World} {K : PySem.W.Frag} {a b z TI TO i1 i2 : Addr} {sq sr : Hp → List V → Prop} {at_ bt : Nat → Heap → Prop} {is js : Array Value → Heap → Prop}
/-- the items of both, in a new pair -/
def Izi (sq sr : Hp → List V → Prop) : It where
  go i H := ∃ (xs ys : List V) (x y : V), sq H xs ∧ sr H ys ∧ xs[i]? = some x ∧ ys[i]? = some y
  yld i H v H' := ∃ T x y o, v = .ref T ∧ H T = none ∧ o.dict = none ∧ H' = upd H T (.frz o (.tup [x, y])) ∧ (∀ xs, sq H xs → xs[i]? = some x) ∧ ∀ ys, sr H ys → ys[i]? = some y
  stop i H := ∃ xs ys : List V, sq H xs ∧ sr H ys ∧ i = min xs.length ys.length
theorem turn_zi {elts : List Expr} {kk : Nat} {tpos : Pos} (Z : Sour P w K a i1 sq at_ is) (Y : Sour P w K b i2 sr bt js) (D : ZipSep2 z TI TO i1 i2 [i1, a] [i2, b]) :
    Turn P w K (.Tuple elts kk tpos) (Izi sq sr) [z, TI, TO, i1, i2] z (fun i h => IsZip h z TI TO .none ∧ IsTupOf2 h TI (.ref i1) (.ref i2) ∧ (∃ x y, IsTupOf2 h TO x y) ∧ at_ i h ∧ bt i h) where
  mem := List.mem_cons_self
  obj := fun i h ⟨hz, hI, ⟨_, _, hO⟩, x, y⟩ c hc => by
    obtain ⟨o1, _, _, g1, _, _, d1⟩ := Z.itO x
    obtain ⟨o2, _, _, g2, _, _, d2⟩ := Y.itO y
    simp only [List.mem_cons, List.not_mem_nil, or_false] at hc
    rcases hc with q | q | q | q | q <;> subst q
    · exact ⟨_, hz, fun _ e => nomatch e⟩
    · exact ⟨_, hI, fun _ e => nomatch e⟩
    · exact ⟨_, hO, fun _ e => nomatch e⟩
    · exact ⟨o1, g1, fun _ e => nomatch d1.symm.trans e⟩
    · exact ⟨o2, g2, fun _ e => nomatch d2.symm.trans e⟩
  keep := fun i h h' ⟨hz, hI, ⟨p, q, hO⟩, x, y⟩ k => ⟨k z (by simp) _ hz, k TI (by simp) _ hI, ⟨p, q, k TO (by simp) _ hO⟩, Z.keep x (k i1 (by simp)), Y.keep y (k i2 (by simp))⟩
  item := fun X eP ew eK calm i pins s σ H E I own ⟨hz, hI, ⟨p, q, hO⟩, x, y⟩ ⟨xs, ys, vx, vy, hs, hr, gx, gy⟩ => by
    subst eP ew
    obtain ⟨us, rv, hu⟩ := Z.read eK I hs
    obtain ⟨ws, rw', hw⟩ := Y.read eK I hr
    obtain ⟨u1, g1, r1⟩ := rv.get gx
    obtain ⟨u2, g2, r2⟩ := rw'.get gy
    have lo : ∀ c ∈ [z, TI, TO, i1, i2], c < s.heap.objs.size := fun c hc => by
      simp only [List.mem_cons, List.not_mem_nil, or_false] at hc
      rcases hc with q | q | q | q | q <;> subst q
      · exact Heap.lt_size hz
      · exact Heap.lt_size hI
      · exact Heap.lt_size hO
      · exact Z.lt x
      · exact Y.lt y
    refine wpAny_pyNext_zipD2_item D (Z.draw (A := X.A.in1) (I.ok.hd calm) (Z.ne x hu) us.toArray) (Y.draw (A := X.A.in1) (I.ok.hd calm) (Y.ne y hw) ws.toArray) hz hI hO ⟨x, hu⟩ ⟨y, hw⟩ (List.getElem?_eq_some_iff.mp g1).1 (List.getElem?_eq_some_iff.mp g2).1
      fun e1 e2 h1 tk p1 p2 zz oo nx ny tup _ oth => ⟨_, rfl, wpAny_letOwnedTupleGo_zip zz fun h2 zn sb => ?_⟩
    obtain rfl : e1 = u1 := Option.some.inj ((show us[i]? = some e1 by simpa using p1).symm.trans g1)
    obtain rfl : e2 = u2 := Option.some.inj ((show ws[i]? = some e2 by simpa using p2).symm.trans g2)
    have same : ∀ c o, c ∉ [z, TI, TO, i1, i2] → s.heap.get? c = some o → h2.get? c = some o := fun c o nc g => by
      simp only [List.mem_cons, List.not_mem_nil, or_false, not_or] at nc
      exact (sb.2 c nc.1).trans (oth c o nc.1 nc.2.2.1 nc.2.2.2.1 nc.2.2.2.2 g)
    have I2 := pair_laid (tk := tk) I own same ((sb.2 _ (Nat.ne_of_gt (Heap.lt_size hz))).trans tup) r1 r2
    exact ⟨.ref s.heap.objs.size, _, I2, rfl, ⟨_, vx, vy, _, rfl, I.hok.fresh (Nat.le_refl _), rfl, rfl, fun l hl => (Z.only eK I hs hl) ▸ gx, fun l hl => (Y.only eK I hr hl) ▸ gy⟩,
      ⟨zn, (sb.2 _ D.TIz).trans (oth _ _ D.TIz D.TITO D.TIi1 D.TIi2 hI), ⟨e1, e2, (sb.2 _ D.TOz).trans oo⟩, Z.keep nx.1 fun o q => (sb.2 _ D.zi1.symm).trans q, Y.keep ny.1 fun o q => (sb.2 _ D.zi2.symm).trans q⟩, free_old own lo⟩
  done := fun X eP ew eK calm i pins s σ H E I own ⟨hz, hI, ⟨p, q, hO⟩, x, y⟩ ⟨xs, ys, hs, hr, hl⟩ => by
    subst eP ew
    obtain ⟨us, rv, hu⟩ := Z.read eK I hs
    obtain ⟨ws, rw', hw⟩ := Y.read eK I hr
    have l1 : us.toArray.size = xs.length := by rw [List.size_toArray, rv.length]
    have l2 : ws.toArray.size = ys.length := by rw [List.size_toArray, rw'.length]
    refine wpAny_pyNext_zipD2_end D (Z.draw (A := X.A.in1) (I.ok.hd calm) (Z.ne x hu) us.toArray) (Y.draw (A := X.A.in1) (I.ok.hd calm) (Y.ne y hw) ws.toArray) hz hI hO ⟨x, hu⟩ ⟨y, hw⟩ (by omega) (by omega) (by omega) fun g tk oth => ⟨rfl, ?_⟩
    refine I.turnedL (ch := [z, TI, TO, i1, i2]) (fun c o nc => ?_) own
    simp only [List.mem_cons, List.not_mem_nil, or_false, not_or] at nc
    exact oth c o nc.1 nc.2.2.1 nc.2.2.2.1 nc.2.2.2.2
  self := fun A i s Q E ⟨hz, _⟩ q => wpAny_pyIter_zip hz q
end
abbrev IteL (K : PySem.W.Frag) (a : Addr) : It := Ien fun H => SqL K H a
abbrev IteT (K : PySem.W.Frag) (a : Addr) : It := Ien fun H => SqT K H a
abbrev ItzL (K : PySem.W.Frag) (a b : Addr) : It := Izi (fun H => SqL K H a) fun H => SqL K H b
abbrev ItzF (K : PySem.W.Frag) (a b : Addr) : It := Izi (fun H => SqT K H a) fun H => SqT K H b
section
variable {X : Cx} {pins : List (Addr × Obj)} {σ : St} {H : Hp} {s : Shared} {R : It → Hp → Prop} {elts : List Expr} {kk : Nat} {tpos : Pos} {E : Value → Shared → Prop}
/-- enumerate of a list or a tuple goes on -/
theorem en_go {a : Addr} {sq : Hp → List V → Prop} {at_ : Nat → Heap → Prop} {is : Array Value → Heap → Prop} {o : Obj} {us : Array Value} (I : Inv X pins σ H s) (Z : Sour X.prog X.w X.K a s.heap.objs.size sq at_ is) (B : Begins (.ref a) o (is us)) (at0 : ∀ h : Heap, h.get? s.heap.objs.size = some o → at_ 0 h) (hu : is us s.heap) (q : R (Ien sq) H) :
    wpAny (model X.prog X.w) X.A (call (.type "enumerate") [.ref a]) (fun v s1 => wpAny (model X.prog X.w) X.A (pyIter v) (PIE X pins σ (.Tuple elts kk tpos) R) E s1) E s := by
  have n1 : (s.heap.push o).objs.size = s.heap.objs.size + 1 := Heap.size_push ..
  have en : IsEnum (Pu.enumOn s.heap o) (s.heap.objs.size + 1) s.heap.objs.size ((0 : Nat) : Int) .none := n1 ▸ Heap.get?_push_size _ rfl
  have kp : ∀ b ob, s.heap.get? b = some ob → (Pu.enumOn s.heap o).get? b = some ob := fun b ob g => Heap.get?_push_of_some _ (Heap.get?_push_of_some _ g)
  refine Pu.enum_on B hu (wpAny_pyIter_enum en ?_)
  refine ⟨_, [s.heap.objs.size + 1, s.heap.objs.size], _, _, H, rfl, I.kept (t' := s.toks) kp, turn_en Z _, ⟨⟨_, en⟩, at0 _ (Heap.get?_push_of_some _ (Heap.get?_push_size _ B.free)), Nat.succ_ne_self _⟩, fresh_all I fun b hb => ?_, q⟩
  simp only [List.mem_cons, List.not_mem_nil, or_false] at hb
  rcases hb with e | e <;> (rw [e]; first | exact Nat.le_refl _ | exact Nat.le_add_right _ _)
/-- zip of two goes on -/
theorem zi_go {a b : Addr} {sq sr : Hp → List V → Prop} {at_ bt : Nat → Heap → Prop} {is js : Array Value → Heap → Prop} {o o2 : Obj} {us ws : Array Value} (I : Inv X pins σ H s) (Z : Sour X.prog X.w X.K a s.heap.objs.size sq at_ is) (Y : Sour X.prog X.w X.K b (s.heap.objs.size + 1) sr bt js)
    (B : Begins (.ref a) o (is us)) (B2 : Begins (.ref b) o2 (js ws)) (at0 : ∀ h : Heap, h.get? s.heap.objs.size = some o → at_ 0 h) (bt0 : ∀ h : Heap, h.get? (s.heap.objs.size + 1) = some o2 → bt 0 h) (hu : is us s.heap) (hw : js ws s.heap) (q : R (Izi sq sr) H) :
    wpAny (model X.prog X.w) X.A (call (.type "zip") [.ref a, .ref b]) (fun v s1 => wpAny (model X.prog X.w) X.A (pyIter v) (PIE X pins σ (.Tuple elts kk tpos) R) E s1) E s := by
  obtain ⟨oa, _, ga, _⟩ := Z.seqO hu
  obtain ⟨ob, _, gb, _⟩ := Y.seqO hw
  have D := zip_sep2 (N := s.heap.objs.size) (fp1 := [a]) (fp2 := [b]) (fun c hc => List.mem_singleton.mp hc ▸ Heap.lt_size ga) (fun c hc => List.mem_singleton.mp hc ▸ Heap.lt_size gb)
  refine zip_begins2 B B2 hu hw fun g hz hI hO g1 g2 _ kp => wpAny_pyIter_zip hz ?_
  refine ⟨_, [s.heap.objs.size + 4, s.heap.objs.size + 2, s.heap.objs.size + 3, s.heap.objs.size, s.heap.objs.size + 1], _, _, H, rfl, I.kept (t' := s.toks) kp, turn_zi Z Y D, ⟨hz, hI, ⟨_, _, hO⟩, at0 g g1, bt0 g g2⟩, fresh_all I fun c hc => ?_, q⟩
  simp only [List.mem_cons, List.not_mem_nil, or_false] at hc
  rcases hc with e | e | e | e | e <;> (rw [e]; first | exact Nat.le_refl _ | exact Nat.le_add_right _ _)
end
def iZipF (K : PySem.W.Frag) (ta : TA) : TI := fun σ H R => ta σ H fun vs H1 => ∃ a b xs ys, vs = [.ref a, .ref b] ∧ ((SqL K H1 a xs ∧ SqL K H1 b ys ∧ R (ItzL K a b) H1) ∨ (SqT K H1 a xs ∧ SqT K H1 b ys ∧ R (ItzF K a b) H1))
theorem pi_zipF {X : Cx} {e e2 : Expr} {ta : TA} {p pos tpos : Pos} {elts : List Expr} {kk : Nat} (hg : Gl X "zip") (hm : X.mg "zip" = none) (ha : PA X [e, e2] ta) (hs : starEach [e, e2] X.env = (false, eval e X.env) :: starEach [e2] X.env := by rfl)
    (hpl : (backTo pos (starEach [e2] X.env)).any (·.1) = false := by rfl) : PI X (.Tuple elts kk tpos) (.Call (.Name "zip" p) [e, e2] [] pos) (iZipF X.K ta) := ⟨fun pins s σ H R I h => by
  have args := ha.run pos pins s σ H _ I h
  refine Call_ (ld_blt I hg hm boot_zip (callWith_type1 (thn args fun us s1 ⟨vs, H1, I1, r1, a, b, xs, ys, ex, alt⟩ => ?_) hs hpl))
  subst ex
  obtain ⟨_, _, rfl, rfl, rfl⟩ := vals2 r1
  rcases alt with ⟨sa, sb, q⟩ | ⟨sa, sb, q⟩
  · obtain ⟨us, _, pa, _⟩ := I1.list sa
    obtain ⟨ws, _, pb, _⟩ := I1.list sb
    exact zi_go I1 (sourL a _) (sourL b _) (begins_list a _) (begins_list b _) (fun h g => ⟨_, g, rfl, rfl⟩) (fun h g => ⟨_, g, rfl, rfl⟩) pa.isList pb.isList q
  · obtain ⟨us, _, pa, _⟩ := I1.tuple sa
    obtain ⟨ws, _, pb, _⟩ := I1.tuple sb
    exact zi_go I1 (sourT a _) (sourT b _) (begins_tuple a _) (begins_tuple b _) (fun h g => ⟨_, g, rfl, rfl⟩) (fun h g => ⟨_, g, rfl, rfl⟩) pa pb q⟩
def iEnumA (K : PySem.W.Frag) (ta : TA) : TI := fun σ H R => ta σ H fun vs H1 => ∃ a xs, vs = [.ref a] ∧ ((SqL K H1 a xs ∧ R (IteL K a) H1) ∨ (SqT K H1 a xs ∧ R (IteT K a) H1))
theorem pi_enumA {X : Cx} {e : Expr} {ta : TA} {p pos tpos : Pos} {elts : List Expr} {kk : Nat} (hg : Gl X "enumerate") (hm : X.mg "enumerate" = none) (ha : PA X [e] ta)
    (hs : starEach [e] X.env = [(false, eval e X.env)] := by rfl) : PI X (.Tuple elts kk tpos) (.Call (.Name "enumerate" p) [e] [] pos) (iEnumA X.K ta) := ⟨fun pins s σ H R I h => by
  have args := ha.run pos pins s σ H _ I h
  refine Call_ (ld_blt I hg hm boot_enumerate (callWith_type1 (thn args fun us s1 ⟨vs, H1, I1, r1, a, xs, ex, alt⟩ => ?_) hs rfl))
  subst ex
  obtain ⟨_, rfl, rfl⟩ := vals1 r1
  rcases alt with ⟨sa, q⟩ | ⟨sa, q⟩
  · obtain ⟨us, _, pa, _⟩ := I1.list sa
    exact en_go I1 (sourL a _) (begins_list a _) (fun h g => ⟨_, g, rfl, rfl⟩) pa.isList q
  · obtain ⟨us, _, pa, _⟩ := I1.tuple sa
    exact en_go I1 (sourT a _) (begins_tuple a _) (fun h g => ⟨_, g, rfl, rfl⟩) pa q⟩
/-- a list, a tuple or a text -/
def iSeq (K : PySem.W.Frag) (tl : TE) : TI := fun σ H R => tl σ H fun x H1 => (∃ a xs, x = .ref a ∧ SqL K H1 a xs ∧ R (Itl K a) H1) ∨ (∃ a xs, x = .ref a ∧ SqT K H1 a xs ∧ R (Itt K a) H1) ∨ ∃ z, x = .str z ∧ R (Its z) H1
theorem pi_seq {X : Cx} {tg l : Expr} {tl : TE} (hl : PE X l tl) : PI X tg l (iSeq X.K tl) := ⟨fun pins s σ H R I h => thn (hl.run pins s σ H _ I h) fun v s1 ⟨x, H1, I1, r1, alt⟩ => by
  have one : ∀ (o : Obj) (T : String) (vs : Array Value), (o = { cls := .type T, data := .fields vs }) → ∃ o', (s1.heap.push o).get? s1.heap.objs.size = some o' ∧ o'.cls = .type T ∧ o'.data = .fields vs := fun o T vs e => by
    subst e
    exact ⟨_, Heap.get?_push_size _ rfl, rfl, rfl⟩
  rcases alt with ⟨a, xs, rfl, sa, q⟩ | ⟨a, xs, rfl, sa, q⟩ | ⟨z, rfl, q⟩
  · obtain rfl : v = .ref a := r1
    obtain ⟨us, _, pa, _⟩ := I1.list sa
    exact wpAny_pyIter_list pa.isList (pi_one (tk := s1.toks) I1 _ (turn_list a _) (one _ _ _ rfl) q)
  · obtain rfl : v = .ref a := r1
    obtain ⟨us, _, pa, _⟩ := I1.tuple sa
    exact wpAny_pyIter_tuple (items := us.toArray) pa (pi_one (tk := s1.toks) I1 _ (turn_tuple a _) (one _ _ _ rfl) q)
  · obtain ⟨t, rfl⟩ := r1
    rcases Bool.eq_false_or_eq_true (z.cps.all (· < 128)) with y | y
    · exact wpAny_pyIter_ascii y (pi_one (tk := s1.toks) I1 _ (turn_str _ z t _ (.inl rfl)) (one _ _ _ rfl) q)
    · exact wpAny_pyIter_wide y (pi_one (tk := s1.toks) I1 _ (turn_str _ z t _ (.inr rfl)) (one _ _ _ rfl) q)⟩
end L2
namespace Pu
open PySem L2
/-- an iterator that gives the data ds while Hs stands; the data are frozen in Hf -/
structure Wk (K : Kw) (Hs Hf : Hp) (J : It) (ds : List D) : Prop where
  go : ∀ i H, Same Hs H → i < ds.length → J.go i H
  st : ∀ H, Same Hs H → J.stop ds.length H
  yl : ∀ (i : Nat) (H Hf1 H' : Hp) (x : V) (d : D), Same Hs H → Same Hf Hf1 → Same Hf1 H → ds[i]? = some d → J.yld i H x H' → ∃ Hf2, Grow Hf1 H Hf2 H' ∧ Rp K Hf2 x d
def PoI (K : Kw) (W : WE) (fz : Bool) (Q : It → Hp → Prop) (σ : L2.St) (Hf H : Hp) : R (List D) → Prop
  | .ok ds => ∀ J Hf' H', Grow Hf H Hf' H' → Wk K (if fz then Hf' else H') Hf' J ds → Q J H'
  | .ex c => ∀ Hf' H', Grow Hf H Hf' H' → W c σ H'
  | .bad => False
/-- what a loop walks: frozen (fz), or seen -/
def tI (K : Kw) (W : WE) (fz : Bool) (F : En → R (List D)) : TI := fun σ H Q => ∃ H0 Hf0 Hf e, SR K H0 Hf0 Hf H σ e ∧ PoI K W fz Q σ Hf H (F e)
section
variable {K : Kw} {W : WE} {σ : L2.St} {Hf H Hf' H' : Hp} {fz : Bool}
theorem PoI.grow {Q : It → Hp → Prop} {r : R (List D)} (p : PoI K W fz Q σ Hf H r) (g : Grow Hf H Hf' H') : PoI K W fz Q σ Hf' H' r := by
  cases r with
  | ok d => exact fun J Hf2 H2 g2 q => p J Hf2 H2 (g.trans g2) q
  | ex c => exact fun Hf2 H2 g2 => p Hf2 H2 (g.trans g2)
  | bad => exact p
theorem PoI.bind {Rel2 : Hp → Hp → V → D → Prop} {Q : It → Hp → Prop} {r : R D} {f : D → R (List D)} (p : PoI K W fz Q σ Hf H (r.bind f)) : Po Rel2 W (fun v H1 => ∃ Hf1 d, Grow Hf H Hf1 H1 ∧ Rel2 Hf1 H1 v d ∧ PoI K W fz Q σ Hf1 H1 (f d)) σ Hf H r := by
  cases r with
  | ok d => exact fun v Hf2 H2 g2 q => ⟨Hf2, d, g2, q, p.grow g2⟩
  | ex c => exact p
  | bad => exact p
theorem PoI.of_opt {Q : It → Hp → Prop} {o : Option (List D)} (p : PoI K W fz Q σ Hf H (opt o)) : ∃ ds, o = some ds ∧ ∀ J Hf' H', Grow Hf H Hf' H' → Wk K (if fz then Hf' else H') Hf' J ds → Q J H' := by
  cases o with
  | some d => exact ⟨d, rfl, p⟩
  | none => exact p.elim
end
/-! ### the walks -/
section
variable {K : Kw} {Hf H Hs : Hp}
theorem Wk.list {a : Addr} {xs : List V} {ds : List D} (h : SqL K Hs a xs) (r : RpAll K Hf xs ds) : Wk K Hs Hf (Itl K a) ds where
  go := fun i H s hi => by
    obtain ⟨x, hx, _⟩ := r.get (List.getElem?_eq_getElem hi)
    exact ⟨xs, x, s.seq h, hx⟩
  st := fun H s => ⟨xs, s.seq h, by rw [r.length]; exact Nat.le_refl _⟩
  yl := fun i H Hf1 H' x d s f1 f2 hd hy => by
    obtain ⟨e, y⟩ := hy
    subst e
    obtain ⟨v, hv, rv⟩ := r.get hd
    have : v = x := Option.some.inj (hv.symm.trans (y xs (s.seq h)))
    subst this
    exact ⟨Hf1, Grow.refl f2, rv.mono f1⟩
end
end Pu
/-! PuG: rules for what is walked; comprehensions -/
namespace Pu
open PySem L2
section
variable {K : Kw} {Hf H Hs : Hp}
theorem Wk.tuple {a : Addr} {xs : List V} {ds : List D} (h : SqT K Hs a xs) (r : RpAll K Hf xs ds) : Wk K Hs Hf (Itt K a) ds where
  go := fun i H s hi => by
    obtain ⟨x, hx, _⟩ := r.get (List.getElem?_eq_getElem hi)
    exact ⟨xs, x, Same.sqT s h, hx⟩
  st := fun H s => ⟨xs, Same.sqT s h, by rw [r.length]; exact Nat.le_refl _⟩
  yl := fun i H Hf1 H' x d s f1 f2 hd hy => by
    obtain ⟨e, y⟩ := hy
    subst e
    obtain ⟨v, hv, rv⟩ := r.get hd
    have : v = x := Option.some.inj (hv.symm.trans (y xs (Same.sqT s h)))
    subst this
    exact ⟨Hf1, Grow.refl f2, rv.mono f1⟩
def signD (c : Nat) : D := .str ⟨#[c]⟩
theorem Wk.str (z : Str) : Wk K Hs Hf (Its z) (z.cps.toList.map signD) where
  go := fun i H s hi => by
    rw [List.length_map, Array.length_toList] at hi
    exact hi
  st := fun H s => by
    show z.cps.size ≤ (z.cps.toList.map signD).length
    rw [List.length_map, Array.length_toList]
    exact Nat.le_refl _
  yl := fun i H Hf1 H' x d s f1 f2 hd hy => by
    obtain ⟨e, c, hc, rfl⟩ := hy
    subst e
    rw [List.getElem?_map, Array.getElem?_toList, hc] at hd
    cases hd
    exact ⟨Hf1, Grow.refl f2, .str _⟩
def rangeL (lo : Int) (n : Nat) : List D := (List.range n).map fun k : Nat => PyData.int (lo + (k : Int))
theorem Wk.range (lo : Int) (n : Nat) : Wk K Hs Hf (Itr lo n) (rangeL lo n) where
  go := fun i H s hi => by
    unfold rangeL at hi
    rw [List.length_map, List.length_range] at hi
    exact hi
  st := fun H s => by
    show n ≤ (rangeL lo n).length
    unfold rangeL
    rw [List.length_map, List.length_range]
    exact Nat.le_refl _
  yl := fun i H Hf1 H' x d s f1 f2 hd hy => by
    obtain ⟨e, rfl⟩ := hy
    subst e
    unfold rangeL at hd
    rw [List.getElem?_map] at hd
    cases q : (List.range n)[i]? with
    | none => rw [q] at hd; cases hd
    | some k =>
      rw [q] at hd
      cases hd
      have : k = i := by
        obtain ⟨h1, h2⟩ := List.getElem?_eq_some_iff.mp q
        rw [List.getElem_range] at h2
        exact h2.symm
      subst this
      exact ⟨Hf1, Grow.refl f2, .int _⟩
def rangeC (lo c : Int) (n : Nat) : List D := (List.range n).map fun k : Nat => PyData.int (lo + (k : Int) * c)
theorem Wk.rangeC (lo c : Int) (n : Nat) : Wk K Hs Hf (Itc lo c n) (rangeC lo c n) where
  go := fun i H s hi => by
    unfold Pu.rangeC at hi
    rw [List.length_map, List.length_range] at hi
    exact hi
  st := fun H s => by
    show n ≤ (Pu.rangeC lo c n).length
    unfold Pu.rangeC
    rw [List.length_map, List.length_range]
    exact Nat.le_refl _
  yl := fun i H Hf1 H' x d s f1 f2 hd hy => by
    obtain ⟨e, rfl⟩ := hy
    subst e
    unfold Pu.rangeC at hd
    rw [List.getElem?_map] at hd
    cases q : (List.range n)[i]? with
    | none => rw [q] at hd; cases hd
    | some k =>
      rw [q] at hd
      cases hd
      have : k = i := by
        obtain ⟨h1, h2⟩ := List.getElem?_eq_some_iff.mp q
        rw [List.getElem_range] at h2
        exact h2.symm
      subst this
      exact ⟨Hf1, Grow.refl f2, .int _⟩
def pairD (x y : D) : D := .tuple [x, y]
def enumL (ds : List D) : List D := ds.mapIdx fun i d => pairD (.int i) d
theorem enumL_get {ds : List D} {i : Nat} {d : D} (h : (enumL ds)[i]? = some d) : ∃ e, ds[i]? = some e ∧ d = pairD (.int i) e := by
  unfold enumL at h
  rw [List.getElem?_mapIdx] at h
  cases q : ds[i]? with
  | none => rw [q] at h; cases h
  | some e => rw [q] at h; cases h; exact ⟨e, rfl, rfl⟩
theorem grow_pair {x y : V} {dx dy : D} {T : Addr} {o : Obj} (f : Same Hf H) (hT : H T = none) (ho : o.dict = none) (rx : Rp K Hf x dx) (ry : Rp K Hf y dy) : Grow Hf H (upd Hf T (.frz o (.tup [x, y]))) (upd H T (.frz o (.tup [x, y]))) ∧ Rp K (upd Hf T (.frz o (.tup [x, y]))) (.ref T) (pairD dx dy) :=
  Rp.new f hT ho (.cons rx (.cons ry .nil))
theorem Wk.enumL {a : Addr} {xs : List V} {ds : List D} (h : SqL K Hs a xs) (r : RpAll K Hf xs ds) : Wk K Hs Hf (IteL K a) (enumL ds) where
  go := fun i H s hi => by
    unfold Pu.enumL at hi
    rw [List.length_mapIdx] at hi
    obtain ⟨x, hx, _⟩ := r.get (List.getElem?_eq_getElem hi)
    exact ⟨xs, x, s.seq h, hx⟩
  st := fun H s => ⟨xs, s.seq h, by unfold Pu.enumL; rw [List.length_mapIdx, r.length]⟩
  yl := fun i H Hf1 H' x d s f1 f2 hd hy => by
    obtain ⟨T, y, ob, rfl, nT, ho, rfl, fy⟩ := hy
    obtain ⟨e, he, rfl⟩ := enumL_get hd
    obtain ⟨v, hv, rv⟩ := r.get he
    have : v = y := Option.some.inj (hv.symm.trans (fy xs (s.seq h)))
    subst this
    exact ⟨_, grow_pair f2 nT ho (.int _) (rv.mono f1)⟩
theorem Wk.enumT {a : Addr} {xs : List V} {ds : List D} (h : SqT K Hs a xs) (r : RpAll K Hf xs ds) : Wk K Hs Hf (IteT K a) (Pu.enumL ds) where
  go := fun i H s hi => by
    unfold Pu.enumL at hi
    rw [List.length_mapIdx] at hi
    obtain ⟨x, hx, _⟩ := r.get (List.getElem?_eq_getElem hi)
    exact ⟨xs, x, Same.sqT s h, hx⟩
  st := fun H s => ⟨xs, Same.sqT s h, by unfold Pu.enumL; rw [List.length_mapIdx, r.length]⟩
  yl := fun i H Hf1 H' x d s f1 f2 hd hy => by
    obtain ⟨T, y, ob, rfl, nT, ho, rfl, fy⟩ := hy
    obtain ⟨e, he, rfl⟩ := enumL_get hd
    obtain ⟨v, hv, rv⟩ := r.get he
    have : v = y := Option.some.inj (hv.symm.trans (fy xs (Same.sqT s h)))
    subst this
    exact ⟨_, grow_pair f2 nT ho (.int _) (rv.mono f1)⟩
def zipL (ds es : List D) : List D := List.zipWith pairD ds es
theorem zipL_get {ds es : List D} {i : Nat} {d : D} (h : (zipL ds es)[i]? = some d) : ∃ e f, ds[i]? = some e ∧ es[i]? = some f ∧ d = pairD e f := by
  unfold zipL at h
  rw [List.getElem?_zipWith] at h
  cases q : ds[i]? with
  | none => rw [q] at h; cases h
  | some e =>
    cases q2 : es[i]? with
    | none => rw [q, q2] at h; cases h
    | some f => rw [q, q2] at h; cases h; exact ⟨e, f, rfl, rfl, rfl⟩
theorem Wk.zipL {a b : Addr} {xs ys : List V} {ds es : List D} (h : SqL K Hs a xs) (h2 : SqL K Hs b ys) (r : RpAll K Hf xs ds) (r2 : RpAll K Hf ys es) : Wk K Hs Hf (ItzL K a b) (zipL ds es) where
  go := fun i H s hi => by
    unfold Pu.zipL at hi
    rw [List.length_zipWith] at hi
    obtain ⟨x, hx, _⟩ := r.get (List.getElem?_eq_getElem (show i < ds.length by omega))
    obtain ⟨y, hy, _⟩ := r2.get (List.getElem?_eq_getElem (show i < es.length by omega))
    exact ⟨xs, ys, x, y, s.seq h, s.seq h2, hx, hy⟩
  st := fun H s => ⟨xs, ys, s.seq h, s.seq h2, by unfold Pu.zipL; rw [List.length_zipWith, r.length, r2.length]⟩
  yl := fun i H Hf1 H' x d s f1 f2 hd hy => by
    obtain ⟨T, y, z, ob, rfl, nT, ho, rfl, fy, fz⟩ := hy
    obtain ⟨e, f, he, hf, rfl⟩ := zipL_get hd
    obtain ⟨v, hv, rv⟩ := r.get he
    obtain ⟨u, hu, ru⟩ := r2.get hf
    have : v = y := Option.some.inj (hv.symm.trans (fy xs (s.seq h)))
    subst this
    have : u = z := Option.some.inj (hu.symm.trans (fz ys (s.seq h2)))
    subst this
    exact ⟨_, grow_pair f2 nT ho (rv.mono f1) (ru.mono f1)⟩
theorem Wk.zipT {a b : Addr} {xs ys : List V} {ds es : List D} (h : SqT K Hs a xs) (h2 : SqT K Hs b ys) (r : RpAll K Hf xs ds) (r2 : RpAll K Hf ys es) : Wk K Hs Hf (ItzF K a b) (Pu.zipL ds es) where
  go := fun i H s hi => by
    unfold Pu.zipL at hi
    rw [List.length_zipWith] at hi
    obtain ⟨x, hx, _⟩ := r.get (List.getElem?_eq_getElem (show i < ds.length by omega))
    obtain ⟨y, hy, _⟩ := r2.get (List.getElem?_eq_getElem (show i < es.length by omega))
    exact ⟨xs, ys, x, y, Same.sqT s h, Same.sqT s h2, hx, hy⟩
  st := fun H s => ⟨xs, ys, Same.sqT s h, Same.sqT s h2, by unfold Pu.zipL; rw [List.length_zipWith, r.length, r2.length]⟩
  yl := fun i H Hf1 H' x d s f1 f2 hd hy => by
    obtain ⟨T, y, z, ob, rfl, nT, ho, rfl, fy, fz⟩ := hy
    obtain ⟨e, f, he, hf, rfl⟩ := zipL_get hd
    obtain ⟨v, hv, rv⟩ := r.get he
    obtain ⟨u, hu, ru⟩ := r2.get hf
    have : v = y := Option.some.inj (hv.symm.trans (fy xs (Same.sqT s h)))
    subst this
    have : u = z := Option.some.inj (hu.symm.trans (fz ys (Same.sqT s h2)))
    subst this
    exact ⟨_, grow_pair f2 nT ho (rv.mono f1) (ru.mono f1)⟩
end
section
variable {X : Cx} {W : WE} {a b c tg : Expr} {F G Fc : En → R D} {pos p : Pos}
def seqD : D → Option (List D)
  | .list ds => some ds
  | .tuple ds => some ds
  | .str z => some (z.cps.toList.map signD)
  | _ => none
def iseq (F : En → R D) : En → R (List D) := fun e => (F e).bind fun d => opt (seqD d)
/-- a frozen list, tuple or text -/
theorem iSeqF (h : PE X a (tE (X.kw ea) W F)) : PI X tg a (tI (X.kw ea) W true (iseq F)) :=
  PI_weak (pi_seq h) fun σ H Q ⟨H0, Hf0, Hf, e, S, p⟩ => ⟨H0, Hf0, Hf, e, S, p.bind.mono fun x H1 ⟨Hf1, d, g, r, p1⟩ => by
    obtain ⟨ds, ez, q⟩ := p1.of_opt
    cases r with
    | lst hl ra => cases ez; exact .inl ⟨_, _, rfl, SqL.of (g.fh _ _ hl), q _ Hf1 H1 (Grow.refl g.fh) (Wk.list (SqL.of hl) ra)⟩
    | tup hl ra => cases ez; exact .inr (.inl ⟨_, _, rfl, (hl.mono g.fh).sq, q _ Hf1 H1 (Grow.refl g.fh) (Wk.tuple hl.sq ra)⟩)
    | str z => cases ez; exact .inr (.inr ⟨z, rfl, q _ Hf1 H1 (Grow.refl g.fh) (Wk.str z)⟩)
    | _ => cases ez⟩
/-- .. seen -/
theorem iSeqV (h : PE X a (tV (X.kw ea) W F)) : PI X tg a (tI (X.kw ea) W false (iseq F)) :=
  PI_weak (pi_seq h) fun σ H Q ⟨H0, Hf0, Hf, e, S, p⟩ => ⟨H0, Hf0, Hf, e, S, p.bind.mono fun x H1 ⟨Hf1, d, g, r, p1⟩ => by
    obtain ⟨ds, ez, q⟩ := p1.of_opt
    cases d with
    | list es =>
      cases ez
      obtain ⟨b, xs, rfl, hl, ra⟩ := r.list g.fh
      exact .inl ⟨_, _, rfl, SqL.of hl, q _ Hf1 H1 (Grow.refl g.fh) (Wk.list (SqL.of hl) ra)⟩
    | tuple es =>
      cases ez
      obtain ⟨b, xs, rfl, hl, ra⟩ := r.tuple g.fh
      exact .inr (.inl ⟨_, _, rfl, hl.sq, q _ Hf1 H1 (Grow.refl g.fh) (Wk.tuple (hl.sq) ra)⟩)
    | str z =>
      cases ez
      rw [r.str]
      exact .inr (.inr ⟨z, rfl, q _ Hf1 H1 (Grow.refl g.fh) (Wk.str z)⟩)
    | _ => cases ez⟩
def in62 (i : Int) : Bool := decide (-(2 ^ 62) ≤ i) && decide (i < 2 ^ 62)
theorem in62_of {i : Int} (h : in62 i = true) : -(2 ^ 62) ≤ i ∧ i < 2 ^ 62 := by
  unfold in62 at h
  rw [Bool.and_eq_true] at h
  exact ⟨of_decide_eq_true h.1, of_decide_eq_true h.2⟩
def rng1 : D → Option (List D)
  | .int j => if in62 j then some (rangeL 0 j.toNat) else none
  | _ => none
def rng2 : D → D → Option (List D)
  | .int i, .int j => if in62 i && in62 j then some (rangeL i (j - i).toNat) else none
  | _, _ => none
def irng1 (F : En → R D) : En → R (List D) := fun e => (F e).bind fun d => opt (rng1 d)
def irng2 (F G : En → R D) : En → R (List D) := fun e => (F e).bind fun d => (G e).bind fun d' => opt (rng2 d d')
theorem iRange1 {fz : Bool} (hg : Gl X "range") (hm : X.mg "range" = none) (ha : PE X a (tE (X.kw ea) W F)) (hs : starEach [a] X.env = [(false, eval a X.env)] := by rfl) : PI X tg (.Call (.Name "range" p) [a] [] pos) (tI (X.kw ea) W fz (irng1 F)) :=
  PI_weak (pi_range1 hg hm (pa_cons ha pa_nil hs) hs) fun σ H Q ⟨H0, Hf0, Hf, e, S, p⟩ => ⟨H0, Hf0, Hf, e, S, p.bind.mono fun x H1 ⟨Hf1, d, g, r, p1⟩ => by
    obtain ⟨ds, ez, q⟩ := p1.of_opt
    cases r with
    | int j =>
      have ez' : (if in62 j then some (rangeL 0 j.toNat) else none) = some ds := ez
      split at ez'
      · rename_i hj
        cases ez'
        exact ⟨j, rfl, (in62_of hj).1, (in62_of hj).2, q _ Hf1 H1 (Grow.refl g.fh) (Wk.range 0 _)⟩
      · cases ez'
    | _ => cases ez⟩
theorem iRange2 {fz : Bool} (hg : Gl X "range") (hm : X.mg "range" = none) (ha : PE X a (tE (X.kw ea) W F)) (hb : PE X b (tE (X.kw ea) W G)) (hs : starEach [a, b] X.env = [(false, eval a X.env), (false, eval b X.env)] := by rfl) (hs2 : starEach [b] X.env = [(false, eval b X.env)] := by rfl) :
    PI X tg (.Call (.Name "range" p) [a, b] [] pos) (tI (X.kw ea) W fz (irng2 F G)) :=
  PI_weak (pi_range2 hg hm (pa_cons ha (pa_cons hb pa_nil hs2) (hs.trans (by rw [hs2]))) hs hs2) fun σ H Q ⟨H0, Hf0, Hf, e, S, p⟩ => ⟨H0, Hf0, Hf, e, S, p.bind.mono fun x H1 ⟨Hf1, d, g, r, p1⟩ => ⟨H0, Hf0, Hf1, e, S.grow g, p1.bind.mono fun y H2 ⟨Hf2, d', g2, r2, p2⟩ => by
    obtain ⟨ds, ez, q⟩ := p2.of_opt
    cases r with
    | int i =>
      cases r2 with
      | int j =>
        have ez' : (if in62 i && in62 j then some (rangeL i (j - i).toNat) else none) = some ds := ez
        split at ez'
        · rename_i hj
          cases ez'
          rw [Bool.and_eq_true] at hj
          exact ⟨i, j, rfl, ⟨(in62_of hj.1).1, (in62_of hj.1).2, (in62_of hj.2).1, (in62_of hj.2).2⟩, q _ Hf2 H2 (Grow.refl g2.fh) (Wk.range i _)⟩
        · cases ez'
      | _ => cases ez
    | _ => cases ez⟩⟩
def ienum (F : En → R D) : En → R (List D) := fun e => (F e).bind fun d => opt ((listN d).map enumL)
theorem iEnumF {elts : List Expr} {kk : Nat} {tpos : Pos} (hg : Gl X "enumerate") (hm : X.mg "enumerate" = none) (ha : PE X a (tE (X.kw ea) W F)) (hs : starEach [a] X.env = [(false, eval a X.env)] := by rfl) : PI X (.Tuple elts kk tpos) (.Call (.Name "enumerate" p) [a] [] pos) (tI (X.kw ea) W true (ienum F)) :=
  PI_weak (pi_enumA hg hm (pa_cons ha pa_nil hs) hs) fun σ H Q ⟨H0, Hf0, Hf, e, S, p⟩ => ⟨H0, Hf0, Hf, e, S, p.bind.mono fun x H1 ⟨Hf1, d, g, r, p1⟩ => by
    obtain ⟨ds, ez, q⟩ := p1.of_opt
    cases r with
    | lst hl ra => cases ez; exact ⟨_, _, rfl, .inl ⟨SqL.of (g.fh _ _ hl), q _ Hf1 H1 (Grow.refl g.fh) (Wk.enumL (SqL.of hl) ra)⟩⟩
    | tup hl ra => cases ez; exact ⟨_, _, rfl, .inr ⟨(hl.mono g.fh).sq, q _ Hf1 H1 (Grow.refl g.fh) (Wk.enumT hl.sq ra)⟩⟩
    | _ => cases ez⟩
theorem iEnumV {elts : List Expr} {kk : Nat} {tpos : Pos} (hg : Gl X "enumerate") (hm : X.mg "enumerate" = none) (ha : PE X a (tV (X.kw ea) W F)) (hs : starEach [a] X.env = [(false, eval a X.env)] := by rfl) : PI X (.Tuple elts kk tpos) (.Call (.Name "enumerate" p) [a] [] pos) (tI (X.kw ea) W false (ienum F)) :=
  PI_weak (pi_enumA hg hm (pa_cons ha pa_nil hs) hs) fun σ H Q ⟨H0, Hf0, Hf, e, S, p⟩ => ⟨H0, Hf0, Hf, e, S, p.bind.mono fun x H1 ⟨Hf1, d, g, r, p1⟩ => by
    obtain ⟨ds, ez, q⟩ := p1.of_opt
    cases d with
    | list es =>
      cases ez
      obtain ⟨b, xs, rfl, hl, ra⟩ := r.list g.fh
      exact ⟨_, _, rfl, .inl ⟨SqL.of hl, q _ Hf1 H1 (Grow.refl g.fh) (Wk.enumL (SqL.of hl) ra)⟩⟩
    | tuple es =>
      cases ez
      obtain ⟨b, xs, rfl, hl, ra⟩ := r.tuple g.fh
      exact ⟨_, _, rfl, .inr ⟨hl.sq, q _ Hf1 H1 (Grow.refl g.fh) (Wk.enumT (hl.sq) ra)⟩⟩
    | _ => cases ez⟩
def zipD : D → D → Option (List D)
  | .list ds, .list es => some (zipL ds es)
  | .tuple ds, .tuple es => some (zipL ds es)
  | _, _ => none
def izip (F G : En → R D) : En → R (List D) := fun e => (F e).bind fun d => (G e).bind fun d' => opt (zipD d d')
/-- zip(a, b), both lists or both tuples, seen -/
theorem iZipV {elts : List Expr} {kk : Nat} {tpos : Pos} (hg : Gl X "zip") (hm : X.mg "zip" = none) (ha : PE X a (tV (X.kw ea) W F)) (hb : PE X b (tV (X.kw ea) W G))
    (hs : starEach [a, b] X.env = (false, eval a X.env) :: starEach [b] X.env := by rfl) (hs2 : starEach [b] X.env = [(false, eval b X.env)] := by rfl) : PI X (.Tuple elts kk tpos) (.Call (.Name "zip" p) [a, b] [] pos) (tI (X.kw ea) W false (izip F G)) :=
  PI_weak (pi_zipF hg hm (pa_cons ha (pa_cons hb pa_nil hs2) hs) hs (by rw [hs2]; rfl)) fun σ H Q ⟨H0, Hf0, Hf, e, S, p⟩ => ⟨H0, Hf0, Hf, e, S, p.bind.mono fun x H1 ⟨Hf1, d, g, r, p1⟩ => ⟨H0, Hf0, Hf1, e, S.grow g, p1.bind.mono fun y H2 ⟨Hf2, d', g2, r2, p2⟩ => by
    obtain ⟨ds, ez, q⟩ := p2.of_opt
    have r' := r.mono g2
    cases d with
    | list es =>
      cases d' with
      | list es' =>
        cases ez
        obtain ⟨b, xs, rfl, hl, ra⟩ := r'.list g2.fh
        obtain ⟨b', xs', rfl, hl', ra'⟩ := r2.list g2.fh
        exact ⟨_, _, _, _, rfl, .inl ⟨SqL.of hl, SqL.of hl', q _ Hf2 H2 (Grow.refl g2.fh) (Wk.zipL (SqL.of hl) (SqL.of hl') ra ra')⟩⟩
      | _ => cases ez
    | tuple es =>
      cases d' with
      | tuple es' =>
        cases ez
        obtain ⟨b, xs, rfl, hl, ra⟩ := r'.tuple g2.fh
        obtain ⟨b', xs', rfl, hl', ra'⟩ := r2.tuple g2.fh
        exact ⟨_, _, _, _, rfl, .inr ⟨hl.sq, hl'.sq, q _ Hf2 H2 (Grow.refl g2.fh) (Wk.zipT hl.sq hl'.sq ra ra')⟩⟩
      | _ => cases ez
    | _ => cases ez⟩⟩
/-- what a frozen walk is seen as -/
theorem i2v {L : En → R (List D)} (h : PI X tg a (tI (X.kw ea) W true L)) : PI X tg a (tI (X.kw ea) W false L) := PI_weak h fun σ H Q ⟨H0, Hf0, Hf, e, S, p⟩ => ⟨H0, Hf0, Hf, e, S, by
  revert p
  cases L e with
  | ok ds => exact fun p J Hf' H' g w => p J Hf' H' g ⟨fun i H1 s hi => w.go i H1 (g.fh.trans s) hi, fun H1 s => w.st H1 (g.fh.trans s), fun i H1 Hf1 H2 x d s f1 f2 hd hy => w.yl i H1 Hf1 H2 x d (g.fh.trans s) f1 f2 hd hy⟩
  | ex c => exact fun p => p
  | bad => exact fun p => p⟩
end
end Pu
/-! PuH: targets, comprehensions -/
namespace Pu
open PySem L2
/-! ### targets -/
abbrev Tg := D → En → Option En
/-- a target: the slots is take the data -/
def tG (K : Kw) (is : List Nat) (f : Tg) : TG := fun v σ H Q => ∃ H0 Hf0 Hf e d e', SR K H0 Hf0 Hf H σ e ∧ Rp K Hf v d ∧ f d e = some e' ∧
  ∀ σ', σ'.length = σ.length → (∀ j, j ∉ is → σ'[j]? = σ[j]?) → SR K H0 Hf0 Hf H σ' e' → Q σ' H
def tGs (K : Kw) (is : List Nat) (f : List D → En → Option En) : TGs := fun vs σ H Q => ∃ H0 Hf0 Hf e ds e', SR K H0 Hf0 Hf H σ e ∧ RpAll K Hf vs ds ∧ f ds e = some e' ∧
  ∀ σ', σ'.length = σ.length → (∀ j, j ∉ is → σ'[j]? = σ[j]?) → SR K H0 Hf0 Hf H σ' e' → Q σ' H
def gn (i : Nat) : Tg := fun d e => some (e.set i (.dat d))
def gnil : List D → En → Option En
  | [], e => some e
  | _, _ => none
def gcons (f : Tg) (g : List D → En → Option En) : List D → En → Option En
  | d :: ds, e => (f d e).bind (g ds)
  | [], _ => none
def gtup (g : List D → En → Option En) : Tg := fun d e => match d with
  | .tuple ds => g ds e
  | _ => none
theorem PGs_weak {X : Cx} {e : List Expr} {t t' : TGs} (h : PGs X e t) (k : ∀ v σ H Q, t' v σ H Q → t v σ H Q) : PGs X e t' :=
  ⟨fun pins s σ H v u Q I r q => h.run pins s σ H v u Q I r (k v σ H Q q)⟩
section
variable {X : Cx} {pos : Pos}
theorem gName' {i : Nat} {x : Str} (h : PG X (.Name x pos) (gName i)) : PG X (.Name x pos) (tG (X.kw ea) [i] (gn i)) :=
  PG_weak h fun v σ H Q ⟨H0, Hf0, Hf, e, d, e', S, r, he, q⟩ => by
    cases he
    exact q _ (List.length_set ..) (fun j hj => List.getElem?_set_ne (fun z => hj (by simp [z]))) (S.dat i r)
theorem gNil' : PGs X [] (tGs (X.kw ea) [] gnil) := PGs_weak pgs_nil fun v σ H Q ⟨H0, Hf0, Hf, e, ds, e', S, r, he, q⟩ => by
  cases r with
  | nil => cases he; exact ⟨rfl, q _ rfl (fun _ _ => rfl) S⟩
  | cons _ _ => cases he
theorem gCons' {a : Expr} {as : List Expr} {is js : List Nat} {f : Tg} {g : List D → En → Option En} (h1 : PG X a (tG (X.kw ea) is f)) (h2 : PGs X as (tGs (X.kw ea) js g))
    (hs : PGs X (a :: as) (gCons (tG (X.kw ea) is f) (tGs (X.kw ea) js g))) : PGs X (a :: as) (tGs (X.kw ea) (is ++ js) (gcons f g)) :=
  PGs_weak hs fun v σ H Q ⟨H0, Hf0, Hf, e, ds, e', S, r, he, q⟩ => by
    cases r with
    | nil => cases he
    | @cons v vs d ds rv rs =>
      have he' : (f d e).bind (g ds) = some e' := he
      cases h : f d e with
      | none => rw [h] at he'; cases he'
      | some e1 =>
        rw [h] at he'
        refine ⟨v, vs, rfl, H0, Hf0, Hf, e, d, e1, S, rv, h, fun σ1 l1 o1 S1 => ⟨H0, Hf0, Hf, e1, ds, e', S1, rs, he', fun σ2 l2 o2 S2 => q σ2 (l2.trans l1) (fun j hj => ?_) S2⟩⟩
        rw [o2 j (fun z => hj (by simp [z])), o1 j (fun z => hj (by simp [z]))]
theorem gTup' {es : List Expr} {k n : Nat} {is : List Nat} {g : List D → En → Option En} (hl : ∀ ds e e', g ds e = some e' → ds.length = n) (h : PG X (.Tuple es k pos) (gTup (X.kw ea) n (tGs (X.kw ea) is g))) : PG X (.Tuple es k pos) (tG (X.kw ea) is (gtup g)) :=
  PG_weak h fun v σ H Q ⟨H0, Hf0, Hf, e, d, e', S, r, he, q⟩ => by
    cases r with
    | tup ht ra =>
      exact ⟨_, _, rfl, (ht.mono S.gr.fh).sq, by rw [ra.length]; exact hl _ _ _ he, H0, Hf0, Hf, e, _, e', S, ra, he, q⟩
    | _ => cases he
end
theorem gnil_len : ∀ ds e e', gnil ds e = some e' → ds.length = 0 := fun ds e e' h => by
  cases ds with
  | nil => rfl
  | cons d ds => cases h
theorem gcons_len {f : Tg} {g : List D → En → Option En} {n : Nat} (h : ∀ ds e e', g ds e = some e' → ds.length = n) : ∀ ds e e', gcons f g ds e = some e' → ds.length = n + 1 := fun ds e e' he => by
  cases ds with
  | nil => cases he
  | cons d ds =>
    have he' : (f d e).bind (g ds) = some e' := he
    cases hf : f d e with
    | none => rw [hf] at he'; cases he'
    | some e1 => rw [hf] at he'; rw [List.length_cons, h ds e1 e' he']
/-! ### comprehensions -/
def wipeE (e : En) : List Nat → En
  | [] => e
  | v :: vs => (wipeE e vs).set v .un
theorem SR.wipe {K : Kw} {H0 Hf0 Hf H : Hp} {σ : L2.St} {e : En} (S : SR K H0 Hf0 Hf H σ e) : ∀ vs : List Nat, SR K H0 Hf0 Hf H (L2.wipe σ vs) (wipeE e vs)
  | [] => S
  | v :: vs => (SR.wipe S vs).put v none .un trivial fun o => by cases o
def lcL (f : Tg) (T : En → R Bool) (E : En → R D) (e : En) : List D → R (List D)
  | [] => .ok []
  | d :: ds => (opt (f d e)).bind fun e1 => (T e1).bind fun b => if b = true then (E e1).bind fun x => (lcL f T E e ds).bind fun xs => .ok (x :: xs) else lcL f T E e ds
def noEx {α : Type} : R α → R α
  | .ok a => .ok a
  | _ => .bad
def xlc (vs : List Nat) (L : En → R (List D)) (f : Tg) (T : En → R Bool) (E : En → R D) : En → R (List D) := fun e => (L e).bind fun ds => if ds.length ≤ many then noEx (lcL f T E (wipeE e vs) ds) else .bad
def W0 : WE := fun _ _ _ => False
def tyes : En → R Bool := fun _ => .ok true
theorem lcL_len (f : Tg) (T : En → R Bool) (E : En → R D) (e : En) : ∀ (ds : List D) (xs : List D), lcL f T E e ds = .ok xs → xs.length ≤ ds.length
  | [], xs, h => by cases h; exact Nat.le_refl _
  | d :: ds, xs, h => by
    unfold lcL at h
    cases h1 : f d e with
    | none => rw [h1] at h; cases h
    | some e1 =>
      rw [h1] at h
      have h : ((T e1).bind fun b => if b = true then (E e1).bind fun x => (lcL f T E e ds).bind fun xs => .ok (x :: xs) else lcL f T E e ds) = .ok xs := h
      cases h2 : T e1 with
      | ex c => rw [h2] at h; cases h
      | bad => rw [h2] at h; cases h
      | ok b =>
        rw [h2] at h
        have h : (if b = true then (E e1).bind fun x => (lcL f T E e ds).bind fun xs => .ok (x :: xs) else lcL f T E e ds) = .ok xs := h
        cases b with
        | false =>
          rw [if_neg Bool.false_ne_true] at h
          exact Nat.le_succ_of_le (lcL_len f T E e ds xs h)
        | true =>
          rw [if_pos rfl] at h
          cases h3 : E e1 with
          | ex c => rw [h3] at h; cases h
          | bad => rw [h3] at h; cases h
          | ok x =>
            rw [h3] at h
            have h : ((lcL f T E e ds).bind fun xs => .ok (x :: xs)) = .ok xs := h
            cases h4 : lcL f T E e ds with
            | ex c => rw [h4] at h; cases h
            | bad => rw [h4] at h; cases h
            | ok ys =>
              rw [h4] at h
              cases h
              have := lcL_len f T E e ds ys h4
              rw [List.length_cons, List.length_cons]
              omega
theorem wipe_eq {σ σ2 : L2.St} {vs is : List Nat} (hl : σ2.length = (wipe σ vs).length) (ho : ∀ j, j ∉ is → σ2[j]? = (wipe σ vs)[j]?) (hs : ∀ i ∈ is, i ∈ vs) : wipe σ2 vs = wipe σ vs := by
  apply List.ext_getElem?
  intro j
  by_cases hj : j ∈ vs
  · have at_ : ∀ (τ : L2.St) (us : List Nat), j ∈ us → j < τ.length → (wipe τ us)[j]? = some none := by
      intro τ us
      induction us with
      | nil => intro h; cases h
      | cons u us ih =>
        intro h hlt
        unfold wipe
        by_cases z : u = j
        · subst z
          exact List.getElem?_set_self (by rw [wipe_length]; exact hlt)
        · rw [List.getElem?_set_ne z]
          rcases List.mem_cons.mp h with rfl | h
          · exact absurd rfl z
          · exact ih h hlt
    by_cases hlt : j < σ2.length
    · rw [at_ σ2 vs hj hlt, at_ σ vs hj (by rw [hl, wipe_length] at hlt; exact hlt)]
    · rw [List.getElem?_eq_none (by rw [wipe_length]; omega), List.getElem?_eq_none (by rw [← hl]; omega)]
  · rw [wipe_out hj]
    exact ho j (fun z => hj (hs j z))
section
variable {K : Kw} {W : WE} {vs is : List Nat} {L : En → R (List D)} {f : Tg} {T : En → R Bool} {E : En → R D}
theorem tLc_of (hs : ∀ i ∈ is, i ∈ vs) {σ : L2.St} {H : Hp} {Q : VK} (h : tN K W (xlc vs L f T E) σ H Q) : tLc (tI K W false L) (tG K is f) (tT K W0 T) (tE K W0 E) vs σ H Q := by
  obtain ⟨H0, Hf0, Hf, e, S, p⟩ := h
  refine ⟨H0, Hf0, Hf, e, S, ?_⟩
  unfold xlc at p
  revert p
  cases L e with
  | ex c => exact fun p => p
  | bad => exact fun p => p
  | ok ds =>
    intro p J Hf1 H1 g w D hD
    have p1 := p.grow g
    have p1 : PoN K W Q σ Hf1 H1 (if ds.length ≤ many then noEx (lcL f T E (wipeE e vs) ds) else .bad) := p1
    by_cases hm : ds.length ≤ many
    · rw [if_pos hm] at p1
      cases ht : lcL f T E (wipeE e vs) ds with
      | ex c => rw [ht] at p1; exact p1.elim
      | bad => rw [ht] at p1; exact p1.elim
      | ok total =>
        rw [ht] at p1
        have S1 := S.grow g
        refine ⟨fun i m H2 => m = ds.length - i ∧ i ≤ ds.length ∧ ∃ Hf2 acc out rest, Grow Hf1 H1 Hf2 H2 ∧ Hf2 D = none ∧ H2 D = some (.lst acc) ∧ RpAll K Hf2 acc out ∧ out.length ≤ i ∧ lcL f T E (wipeE e vs) (ds.drop i) = .ok rest ∧ out ++ rest = total,
          ⟨ds.length, rfl, Nat.zero_le _, Hf1, [], [], total, Grow.lay g.fh hD, g.fh.free hD, upd_same, .nil, Nat.le_refl _, ht, rfl⟩, ?_⟩
        rintro i m H2 ⟨rfl, hi, Hf2, acc, out, rest, g2, nD, hacc, ra, hlo, hrest, htot⟩
        by_cases hlt : i < ds.length
        · have hdr : ds.drop i = ds[i] :: ds.drop (i + 1) := List.drop_eq_getElem_cons hlt
          rw [hdr] at hrest
          unfold lcL at hrest
          refine .inr ⟨w.go i H2 g2.hh hlt, fun H3 => ∃ Hf3 acc out rest, Grow Hf1 H1 Hf3 H3 ∧ Hf3 D = none ∧ H3 D = some (.lst acc) ∧ RpAll K Hf3 acc out ∧ out.length ≤ i + 1 ∧ lcL f T E (wipeE e vs) (ds.drop (i + 1)) = .ok rest ∧ out ++ rest = total,
            fun H3 n3 => ⟨ds.length - (i + 1), by omega, rfl, hlt, n3⟩, fun x H3 hy => ?_⟩
          obtain ⟨Hf3, g3, rx⟩ := w.yl i H2 Hf2 H3 x ds[i] g2.hh g2.ff g2.fh (List.getElem?_eq_getElem hlt) hy
          cases h1 : f ds[i] (wipeE e vs) with
          | none => rw [h1] at hrest; cases hrest
          | some e1 =>
            rw [h1] at hrest
            have hrest : ((T e1).bind fun b => if b = true then (E e1).bind fun x => (lcL f T E (wipeE e vs) (ds.drop (i + 1))).bind fun xs => .ok (x :: xs) else lcL f T E (wipeE e vs) (ds.drop (i + 1))) = .ok rest := hrest
            have g13 := g2.trans g3
            have S3 := (S1.wipe vs).grow g13
            refine ⟨H0, Hf0, Hf3, wipeE e vs, ds[i], e1, S3, rx, h1, fun σ2 l2 o2 S4 => ⟨wipe_eq l2 o2 hs, H0, Hf0, Hf3, e1, S4, ?_⟩⟩
            cases h2 : T e1 with
            | ex c => rw [h2] at hrest; cases hrest
            | bad => rw [h2] at hrest; cases hrest
            | ok b =>
              rw [h2] at hrest
              have hrest : (if b = true then (E e1).bind fun x => (lcL f T E (wipeE e vs) (ds.drop (i + 1))).bind fun xs => .ok (x :: xs) else lcL f T E (wipeE e vs) (ds.drop (i + 1))) = .ok rest := hrest
              intro Hf4 H4 g4
              have g14 := g13.trans g4
              have hD4 : H4 D = some (.lst acc) := g4.hh _ _ (g3.hh _ _ hacc)
              have nD4 : Hf4 D = none := g4.nf _ _ (g3.hh _ _ hacc) rfl (g3.nf _ _ hacc rfl nD)
              have ra4 := (ra.mono g3.ff).mono g4.ff
              cases b with
              | false =>
                rw [if_neg Bool.false_ne_true] at hrest ⊢
                exact ⟨Hf4, acc, out, rest, g14, nD4, hD4, ra4, by omega, hrest, htot⟩
              | true =>
                rw [if_pos rfl] at hrest ⊢
                refine ⟨H0, Hf0, Hf4, e1, S4.grow g4, ?_⟩
                cases h3 : E e1 with
                | ex c => rw [h3] at hrest; cases hrest
                | bad => rw [h3] at hrest; cases hrest
                | ok y =>
                  rw [h3] at hrest
                  have hrest : ((lcL f T E (wipeE e vs) (ds.drop (i + 1))).bind fun xs => .ok (y :: xs)) = .ok rest := hrest
                  cases h4 : lcL f T E (wipeE e vs) (ds.drop (i + 1)) with
                  | ex c => rw [h4] at hrest; cases hrest
                  | bad => rw [h4] at hrest; cases hrest
                  | ok ys =>
                    rw [h4] at hrest
                    cases hrest
                    intro v Hf5 H5 g5 rv
                    have hD5 := g5.hh _ _ hD4
                    have nD5 := g5.nf _ _ hD4 rfl nD4
                    refine ⟨acc, hD5, many_lt (by rw [ra.length]; omega), Hf5, acc ++ [v], out ++ [y], ys, ⟨Same.upd (g14.trans g5).hh hD, (g14.trans g5).ff, Same.upd g5.fh nD5, (g14.trans g5).nf⟩, nD5, upd_same, (ra4.mono g5.ff).snoc rv, ?_, rfl, ?_⟩
                    · rw [List.length_append, List.length_singleton]; omega
                    · rw [List.append_assoc]; exact htot
        · have hi' : i = ds.length := by omega
          subst hi'
          rw [List.drop_length] at hrest
          cases hrest
          rw [List.append_nil] at htot
          subst htot
          exact .inl ⟨w.st H2 g2.hh, p1 D acc Hf2 H2 g2 hD nD hacc ra⟩
    · rw [if_neg hm] at p1
      exact p1.elim
end
section
variable {X : Cx} {W : WE} {pos : Pos}
theorem tsNil : PTs X [] (tT (X.kw ea) W tyes) := PTs_weak pts_nil fun σ H Q ⟨H0, Hf0, Hf, e, S, p⟩ => p Hf H (Grow.refl S.gr.fh)
theorem tsOne {c : Expr} {T : En → R Bool} (h : PT X c (tT (X.kw ea) W T)) : PTs X [c] (tT (X.kw ea) W T) := pts_one h
theorem xLc {elt tg iter : Expr} {ifs : List Expr} {scope : Scope} {own : List (Str × Nat)} {is : List Nat} {L : En → R (List D)} {f : Tg} {T : En → R Bool} {E : En → R D}
    (hc : X.calm = true) (hN : X.N.Nodup) (hi : PI X tg iter (tI (X.kw ea) W false L)) (ok : BlkOk X.N X.env.scope scope own) (his : ∀ i ∈ is, i ∈ own.map (·.2))
    (hg : ∀ (s : Shared) (H : Hp) (C : Addr) (cl : List (Str × Addr)) (fp : List Addr), PG (X.blk s H scope (compEnvC scope cl C X.env) fp) tg (tG (X.kw ea) is f)) (ht : ∀ (s : Shared) (H : Hp) (C : Addr) (cl : List (Str × Addr)) (fp : List Addr), PTs (X.blk s H scope (compEnvC scope cl C X.env) fp) ifs (tT (X.kw ea) W0 T))
    (he : ∀ (s : Shared) (H : Hp) (C : Addr) (cl : List (Str × Addr)) (fp : List Addr), PE (X.blk s H scope (compEnvC scope cl C X.env) fp) elt (tE (X.kw ea) W0 E)) (hs : ∀ x, foldedSetIterable iter X.env x = pure x := by intro _; rfl) :
    PE X (.ListComp elt [⟨tg, iter, ifs, 0⟩] scope pos) (tN (X.kw ea) W (xlc (own.map (·.2)) L f T E)) :=
  PE_weak (pe_lc hc hN hi ok hg ht he hs) fun σ H Q h => tLc_of his h
end
end Pu
/-! PuI: statements, defs and their calls -/
namespace Pu
open PySem L2
/-- errors by their classes' names -/
def wx (mg : Str → Option Value) (W : WE) : WX := fun cls d σ H => d = none ∧ ∃ c, mg c = some cls ∧ W c σ H
/-- where one stands -/
structure Cz (X : Cx) (k : Nat) (W : WE) : Prop where
  calm : X.calm = true
  nd : X.N.Nodup
  tk : Takes X (wx X.mg W)
  po : PassesOwn (model X.prog X.w) X.A X.env X.xe
  rm : Room k X.A
theorem takesF {X : Cx} {W : WX} (h : ∀ c d σ H, ¬ W c d σ H) : Takes X W := fun _ _ ⟨_, _, _, _, _, _, _, _, _, _, _, _, _, _, _, _, z⟩ => absurd z (h _ _ _ _)
theorem Cz.blk {X : Cx} {k : Nat} {W : WE} (z : Cz X k W) (s : Shared) (H : Hp) (scope : Scope) (cenv : Env) (fp : List Addr) : Cz (X.blk s H scope cenv fp) k W0 :=
  ⟨z.calm, z.nd, takesF fun c d σ H h => by obtain ⟨_, _, _, q⟩ := h; exact q, PassesOwn.never, z.rm⟩
/-! ### freezing all -/
def frz1 : Sl → Sl
  | .own ds => .dat (.list ds)
  | .dic kvs => .dat (.dict kvs)
  | s => s
def fz (e : En) : En := e.map frz1
theorem frz1_no : ∀ s : Sl, (frz1 s).isOwn = false
  | .un => rfl
  | .dat _ => rfl
  | .own _ => rfl
  | .dic _ => rfl
  | .exc => rfl
open Classical in
theorem SR.fz {K : Kw} {H0 Hf0 Hf H : Hp} {σ : L2.St} {e : En} (S : SR K H0 Hf0 Hf H σ e) : ∃ Hf', Same Hf Hf' ∧ SR K H0 Hf0 Hf' H σ (fz e) := by
  let P : Addr → Prop := fun a => Hf a = none ∧ ∃ (i : Nat) (s : Sl), e[i]? = some s ∧ s.isOwn = true ∧ σ[i]? = some (some (V.ref a))
  let Hf' : Hp := fun a => if P a then H a else Hf a
  have s1 : Same Hf Hf' := fun a o h => by
    show (if P a then H a else Hf a) = some o
    rw [if_neg (fun p => by rw [p.1] at h; cases h)]
    exact h
  have s2 : Same Hf' H := fun a o h => by
    have h : (if P a then H a else Hf a) = some o := h
    split at h
    · exact h
    · exact S.gr.fh a o h
  refine ⟨Hf', s1, ⟨S.gr.hh, S.gr.ff.trans s1, s2, fun a o h m n => ?_⟩, ?_, ?_, ?_⟩
  · show (if P a then H a else Hf a) = none
    have n' := S.gr.nf a o h m n
    rw [if_neg]
    · exact n'
    · rintro ⟨_, i, s, h1, h2, h3⟩
      obtain ⟨a', u, ev, _, h0, _⟩ := (S.sl i s _ h1 h3).addr h2
      injection ev with ev; injection ev with ev
      subst ev
      rw [h0] at h; cases h
  · rw [S.len]; unfold Pu.fz; rw [List.length_map]
  · intro i s v h1 h2
    unfold Pu.fz at h1
    rw [List.getElem?_map] at h1
    cases q : e[i]? with
    | none => rw [q] at h1; cases h1
    | some t =>
      rw [q] at h1
      cases h1
      have z := S.sl i t v q h2
      have at_ : ∀ a, t.isOwn = true → v = some (V.ref a) → Hf a = none → Hf' a = H a := fun a o ev n => by
        show (if P a then H a else Hf a) = H a
        rw [if_pos ⟨n, i, t, q, o, by rw [h2, ev]⟩]
      cases t with
      | un => trivial
      | dat d => obtain ⟨x, ex, r⟩ := z; exact ⟨x, ex, r.mono s1⟩
      | own ds =>
        obtain ⟨a, xs, ev, ha, h0, hf, r⟩ := z
        exact ⟨_, ev, .lst (by rw [at_ a rfl ev hf]; exact ha) (r.mono s1)⟩
      | dic ks =>
        obtain ⟨a, xs, ev, ha, h0, hf, r⟩ := z
        exact ⟨_, ev, .dct (by rw [at_ a rfl ev hf]; exact ha) (r.mono s1)⟩
      | exc => exact z
  · intro i j s t a hij h1 h2 o1
    unfold Pu.fz at h1
    rw [List.getElem?_map] at h1
    cases q : e[i]? with
    | none => rw [q] at h1; cases h1
    | some t' => rw [q] at h1; cases h1; rw [frz1_no] at o1; cases o1
def fzAt (i : Nat) (e : En) : En := match e[i]? with
  | some s => e.set i (frz1 s)
  | none => e
theorem set_get {α : Type} {l : List α} {i : Nat} {x : α} (h : l[i]? = some x) : l.set i x = l := by
  apply List.ext_getElem?
  intro j
  by_cases hj : i = j
  · subst hj
    rw [List.getElem?_set_self (List.getElem?_eq_some_iff.mp h).1, h]
  · rw [List.getElem?_set_ne hj]
theorem SR.fzAt {K : Kw} {H0 Hf0 Hf H : Hp} {σ : L2.St} {e : En} (S : SR K H0 Hf0 Hf H σ e) (i : Nat) : ∃ Hf', Same Hf Hf' ∧ SR K H0 Hf0 Hf' H σ (fzAt i e) := by
  unfold Pu.fzAt
  cases q : e[i]? with
  | none => exact ⟨Hf, Same.refl _, S⟩
  | some s =>
    obtain ⟨v, hv⟩ := S.lt q
    have z := S.sl i s v q hv
    have main : ∀ (a : Addr) (u : HO) (t : Sl), s.isOwn = true → v = some (.ref a) → H a = some u → H0 a = none → Hf a = none → t.isOwn = false → SlOk K H0 (upd Hf a u) H (some (.ref a)) t → ∃ Hf', Same Hf Hf' ∧ SR K H0 Hf0 Hf' H σ (e.set i t) := by
      intro a u t hs ev hA h0 hf ht hn
      have zz := Grow.freeze S.gr.fh hA hf
      refine ⟨upd Hf a u, zz.1, ?_⟩
      have other : ∀ (j : Nat) (w : Sl), j ≠ i → e[j]? = some w → w.isOwn = true → σ[j]? ≠ some (some (.ref a)) := fun j w hj h1 o p => S.sep i j s w a (fun y => hj y.symm) q h1 hs o (by rw [hv, ev]) p
      have g : SR K H0 Hf0 (upd Hf a u) H σ (e.set i .un) := by
        refine ⟨⟨S.gr.hh, S.gr.ff.trans zz.1, zz.2, fun b o hb m nb => ?_⟩, by rw [List.length_set]; exact S.len, fun j w x h1 h2 => ?_, fun j k w x b hjk h1 h2 o1 o2 q1 q2 => ?_⟩
        · rw [upd_ne (ne_of_none hb h0)]; exact S.gr.nf b o hb m nb
        · by_cases y : i = j
          · subst y
            rw [List.getElem?_set_self (List.getElem?_eq_some_iff.mp q).1] at h1
            cases h1
            trivial
          · rw [List.getElem?_set_ne y] at h1
            have zj := S.sl j w x h1 h2
            cases w with
            | un => trivial
            | dat d => obtain ⟨x', ex, r⟩ := zj; exact ⟨x', ex, r.mono zz.1⟩
            | own ds =>
              obtain ⟨b, xs, ev', hb, h0', hf', r⟩ := zj
              have : b ≠ a := fun y' => other j _ (fun y'' => y y''.symm) h1 rfl (by rw [h2, ev', y'])
              exact ⟨b, xs, ev', hb, h0', by rw [upd_ne this]; exact hf', r.mono zz.1⟩
            | dic ks =>
              obtain ⟨b, xs, ev', hb, h0', hf', r⟩ := zj
              have : b ≠ a := fun y' => other j _ (fun y'' => y y''.symm) h1 rfl (by rw [h2, ev', y'])
              exact ⟨b, xs, ev', hb, h0', by rw [upd_ne this]; exact hf', r.mono zz.1⟩
            | exc => exact zj
        · have nu : ∀ (j : Nat) (w : Sl), (e.set i .un)[j]? = some w → w.isOwn = true → e[j]? = some w := fun j w h o => by
            by_cases y : i = j
            · subst y
              rw [List.getElem?_set_self (List.getElem?_eq_some_iff.mp q).1] at h
              cases h; cases o
            · rw [List.getElem?_set_ne y] at h; exact h
          exact S.sep j k w x b hjk (nu j w h1 o1) (nu k x h2 o2) o1 o2 q1 q2
      have g2 := g.put i (some (.ref a)) t hn fun o => by rw [ht] at o; cases o
      have e1 : σ.set i (some (.ref a)) = σ := set_get (by rw [hv, ev])
      have e2 : (e.set i .un).set i t = e.set i t := List.set_set _
      rw [e1, e2] at g2
      exact g2
    cases s with
    | un => exact ⟨Hf, Same.refl _, by show SR K H0 Hf0 Hf H σ (e.set i .un); rw [set_get q]; exact S⟩
    | dat d => exact ⟨Hf, Same.refl _, by show SR K H0 Hf0 Hf H σ (e.set i (.dat d)); rw [set_get q]; exact S⟩
    | exc => exact ⟨Hf, Same.refl _, by show SR K H0 Hf0 Hf H σ (e.set i .exc); rw [set_get q]; exact S⟩
    | own ds =>
      obtain ⟨a, xs, ev, ha, h0, hf, r⟩ := z
      exact main a _ (.dat (.list ds)) rfl ev ha h0 hf rfl ⟨_, rfl, .lst upd_same (r.mono (same_upd hf))⟩
    | dic ks =>
      obtain ⟨a, xs, ev, ha, h0, hf, r⟩ := z
      exact main a _ (.dat (.dict ks)) rfl ev ha h0 hf rfl ⟨_, rfl, .dct upd_same (r.mono (same_upd hf))⟩

/-! ### statements -/
section
variable {X : Cx} {k : Nat} {W : WE} {a b c : Expr} {F G : En → R D} {T : En → R Bool} {A B : En → Fl} {pos : Pos}
def snil : En → Fl := fun e => .nx e
def sseq (A B : En → Fl) : En → Fl := fun e => match A e with
  | .nx e1 => B e1
  | r => r
theorem sNil : PSs X [] (tS (X.kw ea) W snil) := PSs_weak pss_nil fun D σ H ⟨H0, Hf0, Hf, e, S, p⟩ => p σ Hf H S (Same.refl _)
theorem sOne {st : Stmt} (h : PS X st (tS (X.kw ea) W A)) : PSs X [st] (tS (X.kw ea) W A) := pss_one h
theorem sCons {st : Stmt} {rest : List Stmt} (h1 : PS X st (tS (X.kw ea) W A)) (h2 : PSs X rest (tS (X.kw ea) W B)) : PSs X (st :: rest) (tS (X.kw ea) W (sseq A B)) :=
  PSs_weak (pss_cons h1 h2) fun D σ H ⟨H0, Hf0, Hf, e, S, p⟩ => ⟨H0, Hf0, Hf, e, S, by
    revert p
    unfold sseq
    cases A e with
    | nx e1 => exact fun p σ1 Hf1 H1 S1 s1 => ⟨H0, Hf0, Hf1, e1, S1, p.same s1⟩
    | rt d => exact fun p => p
    | bk e => exact fun p => p
    | ct e => exact fun p => p
    | ex c e => exact fun p => p
    | bad => exact fun p => p⟩
def sret (F : En → R D) : En → Fl := fun e => match F (fz e) with
  | .ok d => .rt d
  | .ex c => .ex c (fz e)
  | .bad => .bad
theorem sRet (h : PE X a (tE (X.kw ea) W F)) : PS X (.Return (some a) pos) (tS (X.kw ea) W (sret F)) := PS_weak (ps_ret h) fun D σ H ⟨H0, Hf0, Hf, e, S, p⟩ => by
  obtain ⟨Hf', s1, S'⟩ := S.fz
  refine ⟨H0, Hf0, Hf', fz e, S', ?_⟩
  revert p
  unfold sret
  cases F (fz e) with
  | ok d => exact fun p v Hf2 H2 g r => p v Hf2 H2 (S'.gr.trans g) r
  | ex c => exact fun p Hf2 H2 g => p σ Hf2 H2 (S'.grow g) (s1.trans g.ff)
  | bad => exact fun p => p
def sretN : En → Fl := fun _ => .rt .none
theorem sRetN : PS X (.Return none pos) (tS (X.kw ea) W sretN) := PS_weak ps_retN fun D σ H ⟨H0, Hf0, Hf, e, S, p⟩ => p .non Hf H S.gr .non
theorem sPass : PS X (.Pass pos) (tS (X.kw ea) W snil) := PS_weak ps_pass fun D σ H ⟨H0, Hf0, Hf, e, S, p⟩ => p σ Hf H S (Same.refl _)
def scont : En → Fl := fun e => .ct e
theorem sCont : PS X (.Continue pos) (tS (X.kw ea) W scont) := PS_weak ps_continue fun D σ H ⟨H0, Hf0, Hf, e, S, p⟩ => p σ Hf H S (Same.refl _)
/-- a statement that is never reached -/
def snever : En → Fl := fun _ => .bad
theorem sNever {st : Stmt} : PS X st (tS (X.kw ea) W snever) := PS_weak ps_never fun D σ H ⟨H0, Hf0, Hf, e, S, p⟩ => p
/-- the slot i is frozen ahead of a statement -/
def sfz (i : Nat) (A : En → Fl) : En → Fl := fun e => A (fzAt i e)
theorem sFz (i : Nat) {st : Stmt} (h : PS X st (tS (X.kw ea) W A)) : PS X st (tS (X.kw ea) W (sfz i A)) := PS_weak h fun D σ H ⟨H0, Hf0, Hf, e, S, p⟩ => by
  obtain ⟨Hf', s1, S'⟩ := S.fzAt i
  exact ⟨H0, Hf0, Hf', fzAt i e, S', p.same s1⟩
def liftE (r : R D) (e : En) (f : D → Fl) : Fl := match r with
  | .ok d => f d
  | .ex c => .ex c e
  | .bad => .bad
def sdrop (F : En → R D) : En → Fl := fun e => liftE (F e) e fun _ => .nx e
theorem sDrop (h : PE X a (tE (X.kw ea) W F)) (hs : swapsWith a none pos.line X.env = pure false := by rfl) : PS X (.Expr a pos) (tS (X.kw ea) W (sdrop F)) := PS_weak (ps_expr h hs) fun D σ H ⟨H0, Hf0, Hf, e, S, p⟩ => ⟨H0, Hf0, Hf, e, S, by
  revert p
  unfold sdrop liftE
  cases F e with
  | ok d => exact fun p v Hf2 H2 g r => p σ Hf2 H2 (S.grow g) g.ff
  | ex c => exact fun p Hf2 H2 g => p σ Hf2 H2 (S.grow g) g.ff
  | bad => exact fun p => p⟩
def sasg (i : Nat) (F : En → R D) : En → Fl := fun e => liftE (F e) e fun d => .nx (e.set i (.dat d))
def sasgT (f : Tg) (F : En → R D) : En → Fl := fun e => liftE (F e) e fun d => match f d e with
  | some e' => .nx e'
  | none => .bad
def sasgN (i : Nat) (F : En → R (List D)) : En → Fl := fun e => match F e with
  | .ok ds => .nx (e.set i (.own ds))
  | .ex c => .ex c e
  | .bad => .bad
theorem asg_of {i : Nat} {σ : L2.St} {H : Hp} {D : Ends} (h : tS (X.kw ea) W (sasg i F) D σ H) : tAsg (tE (X.kw ea) W F) (gName i) D σ H := by
  obtain ⟨H0, Hf0, Hf, e, S, p⟩ := h
  refine ⟨H0, Hf0, Hf, e, S, ?_⟩
  revert p
  unfold sasg liftE
  cases F e with
  | ok d => exact fun p v Hf2 H2 g r => p _ Hf2 H2 ((S.grow g).dat i r) g.ff
  | ex c => exact fun p Hf2 H2 g => p σ Hf2 H2 (S.grow g) g.ff
  | bad => exact fun p => p
theorem asgN_of {i : Nat} {L : En → R (List D)} {σ : L2.St} {H : Hp} {D : Ends} (h : tS (X.kw ea) W (sasgN i L) D σ H) : tAsg (tN (X.kw ea) W L) (gName i) D σ H := by
  obtain ⟨H0, Hf0, Hf, e, S, p⟩ := h
  refine ⟨H0, Hf0, Hf, e, S, ?_⟩
  revert p
  unfold sasgN
  cases L e with
  | ok ds =>
    intro p q xs Hf2 H2 g hn hf hl r
    refine p _ Hf2 H2 ((S.grow g).own i ⟨_, hl⟩ (S.fresh hn) ⟨q, xs, rfl, hl, ?_, hf, r⟩) g.ff
    exact S.gr.hh.free hn
  | ex c => exact fun p Hf2 H2 g => p σ Hf2 H2 (S.grow g) g.ff
  | bad => exact fun p => p
/-- x = e -/
theorem sAsg {i : Nat} {x : Str} {pos' : Pos} (hN : X.N.Nodup) (hi : X.N[i]? = some x) (hx : Loc X.env.scope x) (he : PE X a (tE (X.kw ea) W F)) (hs : swapsWith a (some (.Name x pos')) pos.line X.env = pure false := by rfl) (hf : X.fn x = true ∨ X.env.scope.names.lookup x = some .local := by first | exact .inl rfl | exact .inr rfl | assumption) :
    PS X (.Assign [.Name x pos'] a pos) (tS (X.kw ea) W (sasg i F)) := PS_weak (ps_set hN hi hx he hs hf) fun D σ H h => asg_of h
theorem sAsgN {i : Nat} {x : Str} {pos' : Pos} {L : En → R (List D)} (hN : X.N.Nodup) (hi : X.N[i]? = some x) (hx : Loc X.env.scope x) (he : PE X a (tN (X.kw ea) W L)) (hs : swapsWith a (some (.Name x pos')) pos.line X.env = pure false := by rfl) (hf : X.fn x = true ∨ X.env.scope.names.lookup x = some .local := by first | exact .inl rfl | exact .inr rfl | assumption) :
    PS X (.Assign [.Name x pos'] a pos) (tS (X.kw ea) W (sasgN i L)) := PS_weak (ps_set hN hi hx he hs hf) fun D σ H h => asgN_of h
/-- t1, t2 = e -/
theorem sAsgT {tg : Expr} {is : List Nat} {f : Tg} (he : PE X a (tE (X.kw ea) W F)) (hg : PG X tg (tG (X.kw ea) is f)) (hs : PS X (.Assign [tg] a pos) (tAsg (tE (X.kw ea) W F) (tG (X.kw ea) is f))) : PS X (.Assign [tg] a pos) (tS (X.kw ea) W (sasgT f F)) :=
  PS_weak hs fun D σ H ⟨H0, Hf0, Hf, e, S, p⟩ => ⟨H0, Hf0, Hf, e, S, by
    revert p
    unfold sasgT liftE
    cases F e with
    | ok d =>
      show PoS (X.kw ea) W D H0 Hf0 Hf (match f d e with | some e' => .nx e' | none => .bad) → _
      cases h : f d e with
      | none => exact fun p => p.elim
      | some e' => exact fun p v Hf2 H2 g r => ⟨H0, Hf0, Hf2, e, d, e', S.grow g, r, h, fun σ' _ _ S' => p σ' Hf2 H2 S' g.ff⟩
    | ex c => exact fun p Hf2 H2 g => p σ Hf2 H2 (S.grow g) g.ff
    | bad => exact fun p => p⟩
/-- x = [.. for ..] -/
theorem sLc {i : Nat} {y : Str} {py : Pos} {elt tg iter : Expr} {ifs : List Expr} {scope : Scope} {own : List (Str × Nat)} {is : List Nat} {spos : Pos} {L : En → R (List D)} {f : Tg} {E : En → R D}
    (hc : X.calm = true) (hN : X.N.Nodup) (hy : X.N[i]? = some y) (hyl : X.env.scope.names.lookup y = some .local) (hsw : swapsWith (.ListComp elt [⟨tg, iter, ifs, 0⟩] scope pos) (some (.Name y py)) spos.line X.env = pure true)
    (hi : PI X tg iter (tI (X.kw ea) W false L)) (ok : BlkOk X.N X.env.scope scope own) (his : ∀ i ∈ is, i ∈ own.map (·.2))
    (hg : ∀ (s : Shared) (H : Hp) (C : Addr) (cl : List (Str × Addr)) (fp : List Addr), PG (X.blk s H scope (compEnvC scope cl C X.env) fp) tg (tG (X.kw ea) is f)) (ht : ∀ (s : Shared) (H : Hp) (C : Addr) (cl : List (Str × Addr)) (fp : List Addr), PTs (X.blk s H scope (compEnvC scope cl C X.env) fp) ifs (tT (X.kw ea) W0 T))
    (he : ∀ (s : Shared) (H : Hp) (C : Addr) (cl : List (Str × Addr)) (fp : List Addr), PE (X.blk s H scope (compEnvC scope cl C X.env) fp) elt (tE (X.kw ea) W0 E)) (hs : ∀ x, foldedSetIterable iter X.env x = pure x := by intro _; rfl) :
    PS X (.Assign [.Name y py] (.ListComp elt [⟨tg, iter, ifs, 0⟩] scope pos) spos) (tS (X.kw ea) W (sasgN i (xlc (own.map (·.2)) L f T E))) :=
  PS_weak (ps_setLc hc hN hy hyl hsw hi ok hg ht he hs) fun D σ H h => tLc_of his (asgN_of (X := X) h)
theorem sLcF {i : Nat} {st : Stmt} {L : En → R (List D)} (h : PS X st (tS (X.kw ea) W (sasgN i L))) : PS X st (tS (X.kw ea) W (sasg i (asL L))) := PS_weak h fun D σ H ⟨H0, Hf0, Hf, e, S, p⟩ => ⟨H0, Hf0, Hf, e, S, by
  revert p
  unfold sasg sasgN asL liftE
  cases L e with
  | ok ds =>
    intro p σ1 Hf1 H1 S1 sm
    obtain ⟨Hf2, s2, S2⟩ := S1.fzAt i
    refine p σ1 Hf2 H1 ?_ (sm.trans s2)
    have q : (e.set i (Sl.own ds))[i]? = some (.own ds) ∨ e.length ≤ i := by
      by_cases hl : i < e.length
      · exact .inl (List.getElem?_set_self hl)
      · exact .inr (by omega)
    unfold fzAt at S2
    rcases q with q | q
    · rw [q] at S2
      have e2 : (e.set i (Sl.own ds)).set i (frz1 (.own ds)) = e.set i (.dat (.list ds)) := List.set_set _
      have S2 : SR (X.kw ea) H0 Hf0 Hf2 H1 σ1 ((e.set i (Sl.own ds)).set i (frz1 (.own ds))) := S2
      rw [e2] at S2
      exact S2
    · have n1 : (e.set i (Sl.own ds))[i]? = none := List.getElem?_eq_none (by rw [List.length_set]; exact q)
      rw [n1] at S2
      have S2 : SR (X.kw ea) H0 Hf0 Hf2 H1 σ1 (e.set i (Sl.own ds)) := S2
      rw [List.set_eq_of_length_le q] at S2
      show SR (X.kw ea) H0 Hf0 Hf2 H1 σ1 (e.set i (.dat (.list ds)))
      rw [List.set_eq_of_length_le q]
      exact S2
  | ex c => exact fun p => p
  | bad => exact fun p => p⟩
def sif (T : En → R Bool) (A B : En → Fl) : En → Fl := fun e => match T e with
  | .ok true => A e
  | .ok false => B e
  | .ex c => .ex c e
  | .bad => .bad
theorem sIf {as bs : List Stmt} (ht : PT X c (tT (X.kw ea) W T)) (ha : PSs X as (tS (X.kw ea) W A)) (hb : PSs X bs (tS (X.kw ea) W B)) : PS X (.If c as bs pos) (tS (X.kw ea) W (sif T A B)) :=
  PS_weak (ps_if ht ha hb) fun D σ H ⟨H0, Hf0, Hf, e, S, p⟩ => ⟨H0, Hf0, Hf, e, S, by
    revert p
    unfold sif
    cases T e with
    | ok k =>
      cases k with
      | true => exact fun p Hf2 H2 g => (show tS (X.kw ea) W A D σ H2 from ⟨H0, Hf0, Hf2, e, S.grow g, p.same g.ff⟩)
      | false => exact fun p Hf2 H2 g => (show tS (X.kw ea) W B D σ H2 from ⟨H0, Hf0, Hf2, e, S.grow g, p.same g.ff⟩)
    | ex c => exact fun p Hf2 H2 g => p σ Hf2 H2 (S.grow g) g.ff
    | bad => exact fun p => p⟩
/-! ### loops -/
def forL (f : Tg) (B : En → Fl) : List D → En → Fl
  | [], e => .nx e
  | d :: ds, e => match f d e with
    | none => .bad
    | some e1 => match B e1 with
      | .nx e2 => forL f B ds e2
      | .ct e2 => forL f B ds e2
      | .bk e2 => .nx e2
      | r => r
def sfor (L : En → R (List D)) (f : Tg) (B : En → Fl) : En → Fl := fun e => match L e with
  | .ok ds => forL f B ds e
  | .ex c => .ex c e
  | .bad => .bad
theorem sFor {tg iter : Expr} {body : List Stmt} {is : List Nat} {L : En → R (List D)} {f : Tg} (hp : PassesOwn (model X.prog X.w) X.A X.env X.xe) (hc : X.calm = true) (hi : PI X tg iter (tI (X.kw ea) W true L)) (hg : PG X tg (tG (X.kw ea) is f)) (hb : PSs X body (tS (X.kw ea) W B))
    (hs : ∀ x, foldedSetIterable iter X.env x = pure x := by intro _; rfl) : PS X (.For tg iter body [] pos) (tS (X.kw ea) W (sfor L f B)) :=
  PS_weak (ps_for hp hc hi hg hb hs) fun D σ H ⟨H0, Hf0, Hf, e, S, p⟩ => ⟨H0, Hf0, Hf, e, S, by
    revert p
    unfold sfor
    cases L e with
    | ok ds =>
      intro p J Hf1 H1 g w
      have w : Wk (X.kw ea) Hf1 Hf1 J ds := w
      refine ⟨fun i m σ2 H2 => m = ds.length - i ∧ i ≤ ds.length ∧ ∃ Hf2 e2, SR (X.kw ea) H0 Hf0 Hf2 H2 σ2 e2 ∧ Same Hf1 Hf2 ∧ PoS (X.kw ea) W D H0 Hf0 Hf2 (forL f B (ds.drop i) e2),
        ⟨ds.length, rfl, Nat.zero_le _, Hf1, e, S.grow g, Same.refl _, p.same g.ff⟩, ?_⟩
      rintro i m σ2 H2 ⟨rfl, hi, Hf2, e2, S2, s2, p2⟩
      by_cases hlt : i < ds.length
      · have hdr : ds.drop i = ds[i] :: ds.drop (i + 1) := List.drop_eq_getElem_cons hlt
        rw [hdr] at p2
        unfold forL at p2
        refine .inr ⟨w.go i H2 (s2.trans S2.gr.fh) hlt, fun σ3 H3 => ∃ Hf3 e3, SR (X.kw ea) H0 Hf0 Hf3 H3 σ3 e3 ∧ Same Hf1 Hf3 ∧ PoS (X.kw ea) W D H0 Hf0 Hf3 (forL f B (ds.drop (i + 1)) e3),
          fun σ3 H3 n3 => ⟨ds.length - (i + 1), by omega, rfl, hlt, n3⟩, fun x H3 hy => ?_⟩
        obtain ⟨Hf3, g3, rx⟩ := w.yl i H2 Hf2 H3 x ds[i] (s2.trans S2.gr.fh) s2 S2.gr.fh (List.getElem?_eq_getElem hlt) hy
        cases h1 : f ds[i] e2 with
        | none => rw [h1] at p2; exact p2.elim
        | some e3 =>
          rw [h1] at p2
          have S3 := S2.grow g3
          refine ⟨H0, Hf0, Hf3, e2, ds[i], e3, S3, rx, h1, fun σ4 _ _ S4 => ?_⟩
          refine ⟨H0, Hf0, Hf3, e3, S4, ?_⟩
          have p3 := p2.same g3.ff
          have s3 := s2.trans g3.ff
          revert p3
          show PoS (X.kw ea) W D H0 Hf0 Hf3 (match B e3 with | .nx e2 => forL f B (ds.drop (i + 1)) e2 | .ct e2 => forL f B (ds.drop (i + 1)) e2 | .bk e2 => .nx e2 | r => r) → _
          cases B e3 with
          | nx e4 => exact fun p3 σ5 Hf5 H5 S5 s5 => ⟨Hf5, e4, S5, s3.trans s5, p3.same s5⟩
          | ct e4 => exact fun p3 σ5 Hf5 H5 S5 s5 => ⟨Hf5, e4, S5, s3.trans s5, p3.same s5⟩
          | bk e4 => exact fun p3 => p3
          | rt d => exact fun p3 => p3
          | ex c e4 => exact fun p3 => p3
          | bad => exact fun p3 => p3
      · have hi' : i = ds.length := by omega
        subst hi'
        rw [List.drop_length] at p2
        exact .inl ⟨w.st H2 (s2.trans S2.gr.fh), p2 σ2 Hf2 H2 S2 (Same.refl _)⟩
    | ex c => exact fun p Hf2 H2 g => p σ Hf2 H2 (S.grow g) g.ff
    | bad => exact fun p => p⟩
end
end Pu
/-! PuJ: changed lists, while, defs and their calls -/
namespace L2
open PySem PySem.Spec PyProof.Rows
/-- l.extend(b), b a tuple -/
theorem ext_tup {l b : Addr} {us ws : List Value} {n : Nat} (room : us.length + ws.length ≤ sizeLine) : Meets (Builtin.«list.extend» ⟨[.ref l, .ref b], []⟩) (fun _ R s =>
    (s.heap.get? l = some { cls := .type "list", data := .seq us.toArray n } ∧ IsTup s.heap b ws.toArray) ∧ R (.ok (.ret .none)) { s with heap := s.heap.update l (Obj.mapSeq (· ++ ws.toArray)) }) := .of_wp fun P w A R s ⟨⟨hl, ⟨⟨cl, dd, da, sl⟩, hb, ec, m, ed⟩⟩, hr⟩ => by
  obtain rfl : cl = .type "tuple" := ec
  obtain rfl : da = .seq ws.toArray m := ed
  have fits : (us.toArray ++ ws.toArray).size ≤ sizeLine + 1 := by
    rw [Array.size_append, List.size_toArray, List.size_toArray]
    exact Nat.le_succ_of_le room
  have fit0 : us.toArray.size ≤ sizeLine := Nat.le_trans (Nat.le_add_right _ _) room
  have sum : us.toArray.size + ws.toArray.size ≤ sizeLine := room
  have short := notLongL sum
  have i1 := AutoSeq1.sub_tuple_list
  have i2 := AutoSeq1.sub_tuple_tuple
  have i3 := AutoSeq1.sub_list_list
  cases s with
  | mk h gs dr tk os =>
    wp_walk using AutoSeq1.wpAny_loadPart' hb, AutoSeq1.wpAny_loadPart' hl
    rw [short, Bool.and_false, if_neg Bool.false_ne_true]
    wp_walk using wpAny_updateSeq hl rfl (hz := fit0) (_hz' := fits)
    exact ⟨_, rfl, hr⟩
def rExtT (K : PySem.W.Frag) : V → List V → Hp → VK → Prop := fun x vs H Q => ∃ l b xs zs, x = .ref l ∧ vs = [.ref b] ∧ H l = some (.lst xs) ∧ SqT K H b zs ∧ xs.length + zs.length ≤ sizeLine ∧ Q .non (upd H l (.lst (xs ++ zs)))
theorem mt_extT {X : Cx} : MtM X "list.extend" (rExtT X.K) := fun pins s σ H _ _ v us Q I rx rv ⟨l, b, xs, zs, ex, ev, hl, hb, hz, q⟩ => by
  subst ex ev
  obtain rfl : v = .ref l := rx
  obtain ⟨_, rfl, rfl⟩ := vals1 rv
  obtain ⟨_, as, n, ra, _, ga⟩ := I.lstM hl
  obtain ⟨bs, rb, tb, _, _⟩ := Pu.tup_at I hb
  have room : as.length + bs.length ≤ sizeLine := by rw [← ra.length, ← rb.length]; exact hz
  have isL : s.TypeIs (.ref l) "list" := ⟨_, ga, rfl⟩
  exact call_meets F.slot_list_extend isL F.entry_list_extend (F.args_list_extend_2 _ _) (ext_tup (b := b) (n := n) room) ⟨⟨ga, tb⟩, .non, _, I.lset hl ga (by simp) (ra.append rb) (by rw [List.length_append]; exact hz), rfl, q⟩
theorem MtM.or {X : Cx} {id : String} {r r' : V → List V → Hp → VK → Prop} (h : MtM X id r) (h' : MtM X id r') : MtM X id (fun x xs H Q => r x xs H Q ∨ r' x xs H Q) := by
  intro pins s σ H x xs v us Q I rx rv q
  rcases q with q | q
  · exact h pins s σ H x xs v us Q I rx rv q
  · exact h' pins s σ H x xs v us Q I rx rv q
end L2
namespace Pu
open PySem L2
section
variable {X : Cx} {k : Nat} {W : WE} {a b c : Expr} {F G : En → R D} {T : En → R Bool} {A B : En → Fl} {pos : Pos}
/-- the name in slot i, whose own list stands at l -/
theorem own_at {K : Kw} {H0 Hf0 Hf H : Hp} {σ : L2.St} {e : En} {i : Nat} {ds : List D} (S : SR K H0 Hf0 Hf H σ e) (h : e[i]? = some (.own ds)) : ∃ l xs, σ[i]? = some (some (.ref l)) ∧ H l = some (.lst xs) ∧ H0 l = none ∧ Hf l = none ∧ RpAll K Hf xs ds := by
  obtain ⟨v, hv⟩ := S.lt h
  obtain ⟨l, xs, ev, h1, h2, h3, r⟩ := S.sl i _ v h hv
  subst ev
  exact ⟨l, xs, hv, h1, h2, h3, r⟩
def sapp (i : Nat) (F : En → R D) : En → Fl := fun e => match e[i]? with
  | some (.own ds) => liftE (F e) e fun d => if ds.length < many then .nx (e.set i (.own (ds ++ [d]))) else .bad
  | _ => .bad
/-- x.append(e) -/
theorem sApp {i : Nat} {x : Str} {px pa pc : Pos} (hx : PE X (.Name x px) (tVar i)) (he : PE X a (tE (X.kw ea) W F))
    (hs : PE X (.Call (.Attribute (.Name x px) "append" pa) [a] [] pc) (tBM (X.kw ea) "list" rAppend (tVar i) (tCons (tE (X.kw ea) W F) tNil)))
    (hw : swapsWith (.Call (.Attribute (.Name x px) "append" pa) [a] [] pc) none pos.line X.env = pure false := by rfl) : PS X (.Expr (.Call (.Attribute (.Name x px) "append" pa) [a] [] pc) pos) (tS (X.kw ea) W (sapp i F)) :=
  PS_weak (ps_expr hs hw) fun D σ H ⟨H0, Hf0, Hf, e, S, p⟩ => by
    unfold sapp at p
    cases q : e[i]? with
    | none => rw [q] at p; exact p.elim
    | some s =>
      rw [q] at p
      cases s with
      | own ds =>
        obtain ⟨l, xs, hv, h1, h2, h3, r⟩ := own_at S q
        refine ⟨.ref l, hv, .inl ⟨rfl, xs, SqL.of h1⟩, H0, Hf0, Hf, e, S, ?_⟩
        revert p
        show PoS (X.kw ea) W D H0 Hf0 Hf (liftE (F e) e fun d => if ds.length < many then .nx (e.set i (.own (ds ++ [d]))) else .bad) → _
        unfold liftE
        cases F e with
        | ok d =>
          show PoS (X.kw ea) W D H0 Hf0 Hf (if ds.length < many then .nx (e.set i (.own (ds ++ [d]))) else .bad) → _
          intro p v Hf1 H1 g rv
          by_cases hz : ds.length < many
          · rw [if_pos hz] at p
            refine ⟨l, xs, v, rfl, rfl, g.hh _ _ h1, many_lt (by rw [r.length]; exact hz), ?_⟩
            have nf := g.nf _ _ h1 rfl h3
            exact p σ Hf1 _ ((S.grow g).mut q rfl hv rfl ⟨l, _, rfl, upd_same, h2, nf, (r.mono g.ff).snoc rv⟩) g.ff
          · rw [if_neg hz] at p; exact p.elim
        | ex c => exact fun p Hf1 H1 g => p σ Hf1 H1 (S.grow g) g.ff
        | bad => exact fun p => p
      | _ => exact p.elim
def sext (i : Nat) (F : En → R D) : En → Fl := fun e => match e[i]? with
  | some (.own ds) => liftE (F e) e fun d => match listN d with
    | some es => if ds.length + es.length ≤ many then .nx (e.set i (.own (ds ++ es))) else .bad
    | none => .bad
  | _ => .bad
/-- x.extend(e) -/
theorem sExt {i : Nat} {x : Str} {px pa pc : Pos} (hx : PE X (.Name x px) (tVar i)) (he : PE X a (tE (X.kw ea) W F))
    (hs : PE X (.Call (.Attribute (.Name x px) "extend" pa) [a] [] pc) (tBM (X.kw ea) "list" (fun x xs H Q => rExtend x xs H Q ∨ rExtT (X.kw ea) x xs H Q) (tVar i) (tCons (tE (X.kw ea) W F) tNil)))
    (hw : swapsWith (.Call (.Attribute (.Name x px) "extend" pa) [a] [] pc) none pos.line X.env = pure false := by rfl) : PS X (.Expr (.Call (.Attribute (.Name x px) "extend" pa) [a] [] pc) pos) (tS (X.kw ea) W (sext i F)) :=
  PS_weak (ps_expr hs hw) fun D σ H ⟨H0, Hf0, Hf, e, S, p⟩ => by
    unfold sext at p
    cases q : e[i]? with
    | none => rw [q] at p; exact p.elim
    | some s =>
      rw [q] at p
      cases s with
      | own ds =>
        obtain ⟨l, xs, hv, h1, h2, h3, r⟩ := own_at S q
        refine ⟨.ref l, hv, .inl ⟨rfl, xs, SqL.of h1⟩, H0, Hf0, Hf, e, S, ?_⟩
        revert p
        show PoS (X.kw ea) W D H0 Hf0 Hf (liftE (F e) e fun d => match listN d with | some es => if ds.length + es.length ≤ many then .nx (e.set i (.own (ds ++ es))) else .bad | none => .bad) → _
        unfold liftE
        cases F e with
        | ok d =>
          show PoS (X.kw ea) W D H0 Hf0 Hf (match listN d with | some es => if ds.length + es.length ≤ many then .nx (e.set i (.own (ds ++ es))) else .bad | none => .bad) → _
          intro p v Hf1 H1 g rv
          cases hl : listN d with
          | none => rw [hl] at p; exact p.elim
          | some es =>
            rw [hl] at p
            have p : PoS (X.kw ea) W D H0 Hf0 Hf (if ds.length + es.length ≤ many then .nx (e.set i (.own (ds ++ es))) else .bad) := p
            by_cases hz : ds.length + es.length ≤ many
            · rw [if_pos hz] at p
              have nf := g.nf _ _ h1 rfl h3
              have fin : ∀ zs, RpAll (X.kw ea) Hf1 zs es → D.nx σ (upd H1 l (.lst (xs ++ zs))) := fun zs rz => p σ Hf1 _ ((S.grow g).mut q rfl hv rfl ⟨l, _, rfl, upd_same, h2, nf, (r.mono g.ff).append rz⟩) g.ff
              cases rv with
              | lst hb rb => cases hl; exact .inl ⟨l, _, xs, _, rfl, rfl, g.hh _ _ h1, g.fh _ _ hb, many_line (by rw [r.length, rb.length]; exact hz), fin _ rb⟩
              | tup hb rb => cases hl; exact .inr ⟨l, _, xs, _, rfl, rfl, g.hh _ _ h1, (hb.mono g.fh).sq, many_line (by rw [r.length, rb.length]; exact hz), fin _ rb⟩
              | _ => cases hl
            · rw [if_neg hz] at p; exact p.elim
        | ex c => exact fun p Hf1 H1 g => p σ Hf1 H1 (S.grow g) g.ff
        | bad => exact fun p => p
      | _ => exact p.elim
def putAt (i : Nat) (e : En) (ds : List D) (d : D) : D → Fl
  | .int n => match ixN ds.length n with
    | some m => .nx (e.set i (.own (ds.set m d)))
    | none => .bad
  | _ => .bad
def sput (i : Nat) (G F : En → R D) : En → Fl := fun e => liftE (F e) e fun d => match e[i]? with
  | some (.own ds) => liftE (G e) e (putAt i e ds d)
  | _ => .bad
/-- x[j] = e -/
theorem sPut {i : Nat} {x : Str} {px ps : Pos} {jx : Expr} (hs : PS X (.Assign [.Subscript (.Name x px) jx ps] a pos) (tAsg (tE (X.kw ea) W F) (gSub (tVar i) (tE (X.kw ea) W G) rSetL))) : PS X (.Assign [.Subscript (.Name x px) jx ps] a pos) (tS (X.kw ea) W (sput i G F)) :=
  PS_weak hs fun D σ H ⟨H0, Hf0, Hf, e, S, p⟩ => ⟨H0, Hf0, Hf, e, S, by
    revert p
    unfold sput
    cases F e with
    | ok d =>
      intro p v Hf1 H1 g rv
      have S1 := S.grow g
      have p : PoS (X.kw ea) W D H0 Hf0 Hf (match e[i]? with | some (.own ds) => liftE (G e) e (putAt i e ds d) | _ => .bad) := p
      have p1 := p.same g.ff
      cases q : e[i]? with
      | none => rw [q] at p1; exact p1.elim
      | some s =>
        rw [q] at p1
        cases s with
        | own ds =>
          obtain ⟨l, xs, hv, h1, h2, h3, r⟩ := own_at S1 q
          refine ⟨.ref l, hv, H0, Hf0, Hf1, e, S1, ?_⟩
          have p1 : PoS (X.kw ea) W D H0 Hf0 Hf1 (liftE (G e) e (putAt i e ds d)) := p1
          revert p1
          cases G e with
          | ok j =>
            intro p1 y Hf2 H2 g2 ry
            have p1 : PoS (X.kw ea) W D H0 Hf0 Hf1 (putAt i e ds d j) := p1
            cases ry with
            | int n =>
              have p1 : PoS (X.kw ea) W D H0 Hf0 Hf1 (match ixN ds.length n with | some m => .nx (e.set i (.own (ds.set m d))) | none => .bad) := p1
              cases hm : ixN ds.length n with
              | none => rw [hm] at p1; exact p1.elim
              | some m =>
                rw [hm] at p1
                refine ⟨l, xs, n, m, rfl, rfl, g2.hh _ _ h1, by rw [r.length]; exact hm, ?_⟩
                exact p1 σ Hf2 _ ((S1.grow g2).mut q rfl hv rfl ⟨l, _, rfl, upd_same, h2, g2.nf _ _ h1 rfl h3, (r.mono g2.ff).set (rv.mono g2.ff) m⟩) g2.ff
            | _ => exact p1.elim
          | ex c => exact fun p1 Hf2 H2 g2 => p1 σ Hf2 H2 (S1.grow g2) g2.ff
          | bad => exact fun p1 => p1
        | _ => exact p1.elim
    | ex c => exact fun p Hf1 H1 g => p σ Hf1 H1 (S.grow g) g.ff
    | bad => exact fun p => p⟩
def spopTo (i j : Nat) : En → Fl := fun e => match e[i]? with
  | some (.own ds) => match ds.getLast? with
    | some d => .nx ((e.set i (.own ds.dropLast)).set j (.dat d))
    | none => .bad
  | _ => .bad
/-! ### while -/
def whL (T : En → R Bool) (B : En → Fl) : Nat → En → Fl
  | 0, _ => .bad
  | n + 1, e => match T e with
    | .ok true => match B e with
      | .nx e2 => whL T B n e2
      | .ct e2 => whL T B n e2
      | .bk e2 => .nx e2
      | r => r
    | .ok false => .nx e
    | .ex c => .ex c e
    | .bad => .bad
def swhile (n : Nat) (T : En → R Bool) (B : En → Fl) : En → Fl := fun e => whL T B n e
theorem sWhile (n : Nat) {body : List Stmt} (hp : PassesOwn (model X.prog X.w) X.A X.env X.xe) (ht : PT X c (tT (X.kw ea) W T)) (hb : PSs X body (tS (X.kw ea) W B)) : PS X (.While c body [] pos) (tS (X.kw ea) W (swhile n T B)) :=
  PS_weak (ps_while hp ht hb) fun D σ H ⟨H0, Hf0, Hf, e, S, p⟩ => by
    refine ⟨fun m σ2 H2 => ∃ Hf2 e2, SR (X.kw ea) H0 Hf0 Hf2 H2 σ2 e2 ∧ PoS (X.kw ea) W D H0 Hf0 Hf2 (whL T B m e2), ⟨n, Hf, e, S, p⟩, ?_⟩
    rintro m σ2 H2 ⟨Hf2, e2, S2, p2⟩
    cases m with
    | zero => exact p2.elim
    | succ m =>
      refine ⟨H0, Hf0, Hf2, e2, S2, ?_⟩
      unfold whL at p2
      revert p2
      cases T e2 with
      | ok b =>
        cases b with
        | true =>
          intro p2 Hf3 H3 g3
          rw [if_pos rfl]
          have S3 := S2.grow g3
          refine ⟨fun σ4 H4 => ∃ Hf4 e4, SR (X.kw ea) H0 Hf0 Hf4 H4 σ4 e4 ∧ PoS (X.kw ea) W D H0 Hf0 Hf4 (whL T B m e4), fun σ4 H4 q => ⟨m, Nat.lt_succ_self _, q⟩, H0, Hf0, Hf3, e2, S3, ?_⟩
          have p3 := PoS.same p2 g3.ff
          revert p3
          show PoS (X.kw ea) W D H0 Hf0 Hf3 (match B e2 with | .nx e2 => whL T B m e2 | .ct e2 => whL T B m e2 | .bk e2 => .nx e2 | r => r) → _
          cases B e2 with
          | nx e4 => exact fun p3 σ5 Hf5 H5 S5 s5 => ⟨Hf5, e4, S5, p3.same s5⟩
          | ct e4 => exact fun p3 σ5 Hf5 H5 S5 s5 => ⟨Hf5, e4, S5, p3.same s5⟩
          | bk e4 => exact fun p3 => p3
          | rt d => exact fun p3 => p3
          | ex c e4 => exact fun p3 => p3
          | bad => exact fun p3 => p3
        | false =>
          intro p2 Hf3 H3 g3
          rw [if_neg Bool.false_ne_true]
          exact p2 σ2 Hf3 H3 (S2.grow g3) g3.ff
      | ex c => exact fun p2 Hf3 H3 g3 => p2 σ2 Hf3 H3 (S2.grow g3) g3.ff
      | bad => exact fun p2 => p2
/-! ### defs -/
/-- what a def promises: n arguments, what F computes -/
def spD (K : Kw) (mg : Str → Option Value) (n : Nat) (F : List D → R D) : Sp := fun vs H Q E => ∃ Hf ds, Same Hf H ∧ RpAll K Hf vs ds ∧ ds.length = n ∧ match F ds with
  | .ok d => ∀ v Hf' H', Grow Hf H Hf' H' → Rp K Hf' v d → Q v H'
  | .ex c => ∀ cv Hf' H', mg c = some cv → Grow Hf H Hf' H' → E cv none H'
  | .bad => False
theorem spD_len {K : Kw} {mg : Str → Option Value} {n : Nat} {F : List D → R D} : ∀ vs H Q E, spD K mg n F vs H Q E → vs.length = n := fun vs H Q E ⟨Hf, ds, _, r, h, _⟩ => r.length.trans h
def startE (m : Nat) (ds : List D) : En := ds.map Sl.dat ++ List.replicate (m - ds.length) .un
def runD (m : Nat) (B : En → Fl) (ds : List D) : R D := match B (startE m ds) with
  | .rt d => .ok d
  | .nx _ => .ok .none
  | .ex c _ => .ex c
  | _ => .bad
theorem SR.start {K : Kw} {Hf H : Hp} {N : List Str} {vs : List V} {ds : List D} (f : Same Hf H) (r : RpAll K Hf vs ds) : SR K H Hf Hf H (L2.start N vs) (startE N.length ds) := by
  have noown : ∀ (i : Nat) (s : Sl), (startE N.length ds)[i]? = some s → s.isOwn = false ∧ ((∃ d, ds[i]? = some d ∧ s = .dat d) ∨ s = .un) := by
    intro i s h
    unfold startE at h
    rw [List.getElem?_append] at h
    split at h
    · rw [List.getElem?_map] at h
      cases q : ds[i]? with
      | none => rw [q] at h; cases h
      | some d => rw [q] at h; cases h; exact ⟨rfl, .inl ⟨d, rfl, rfl⟩⟩
    · obtain ⟨_, h2⟩ := List.getElem?_eq_some_iff.mp h
      rw [List.getElem_replicate] at h2
      subst h2
      exact ⟨rfl, .inr rfl⟩
  refine ⟨Grow.refl f, ?_, fun i s v h1 h2 => ?_, fun i j s t a hij h1 h2 o1 => ?_⟩
  · unfold L2.start startE
    rw [List.length_append, List.length_append, List.length_map, List.length_map, List.length_replicate, List.length_replicate, r.length]
  · obtain ⟨_, h⟩ := noown i s h1
    rcases h with ⟨d, hd, rfl⟩ | rfl
    · obtain ⟨x, hx, rx⟩ := r.get hd
      unfold L2.start at h2
      have hi : i < vs.length := (List.getElem?_eq_some_iff.mp hx).1
      rw [List.getElem?_append_left (by rw [List.length_map]; exact hi), List.getElem?_map, hx] at h2
      cases h2
      exact ⟨x, rfl, rx⟩
    · trivial
  · obtain ⟨h, _⟩ := noown i s h1
    rw [h] at o1; cases o1
end
section
variable {P : Program} {w : World} {K : PySem.W.Frag} {mg : Str → Option Value} {base : Heap}
/-- the wish of a def's body -/
def wB (mg : Str → Option Value) (E : XK) : WE := fun c _ H => ∀ cv, mg c = some cv → E cv none H
/-- THE RULE for a def -/
theorem okD {x qual : Str} {st : Stmt} {f : Addr} {fd : FuncData} {N ps : List Str} {k : Nat} {B : En → Fl} (F : Fun K x qual st f fd) (S : FnScope N ps (defScope st))
    (body : ∀ (cdv : Value) (A : Around) (outer : List Env) (s : Shared) (H : Hp) (E : XK), Cz (cxOf (L2.CX P w) P w K mg base N qual (defScope st) f cdv A outer s H E) k (wB mg E) →
      PSs (cxOf (L2.CX P w) P w K mg base N qual (defScope st) f cdv A outer s H E) (defBody st) (tS ⟨K, w, 0⟩ (wB mg E) B)) :
    FnOk P w K mg base (L2.CX P w) (k + 1) f fd ps (spD ⟨K, w, 0⟩ mg ps.length (runD N.length B)) := by
  refine F.okX S spD_len fun cdv A outer s H vs Q E hr h => ?_
  refine ⟨_, body cdv A outer s H E ⟨rfl, S.nd, ?_, passes_of rfl, hr⟩, ?_⟩
  · refine Takes.imp (takes_of (X := cxOf (L2.CX P w) P w K mg base N qual (defScope st) f cdv A outer s H E) (E := E) rfl rfl rfl rfl) fun cls d σ H' q => ?_
    obtain ⟨rfl, c, hc, q⟩ := q
    exact q cls hc
  · obtain ⟨Hf, ds, sm, r, hn, q⟩ := h
    refine ⟨H, Hf, Hf, startE N.length ds, SR.start sm r, ?_⟩
    revert q
    unfold runD
    cases B (startE N.length ds) with
    | nx e => exact fun q σ Hf' H' S' _ => q .non Hf' H' S'.gr .non
    | rt d => exact fun q => q
    | bk e => exact fun q => q.elim
    | ct e => exact fun q => q.elim
    | ex c e => exact fun q σ Hf' H' S' _ cv hc => q cv Hf' H' hc S'.gr
    | bad => exact fun q => q
end
section
variable {X : Cx} {k j : Nat} {W : WE} {a : Expr} {es : List Expr} {L : En → R (List D)} {pos p : Pos} {x : Str} {f : Addr} {fd : FuncData} {ps : List Str} {Fn : List D → R D}
def xcall (n : Nat) (Fn : List D → R D) (L : En → R (List D)) : En → R D := fun e => (L e).bind fun ds => if ds.length = n then Fn ds else .bad
/-- f(e, ..) -/
theorem xCall (z : Cz X k W) (G : FnOk X.prog X.w (X.kw ea) X.mg X.base (L2.CX X.prog X.w) j f fd ps (spD (X.kw ea) X.mg ps.length Fn)) (hj : j ≤ k) (hg : Gl X x) (hm : X.mg x = some (.ref f)) (hk : PySem.W.keepIn (X.kw ea) (.ref f) = true) (hb : Binds (X.kw ea) fd ps []) (ha : PA X (a :: es) (tA (X.kw ea) W L))
    (hdb : (x == ("__debug__" : Str)) = false := by decide) (he : starEach (a :: es) X.env = (false, eval a X.env) :: starEach es X.env := by rfl) (hpl : (backTo pos (starEach es X.env)).any (·.1) = false := by rfl) : PE X (.Call (.Name x p) (a :: es) [] pos) (tE (X.kw ea) W (xcall ps.length Fn L)) :=
  PE_weak (pe_callSD (dvs := []) (ds := []) (E := fun σ cls d H => wx X.mg W cls d σ H) G (z.rm.mono hj) hg hm hk hb .nil (fun σ => passAt z.tk σ) ha hdb he hpl) fun σ H Q ⟨H0, Hf0, Hf, e, S, q⟩ => ⟨H0, Hf0, Hf, e, S, q.bindA.mono fun vs H1 ⟨Hf1, ds, g, r, q1⟩ => by
    rw [List.append_nil]
    by_cases hn : ds.length = ps.length
    · rw [if_pos hn] at q1
      refine ⟨Hf1, ds, g.fh, r, hn, ?_⟩
      revert q1
      cases Fn ds with
      | ok d => exact fun q1 => q1
      | ex c => exact fun q1 cv Hf' H' hc g' => ⟨rfl, c, hc, q1 Hf' H' g'⟩
      | bad => exact fun q1 => q1
    · rw [if_neg hn] at q1; exact q1.elim⟩
theorem xCall0 (z : Cz X k W) (G : FnOk X.prog X.w (X.kw ea) X.mg X.base (L2.CX X.prog X.w) j f fd ps (spD (X.kw ea) X.mg ps.length Fn)) (hj : j ≤ k) (hg : Gl X x) (hm : X.mg x = some (.ref f)) (hk : PySem.W.keepIn (X.kw ea) (.ref f) = true) (hb : Binds (X.kw ea) fd ps [])
    (hdb : (x == ("__debug__" : Str)) = false := by decide) : PE X (.Call (.Name x p) [] [] pos) (tE (X.kw ea) W (xcall ps.length Fn lnil)) := by
  refine ⟨fun pins s σ H Q I h => ?_⟩
  refine wpAny_Call_Name_kw (ld_glob I hg hm ?_ hdb)
  obtain ⟨H0, Hf0, Hf, e, S, q⟩ := h
  have q : Po (ERp (X.kw ea)) W Q σ Hf H (if ([] : List D).length = ps.length then Fn [] else .bad) := q
  by_cases hn : ([] : List D).length = ps.length
  · rw [if_pos hn] at q
    refine PySem.W.callWith_K0 I.kIn hk (run_fnSD (E := fun σ cls d H => wx X.mg W cls d σ H) (dvs := []) (ds := []) (us := []) (vs := []) G (z.rm.mono hj) hb .nil (passAt z.tk σ) I .nil ⟨Hf, [], S.gr.fh, .nil, hn, ?_⟩)
    revert q
    cases Fn [] with
    | ok d => exact fun q1 => q1
    | ex c => exact fun q1 cv Hf' H' hc g' => ⟨rfl, c, hc, q1 Hf' H' g'⟩
    | bad => exact fun q1 => q1
  · rw [if_neg hn] at q; exact q.elim
/-- flat data refers to nothing -/
def flatD : D → Bool
  | .none => true
  | .bool _ => true
  | .int _ => true
  | .str _ => true
  | _ => false
theorem Rp.flat {K : Kw} {H H' : Hp} {v : V} {d : D} (r : Rp K H v d) (h : flatD d = true) : Rp K H' v d := by
  cases r with
  | non => exact .non
  | bl b => exact .bl b
  | int i => exact .int i
  | str x => exact .str x
  | _ => cases h
def xcallV (n : Nat) (Fn : List D → R D) (L : En → R (List D)) : En → R D := fun e => (L e).bind fun ds => if ds.length = n then match Fn ds with
  | .ok d => if flatD d then .ok d else .bad
  | .ex c => .ex c
  | .bad => .bad else .bad
theorem VAll.full {K : Kw} {Hf H : Hp} (f : Same Hf H) : ∀ {vs : List V} {ds : List D}, VAll K Hf H vs ds → RpAll K H vs ds
  | _, _, .nil => .nil
  | _, _, .cons h t => .cons (h.full f) (VAll.full f t)
/-- f(e, ..) with lists of one's own lent; what comes is flat -/
theorem xCallV (z : Cz X k W) (G : FnOk X.prog X.w (X.kw ea) X.mg X.base (L2.CX X.prog X.w) j f fd ps (spD (X.kw ea) X.mg ps.length Fn)) (hj : j ≤ k) (hg : Gl X x) (hm : X.mg x = some (.ref f)) (hk : PySem.W.keepIn (X.kw ea) (.ref f) = true) (hb : Binds (X.kw ea) fd ps []) (ha : PA X (a :: es) (tAV (X.kw ea) W L))
    (hdb : (x == ("__debug__" : Str)) = false := by decide) (he : starEach (a :: es) X.env = (false, eval a X.env) :: starEach es X.env := by rfl) (hpl : (backTo pos (starEach es X.env)).any (·.1) = false := by rfl) : PE X (.Call (.Name x p) (a :: es) [] pos) (tE (X.kw ea) W (xcallV ps.length Fn L)) :=
  PE_weak (pe_callSD (dvs := []) (ds := []) (E := fun σ cls d H => wx X.mg W cls d σ H) G (z.rm.mono hj) hg hm hk hb .nil (fun σ => passAt z.tk σ) ha hdb he hpl) fun σ H Q ⟨H0, Hf0, Hf, e, S, q⟩ => ⟨H0, Hf0, Hf, e, S, q.bindA.mono fun vs H1 ⟨Hf1, ds, g, r, q1⟩ => by
    rw [List.append_nil]
    by_cases hn : ds.length = ps.length
    · rw [if_pos hn] at q1
      have r1 := r.full g.fh
      refine ⟨H1, ds, Same.refl _, r1, hn, ?_⟩
      have lift : ∀ {Hf' H' : Hp}, Grow H1 H1 Hf' H' → Grow Hf1 H1 Hf1 H' := fun gg => ⟨gg.hh, Same.refl _, g.fh.trans gg.hh, fun _ _ _ _ n => n⟩
      revert q1
      cases Fn ds with
      | ok d =>
        show Po (ERp (X.kw ea)) W Q σ Hf1 H1 (if flatD d then .ok d else .bad) → _
        intro q1 v Hf' H' g' rv
        by_cases hf : flatD d = true
        · rw [if_pos hf] at q1
          exact q1 v Hf1 H' (lift g') (rv.flat hf)
        · rw [if_neg hf] at q1; exact q1.elim
      | ex c => exact fun q1 cv Hf' H' hc g' => ⟨rfl, c, hc, q1 Hf1 H' (lift g')⟩
      | bad => exact fun q1 => q1
    · rw [if_neg hn] at q1; exact q1.elim⟩
end
end Pu
/-! PuK: sorted -/
namespace Pu
open PySem L2
def leS : D → D → Bool := PySem.W.dataLe false id
def isIntD : D → Bool
  | .int _ => true
  | _ => false
def isTupD : D → Bool
  | .tuple (x :: r) => (x :: r).all isIntD
  | _ => false
def sortable (ds : List D) : Bool := ds.all isIntD || ds.all isTupD
def sortD (ds : List D) : Option (List D) := if sortable ds && decide (ds.length ≤ many) then some (ds.mergeSort leS) else none
theorem alikeAll_ints : ∀ (xs ys : List D), xs.all isIntD = true → ys.all isIntD = true → PySem.W.alikeAll xs ys = true
  | [], _, _, _ => by unfold PySem.W.alikeAll; rfl
  | x :: xs, [], _, _ => by unfold PySem.W.alikeAll; rfl
  | x :: xs, y :: ys, h1, h2 => by
    rw [List.all_cons, Bool.and_eq_true] at h1 h2
    unfold PySem.W.alikeAll
    rw [alikeAll_ints xs ys h1.2 h2.2, Bool.and_true]
    cases x with
    | int i => cases y with
      | int j => unfold PySem.W.alike; rfl
      | _ => cases h2.1
    | _ => cases h1.1
theorem sortable_alike {ds : List D} (h : sortable ds = true) : PySem.W.AllAlike ds ∧ PySem.W.Sortable ds ∧ (∀ d ∈ ds, d.depth ≤ 1) ∧ ∀ d ∈ ds, d.canLay0 = true := by
  have layI : ∀ xs : List D, xs.all isIntD = true → PyData.canLayAll0 xs = true ∧ PyData.depthAll xs = 0 := by
    intro xs
    induction xs with
    | nil => intro _; exact ⟨by unfold PyData.canLayAll0; rfl, by unfold PyData.depthAll; rfl⟩
    | cons x xs ih =>
      intro h
      rw [List.all_cons, Bool.and_eq_true] at h
      cases x with
      | int i =>
        obtain ⟨a, b⟩ := ih h.2
        exact ⟨by simp [PyData.canLayAll0, PyData.canLay0, a], by simp [PyData.depthAll, PyData.depth, b]⟩
      | _ => cases h.1
  unfold sortable at h
  rw [Bool.or_eq_true] at h
  rcases h with h | h
  · rw [List.all_eq_true] at h
    refine ⟨fun d hd d' hd' => ?_, .inr fun d hd => ?_, fun d hd => ?_, fun d hd => ?_⟩
    · have a := h d hd
      have b := h d' hd'
      cases d with
      | int i => cases d' with
        | int j => unfold PySem.W.alike; rfl
        | _ => cases b
      | _ => cases a
    · have a := h d hd
      cases d with
      | int i => exact ⟨fun z => (by cases z), fun xs z => (by cases z)⟩
      | _ => cases a
    · have a := h d hd
      cases d with
      | int i => simp [PyData.depth]
      | _ => cases a
    · have a := h d hd
      cases d with
      | int i => simp [PyData.canLay0]
      | _ => cases a
  · rw [List.all_eq_true] at h
    have sh : ∀ d ∈ ds, ∃ x r, d = .tuple (x :: r) ∧ (x :: r).all isIntD = true := fun d hd => by
      have a := h d hd
      cases d with
      | tuple xs => cases xs with
        | nil => cases a
        | cons x r => exact ⟨x, r, rfl, a⟩
      | _ => cases a
    refine ⟨fun d hd d' hd' => ?_, .inl fun d hd => ?_, fun d hd => ?_, fun d hd => ?_⟩
    · obtain ⟨x, r, rfl, a⟩ := sh d hd
      obtain ⟨y, s, rfl, b⟩ := sh d' hd'
      unfold PySem.W.alike
      exact alikeAll_ints _ _ a b
    · obtain ⟨x, r, rfl, a⟩ := sh d hd
      exact ⟨x, r, rfl⟩
    · obtain ⟨x, r, rfl, a⟩ := sh d hd
      simp [PyData.depth, (layI _ a).2]
    · obtain ⟨x, r, rfl, a⟩ := sh d hd
      simp [PyData.canLay0, (layI _ a).1]
open PySem.W in
/-- values and what they stand for, paired -/
theorem each_of {K : Kw} {H : Hp} : ∀ {vs : List V} {us : List Value} {ds : List D}, Vals vs us → RpAll K H vs ds → EachIs (fun u (b : V × D) => RelV b.1 u) us (vs.zip ds)
  | _, _, _, .nil, .nil => .nil
  | _, _, _, .cons r t, .cons _ t' => .cons r (each_of t t')
open PySem.W in
theorem each_reads {X : Cx} {pins : List (Addr × Obj)} {σ : L2.St} {H : Hp} {s : Shared} (I : L2.Inv X pins σ H s) : ∀ {vs : List V} {us : List Value} {ds : List D}, Vals vs us → RpAll (X.kw ea) H vs ds → (∀ d ∈ ds, d.canLay0 = true) → EachIs (fun u (b : V × D) => ∃ as, Reads s.heap u b.2 as) us (vs.zip ds)
  | _, _, _, .nil, .nil, _ => .nil
  | _, _, _, .cons r t, .cons q t', h => .cons (Dp.reads I _ _ _ (q.dp (h _ List.mem_cons_self)) r) (each_reads I t t' fun d hd => h d (List.mem_cons_of_mem _ hd))
open PySem.W in
theorem of_each {K : Kw} {H : Hp} : ∀ {us : List Value} {bs : List (V × D)}, EachIs (fun u (b : V × D) => RelV b.1 u) us bs → (∀ b ∈ bs, Rp K H b.1 b.2) → Vals (bs.map (·.1)) us ∧ RpAll K H (bs.map (·.1)) (bs.map (·.2))
  | _, _, .nil, _ => ⟨.nil, .nil⟩
  | _, _, .cons r t, h => ⟨.cons r (of_each t fun b hb => h b (List.mem_cons_of_mem _ hb)).1, .cons (h _ List.mem_cons_self) (of_each t fun b hb => h b (List.mem_cons_of_mem _ hb)).2⟩
theorem zip_snd {K : Kw} {H : Hp} : ∀ {vs : List V} {ds : List D}, RpAll K H vs ds → (vs.zip ds).map (·.2) = ds
  | _, _, .nil => rfl
  | _, _, .cons _ t => by rw [List.zip_cons_cons, List.map_cons, zip_snd t]
theorem zip_rp {K : Kw} {H : Hp} : ∀ {vs : List V} {ds : List D}, RpAll K H vs ds → ∀ b ∈ vs.zip ds, Rp K H b.1 b.2
  | _, _, .nil, b, hb => by cases hb
  | _, _, .cons r t, b, hb => by
    rw [List.zip_cons_cons] at hb
    rcases List.mem_cons.mp hb with rfl | hb
    · exact r
    · exact zip_rp t b hb
section
variable {X : Cx}
open PySem.W PyProof.Rows in
/-- sorted(v): what collect gives of v is laid in a new list, and that is put in order -/
theorem sorted_by {P : Program} {w : World} {A : Around} {E : Value → Shared → Prop} {s : Shared} {v : Value} {Q : Value → Shared → Prop}
    (h : wpAny (model P w) A.in1 (collect v) (fun us s1 => us.length ≤ sizeLine ∧ ∃ κ : KeyKind, SortsAt P w A.in1.in1 { s1 with heap := sortingHeap (s1.heap.push (seqObj "list" us.toArray 0)) s1.heap.objs.size us } κ us ∧
      Q (.ref s1.heap.objs.size) { s1 with heap := sortedHeap (s1.heap.push (seqObj "list" us.toArray 0)) s1.heap.objs.size us (sortVals κ false us us).toArray }) E s) :
    wpAny (model P w) A (call (.builtin "sorted") [v]) Q E s := by
  apply Calls.call_function_entry kind_sorted plain_sorted entry_sorted (args_sorted1 v)
  show wpAny _ _ (checkCount "sorted" 1 1 _ >>= _) _ _ _
  apply wpAny_bind
  apply wpAny_pure
  apply wpAny_bind
  refine thn h fun us s1 ⟨hz, κ, srt, q⟩ => wpAny_bind (wpAny_newList ?_ hz)
  have at0 : (s1.heap.push (seqObj "list" us.toArray 0)).get? s1.heap.objs.size = some (seqObj "list" us.toArray 0) := Heap.get?_push_size _ rfl
  have isL : Shared.TypeIs { s1 with heap := s1.heap.push (seqObj "list" us.toArray 0) } (.ref s1.heap.objs.size) "list" := ⟨_, at0, rfl⟩
  have put := fun Z (y : Z (.done (.ret .none)) _) => list_sort_vals (s := { s1 with heap := s1.heap.push (seqObj "list" us.toArray 0) }) (P := Z) (E := E) at0 srt hz y
  exact wpAny_bind (wpAny_holding (wpAny_call_entry slot_list_sort isL entry_list_sort (put _ ⟨_, rfl, wpAny_pure ⟨_, rfl, q⟩⟩) (args_list_sort _)))
open PySem.W PyProof.Rows in
/-- sorted(..) of whatever collect gives -/
theorem sorted_src {pins : List (Addr × Obj)} {s : Shared} {σ : L2.St} {Hf H : Hp} {Q : VK} {k : Nat} {v : Value} {vs : List V} {ds : List D} (I : L2.Inv X pins σ H s) (hr : Room k X.A) (f : Same Hf H) (r : RpAll (X.kw ea) Hf vs ds) (hs : sortable ds = true) (hl : ds.length ≤ many)
    (hcol : ∀ (R : List Value → Shared → Prop) (E : Value → Shared → Prop), (∀ (h' : Heap) (tk : Nat) (acc : List Value), (∀ b o, s.heap.get? b = some o → h'.get? b = some o) → Vals vs acc → R acc { s with heap := h', toks := tk }) → wpAny (model X.prog X.w) X.A.in1 (collect v) R E s)
    (q : ∀ p xs Hf' H', Grow Hf H Hf' H' → H p = none → Hf' p = none → H' p = some (.lst xs) → RpAll (X.kw ea) Hf' xs (ds.mergeSort leS) → Q (.ref p) H') :
    wpAny (model X.prog X.w) X.A (call (.builtin "sorted") [v]) (EP X pins σ Q) X.xe s := by
  obtain ⟨hal, hso, hdp, hly⟩ := sortable_alike hs
  refine sorted_by (hcol _ _ fun g tk us kp rv => ?_)
  have I1 : L2.Inv X pins σ H { s with heap := g, toks := tk } := I.kept kp
  have hlen : us.length ≤ sizeLine := by rw [← rv.length, r.length]; exact many_line hl
  have snd : (vs.zip ds).map (fun b : V × D => b.2) = ds := zip_snd r
  have at0 : (g.push (seqObj "list" us.toArray 0)).get? g.objs.size = some (seqObj "list" us.toArray 0) := Heap.get?_push_size _ rfl
  have er : EachIs (fun u (b : V × D) => ∃ as, Reads (sortingHeap (g.push (seqObj "list" us.toArray 0)) g.objs.size us) u b.2 as) us (vs.zip ds) :=
    (each_reads I1 rv (r.mono f) hly).mono fun _ _ ⟨as, rr⟩ => ⟨as, PyProof.Rows.Reads.keeps (fun b o e => sortingHeap_old (Nat.ne_of_lt (Heap.lt_size e)) (Heap.get?_push_of_some _ e)) rr⟩
  have al : AllAlike ((vs.zip ds).map (fun b : V × D => b.2)) := by rw [snd]; exact hal
  have so : Sortable ((vs.zip ds).map (fun b : V × D => b.2)) := by rw [snd]; exact hso
  refine ⟨hlen, dataKind (sortingHeap (g.push (seqObj "list" us.toArray 0)) g.objs.size us) ((vs.zip ds).map (fun b : V × D => b.2)), SortsAt.data (s := { s with heap := sortingHeap (g.push (seqObj "list" us.toArray 0)) g.objs.size us, toks := tk }) (each_map (R := fun v d => ∃ as, Reads (sortingHeap (g.push (seqObj "list" us.toArray 0)) g.objs.size us) v d as) (fun b : V × D => b.2) er) al so (fun d hd => ?_), ?_⟩
  · rw [snd] at hd
    have deep := hdp d hd
    have un := hr.un
    show X.A.units + 1 + 1 + d.depth < cLine
    omega
  · have eo := sortVals_data false (each_of (K := (X.kw ea)) (H := Hf) rv r) er al
    have perm : ((vs.zip ds).mergeSort (dataLe false (fun b : V × D => b.2))).Perm (vs.zip ds) := List.mergeSort_perm _ _
    obtain ⟨ov, orp⟩ := of_each (K := (X.kw ea)) (H := Hf) eo fun b hb => zip_rp r b (perm.mem_iff.mp hb)
    have em : ((vs.zip ds).mergeSort (dataLe false (fun b : V × D => b.2))).map (fun b : V × D => b.2) = ds.mergeSort leS := by
      rw [List.map_mergeSort (r := dataLe false (fun b : V × D => b.2)) (s := leS) (f := fun b : V × D => b.2) (l := vs.zip ds) (fun a _ b _ => rfl), snd]
    rw [em] at orp
    obtain ⟨n, atN⟩ := sortedHeap_at (vs := us) (out := (sortVals (dataKind (sortingHeap (g.push (seqObj "list" us.toArray 0)) g.objs.size us) ((vs.zip ds).map (fun b : V × D => b.2))) false us us).toArray) at0
    have zl : (((vs.zip ds).mergeSort (dataLe false (fun b : V × D => b.2))).map (fun b : V × D => b.1)).length ≤ sizeLine := by
      rw [orp.length, List.length_mergeSort]
      exact many_line hl
    have free : H g.objs.size = none := I1.hok.fresh (Nat.le_refl _)
    have kept : ∀ b o, g.get? b = some o → (sortedHeap (g.push (seqObj "list" us.toArray 0)) g.objs.size us (sortVals (dataKind (sortingHeap (g.push (seqObj "list" us.toArray 0)) g.objs.size us) ((vs.zip ds).map (fun b : V × D => b.2))) false us us).toArray).get? b = some o := fun b o e =>
      (sortedHeap_old (Nat.ne_of_lt (Heap.lt_size e)) (size_push' .. ▸ Nat.lt_succ_of_lt (Heap.lt_size e))).trans (Heap.get?_push_of_some _ e)
    exact ⟨.ref g.objs.size, _, I1.laid (t' := tk) (o := .lst (((vs.zip ds).mergeSort (dataLe false (fun b : V × D => b.2))).map (fun b : V × D => b.1))) kept (Nat.le_refl _) ⟨zl, _, n, ov, atN⟩, rfl, q _ _ Hf _ (Grow.lay f free) free (f.free free) upd_same orp⟩
end
end Pu
/-! PuL0: set(..) of a list -/
namespace Pu
open PySem PySem.Spec PyProof.Rows
/-- a built-in class is called: what its new makes, its init fills -/
theorem call_class {P : Program} {w : World} {A : Around} {E : Value → Shared → Prop} {s : Shared} {T newId initId : String} {args : List Value} {Q Q1 : Value → Shared → Prop} (ft : TypeCalled T newId initId) (ok : checkTypeCall T ⟨args, []⟩ = pure ())
    (hn : ∀ A' : Around, codeAny (model P w) A' (.call (.builtin newId) ⟨.type T :: args, []⟩) (wants Q1 E) s)
    (hi : ∀ (A' : Around) (x : Value) (s1 : Shared), A'.handled = A.handled → A'.units ≤ A.units + 1 → Q1 x s1 → s1.TypeIs x T ∧ codeAny (model P w) A' (.call (.builtin initId) ⟨x :: args, []⟩) (wants (fun r s2 => r = .none ∧ Q x s2) E) s1) :
    wpAny (model P w) A (call (.type T) args) Q E s := by
  have f1 := ft.made
  have f2 := ft.sub
  have f3 := ft.notType
  have f4 := ft.canCreate
  have f5 := ft.init.lookup
  have f6 := ft.init.bind
  obtain ⟨c, tl, f0⟩ := ft.mro
  have quiet : (Code.builtin "type.__call__" ⟨Value.type T :: args, []⟩).quiet = true := Code.quiet_builtin _ (by decide +kernel)
  apply wpAny_call
  apply codeAny_of_tree
  show wpAny _ _ (callAny (.type T) _) _ _ _
  refine wpAny_pure ⟨quiet, ?_⟩
  apply codeAny_builtin F.entry_type_call
  rw [Around.under_plain (weight_type_call_type T args []) rfl]
  repeat (any_goals (first | assumption | wp_step))
  refine codeAny_mono (hn _) fun r s1 hr => ?_
  match r, hr with
  | .error e, hr => exact hr
  | .ok (.ret x), hr =>
    obtain ⟨ty, run⟩ := hi A.in1 x s1 (by simp) (Nat.le_refl _) hr
    have f6x := f6 x
    repeat (any_goals (first | assumption | wp_step))
    refine codeAny_mono run fun r2 s2 h2 => ?_
    match r2, h2 with
    | .error e, h2 => exact h2
    | .ok (.ret y), h2 =>
      obtain ⟨y0, q⟩ := h2
      subst y0
      repeat (any_goals (first | exact q | wp_step))
/-- a new set; a new iterator of the list at l -/
abbrev set0 (w : World) : Obj := { cls := .type "set", dict := none, data := .set #[] 0 (.fresh 0 0 (!w.params.followText "set-order")) }
abbrev lit0 (l : Addr) : Obj := { cls := .type "list_iterator", data := .fields #[.ref l, .int 0 0] }
abbrev setOn (w : World) (h : Heap) (l : Addr) : Heap := (h.push (set0 w)).push (lit0 l)
/-- set(l), l a list: the set's loop over a new iterator -/
theorem setOf_list {P : Program} {w : World} {A : Around} {E : Value → Shared → Prop} {s : Shared} {l : Addr} {us : Array Value} {Q : Value → Shared → Prop} (hl : s.heap.IsList l us)
    (loop : ∀ A' : Around, A'.handled = A.handled → A'.units ≤ A.units + 3 → codeAny (model P w) A' (.builtin "set.update.loop" ⟨[.ref s.heap.objs.size, .ref (s.heap.objs.size + 1)], []⟩) (fun r s2 => r = .ok (.ret .none) ∧ Q (.ref s.heap.objs.size) s2) { s with heap := setOn w s.heap l }) :
    wpAny (model P w) A (call (.type "set") [.ref l]) Q E s := by
  refine call_class (Q1 := fun x s1 => x = .ref s.heap.objs.size ∧ s1 = { s with heap := s.heap.push (set0 w) }) F.called_set (F.typeCall_set_1 _) (fun A' => L2.code_set_led1 _ ⟨rfl, rfl⟩) fun A' x s1 hA' uA' ⟨ex, e1⟩ => ?_
  subst ex e1
  have at0 : (s.heap.push (set0 w)).get? s.heap.objs.size = some (set0 w) := Heap.get?_push_size _ rfl
  have ty : Shared.TypeIs { s with heap := s.heap.push (set0 w) } (.ref s.heap.objs.size) "set" := ⟨_, at0, rfl⟩
  have hl1 : (s.heap.push (set0 w)).IsList l us := hl.push _
  refine ⟨ty, codeAny_call_builtin F.called_set.init.plain F.entry_set_init (check_set_init_1 ty ?_)⟩
  obtain ⟨⟨cl, dd, da, sl⟩, gl, ec, n, ed⟩ := id hl1
  obtain rfl : cl = .type "list" := ec
  obtain rfl : da = .seq us n := ed
  have n1 := F.sub_list_set
  have n2 := F.sub_list_frozenset
  have n3 : (Value.type "list" == Value.type "dict") = false := by decide
  unfold Builtin.«set.__init__» noKeywords Builtin.Frozenset.updateFrom
  generalize eP : pyIter = pI
  wp_walk
  subst eP
  apply wpAny_pyIter_list hl1
  apply wpAny_bind
  apply wpAny_runValue
  have sz : (s.heap.push (set0 w)).objs.size = s.heap.objs.size + 1 := Heap.size_push ..
  rw [sz]
  refine codeAny_mono (loop _ (by simp [hA']) (by have := uA'; show A'.units + 1 ≤ A.units + 3; omega)) fun r s2 ⟨er, q⟩ => ?_
  subst er
  exact wpAny_pure (wpAny_pure ⟨rfl, q⟩)
/-- set(l), l a list of ints -/
theorem set_ints {P : Program} {w : World} {A : Around} {E : Value → Shared → Prop} {s : Shared} {l : Addr} {us : Array Value} {ns : List Int} {Q : Value → Shared → Prop} (hh : A.handled = none) (hl : s.heap.IsList l us) (hi : IntsAre us.toList ns) (hb : ns.length + 1 < scanBound)
    (h : ∀ (h' : Heap) (tk c : Nat), L2.SetR w h' s.heap.objs.size (fun j => decide (j ∈ ns)) c → c ≤ ns.length → (∀ b o, s.heap.get? b = some o → h'.get? b = some o) → Q (.ref s.heap.objs.size) { s with heap := h', toks := tk }) :
    wpAny (model P w) A (call (.type "set") [.ref l]) Q E s := by
  have len : us.size = ns.length := (Array.length_toList (xs := us)).symm.trans hi.length
  have ll : l < s.heap.objs.size := let ⟨_, g, _⟩ := hl; Heap.lt_size g
  have sz : (s.heap.push (set0 w)).objs.size = s.heap.objs.size + 1 := Heap.size_push ..
  have ne : l ≠ s.heap.objs.size + 1 := Nat.ne_of_lt (Nat.lt_succ_of_lt ll)
  have at0 : (setOn w s.heap l).get? s.heap.objs.size = some (set0 w) := Heap.get?_push_of_some _ (Heap.get?_push_size _ rfl)
  have at1 : (setOn w s.heap l).get? (s.heap.objs.size + 1) = some (lit0 l) := sz ▸ Heap.get?_push_size _ rfl
  have kp : ∀ b o, s.heap.get? b = some o → (setOn w s.heap l).get? b = some o := fun b o g => Heap.get?_push_of_some _ (Heap.get?_push_of_some _ g)
  have item : ∀ (i : Nat) (v : Value), us[i]? = some v → ∃ k t, ns[i]? = some k ∧ v = .int k t := fun i v g => by
    have gi : us.toList[i]? = some v := by rw [Array.getElem?_toList]; exact g
    obtain ⟨t, e⟩ := IntsAre.int_at hi i v gi
    have lt : i < ns.length := by rw [← len]; exact (Array.getElem?_eq_some_iff.mp g).1
    exact ⟨ns[i], t, List.getElem?_eq_getElem lt, by rw [e, List.getD_eq_getElem?_getD, List.getElem?_eq_getElem lt]; rfl⟩
  refine setOf_list hl fun A' hA _ => ?_
  have W := (Walks.list (prog := P) (w := w) (A := A'.in1) (by simp [hA, hh]) (s.heap.objs.size + 1) l ne us).toS
  have own : s.heap.objs.size ∉ [s.heap.objs.size + 1, l] := fun m => (List.mem_cons.mp m).elim (fun e => Nat.succ_ne_self _ e.symm) fun m => Nat.ne_of_gt ll (List.mem_singleton.mp m)
  refine L2.set_update_ints W s.heap.objs.size own ns len hb item us.size 0 _ rfl (Nat.zero_le _) ⟨⟨_, at1, rfl, rfl⟩, hl.at fun o g => kp l o g⟩ ⟨0, Nat.le_refl 0, L2.setR_new_at at0⟩ fun s2 c mv hc R => ⟨rfl, ?_⟩
  have more := h s2.heap s2.toks c R (len ▸ hc) fun b o g => mv.heap b o (fun m => by
    have lt := Heap.lt_size g
    rcases List.mem_cons.mp m with e | m
    · exact Nat.ne_of_lt lt e
    · exact Nat.ne_of_lt (Nat.lt_succ_of_lt lt) (List.mem_singleton.mp m)) (kp b o g)
  have es : s2 = { s with heap := s2.heap, toks := s2.toks } := by
    cases s2
    have e1 := mv.gens
    have e2 := mv.drawn
    have e3 := mv.os
    cases e1
    cases e2
    cases e3
    rfl
  rw [es]
  exact more
end Pu
/-! PuL: sorted of lists, tuples, dicts, sets of ints; isinstance; dicts; counts -/
namespace Pu
open PySem L2
def kvKeys (kvs : List (D × D)) : List D := kvs.map (·.1)
def sortN : D → Option (List D)
  | .list ds => sortD ds
  | .tuple ds => sortD ds
  | .dict kvs => sortD (kvKeys kvs)
  | _ => none
theorem sortD_of {ds z : List D} (h : sortD ds = some z) : sortable ds = true ∧ ds.length ≤ many ∧ z = ds.mergeSort leS := by
  unfold sortD at h
  split at h
  · rename_i hh
    rw [Bool.and_eq_true] at hh
    cases h
    exact ⟨hh.1, of_decide_eq_true hh.2, rfl⟩
  · cases h
theorem sortable_no {kvs : List (D × D)} (h : sortable (kvKeys kvs) = true) : ∀ z l, kvs ≠ (.none, z) :: l := fun z l e => by
  subst e
  exact absurd h (by simp [kvKeys, sortable, isIntD, isTupD])
/-- the keys of a dict -/
theorem RpDct.keys {K : Kw} {H : Hp} : ∀ {xs : List (NestedKey × Addr × Value)} {kvs : List (D × D)}, RpDct K H xs kvs → RpAll K H ((xs.map fun x => x.2.1).map V.ref) (kvKeys kvs)
  | _, _, .nil => .nil
  | _, _, .cons _ _ h _ _ t => .cons h (RpDct.keys t)
theorem RpDct.length {K : Kw} {H : Hp} : ∀ {xs : List (NestedKey × Addr × Value)} {kvs : List (D × D)}, RpDct K H xs kvs → xs.length = kvs.length
  | _, _, .nil => rfl
  | _, _, .cons _ _ _ _ _ t => by rw [List.length_cons, List.length_cons, RpDct.length t]
/-- the keys that a dict's entries hold -/
theorem keys_of {w : World} {es : Array DictEntry} {ks : List (NestedKey × Addr × Value)} {acc : Array Value} (he : es.toList = ks.map (entW w)) (hl : acc.size = es.size) (hk : ∀ (j : Nat) (v : Value), acc[j]? = some v → ∃ en, es[j]? = some en ∧ v = en.key) : acc.toList = (ks.map fun x => x.2.1).map Value.ref := by
  have n0 : es.size = ks.length := by rw [← Array.length_toList, he, List.length_map]
  refine List.ext_getElem (by simp [hl, n0]) fun j h1 h2 => ?_
  have h1' : j < acc.size := h1
  have h3 : j < ks.length := by simpa using h2
  obtain ⟨en, g, e⟩ := hk j acc[j] (Array.getElem?_eq_getElem h1')
  rw [← Array.getElem?_toList, he, List.getElem?_map, List.getElem?_eq_getElem h3] at g
  obtain rfl : entW w ks[j] = en := Option.some.inj g
  rw [Array.getElem_toList, e, List.getElem_map, List.getElem_map]
  rfl
section
variable {X : Cx} {W : WE} {a b c : Expr} {F G : En → R D} {pos : Pos}
open PyProof.Rows in
theorem call_sortedB {k : Nat} (hc : X.calm = true) (hr : Room k X.A) : CallR X (.builtin "sorted") (rC1N (X.kw ea) (VRp (X.kw ea)) sortN) := by
  intro pins s σ H xs us Q I r ⟨x, Hf, dx, z, ex, f, hx, ez, q⟩
  subst ex
  obtain ⟨u, rfl, rx⟩ := r.one
  cases dx with
  | list ds =>
    obtain ⟨hs, hl, rfl⟩ := sortD_of ez
    obtain ⟨a, ys, rfl, ha, ra⟩ := hx.list f
    cases rx
    obtain ⟨its, rv, p, hz⟩ := I.list (SqL.of ha)
    exact sorted_src I hr f ra hs hl (fun R E h => let ⟨o, n, g, ec, _, ed⟩ := p; wpAny_collect_seq a (.inl rfl) g ec ed (fun g' kp => h g' s.toks its kp rv) (by rw [List.size_toArray, ← rv.length]; exact hz)) q
  | tuple ds =>
    obtain ⟨hs, hl, rfl⟩ := sortD_of ez
    obtain ⟨a, ys, rfl, ha, ra⟩ := hx.tuple f
    cases rx
    obtain ⟨its, rv, p, hz⟩ := I.tuple ha.sq
    exact sorted_src I hr f ra hs hl (fun R E h => let ⟨o, g, ec, n, ed⟩ := p; wpAny_collect_seq a (.inr rfl) g ec ed (fun g' kp => h g' s.toks its kp rv) (by rw [List.size_toArray, ← rv.length]; exact hz)) q
  | dict kvs =>
    obtain ⟨hs, hl, rfl⟩ := sortD_of ez
    obtain ⟨a, ks, rfl, ha, rk⟩ := hx.dict f (sortable_no hs)
    cases rx
    have ha' := ha
    obtain ⟨⟨z, hsm, o, es, ep, ho, hx', hdt, he, hn⟩, _⟩ := (show ObjOk X.prog X.w H s.heap a (DicO X.w a ks) from I.hok a _ ha')
    have l1 : es.size = ks.length := by rw [← Array.length_toList, he, List.length_map]
    refine sorted_src I hr f rk.keys hs hl (fun R E h => PySem.W.kdu_collect (kdl_raw hsm hx' hdt) (I.ok.hd hc) ho (by omega) fun h' tk acc kp it => h h' tk acc.toList kp ?_) q
    rw [keys_of he it.1 it.2]
    exact vals_refs _
  | _ => cases ez
end
end Pu
/-! PuM: sorted(set(ints)); isinstance; dicts of True; counts -/
namespace L2
open PySem PySem.Spec PyProof.Rows
def rSetI (K : PySem.W.Frag) (w : World) : List V → Hp → VK → Prop := fun xs H Q => ∃ (l : Addr) (ns : List Int), xs = [V.ref l] ∧ SqL K H l (ns.map V.int) ∧ ns.length < 60 ∧ ∀ (p : Addr) (c : Nat), H p = none → c ≤ ns.length → Q (.ref p) (upd H p (SetO w p (fun j => decide (j ∈ ns)) c))
theorem cr_setI {X : Cx} (hc : X.calm = true) : CallR X (.type "set") (rSetI X.K X.w) := fun pins s σ H _ _ Q I rs ⟨l, ns, ex, hl, h60, q⟩ => by
  subst ex
  obtain ⟨_, rfl, rfl⟩ := vals1 rs
  obtain ⟨us, ru, pl, _⟩ := I.list hl
  have hin : IntsAre us.toArray.toList ns := by simpa using RZ.intsAre_vals ru
  have small : ns.length + 1 < scanBound := by unfold scanBound; omega
  exact Pu.set_ints (I.ok.hd hc) pl.isList hin small fun g tk c R hc' kp => ⟨.ref s.heap.objs.size, _, I.laid (t' := tk) kp (Nat.le_refl _) (setO_new R), rfl, q _ c (I.hok.fresh (Nat.le_refl _)) hc'⟩
end L2
namespace Pu
open PySem L2
/-! ### sorted(set(..)) of ints -/
def dedup : List Int → List Int
  | [] => []
  | x :: r => if x ∈ r then dedup r else x :: dedup r
theorem dedup_mem : ∀ (ns : List Int) (k : Int), k ∈ dedup ns ↔ k ∈ ns
  | [], k => Iff.rfl
  | x :: r, k => by
    unfold dedup
    split
    · rename_i h
      rw [dedup_mem r k, List.mem_cons]
      exact ⟨fun z => .inr z, fun z => z.elim (fun e => by rw [e]; exact h) fun z => z⟩
    · rw [List.mem_cons, List.mem_cons, dedup_mem r k]
theorem dedup_nodup : ∀ ns : List Int, (dedup ns).Nodup
  | [] => List.Pairwise.nil
  | x :: r => by
    unfold dedup
    split
    · exact dedup_nodup r
    · rename_i h
      exact List.nodup_cons.mpr ⟨fun z => h ((dedup_mem r x).mp z), dedup_nodup r⟩
def ssort (ns : List Int) : List Int := (dedup ns).mergeSort fun a b => decide (a ≤ b)
theorem ssort_mem (ns : List Int) (k : Int) : k ∈ ssort ns ↔ k ∈ ns := by
  unfold ssort
  rw [List.mem_mergeSort, dedup_mem]
theorem ssort_lt (ns : List Int) : (ssort ns).Pairwise (· < ·) := by
  unfold ssort
  have h1 : ((dedup ns).mergeSort fun a b => decide (a ≤ b)).Pairwise fun a b => decide (a ≤ b) = true := List.pairwise_mergeSort (fun a b c => by simp only [decide_eq_true_eq]; omega) (fun a b => by simp only [Bool.or_eq_true, decide_eq_true_eq]; omega) _
  have h2 : ((dedup ns).mergeSort fun a b => decide (a ≤ b)).Nodup := (List.mergeSort_perm _ _).nodup_iff.mpr (dedup_nodup ns)
  have h3 : ((dedup ns).mergeSort fun a b => decide (a ≤ b)).Pairwise fun a b => a ≠ b := h2
  refine (h1.and h3).imp fun {a b} h => ?_
  have := of_decide_eq_true h.1
  have := h.2
  omega
theorem lt_unique : ∀ (a b : List Int), a.Pairwise (· < ·) → b.Pairwise (· < ·) → (∀ k, k ∈ a ↔ k ∈ b) → a = b
  | [], [], _, _, _ => rfl
  | [], y :: b, _, _, h => by have := (h y).mpr List.mem_cons_self; cases this
  | x :: a, [], _, _, h => by have := (h x).mp List.mem_cons_self; cases this
  | x :: a, y :: b, h1, h2, h => by
    rw [List.pairwise_cons] at h1 h2
    have e : x = y := by
      have hx := (h x).mp List.mem_cons_self
      have hy := (h y).mpr List.mem_cons_self
      rcases List.mem_cons.mp hx with e | hx
      · exact e
      · rcases List.mem_cons.mp hy with e | hy
        · exact e.symm
        · have a1 := h2.1 x hx
          have a2 := h1.1 y hy
          omega
    subst e
    congr 1
    refine lt_unique a b h1.2 h2.2 fun k => ⟨fun hk => ?_, fun hk => ?_⟩
    · rcases List.mem_cons.mp ((h k).mp (List.mem_cons_of_mem _ hk)) with e | hk'
      · have := h1.1 k hk; omega
      · exact hk'
    · rcases List.mem_cons.mp ((h k).mpr (List.mem_cons_of_mem _ hk)) with e | hk'
      · have := h2.1 k hk; omega
      · exact hk'
def sortSetN : D → Option (List D)
  | .list ds => (intsOf ds).bind fun ns => if ns.length < 60 then some ((ssort ns).map PyData.int) else none
  | _ => none
section
variable {X : Cx} {W : WE} {a b c : Expr} {F G : En → R D} {pos p p2 q : Pos}
theorem xSortSet (hc : X.calm = true) (hg : Gl X "sorted") (hm : X.mg "sorted" = none) (hv : bootBuiltins "sorted" = some (.builtin "sorted")) (hg2 : Gl X "set") (hm2 : X.mg "set" = none) (hv2 : bootBuiltins "set" = some (.type "set")) (ha : PE X a (tV (X.kw ea) W F))
    (he : starEach [a] X.env = [(false, eval a X.env)] := by rfl) (he2 : starEach [Expr.Call (.Name "set" p2) [a] [] q] X.env = [(false, eval (Expr.Call (.Name "set" p2) [a] [] q) X.env)] := by rfl) :
    PE X (.Call (.Name "sorted" p) [.Call (.Name "set" p2) [a] [] q] [] pos) (tN (X.kw ea) W (un1N sortSetN F)) :=
  PE_weak (pe_callB (cr_sortedSet hc) hg hm hv (pa_cons (pe_callTy (cr_setI hc) hg2 hm2 hv2 (pa_cons ha pa_nil he) (by decide) (by decide) he) pa_nil he2) (by decide) (by decide) he2) fun σ H Q ⟨H0, Hf0, Hf, e, S, pp⟩ => ⟨H0, Hf0, Hf, e, S, pp.bind.mono fun x H1 ⟨Hf1, d, g, r, p1⟩ => by
    obtain ⟨z, ez, qq⟩ := p1.of_opt
    cases d with
    | list ds =>
      obtain ⟨l, ys, rfl, hl, ra⟩ := r.list g.fh
      have ez' : ((intsOf ds).bind fun ns => if ns.length < 60 then some ((ssort ns).map PyData.int) else none) = some z := ez
      cases h1 : intsOf ds with
      | none => rw [h1] at ez'; cases ez'
      | some ns =>
        rw [h1] at ez'
        have ez2 : (if ns.length < 60 then some ((ssort ns).map PyData.int) else none) = some z := ez'
        by_cases hn : ns.length < 60
        · rw [if_pos hn] at ez2
          cases ez2
          rw [intsOf_eq h1] at ra
          rw [ra.ints] at hl
          refine ⟨l, ns, rfl, SqL.of hl, hn, fun s c hs hc' => ⟨s, _, c, rfl, upd_same, by omega, fun ms t hlt hmem _ ht => ?_⟩⟩
          have em : ms = ssort ns := lt_unique _ _ hlt (ssort_lt ns) fun k => by rw [hmem k, ssort_mem]; exact ⟨fun h => of_decide_eq_true h, fun h => decide_eq_true h⟩
          subst em
          have g2 := Grow.lay (o := SetO X.w s (fun j => decide (j ∈ ns)) c) g.fh hs
          have g3 := Grow.lay (o := HO.lst ((ssort ns).map V.int)) g2.fh ht
          exact qq t _ Hf1 _ (g2.trans g3) (g2.hh.free ht) (g.fh.free (g2.hh.free ht)) upd_same (RpAll.ofInts _)
        · rw [if_neg hn] at ez2; cases ez2
    | _ => cases ez⟩
/-! ### isinstance -/
def tyD : D → Option String
  | .none => some "NoneType"
  | .bool _ => some "bool"
  | .int _ => some "int"
  | .str _ => some "str"
  | .list _ => some "list"
  | .tuple _ => some "tuple"
  | .dict _ => none
theorem tyD_of {K : Kw} {Hf H : Hp} {v : V} {d : D} {T : String} (f : Same Hf H) (r : VRp K Hf H v d) (h : tyD d = some T) : TyX K H v (.type T) := by
  have r' := r.full f
  cases r' with
  | non => cases h; exact .base .non
  | bl b => cases h; exact .base (.bl b)
  | int i => cases h; exact .base (.int i)
  | str x => cases h; exact .base (.str x)
  | lst hl _ => cases h; exact .base (.lst hl)
  | tup hl _ => cases h; obtain ⟨o, hl, _⟩ := hl; exact .fTuple hl
  | dct _ _ => cases h
  | scr _ => cases h
  | tab _ => cases h
/-- isinstance(x, T), T a built-in type -/
def isiD (T : String) (d : D) : Option D := (tyD d).bind fun t => (kitB t T).map PyData.bool
theorem xIsi {T : String} {x : Str} {pt : Pos} (hg : Gl X "isinstance") (hm : X.mg "isinstance" = none) (hv : bootBuiltins "isinstance" = some (.builtin "isinstance")) (hgt : Gl X x) (hmt : X.mg x = none) (hvt : bootBuiltins x = some (.type T)) (ha : PE X a (tV (X.kw ea) W F))
    (hn : x ≠ "__name__" := by decide) (hd : (x == ("__debug__" : Str)) = false := by decide) (he2 : starEach [a, .Name x pt] X.env = (false, eval a X.env) :: starEach [.Name x pt] X.env := by rfl) (he3 : starEach [Expr.Name x pt] X.env = [(false, eval (Expr.Name x pt) X.env)] := by rfl) :
    PE X (.Call (.Name "isinstance" p) [a, .Name x pt] [] pos) (tE (X.kw ea) W (un1 (isiD T) F)) :=
  PE_weak (pe_callB call_isi hg hm hv (pa_cons ha (pa_cons (pe_bltn (v := .ty T) hgt hmt hvt rfl hn hd) pa_nil he3) he2) (by decide) (by decide) he2 (by rw [he3]; rfl)) fun σ H Q ⟨H0, Hf0, Hf, e, S, pp⟩ => ⟨H0, Hf0, Hf, e, S, pp.bind.mono fun v H1 ⟨Hf1, d, g, r, p1⟩ => by
    obtain ⟨z, ez, qq⟩ := p1.of_opt
    unfold isiD at ez
    cases h1 : tyD d with
    | none => rw [h1] at ez; cases ez
    | some t =>
      rw [h1] at ez
      have ez' : (kitB t T).map PyData.bool = some z := ez
      cases h2 : kitB t T with
      | none => rw [h2] at ez'; cases ez'
      | some b =>
        rw [h2] at ez'
        cases ez'
        exact ⟨v, .ty T, .type t, .type T, b, rfl, .ty T, tyD_of g.fh r h1, kit_ty h2, qq _ Hf1 H1 (Grow.refl g.fh) (.bl b)⟩⟩
/-- isinstance(x, (T, U)) -/
def isi2D (T U : String) (d : D) : Option D := (tyD d).bind fun t => (kitB t T).bind fun b => (kitB t U).map fun b' => PyData.bool (b || b')
theorem xIsi2 {T U : String} {x y : Str} {px py pt : Pos} {kk : Nat} (hg : Gl X "isinstance") (hm : X.mg "isinstance" = none) (hv : bootBuiltins "isinstance" = some (.builtin "isinstance")) (hgt : Gl X x) (hmt : X.mg x = none) (hvt : bootBuiltins x = some (.type T)) (hgu : Gl X y) (hmu : X.mg y = none) (hvu : bootBuiltins y = some (.type U)) (ha : PE X a (tV (X.kw ea) W F))
    (hn : x ≠ "__name__" := by decide) (hd : (x == ("__debug__" : Str)) = false := by decide) (hn' : y ≠ "__name__" := by decide) (hd' : (y == ("__debug__" : Str)) = false := by decide)
    (he2 : starEach [a, .Tuple [.Name x px, .Name y py] kk pt] X.env = (false, eval a X.env) :: starEach [.Tuple [.Name x px, .Name y py] kk pt] X.env := by rfl) (he3 : starEach [Expr.Tuple [.Name x px, .Name y py] kk pt] X.env = [(false, eval (Expr.Tuple [.Name x px, .Name y py] kk pt) X.env)] := by rfl)
    (he4 : starEach [Expr.Name x px, .Name y py] X.env = (false, eval (Expr.Name x px) X.env) :: starEach [.Name y py] X.env := by rfl) (he5 : starEach [Expr.Name y py] X.env = [(false, eval (Expr.Name y py) X.env)] := by rfl) :
    PE X (.Call (.Name "isinstance" p) [a, .Tuple [.Name x px, .Name y py] kk pt] [] pos) (tE (X.kw ea) W (un1 (isi2D T U) F)) :=
  PE_weak (pe_callB call_isiT hg hm hv (pa_cons ha (pa_cons (pe_tup (pa_cons (pe_bltn (v := .ty T) hgt hmt hvt rfl hn hd) (pa_cons (pe_bltn (v := .ty U) hgu hmu hvu rfl hn' hd') pa_nil he5) he4)) pa_nil he3) he2) (by decide) (by decide) he2 (by rw [he3]; rfl)) fun σ H Q ⟨H0, Hf0, Hf, e, S, pp⟩ => ⟨H0, Hf0, Hf, e, S, pp.bind.mono fun v H1 ⟨Hf1, d, g, r, p1⟩ => by
    obtain ⟨z, ez, qq⟩ := p1.of_opt
    unfold isi2D at ez
    cases h1 : tyD d with
    | none => rw [h1] at ez; cases ez
    | some t =>
      rw [h1] at ez
      have ez' : ((kitB t T).bind fun b => (kitB t U).map fun b' => PyData.bool (b || b')) = some z := ez
      cases h2 : kitB t T with
      | none => rw [h2] at ez'; cases ez'
      | some b =>
        rw [h2] at ez'
        have ez2 : ((kitB t U).map fun b' => PyData.bool (b || b')) = some z := ez'
        cases h3 : kitB t U with
        | none => rw [h3] at ez2; cases ez2
        | some b' =>
          rw [h3] at ez2
          cases ez2
          refine ⟨by show 2 ≤ sizeLine; decide, fun tp htp => ?_⟩
          have g2 := Grow.lay (o := HO.tup [.ty T, .ty U]) g.fh htp
          refine ⟨v, tp, [.ty T, .ty U], .type t, [.type T, .type U], b || b', rfl, upd_same, .cons (.ty T) (.cons (.ty U) .nil), tyD_of g2.fh (r.mono g2) h1, ?_, qq _ Hf1 _ g2 (.bl _)⟩
          refine kitAny_cons (kit_ty h2) (fun hb => ?_) (fun hb => by rw [hb]; rfl)
          rw [hb]
          exact kitAny_cons (kit_ty h3) (fun hb' => by rw [hb']; exact kitAny_nil) (fun hb' => by rw [hb']; rfl)⟩
end
end Pu
/-! PuN: counts; dicts with tuple keys; t[::-1] -/
namespace Pu
open PySem L2
/-! ### methods of one argument, the receiver's type known by its data -/
section
variable {X : Cx} {W : WE} {a b c o : Expr} {F G : En → R D} {pos p apos cpos : Pos} {name : Str}
/-- an object without a dict of its own -/
def Bare (s : Shared) (v : Value) : Prop := ∀ a, v = .ref a → ∃ o, s.heap.get? a = some o ∧ o.dict = none
theorem Bare.at {s : Shared} {a : Addr} {o : Obj} (g : s.heap.get? a = some o) (h : o.dict = none) : Bare s (.ref a) := fun b e => by
  obtain rfl : a = b := Value.ref.inj e
  exact ⟨o, g, h⟩
theorem ty_of {pins : List (Addr × Obj)} {s : Shared} {σ : L2.St} {Hf H : Hp} {x : V} {v : Value} {d : D} {T : String} (I : L2.Inv X pins σ H s) (r : RelV x v) (f : Same Hf H) (h : VRp (X.kw ea) Hf H x d) (ht : tyD d = some T) : s.TypeIs v T ∧ Bare s v := by
  cases h.full f with
  | non => cases ht; cases (show v = Value.none from r); exact ⟨rfl, fun _ e => nomatch e⟩
  | bl k => cases ht; cases (show v = Value.bool k from r); exact ⟨rfl, fun _ e => nomatch e⟩
  | int i => cases ht; obtain ⟨t, rfl⟩ := r; exact ⟨typeIs_int s i t, fun _ e => nomatch e⟩
  | str z => cases ht; obtain ⟨t, rfl⟩ := r; exact ⟨typeIs_str s z t, fun _ e => nomatch e⟩
  | lst hl _ =>
    cases ht
    cases r
    obtain ⟨_, _, ⟨o, n, g, c, hd, ed⟩, _⟩ := I.list (SqL.of hl)
    exact ⟨⟨o, g, c⟩, .at g hd⟩
  | tup hl _ =>
    cases ht
    cases r
    obtain ⟨ob, hl, hd⟩ := hl
    obtain ⟨e1, _, _, _, o2, e2, c2, _⟩ := (show ObjOk X.prog X.w H s.heap _ (.frz ob (.tup _)) from I.hok _ _ hl)
    exact ⟨⟨o2, e2, c2⟩, .at e1 hd⟩
  | dct _ _ => cases ht
  | scr _ => cases ht
  | tab _ => cases ht
/-- what the method m does with data -/
structure Mt1 (X : Cx) (name : Str) (f : D → D → Option D) (T id : String) : Prop where
  pa : PlainAttrs T
  slot : Slot T name id
  ty : typeOf (.builtin id) = pure (.type "method_descriptor")
  run : ∀ (ea : Addr) (pins : List (Addr × Obj)) (s : Shared) (σ : L2.St) (Hf H : Hp) (x y : V) (v u : Value) (dx dy z : D) (Q : VK), L2.Inv X pins σ H s → RelV x v → RelV y u → Same Hf H → VRp (X.kw ea) Hf H x dx → VRp (X.kw ea) Hf H y dy → tyD dx = some T → f dx dy = some z →
    (∀ v' Hf' H', Grow Hf H Hf' H' → Rp (X.kw ea) Hf' v' z → Q v' H') → wpAny (model X.prog X.w) X.A (call (.builtin id) [v, u]) (EP X pins σ Q) X.xe s
def xmt (ts : List String) (f : D → D → Option D) (F G : En → R D) : En → R D := fun e => (F e).bind fun x => match tyD x with
  | some T => if T ∈ ts then (G e).bind fun y => opt (f x y) else .bad
  | none => .bad
theorem xMt {ts : List String} {f : D → D → Option D} (hm : ∀ T ∈ ts, ∃ id, Mt1 X name f T id) (ho : PE X o (tV (X.kw ea) W F)) (ha : PE X a (tV (X.kw ea) W G))
    (hbase : attributeBase o name X.env (eval o X.env) = eval o X.env := by rfl)
    (hfew : ((backTo cpos (starEach [a] X.env)).all (fun x => !x.1) && (backToKw cpos (keywordEach [] X.env)).all (fun x => x.1.isSome) && decide ([a].length + ([] : List Keyword).length + (if ([] : List Keyword).isEmpty then 0 else 1) < 30)) = true := by rfl)
    (hline : (apos.endLine == cpos.line) = true := by rfl) (hs : starEach [a] X.env = [(false, eval a X.env)] := by rfl) :
    PE X (.Call (.Attribute o name apos) [a] [] cpos) (tE (X.kw ea) W (xmt ts f F G)) := by
  refine ⟨fun pins s σ H Q I ⟨H0, Hf0, Hf, e, S, q⟩ => ?_⟩
  refine wpAny_Call_method_late hbase hfew hline rfl (thn (ho.run pins s σ H _ I ⟨H0, Hf0, Hf, e, S, q.bind⟩) fun v s1 ⟨x, H1, I1, r1, Hf1, dx, g1, rx, q1⟩ => ?_)
  cases ht : tyD dx with
  | none => rw [ht] at q1; exact q1.elim
  | some T =>
    rw [ht] at q1
    have q1 : Po (ERp (X.kw ea)) W Q σ Hf1 H1 (if T ∈ ts then (G e).bind fun y => opt (f dx y) else .bad) := q1
    by_cases hT : T ∈ ts
    · rw [if_pos hT] at q1
      obtain ⟨id, M⟩ := hm T hT
      obtain ⟨h1, h2⟩ := ty_of I1 r1 g1.fh rx ht
      refine ⟨T, id, M.pa, M.slot, M.ty, h1, h2, ?_⟩
      have hA := (pa_cons ha (pa_nil (X := X)) hs).run cpos pins s1 σ H1 (fun vs H2 => ∃ y, vs = [y] ∧ ∃ Hf2 dy, Grow Hf1 H1 Hf2 H2 ∧ VRp (X.kw ea) Hf2 H2 y dy ∧ Po (ERp (X.kw ea)) W Q σ Hf2 H2 (opt (f dx dy))) I1 ⟨H0, Hf0, Hf1, e, S.grow g1, q1.bind.mono fun y H2 z => ⟨y, rfl, z⟩⟩
      rw [hs] at hA ⊢
      refine Calls.callWith_builtin rfl (Calls.evalArgs_plain ?_)
      refine thn hA fun us s2 ⟨vs, H2, I2, r2, y, ey, Hf2, dy, g2, ry, p2⟩ => ?_
      subst ey
      obtain ⟨u, rfl, ru⟩ := r2.one
      obtain ⟨z, ez, q3⟩ := p2.of_opt
      exact M.run ea pins s2 σ Hf2 H2 x y v u dx dy z Q I2 r1 ru g2.fh (rx.mono g2) ry ht ez q3
    · rw [if_neg hT] at q1; exact q1.elim
def countD : D → D → Option D
  | .list ds, y => if SeqAt.shaped y && SeqAt.shaped (.list ds) then some (.int (ds.countP fun z => PyData.eqv z y : Nat)) else none
  | .tuple ds, y => if SeqAt.shaped y && SeqAt.shaped (.tuple ds) then some (.int (ds.countP fun z => PyData.eqv z y : Nat)) else none
  | _, _ => none
theorem mt_countL {k : Nat} (hr : Room k X.A) : Mt1 X "count" countD "list" "list.count" where
  pa := PySem.F.plainAttrs_list
  slot := PySem.F.slot_list_count
  ty := PySem.F.type_list_count
  run := by
    intro ea pins s σ Hf H x y v u dx dy z Q I rx ry f hx hy ht ez q
    have hu := hr.un
    cases dx with
    | list ds =>
      obtain ⟨a, xs, rfl, ha, ra⟩ := hx.list f
      cases rx
      have ez' : (if SeqAt.shaped dy && SeqAt.shaped (.list ds) then some (PyData.int (ds.countP fun z => PyData.eqv z dy : Nat)) else none) = some z := ez
      split at ez'
      · rename_i hh
        cases ez'
        rw [Bool.and_eq_true] at hh
        obtain ⟨bs, r1⟩ := Dp.reads I dy y u ((hy.full f).dp (SeqAt.canLay_of_shaped hh.1)) ry
        have hxs : PyData.canLayAll0 ds = true := SeqAt.canLay_of_shaped hh.2
        obtain ⟨its, rv, ⟨⟨cls, dd, data, sls⟩, n, ho, hc, hdn, hdt⟩, hlen⟩ := I.list (SqL.of ha)
        simp only at hc hdt
        subst hc hdt
        obtain ⟨as, h4⟩ := Dp.readsAll I ds _ its ((ra.mono f).dp hxs) rv
        refine call_meets PySem.F.slot_list_count ⟨_, ho, rfl⟩ PySem.F.entry_list_count (PySem.F.args_list_count_2 _ _) (SeqAt.list_countAt a its.toArray n dd sls u _) ⟨ho, SeqAt.items_eqAt (vs := its.toArray) (show ReadsAll s.heap its.toArray.toList ds as from h4) r1 hxs (SeqAt.canLay_of_shaped hh.1) (PyProof.Rows.room_in_shaped hh.1 (by omega)), ?_⟩
        have ec : its.toArray.toList.countP (fun y => PyData.eqv (SeqAt.readOf s.heap y) dy) = ds.countP fun z => PyData.eqv z dy := by
          conv => rhs; rw [← SeqAt.readsAll_map ds its as hxs h4, List.countP_map]
          rfl
        rw [ec]
        exact ⟨.int _, H, I.tok _, ⟨_, rfl⟩, q _ Hf H (Grow.refl f) (.int _)⟩
      · cases ez'
    | _ => exact absurd ht (by simp [tyD])
theorem mt_countT {k : Nat} (hr : Room k X.A) : Mt1 X "count" countD "tuple" "tuple.count" where
  pa := PySem.F.plainAttrs_tuple
  slot := PySem.F.slot_tuple_count
  ty := PySem.F.type_tuple_count
  run := by
    intro ea pins s σ Hf H x y v u dx dy z Q I rx ry f hx hy ht ez q
    have hu := hr.un
    cases dx with
    | tuple ds =>
      obtain ⟨a, xs, rfl, ha, ra⟩ := hx.tuple f
      cases rx
      have ez' : (if SeqAt.shaped dy && SeqAt.shaped (.tuple ds) then some (PyData.int (ds.countP fun z => PyData.eqv z dy : Nat)) else none) = some z := ez
      split at ez'
      · rename_i hh
        cases ez'
        rw [Bool.and_eq_true] at hh
        obtain ⟨bs, r1⟩ := Dp.reads I dy y u ((hy.full f).dp (SeqAt.canLay_of_shaped hh.1)) ry
        have hxs : PyData.canLayAll0 ds = true := SeqAt.canLay_of_shaped hh.2
        obtain ⟨its, rv, ⟨⟨cls, dd, data, sls⟩, ho, hc, n, hdt⟩, hlen⟩ := I.tuple ha.sq
        simp only at hc hdt
        subst hc hdt
        obtain ⟨as, h4⟩ := Dp.readsAll I ds _ its ((ra.mono f).dp hxs) rv
        refine call_meets PySem.F.slot_tuple_count ⟨_, ho, rfl⟩ PySem.F.entry_tuple_count (PySem.F.args_tuple_count_2 _ _) (SeqAt.tuple_countAt a its.toArray n dd sls u _) ⟨ho, SeqAt.items_eqAt (vs := its.toArray) (show ReadsAll s.heap its.toArray.toList ds as from h4) r1 hxs (SeqAt.canLay_of_shaped hh.1) (PyProof.Rows.room_in_shaped hh.1 (by omega)), ?_⟩
        have ec : its.toArray.toList.countP (fun y => PyData.eqv (SeqAt.readOf s.heap y) dy) = ds.countP fun z => PyData.eqv z dy := by
          conv => rhs; rw [← SeqAt.readsAll_map ds its as hxs h4, List.countP_map]
          rfl
        rw [ec]
        exact ⟨.int _, H, I.tok _, ⟨_, rfl⟩, q _ Hf H (Grow.refl f) (.int _)⟩
      · cases ez'
    | _ => exact absurd ht (by simp [tyD])
def xcount (F G : En → R D) : En → R D := xmt ["list", "tuple"] countD F G
theorem xCount {k : Nat} (hr : Room k X.A) (ho : PE X o (tV (X.kw ea) W F)) (ha : PE X a (tV (X.kw ea) W G))
    (hbase : attributeBase o "count" X.env (eval o X.env) = eval o X.env := by rfl)
    (hfew : ((backTo cpos (starEach [a] X.env)).all (fun x => !x.1) && (backToKw cpos (keywordEach [] X.env)).all (fun x => x.1.isSome) && decide ([a].length + ([] : List Keyword).length + (if ([] : List Keyword).isEmpty then 0 else 1) < 30)) = true := by rfl)
    (hline : (apos.endLine == cpos.line) = true := by rfl) (hs : starEach [a] X.env = [(false, eval a X.env)] := by rfl) :
    PE X (.Call (.Attribute o "count" apos) [a] [] cpos) (tE (X.kw ea) W (xcount F G)) :=
  xMt (fun T hT => by
    rcases List.mem_cons.mp hT with rfl | hT
    · exact ⟨_, mt_countL hr⟩
    · rw [List.mem_singleton.mp hT]; exact ⟨_, mt_countT hr⟩) ho ha hbase hfew hline hs
end
end Pu
/-! PuO: dicts of one's own; t[::-1] -/
namespace Pu
open PySem PySem.Spec PyProof.Rows
section
variable {P : Program} {w : World} {A : Around} {E : Value → Shared → Prop} {s : Shared} {t sl : Addr} {us : Array Value} {vk : Value}
/-- the places of [::-1] -/
theorem rev_places (n : Nat) : Builtin.Slice.sliceAdjust none none (-1) (n : Int) = ((n : Int) - 1, -1) ∧ Builtin.Slice.slicePlaces ((n : Int) - 1) (-1) (-1) = n := by
  constructor
  · simp [Builtin.Slice.sliceAdjust]
  · cases n with
    | zero => decide
    | succ m =>
      have e : ((m + 1 : Nat) : Int) - 1 = m := by omega
      rw [e]
      have q : ((m : Int) - -1 - 1) / -(-1) + 1 = (m : Int) + 1 := by rw [show (m : Int) - -1 - 1 = m by omega, show (-(-1 : Int)) = 1 by rfl, Int.ediv_one]
      have lt : (-1 : Int) < m := by omega
      simp only [Builtin.Slice.slicePlaces]
      split
      · rename_i y; exact absurd y (by decide)
      · omega
theorem rev_applied {n : Nat} {Q : Int × Int × Nat → Shared → Prop} (hs : s.heap.IsSliceOf sl .none .none vk) (pk : IsPart vk (some (-1))) (h : Q ((n : Int) - 1, -1, n) s) : wpAny (model P w) A (Builtin.Slice.sliceApplied (.ref sl) (pure (n : Int))) Q E s := by
  obtain ⟨o, g, _, d⟩ := hs
  have fin : wpAny (model P w) A (pure ((Builtin.Slice.sliceAdjust none none (-1) (n : Int)).1, (-1 : Int), Builtin.Slice.slicePlaces (Builtin.Slice.sliceAdjust none none (-1) (n : Int)).1 (Builtin.Slice.sliceAdjust none none (-1) (n : Int)).2 (-1))) Q E s := by
    rw [(rev_places n).1]
    apply wpAny_pure
    show Q ((n : Int) - 1, -1, Builtin.Slice.slicePlaces ((n : Int) - 1) (-1) (-1)) s
    rw [(rev_places n).2]
    exact h
  have three := wpAny_pure (M := model P w) (A := A) (E := E) (s := s) (Q := fun (r : Value × Value × Value) z => r = (.none, .none, vk) ∧ z = s) ⟨rfl, rfl⟩
  unfold Builtin.Slice.sliceApplied
  apply wpAny_bind
  refine L2.thn (Q := fun (r : Value × Value × Value) z => r = (.none, .none, vk) ∧ z = s) (wpAny_bind (wpAny_field g d rfl (wpAny_bind (wpAny_field g d rfl (wpAny_bind (wpAny_field g d rfl three)))))) fun r z ⟨er, ez⟩ => ?_
  subst er ez
  apply wpAny_bind
  apply HT.slicePart_ pk
  show wpAny _ _ (ite (((-1 : Int) == 0) = true) _ _) _ _ _
  rw [if_neg (by decide)]
  exact wpAny_bind (slicePart_none (wpAny_bind (slicePart_none (wpAny_bind (wpAny_pure fin)))))
theorem rev_pick (us : Array Value) : ((List.range us.size).filterMap fun (m : Nat) => us[((us.size : Int) - 1 + (m : Int) * -1).toNat]?).toArray = us.toList.reverse.toArray := by
  have e : ∀ m : Nat, us[((us.size : Int) - 1 + (m : Int) * -1).toNat]? = us[us.size - 1 - m]? := fun m => congrArg (us[·]?) (by omega)
  simp only [e]
  have f : (List.range us.size).filterMap (fun m => us[us.size - 1 - m]?) = ((List.range us.size).map fun m => us.size - 1 - m).filterMap fun m => us[m]? := List.filterMap_map.symm
  rw [f, PySem.W.krv_range, List.filterMap_reverse, PySem.W.krv_all]
/-- t[::-1], t a tuple -/
theorem rev_item {Q : Value → Shared → Prop} (ht : IsTup s.heap t us) (hs : s.heap.IsSliceOf sl .none .none vk) (pk : IsPart vk (some (-1))) (hz : us.size ≤ sizeLine)
    (h : Q (.ref s.heap.objs.size) { s with heap := s.heap.push { cls := .type "tuple", data := .seq us.toList.reverse.toArray } }) : wpAny (model P w) A (getItem (.ref t) (.ref sl)) Q E s := by
  have ok : sizeOk (.seq us.toList.reverse.toArray) := by
    show us.toList.reverse.toArray.size ≤ sizeLine
    simpa using hz
  have isS : s.TypeIs (.ref sl) "slice" := let ⟨o, g, c, _⟩ := hs; ⟨o, g, c⟩
  have other : ((((us.size : Nat) : Int) - 1) == 0 && (-1 : Int) == 1 && us.size == us.size) = false := by simp
  have body : ∀ (A' : Around) (E' : Value → Shared → Prop) (Z : Fin → Shared → Prop), Z (.done (.ret (.ref s.heap.objs.size))) { s with heap := s.heap.push { cls := .type "tuple", data := .seq us.toList.reverse.toArray } } → wpAny (model P w) A' (Builtin.«tuple.__getitem__» ⟨[.ref t, .ref sl], []⟩) Z E' s := fun A' E' Z z => by
    show wpAny _ _ (Builtin.Tuple.tupleItemsOf (.ref t) >>= fun xs => _) _ _ _
    apply wpAny_bind
    apply tupleItemsOf_ ht
    apply wpAny_bind
    apply wpAny_typeOf isS
    rw [if_pos (by decide)]
    apply wpAny_bind
    apply rev_applied hs pk
    show wpAny _ _ (if ((((us.size : Nat) : Int) - 1) == 0 && (-1 : Int) == 1 && us.size == us.size) = true then _ else _) _ _ s
    rw [other, if_neg Bool.false_ne_true, rev_pick]
    first
      | exact wpAny_bind (wpAny_newObj_type (wpAny_pure z) ok)
      | exact wpAny_bind (wpAny_newObj_type (wpAny_bind (wpAny_pure (wpAny_pure z))) ok)
      | exact wpAny_bind (wpAny_bind (wpAny_newObj_type (wpAny_pure (wpAny_pure z)) ok))
      | exact wpAny_bind (wpAny_bind (wpAny_newObj_type (wpAny_pure z) ok))
  exact getItem_slot ht.typeIs (by decide) slot_tuple_getitem (wpAny_call_entry slot_tuple_getitem ht.typeIs entry_tuple_getitem (body _ _ _ ⟨_, rfl, h⟩) (args_tuple_getitem _ _))
end
end Pu
namespace Pu
open PySem L2
section
variable {X : Cx} {W : WE} {a b c : Expr} {F G : En → R D} {pos p2 ps px : Pos}
/-- t[::-1] of a tuple -/
def revD : D → Option D
  | .tuple ds => some (.tuple ds.reverse)
  | _ => none
open PySem.Spec PyProof.Rows in
theorem xRev {pu pc : Pos} {j : Nat} (ha : PE X a (tV (X.kw ea) W F)) : PE X (.Subscript a (.Slice none none (some (.UnaryOp .USub (.Constant (.int 1) j pc) pu)) p2) pos) (tE (X.kw ea) W (un1 revD F)) := by
  refine ⟨fun pins s σ H Q I ⟨H0, Hf0, Hf, e, S, q⟩ => ?_⟩
  refine Subscript_ (thn (ha.run pins s σ H _ I ⟨H0, Hf0, Hf, e, S, q.bind⟩) fun v s1 ⟨x, H1, I1, r1, Hf1, d, g1, rx, q1⟩ => ?_)
  obtain ⟨z, ez, q2⟩ := q1.of_opt
  cases d with
  | tuple ds =>
    cases ez
    obtain ⟨t, xs, rfl, ht, rt⟩ := rx.tuple g1.fh
    cases r1
    refine wpAny_Slice ?_
    rw [evalPart_none]
    refine wpAny_pure (wpAny_pure ?_)
    have hk : PE X (.UnaryOp .USub (.Constant (.int 1) j pc) pu) (tUn (fun x H Q => ∃ i, x = .int i ∧ Q (.int (-i)) H) (tC (.int 1))) := pe_un un_neg pe_int
    refine thn ((po_some hk).run pins s1 σ H1 (fun o H' => o = some (-1) ∧ H' = H1) I1 ⟨1, rfl, -1, rfl, rfl, rfl⟩) fun vk s3 ⟨o, H3, I3, pk, eo, eH⟩ => ?_
    subst eo eH
    have I4 : L2.Inv X pins σ H3 { s3 with heap := s3.heap.push { cls := .type "slice", data := .fields #[.none, .none, vk] } } := I3.kept (t' := s3.toks) fun b ob q => Heap.get?_push_of_some _ q
    obtain ⟨its, rv, p, hz⟩ := I4.tuple ht.sq
    show wpAny (model X.prog X.w) X.A (subscriptTail a (.Slice none none (some (.UnaryOp .USub (.Constant (.int 1) j pc) pu)) p2) (.ref t) (.ref s3.heap.objs.size)) (EP X pins σ Q) X.xe { s3 with heap := s3.heap.push { cls := .type "slice", data := .fields #[.none, .none, vk] } }
    refine tail_any (ops := [.ref t, .ref s3.heap.objs.size]) p.typeIs PyProof.Rows.slot_tuple_getitem.lookup ?_ (by with_unfolding_all rfl)
    refine rev_item p (Heap.IsSliceOf.new ..) pk (by rw [List.size_toArray, ← rv.length]; exact hz) ?_
    have hrev : Vals xs.reverse its.reverse := rv.reverse
    exact tup_new (us := its.reverse) (tk := s3.toks) I4 hrev (by rw [List.length_reverse]; exact hz) (TupN.of g1.fh rt.reverse q2)
  | _ => cases ez
/-! ### dicts of one's own -/
def sdnew (i : Nat) : En → Fl := fun e => .nx (e.set i (.dic []))
theorem sDNew {i : Nat} {x : Str} {pos' : Pos} (hN : X.N.Nodup) (hi : X.N[i]? = some x) (hx : Loc X.env.scope x) (hs : swapsWith (.Dict [] [] p2) (some (.Name x pos')) pos.line X.env = pure false := by rfl) (hf : X.fn x = true ∨ X.env.scope.names.lookup x = some .local := by first | exact .inl rfl | exact .inr rfl | assumption) :
    PS X (.Assign [.Name x pos'] (.Dict [] [] p2) pos) (tS (X.kw ea) W (sdnew i)) := PS_weak (ps_set hN hi hx (pe_dnew (ea := ea)) hs hf) fun D σ H ⟨H0, Hf0, Hf, e, S, p⟩ q hq => by
  have g := Grow.lay (o := DicO X.w q []) S.gr.fh hq
  exact p _ Hf _ ((S.grow g).own i ⟨_, upd_same⟩ (S.fresh hq) ⟨q, [], rfl, upd_same, S.gr.hh.free hq, S.gr.fh.free hq, .nil⟩) (Same.refl _)
def dputAt (i : Nat) (e : En) (kvs : List (D × D)) (v x : D) : Fl := match keyD x with
  | some k => if kvs.length < many then .nx (e.set i (.dic (dput kvs k x v))) else .bad
  | none => .bad
def sdput (i : Nat) (G F : En → R D) : En → Fl := fun e => liftE (F e) e fun v => match e[i]? with
  | some (.dic kvs) => liftE (G e) e (dputAt i e kvs v)
  | _ => .bad
/-- x[k] = e -/
theorem sDPut {i : Nat} {x : Str} {jx : Expr} (hs : PS X (.Assign [.Subscript (.Name x px) jx ps] a pos) (tAsg (tE (X.kw ea) W F) (gSub (tVar i) (tE (X.kw ea) W G) (rSetD (X.kw ea))))) : PS X (.Assign [.Subscript (.Name x px) jx ps] a pos) (tS (X.kw ea) W (sdput i G F)) :=
  PS_weak hs fun D σ H ⟨H0, Hf0, Hf, e, S, p⟩ => ⟨H0, Hf0, Hf, e, S, by
    revert p
    unfold sdput
    cases F e with
    | ok d =>
      intro p v Hf1 H1 g rv
      have S1 := S.grow g
      have p : PoS (X.kw ea) W D H0 Hf0 Hf (match e[i]? with | some (.dic kvs) => liftE (G e) e (dputAt i e kvs d) | _ => .bad) := p
      have p1 := p.same g.ff
      cases q : e[i]? with
      | none => rw [q] at p1; exact p1.elim
      | some s =>
        rw [q] at p1
        cases s with
        | dic kvs =>
          obtain ⟨u, hu⟩ := S1.lt q
          obtain ⟨l, xs, ev, h1, h2, h3, r⟩ := S1.sl i _ u q hu
          subst ev
          refine ⟨.ref l, hu, H0, Hf0, Hf1, e, S1, ?_⟩
          have p1 : PoS (X.kw ea) W D H0 Hf0 Hf1 (liftE (G e) e (dputAt i e kvs d)) := p1
          revert p1
          cases G e with
          | ok j =>
            intro p1 y Hf2 H2 g2 ry
            have p1 : PoS (X.kw ea) W D H0 Hf0 Hf1 (dputAt i e kvs d j) := p1
            unfold dputAt at p1
            cases hk : keyD j with
            | none => rw [hk] at p1; exact p1.elim
            | some k =>
              rw [hk] at p1
              have p1 : PoS (X.kw ea) W D H0 Hf0 Hf1 (if kvs.length < many then .nx (e.set i (.dic (dput kvs k j d))) else .bad) := p1
              by_cases hz : kvs.length < many
              · rw [if_pos hz] at p1
                obtain ⟨k1, k2, ds, rfl⟩ := keyD_of hk
                have ry' := ry
                cases ry' with
                | tup ht _ =>
                  refine ⟨l, _, xs, kvs, _, k, rfl, rfl, g2.hh _ _ h1, (r.mono g2.ff).mono g2.fh, ry.mono g2.fh, k1, k2, many_lt (by rw [r.length]; exact hz), fun u ru => ?_⟩
                  exact p1 σ Hf2 _ ((S1.grow g2).mut q rfl hu rfl ⟨l, _, rfl, upd_same, h2, g2.nf _ _ h1 rfl h3, (r.mono g2.ff).stored k1 k2 ry ru (rv.mono g2.ff)⟩) g2.ff
              · rw [if_neg hz] at p1; exact p1.elim
          | ex c => exact fun p1 Hf2 H2 g2 => p1 σ Hf2 H2 (S1.grow g2) g2.ff
          | bad => exact fun p1 => p1
        | _ => exact p1.elim
    | ex c => exact fun p Hf1 H1 g => p σ Hf1 H1 (S.grow g) g.ff
    | bad => exact fun p => p⟩
end
end Pu
/-! PuP: the words that a printed text uses -/
namespace Pu
open PySem L2
theorem bt_len : bootBuiltins "len" = some (.builtin "len") := by decide +kernel
theorem bt_all : bootBuiltins "all" = some (.builtin "all") := by decide +kernel
theorem bt_any : bootBuiltins "any" = some (.builtin "any") := by decide +kernel
theorem bt_sum : bootBuiltins "sum" = some (.builtin "sum") := by decide +kernel
theorem bt_max : bootBuiltins "max" = some (.builtin "max") := by decide +kernel
theorem bt_min : bootBuiltins "min" = some (.builtin "min") := by decide +kernel
theorem bt_sorted : bootBuiltins "sorted" = some (.builtin "sorted") := by decide +kernel
theorem bt_isinstance : bootBuiltins "isinstance" = some (.builtin "isinstance") := by decide +kernel
theorem bt_tuple : bootBuiltins "tuple" = some (.type "tuple") := by decide +kernel
theorem bt_list : bootBuiltins "list" = some (.type "list") := by decide +kernel
theorem bt_int : bootBuiltins "int" = some (.type "int") := by decide +kernel
theorem bt_str : bootBuiltins "str" = some (.type "str") := by decide +kernel
theorem bt_bool : bootBuiltins "bool" = some (.type "bool") := by decide +kernel
theorem bt_set : bootBuiltins "set" = some (.type "set") := by decide +kernel
theorem bt_dict : bootBuiltins "dict" = some (.type "dict") := by decide +kernel
section
variable {X : Cx} {k : Nat} {W : WE} {a b c : Expr} {F G : En → R D} {pos p p2 q pt px py : Pos}
theorem xLen (m : X.mg "len" = none) (ha : PE X a (tV (X.kw ea) W F)) (hg : Gl X "len" := by rfl) (he : starEach [a] X.env = [(false, eval a X.env)] := by rfl) : PE X (.Call (.Name "len" p) [a] [] pos) (tE (X.kw ea) W (un1 lenD F)) := xB1 call_lenB hg m bt_len ha (by decide) (by decide) he
theorem xAll (z : Cz X k W) (m : X.mg "all" = none) (ha : PE X a (tV (X.kw ea) W F)) (hg : Gl X "all" := by rfl) (he : starEach [a] X.env = [(false, eval a X.env)] := by rfl) : PE X (.Call (.Name "all" p) [a] [] pos) (tE (X.kw ea) W (un1 allD F)) := xB1 (call_allB z.calm) hg m bt_all ha (by decide) (by decide) he
theorem xAny (z : Cz X k W) (m : X.mg "any" = none) (ha : PE X a (tV (X.kw ea) W F)) (hg : Gl X "any" := by rfl) (he : starEach [a] X.env = [(false, eval a X.env)] := by rfl) : PE X (.Call (.Name "any" p) [a] [] pos) (tE (X.kw ea) W (un1 anyD F)) := xB1 (call_anyB z.calm) hg m bt_any ha (by decide) (by decide) he
theorem xSum (z : Cz X k W) (m : X.mg "sum" = none) (ha : PE X a (tV (X.kw ea) W F)) (hg : Gl X "sum" := by rfl) (he : starEach [a] X.env = [(false, eval a X.env)] := by rfl) : PE X (.Call (.Name "sum" p) [a] [] pos) (tE (X.kw ea) W (un1 sumD F)) := xB1 (call_sumB z.calm) hg m bt_sum ha (by decide) (by decide) he
theorem xMax (z : Cz X k W) (m : X.mg "max" = none) (ha : PE X a (tV (X.kw ea) W F)) (hg : Gl X "max" := by rfl) (he : starEach [a] X.env = [(false, eval a X.env)] := by rfl) : PE X (.Call (.Name "max" p) [a] [] pos) (tE (X.kw ea) W (un1 maxD F)) := xB1 (call_maxB z.calm) hg m bt_max ha (by decide) (by decide) he
theorem xMin (z : Cz X k W) (m : X.mg "min" = none) (ha : PE X a (tV (X.kw ea) W F)) (hg : Gl X "min" := by rfl) (he : starEach [a] X.env = [(false, eval a X.env)] := by rfl) : PE X (.Call (.Name "min" p) [a] [] pos) (tE (X.kw ea) W (un1 minD F)) := xB1 (call_minB z.calm) hg m bt_min ha (by decide) (by decide) he
theorem xMax2 (z : Cz X k W) (m : X.mg "max" = none) (ha : PE X a (tV (X.kw ea) W F)) (hb : PE X b (tV (X.kw ea) W G)) (hg : Gl X "max" := by rfl) (he : starEach [a, b] X.env = [(false, eval a X.env), (false, eval b X.env)] := by rfl) (he2 : starEach [b] X.env = [(false, eval b X.env)] := by rfl) : PE X (.Call (.Name "max" p) [a, b] [] pos) (tE (X.kw ea) W (bin max2D F G)) := xB2 (call_max2B z.calm) hg m bt_max ha hb (by decide) (by decide) he he2
theorem xMin2 (z : Cz X k W) (m : X.mg "min" = none) (ha : PE X a (tV (X.kw ea) W F)) (hb : PE X b (tV (X.kw ea) W G)) (hg : Gl X "min" := by rfl) (he : starEach [a, b] X.env = [(false, eval a X.env), (false, eval b X.env)] := by rfl) (he2 : starEach [b] X.env = [(false, eval b X.env)] := by rfl) : PE X (.Call (.Name "min" p) [a, b] [] pos) (tE (X.kw ea) W (bin min2D F G)) := xB2 (call_min2B z.calm) hg m bt_min ha hb (by decide) (by decide) he he2
theorem xTuple (m : X.mg "tuple" = none) (ha : PE X a (tV (X.kw ea) W F)) (hg : Gl X "tuple" := by rfl) (he : starEach [a] X.env = [(false, eval a X.env)] := by rfl) : PE X (.Call (.Name "tuple" p) [a] [] pos) (tE (X.kw ea) W (un1 tupleD F)) := xT1 call_tupleB hg m bt_tuple ha (by decide) (by decide) he
theorem xInt1 (m : X.mg "int" = none) (ha : PE X a (tV (X.kw ea) W F)) (hg : Gl X "int" := by rfl) (he : starEach [a] X.env = [(false, eval a X.env)] := by rfl) : PE X (.Call (.Name "int" p) [a] [] pos) (tE (X.kw ea) W (un1 intD F)) := xT1 call_intB hg m bt_int ha (by decide) (by decide) he
theorem xStr1 (m : X.mg "str" = none) (ha : PE X a (tV (X.kw ea) W F)) (hg : Gl X "str" := by rfl) (he : starEach [a] X.env = [(false, eval a X.env)] := by rfl) : PE X (.Call (.Name "str" p) [a] [] pos) (tE (X.kw ea) W (un1 strD F)) := xT1 call_strB hg m bt_str ha (by decide) (by decide) he
theorem xList (m : X.mg "list" = none) (ha : PE X a (tV (X.kw ea) W F)) (hg : Gl X "list" := by rfl) (he : starEach [a] X.env = [(false, eval a X.env)] := by rfl) : PE X (.Call (.Name "list" p) [a] [] pos) (tN (X.kw ea) W (un1N listN F)) := xT1N call_listB hg m bt_list ha (by decide) (by decide) he
theorem xSorted (z : Cz X k W) (m : X.mg "sorted" = none) (ha : PE X a (tV (X.kw ea) W F)) (hg : Gl X "sorted" := by rfl) (he : starEach [a] X.env = [(false, eval a X.env)] := by rfl) : PE X (.Call (.Name "sorted" p) [a] [] pos) (tN (X.kw ea) W (un1N sortN F)) := xB1N (call_sortedB z.calm z.rm) hg m bt_sorted ha (by decide) (by decide) he
theorem xSSet (z : Cz X k W) (m : X.mg "sorted" = none) (m2 : X.mg "set" = none) (ha : PE X a (tV (X.kw ea) W F)) (hg : Gl X "sorted" := by rfl) (hg2 : Gl X "set" := by rfl) (he : starEach [a] X.env = [(false, eval a X.env)] := by rfl) (he2 : starEach [Expr.Call (.Name "set" p2) [a] [] q] X.env = [(false, eval (Expr.Call (.Name "set" p2) [a] [] q) X.env)] := by rfl) :
    PE X (.Call (.Name "sorted" p) [.Call (.Name "set" p2) [a] [] q] [] pos) (tN (X.kw ea) W (un1N sortSetN F)) := xSortSet z.calm hg m bt_sorted hg2 m2 bt_set ha he he2
/-- a + b, lists -/
def binN (f : D → D → Option (List D)) (F G : En → R D) : En → R (List D) := fun e => (F e).bind fun x => (G e).bind fun y => opt (f x y)
theorem xAddN (ha : PE X a (tV (X.kw ea) W F)) (hb : PE X b (tV (X.kw ea) W G)) : PE X (.BinOp a .Add b pos) (tN (X.kw ea) W (binN addN F G)) :=
  PE_weak (pe_op op_addL ha hb) fun σ H Q ⟨H0, Hf0, Hf, e, S, p⟩ => ⟨H0, Hf0, Hf, e, S, p.bind.mono fun x H1 ⟨Hf1, dx, g1, rx, p1⟩ => ⟨H0, Hf0, Hf1, e, S.grow g1, p1.bind.mono fun y H2 ⟨Hf2, dy, g2, ry, p2⟩ => by
    obtain ⟨z, ez, q⟩ := p2.of_opt
    exact ⟨Hf2, dx, dy, z, g2.fh, rx.mono g2, ry, ez, q⟩⟩⟩
theorem xGlobI {x : Str} {i : Int} (h : ∃ t, X.mg x = some (.int i t)) (hg : Gl X x := by rfl) (hd : (x == ("__debug__" : Str)) = false := by decide) : PE X (.Name x pos) (tE (X.kw ea) W (xc (.int i))) := by
  obtain ⟨t, h⟩ := h
  exact xGlob (v := .int i) hg h ⟨t, rfl⟩ (fun _ => .int i) hd
/-! ### a, b = x, y -/
def spar2 (i j : Nat) (L : En → R (List D)) : En → Fl := fun e => match L e with
  | .ok [x, y] => .nx ((e.set i (.dat x)).set j (.dat y))
  | .ok _ => .bad
  | .ex c => .ex c e
  | .bad => .bad
theorem sPar2 {i j : Nat} {x y : Str} {L : En → R (List D)} {kt k2 : Nat} {pt2 : Pos} (z : Cz X k W) (hi : X.N[i]? = some x) (hj : X.N[j]? = some y) (hij : i ≠ j) (hx : X.env.scope.names.lookup x = some .local) (hy : X.env.scope.names.lookup y = some .local) (ha : PA X [a, b] (tA (X.kw ea) W L))
    (hw : swappedStores [.Tuple [.Name x px, .Name y py] kt pt] (.Tuple [a, b] k2 pt2) X.env = pure (some [x, y])) (hs : swapsWithSole [.Tuple [.Name x px, .Name y py] kt pt] (.Tuple [a, b] k2 pt2) pos.line X.env = pure false := by rfl) :
    PS X (.Assign [.Tuple [.Name x px, .Name y py] kt pt] (.Tuple [a, b] k2 pt2) pos) (tS (X.kw ea) W (spar2 i j L)) :=
  PS_weak (ps_par z.calm z.nd hi hj hij hx hy ha hw hs) fun D σ H ⟨H0, Hf0, Hf, e, S, p⟩ => ⟨H0, Hf0, Hf, e, S, by
    revert p
    unfold spar2
    cases L e with
    | ok ds =>
      intro p vs Hf1 H1 g r
      cases r with
      | nil => exact p.elim
      | cons r1 r =>
        cases r with
        | nil => exact p.elim
        | cons r2 r =>
          cases r with
          | nil => exact ⟨_, _, rfl, p _ Hf1 H1 (((S.grow g).dat i r1).dat j r2) g.ff⟩
          | cons _ _ => exact p.elim
    | ex c => exact fun p Hf1 H1 g => p σ Hf1 H1 (S.grow g) g.ff
    | bad => exact fun p => p⟩
def spar3 (i j l : Nat) (L : En → R (List D)) : En → Fl := fun e => match L e with
  | .ok [x, y, z] => .nx (((e.set i (.dat x)).set j (.dat y)).set l (.dat z))
  | .ok _ => .bad
  | .ex c => .ex c e
  | .bad => .bad
theorem sPar3 {i j l : Nat} {x y v : Str} {L : En → R (List D)} {kt k2 : Nat} {pt2 pv : Pos} (z : Cz X k W) (hi : X.N[i]? = some x) (hj : X.N[j]? = some y) (hl : X.N[l]? = some v) (hij : i ≠ j) (hil : i ≠ l) (hjl : j ≠ l) (hx : X.env.scope.names.lookup x = some .local) (hy : X.env.scope.names.lookup y = some .local) (hv : X.env.scope.names.lookup v = some .local) (ha : PA X [a, b, c] (tA (X.kw ea) W L))
    (hw : swappedStores [.Tuple [.Name x px, .Name y py, .Name v pv] kt pt] (.Tuple [a, b, c] k2 pt2) X.env = pure (some [x, y, v])) (hs : swapsWithSole [.Tuple [.Name x px, .Name y py, .Name v pv] kt pt] (.Tuple [a, b, c] k2 pt2) pos.line X.env = pure false := by rfl) :
    PS X (.Assign [.Tuple [.Name x px, .Name y py, .Name v pv] kt pt] (.Tuple [a, b, c] k2 pt2) pos) (tS (X.kw ea) W (spar3 i j l L)) :=
  PS_weak (ps_par3 z.calm z.nd hi hj hl hij hil hjl hx hy hv ha hw hs) fun D σ H ⟨H0, Hf0, Hf, e, S, p⟩ => ⟨H0, Hf0, Hf, e, S, by
    revert p
    unfold spar3
    cases L e with
    | ok ds =>
      intro p vs Hf1 H1 g r
      cases r with
      | nil => exact p.elim
      | cons r1 r =>
        cases r with
        | nil => exact p.elim
        | cons r2 r =>
          cases r with
          | nil => exact p.elim
          | cons r3 r =>
            cases r with
            | nil => exact ⟨_, _, _, rfl, p _ Hf1 H1 ((((S.grow g).dat i r1).dat j r2).dat l r3) g.ff⟩
            | cons _ _ => exact p.elim
    | ex c => exact fun p Hf1 H1 g => p σ Hf1 H1 (S.grow g) g.ff
    | bad => exact fun p => p⟩
end
/-! ### changes and targets -/
section
variable {X : Cx} {k : Nat} {W : WE} {a b c jx : Expr} {F G : En → R D} {pos px pa pc ps : Pos} {i : Nat} {x : Str}
theorem sAppend (i : Nat) (hx : PE X (.Name x px) (tVar i)) (he : PE X a (tE (X.kw ea) W F)) (hb : attributeBase (.Name x px) "append" X.env (eval (.Name x px) X.env) = eval (.Name x px) X.env := by rfl)
    (hf : ((backTo pc (starEach [a] X.env)).all (fun x => !x.1) && (backToKw pc (keywordEach [] X.env)).all (fun x => x.1.isSome) && decide ([a].length + ([] : List Keyword).length + (if ([] : List Keyword).isEmpty then 0 else 1) < 30)) = true := by rfl)
    (hl : (pa.endLine == pc.line) = true := by rfl) (hs : starEach [a] X.env = (false, eval a X.env) :: starEach [] X.env := by rfl) (hp : (backTo pc (starEach [] X.env)).any (·.1) = false := by rfl)
    (hw : swapsWith (.Call (.Attribute (.Name x px) "append" pa) [a] [] pc) none pos.line X.env = pure false := by rfl) : PS X (.Expr (.Call (.Attribute (.Name x px) "append" pa) [a] [] pc) pos) (tS (X.kw ea) W (sapp i F)) :=
  sApp hx he (pe_bm PySem.F.plainAttrs_list PySem.F.slot_list_append PySem.F.type_list_append mt_append hx (pa_cons he pa_nil hs) hb hf hl hs hp) hw
theorem sExtend (i : Nat) (hx : PE X (.Name x px) (tVar i)) (he : PE X a (tE (X.kw ea) W F)) (hb : attributeBase (.Name x px) "extend" X.env (eval (.Name x px) X.env) = eval (.Name x px) X.env := by rfl)
    (hf : ((backTo pc (starEach [a] X.env)).all (fun x => !x.1) && (backToKw pc (keywordEach [] X.env)).all (fun x => x.1.isSome) && decide ([a].length + ([] : List Keyword).length + (if ([] : List Keyword).isEmpty then 0 else 1) < 30)) = true := by rfl)
    (hl : (pa.endLine == pc.line) = true := by rfl) (hs : starEach [a] X.env = (false, eval a X.env) :: starEach [] X.env := by rfl) (hp : (backTo pc (starEach [] X.env)).any (·.1) = false := by rfl)
    (hw : swapsWith (.Call (.Attribute (.Name x px) "extend" pa) [a] [] pc) none pos.line X.env = pure false := by rfl) : PS X (.Expr (.Call (.Attribute (.Name x px) "extend" pa) [a] [] pc) pos) (tS (X.kw ea) W (sext i F)) :=
  sExt hx he (pe_bm PySem.F.plainAttrs_list PySem.F.slot_list_extend PySem.F.type_list_extend (MtM.or mt_extend mt_extT) hx (pa_cons he pa_nil hs) hb hf hl hs hp) hw
theorem sSet (i : Nat) (ha : PE X a (tE (X.kw ea) W F)) (hx : PE X (.Name x px) (tVar i)) (hj : PE X jx (tE (X.kw ea) W G))
    (hb : ∀ v, assign (.Subscript (.Name x px) jx ps) X.env v = (do
      let c ← holding [v] (eval (.Name x px) X.env)
      let d ← holding [v, c] (eval jx X.env)
      standAt ps
      holding [v, c, d] (setItem c d v)
      release [v, c, d] []) := by intro _; rfl)
    (hs : swapsWithSole [.Subscript (.Name x px) jx ps] a pos.line X.env = pure false := by rfl) (hw : swappedStores [.Subscript (.Name x px) jx ps] a X.env = pure none := by rfl)
    (h1 : (assignEach [.Subscript (.Name x px) jx ps] X.env).map (·.2) = [assign (.Subscript (.Name x px) jx ps) X.env] := by rfl) : PS X (.Assign [.Subscript (.Name x px) jx ps] a pos) (tS (X.kw ea) W (sput i G F)) :=
  sPut (ps_asg ha (pg_sub hx hj set_list hb) hs hw h1)
theorem sDSet (i : Nat) (z : Cz X k W) (ha : PE X a (tE (X.kw ea) W F)) (hx : PE X (.Name x px) (tVar i)) (hj : PE X jx (tE (X.kw ea) W G))
    (hb : ∀ v, assign (.Subscript (.Name x px) jx ps) X.env v = (do
      let c ← holding [v] (eval (.Name x px) X.env)
      let d ← holding [v, c] (eval jx X.env)
      standAt ps
      holding [v, c, d] (setItem c d v)
      release [v, c, d] []) := by intro _; rfl)
    (hs : swapsWithSole [.Subscript (.Name x px) jx ps] a pos.line X.env = pure false := by rfl) (hw : swappedStores [.Subscript (.Name x px) jx ps] a X.env = pure none := by rfl)
    (h1 : (assignEach [.Subscript (.Name x px) jx ps] X.env).map (·.2) = [assign (.Subscript (.Name x px) jx ps) X.env] := by rfl) : PS X (.Assign [.Subscript (.Name x px) jx ps] a pos) (tS (X.kw ea) W (sdput i G F)) :=
  sDPut (ps_asg ha (pg_sub hx hj (set_dict z.rm) hb) hs hw h1)
theorem gN (i : Nat) (z : Cz X k W) (hi : X.N[i]? = some x := by rfl) (hx : Loc X.env.scope x := by first | exact .inl rfl | exact .inr rfl) (hf : X.fn x = true ∨ X.env.scope.names.lookup x = some .local := by first | exact .inl rfl | exact .inr rfl) : PG X (.Name x pos) (tG (X.kw ea) [i] (gn i)) := gName' (pg_name z.nd hi hx hf)
theorem gC {as : List Expr} {is js : List Nat} {f : Tg} {g : List D → En → Option En} (h1 : PG X a (tG (X.kw ea) is f)) (h2 : PGs X as (tGs (X.kw ea) js g)) (hs : (assignEach (a :: as) X.env).map (·.2) = assign a X.env :: (assignEach as X.env).map (·.2) := by rfl) :
    PGs X (a :: as) (tGs (X.kw ea) (is ++ js) (gcons f g)) := gCons' h1 h2 (pgs_cons h1 h2 hs)
theorem gT {es : List Expr} {kk n : Nat} {is : List Nat} {g : List D → En → Option En} (z : Cz X k W) (hl : ∀ ds e e', g ds e = some e' → ds.length = n) (h : PGs X es (tGs (X.kw ea) is g)) (hn : (assignEach es X.env).length = n := by rfl) (hst : (assignEach es X.env).findIdx? (·.1) = none := by rfl) :
    PG X (.Tuple es kk pos) (tG (X.kw ea) is (gtup g)) := gTup' hl (pg_tup z.calm h hn hst)
theorem sUnp {tg : Expr} {is : List Nat} {f : Tg} (he : PE X a (tE (X.kw ea) W F)) (hg : PG X tg (tG (X.kw ea) is f)) (hs : swapsWithSole [tg] a pos.line X.env = pure false := by rfl) (hw : swappedStores [tg] a X.env = pure none := by rfl) (h1 : (assignEach [tg] X.env).map (·.2) = [assign tg X.env] := by rfl) :
    PS X (.Assign [tg] a pos) (tS (X.kw ea) W (sasgT f F)) := sAsgT he hg (ps_asg he hg hs hw h1)
theorem sLet (i : Nat) (z : Cz X k W) (he : PE X a (tE (X.kw ea) W F)) (hi : X.N[i]? = some x := by rfl) (hx : Loc X.env.scope x := by first | exact .inl rfl | exact .inr rfl) (hs : swapsWith a (some (.Name x px)) pos.line X.env = pure false := by rfl) (hf : X.fn x = true ∨ X.env.scope.names.lookup x = some .local := by first | exact .inl rfl | exact .inr rfl) :
    PS X (.Assign [.Name x px] a pos) (tS (X.kw ea) W (sasg i F)) := sAsg z.nd hi hx he hs hf
theorem sLetN (i : Nat) {L : En → R (List D)} (z : Cz X k W) (he : PE X a (tN (X.kw ea) W L)) (hi : X.N[i]? = some x := by rfl) (hx : Loc X.env.scope x := by first | exact .inl rfl | exact .inr rfl) (hs : swapsWith a (some (.Name x px)) pos.line X.env = pure false := by rfl) (hf : X.fn x = true ∨ X.env.scope.names.lookup x = some .local := by first | exact .inl rfl | exact .inr rfl) :
    PS X (.Assign [.Name x px] a pos) (tS (X.kw ea) W (sasgN i L)) := sAsgN z.nd hi hx he hs hf
theorem sLetD (i : Nat) (z : Cz X k W) (hi : X.N[i]? = some x := by rfl) (hx : Loc X.env.scope x := by first | exact .inl rfl | exact .inr rfl) (hs : swapsWith (.Dict [] [] pa) (some (.Name x px)) pos.line X.env = pure false := by rfl) (hf : X.fn x = true ∨ X.env.scope.names.lookup x = some .local := by first | exact .inl rfl | exact .inr rfl) :
    PS X (.Assign [.Name x px] (.Dict [] [] pa) pos) (tS (X.kw ea) W (sdnew i)) := sDNew z.nd hi hx hs hf
end
/-! ### defs by name -/
/-- the def x stands at the top as st -/
def Def (K : PySem.W.Frag) (mg : Str → Option Value) (x : Str) (st : Stmt) (ps : List Str) : Prop := ∃ f fd, Fun K x x st f fd ∧ (∀ us : List Value, us.length = ps.length → bindArgs fd ⟨us, []⟩ = pure (ps.zip us)) ∧ mg x = some (.ref f)
/-- the def x computes Fn -/
def OkF (P : Program) (w : World) (K : PySem.W.Frag) (mg : Str → Option Value) (base : Heap) (x : Str) (ps : List Str) (j : Nat) (Fn : List D → R D) : Prop :=
  ∃ f fd, FnOk P w K mg base (L2.CX P w) j f fd ps (spD ⟨K, w, 0⟩ mg ps.length Fn) ∧ PySem.W.keepIn K (.ref f) = true ∧ Binds K fd ps [] ∧ mg x = some (.ref f) ∧ ∃ oc od osl, K.lookup f = some ⟨oc, od, .func fd, osl⟩
theorem fun_look {K : PySem.W.Frag} {x q : Str} {st : Stmt} {f : Addr} {fd : FuncData} (F : Fun K x q st f fd) : ∃ oc od osl, K.lookup f = some ⟨oc, od, .func fd, osl⟩ := by
  obtain ⟨oc, od, kV, doc, pm, an, cdv, ct, osl, _, lk, _⟩ := F.ex
  exact ⟨oc, od, osl, lk⟩
section
variable {P : Program} {w : World} {K : PySem.W.Frag} {mg : Str → Option Value} {base : Heap}
theorem okO {x : Str} {st : Stmt} {N ps : List Str} {k : Nat} {B : En → Fl} (F : Def K mg x st ps) (S : FnScope N ps (defScope st))
    (body : ∀ (f : Addr) (cdv : Value) (A : Around) (outer : List Env) (s : Shared) (H : Hp) (E : XK), Cz (cxOf (L2.CX P w) P w K mg base N x (defScope st) f cdv A outer s H E) k (wB mg E) →
      PSs (cxOf (L2.CX P w) P w K mg base N x (defScope st) f cdv A outer s H E) (defBody st) (tS ⟨K, w, 0⟩ (wB mg E) B)) : OkF P w K mg base x ps (k + 1) (runD N.length B) := by
  obtain ⟨f, fd, F, b, m⟩ := F
  exact ⟨f, fd, okD F S (body f), F.kp, .all b, m, fun_look F⟩
/-- nothing is asked of a def that is not reached -/
theorem okBad {x : Str} {st : Stmt} {ps : List Str} {j : Nat} (F : Def K mg x st ps) : OkF P w K mg base x ps j (fun _ => .bad) := by
  obtain ⟨f, fd, F, b, m⟩ := F
  have no : ∀ vs H Q E, ¬ spD ⟨K, w, 0⟩ mg ps.length (fun _ => .bad) vs H Q E := fun vs H Q E h => by
    obtain ⟨_, _, _, _, _, h⟩ := h
    exact h
  exact ⟨f, fd, ⟨fun vs H Q E h => absurd h (no vs H Q E), fun A outer s H args us vs Q E _ _ _ _ h => absurd h (no vs H Q E)⟩, F.kp, .all b, m, fun_look F⟩
end
section
variable {X : Cx} {k j : Nat} {W : WE} {a : Expr} {es : List Expr} {L : En → R (List D)} {pos p : Pos} {x : Str} {ps : List Str} {Fn : List D → R D}
theorem xC1 (z : Cz X k W) (G : OkF X.prog X.w X.K X.mg X.base x ps j Fn) (hj : j ≤ k) (ha : PA X (a :: es) (tA (X.kw 0) W L)) (hg : Gl X x := by rfl)
    (hdb : (x == ("__debug__" : Str)) = false := by decide) (he : starEach (a :: es) X.env = (false, eval a X.env) :: starEach es X.env := by rfl) (hpl : (backTo pos (starEach es X.env)).any (·.1) = false := by rfl) : PE X (.Call (.Name x p) (a :: es) [] pos) (tE (X.kw 0) W (xcall ps.length Fn L)) := by
  obtain ⟨f, fd, G, kp, b, m, _⟩ := G
  exact xCall z G hj hg m kp b ha hdb he hpl
theorem xCV (z : Cz X k W) (G : OkF X.prog X.w X.K X.mg X.base x ps j Fn) (hj : j ≤ k) (ha : PA X (a :: es) (tAV (X.kw 0) W L)) (hg : Gl X x := by rfl)
    (hdb : (x == ("__debug__" : Str)) = false := by decide) (he : starEach (a :: es) X.env = (false, eval a X.env) :: starEach es X.env := by rfl) (hpl : (backTo pos (starEach es X.env)).any (·.1) = false := by rfl) : PE X (.Call (.Name x p) (a :: es) [] pos) (tE (X.kw 0) W (xcallV ps.length Fn L)) := by
  obtain ⟨f, fd, G, kp, b, m, _⟩ := G
  exact xCallV z G hj hg m kp b ha hdb he hpl
theorem xC0 (z : Cz X k W) (G : OkF X.prog X.w X.K X.mg X.base x ps j Fn) (hj : j ≤ k) (hg : Gl X x := by rfl) (hdb : (x == ("__debug__" : Str)) = false := by decide) : PE X (.Call (.Name x p) [] [] pos) (tE (X.kw 0) W (xcall ps.length Fn lnil)) := by
  obtain ⟨f, fd, G, kp, b, m, _⟩ := G
  exact xCall0 z G hj hg m kp b hdb
end
/-! ### the law -/
def spLaw (K : PySem.W.Frag) : Sp := fun vs H Q _ => ∃ (a : Addr) (ns : List Int), vs = [.ref a] ∧ SqL K H a (ns.map V.int) ∧ ns.length ≤ 63 ∧ ∀ H', Q (.bl true) H'
theorem spLaw_imp {Fn : List D → R D} (h : ∀ ns : List Int, ns.length ≤ 63 → Fn [scrD ns] = .ok (.bool true)) {K : PySem.W.Frag} {w : World} {mg : Str → Option Value} : ∀ vs H Q E, spLaw K vs H Q E → spD ⟨K, w, 0⟩ mg 1 Fn vs H Q E := fun vs H Q E ⟨a, ns, e, hS, hl, q⟩ => by
  subst e
  refine ⟨H, [scrD ns], Same.refl _, .cons (.scr hS) .nil, rfl, ?_⟩
  rw [h ns hl]
  intro v Hf' H' _ r
  cases r
  exact q H'
theorem noCX {P : Program} {w : World} {outer : List Env} {H : Hp} {s s' : Shared} {u : Value} (h : L2.CX P w outer H s (fun _ _ _ => False) u s') : False := by
  obtain ⟨_, _, _, _, _, _, _, _, _, _, _, _, q⟩ := h
  exact q
theorem law_top {P : Program} {w : World} {K : PySem.W.Frag} {mg : Str → Option Value} {fa : Addr} {k : Nat} {st : Stmt} {Fn : List D → R D} (hmg : mg "law" = some (.ref fa)) (T : Def K mg "law" st ["script"])
    (h : ∀ base : Heap, OkF P w K mg base "law" ["script"] k Fn) (imp : ∀ ns : List Int, ns.length ≤ 63 → Fn [scrD ns] = .ok (.bool true)) :
    ∃ fd : FuncData, (∀ (s : Shared) (u : Value), BindsTo s fd ⟨[u], []⟩ [("script", u)]) ∧ ∀ base : Heap, K.In base → base.Ns mainGlobals mg → FnOk P w K mg base (L2.CX P w) k fa fd ["script"] (spLaw K) := by
  obtain ⟨f, fd, F, b, m⟩ := T
  obtain ⟨oc, od, osl, lk⟩ := fun_look F
  refine ⟨fd, fun s u => .of_eq (b [u] rfl), fun base _ _ => ?_⟩
  obtain ⟨f', fd', G, kp, b', m', oc', od', osl', lk'⟩ := h base
  have e1 : f' = f := by rw [m] at m'; injection m' with m'; injection m' with m'; exact m'.symm
  subst e1
  have e2 : f' = fa := by rw [m] at hmg; injection hmg with hmg; injection hmg
  subst e2
  rw [lk] at lk'
  injection lk' with lk'
  injection lk' with _ _ h3 _
  injection h3 with h3
  subst h3
  exact G.imp (spLaw_imp imp)
end Pu
/-! PuQ: more rules: zip, frozen -/
namespace Pu
open PySem L2
section
variable {X : Cx} {W : WE} {a b c tg : Expr} {F G Fc : En → R D} {pos p : Pos}
/-- zip(a, b), both frozen lists or both tuples -/
theorem iZipZ {elts : List Expr} {kk : Nat} {tpos : Pos} (hg : Gl X "zip") (hm : X.mg "zip" = none) (ha : PE X a (tE (X.kw ea) W F)) (hb : PE X b (tE (X.kw ea) W G))
    (hs : starEach [a, b] X.env = (false, eval a X.env) :: starEach [b] X.env := by rfl) (hs2 : starEach [b] X.env = [(false, eval b X.env)] := by rfl) : PI X (.Tuple elts kk tpos) (.Call (.Name "zip" p) [a, b] [] pos) (tI (X.kw ea) W true (izip F G)) :=
  PI_weak (pi_zipF hg hm (pa_cons ha (pa_cons hb pa_nil hs2) hs) hs (by rw [hs2]; rfl)) fun σ H Q ⟨H0, Hf0, Hf, e, S, p⟩ => ⟨H0, Hf0, Hf, e, S, p.bind.mono fun x H1 ⟨Hf1, d, g, r, p1⟩ => ⟨H0, Hf0, Hf1, e, S.grow g, p1.bind.mono fun y H2 ⟨Hf2, d', g2, r2, p2⟩ => by
    obtain ⟨ds, ez, q⟩ := p2.of_opt
    have r' := Rp.mono g2.ff r
    cases r' with
    | lst hl ra =>
      cases r2 with
      | lst hl' ra' =>
        cases ez
        exact ⟨_, _, _, _, rfl, .inl ⟨SqL.of (g2.fh _ _ hl), SqL.of (g2.fh _ _ hl'), q _ Hf2 H2 (Grow.refl g2.fh) (Wk.zipL (SqL.of hl) (SqL.of hl') ra ra')⟩⟩
      | _ => cases ez
    | tup hl ra =>
      cases r2 with
      | tup hl' ra' =>
        cases ez
        exact ⟨_, _, _, _, rfl, .inr ⟨(hl.mono g2.fh).sq, (hl'.mono g2.fh).sq, q _ Hf2 H2 (Grow.refl g2.fh) (Wk.zipT hl.sq hl'.sq ra ra')⟩⟩
      | _ => cases ez
    | _ => cases ez⟩⟩
end
end Pu
/-! PuR: raise, try, the caught error -/
namespace Pu
open PySem L2
/-- the error class x stands at C -/
structure ExD (K : PySem.W.Frag) (mg : Str → Option Value) (x : Str) (C : Addr) : Prop where
  g : mg x = some (.ref C)
  q : PySem.W.excIn K C [.type "ValueError", .type "Exception", .type "BaseException", .type "object"] "ValueError.__new__" = true
  k : PySem.W.keepIn K (.ref C) = true
  b : PySem.W.subIn K (.ref C) (.type "BaseException") = some true
  t : PySem.W.typeIn K (.ref C) = some (.type "type")
/-- errors of class x are caught by 'except y' -/
def Hit (K : PySem.W.Frag) (mg : Str → Option Value) (y x : Str) : Prop := ∃ C D, mg x = some (.ref C) ∧ mg y = some (.ref D) ∧ PySem.W.exmOne K (.ref C) (.ref D) = some true ∧ ExcC K C
/-- isinstance(e, y), e of class x -/
def Kit (K : PySem.W.Frag) (mg : Str → Option Value) (x y : Str) (b : Bool) : Prop := ∃ C D, mg x = some (.ref C) ∧ mg y = some (.ref D) ∧ PySem.W.kitOne K (.ref C) (.ref D) = some b
def KitT (K : PySem.W.Frag) (mg : Str → Option Value) (x : Str) (T : String) (b : Bool) : Prop := ∃ C, mg x = some (.ref C) ∧ PySem.W.kitOne K (.ref C) (.type T) = some b
theorem kit_own {K : PySem.W.Frag} {C D : Addr} {b : Bool} (h1 : PySem.W.isClsIn K C = true) (h2 : PySem.W.typeIn K (.ref C) = some (.type "type")) (h3 : PySem.W.subIn K (.ref D) (.ref C) = some b) (h4 : PySem.W.subIn K (.ref C) (.ref C) = some true) : PySem.W.kitOne K (.ref D) (.ref C) = some b := by
  unfold PySem.W.kitOne
  by_cases e : D = C
  · subst e
    rw [h3] at h4
    rw [h4, if_pos (beq_self_eq_true _)]
  · rw [if_neg (fun z => e (Value.ref.inj (beq_iff_eq.mp z)))]
    show (if ((PySem.W.clsIn K C).isSome && PySem.W.typeIn K (.ref C) == some (.type "type")) = true then PySem.W.subIn K (.ref D) (.ref C) else none) = _
    have h1 : (PySem.W.clsIn K C).isSome = true := h1
    rw [h1, h2, if_pos (by rfl)]
    exact h3
theorem kit_blt {K : PySem.W.Frag} {D : Addr} {T : String} {b : Bool} (h1 : PySem.W.kitMeta T = true) (h3 : PySem.W.subIn K (.ref D) (.type T) = some b) : PySem.W.kitOne K (.ref D) (.type T) = some b := by
  unfold PySem.W.kitOne
  rw [if_neg (by intro z; exact nomatch (beq_iff_eq.mp z))]
  show (if PySem.W.kitMeta T = true then PySem.W.subIn K (.ref D) (.type T) else none) = _
  rw [if_pos h1]
  exact h3
def srai (c : Str) : En → Fl := fun e => .ex c e
section
variable {X : Cx} {k : Nat} {W : WE} {x m : Str} {j : Nat} {p p2 pos pos' : Pos}
theorem sRaise (z : Cz X k W) (E : ∃ C, ExD X.K X.mg x C) (hg : Gl X x := by rfl) (hdb : (x == ("__debug__" : Str)) = false := by decide) :
    PS X (.Raise (some (.Call (.Name x p) [.Constant (.str m) j p2] [] pos)) none pos') (tS (X.kw ea) W (srai x)) := by
  obtain ⟨C, E⟩ := E
  exact PS_weak (ps_raise z.calm z.tk (pmk_own PySem.F.excBase_ValueError E.q E.g E.k (raises_own E.b E.t) hg hdb)) fun D σ H ⟨H0, Hf0, Hf, e, S, p⟩ => ⟨rfl, x, E.g, p σ Hf H S (Same.refl _)⟩
end
/-! ### from one place of the error to another -/
section
variable {K : PySem.W.Frag} {w : World} {a b : Addr} {H : Hp}
mutual
theorem Rp.at : ∀ {d : D} {v : V}, Rp ⟨K, w, a⟩ H v d → Rp ⟨K, w, b⟩ H v d
  | _, _, .non => .non
  | _, _, .bl b => .bl b
  | _, _, .int i => .int i
  | _, _, .str x => .str x
  | _, _, .lst h r => .lst h (RpAll.at r)
  | _, _, .tup h r => .tup h (RpAll.at r)
  | _, _, .dct h r => .dct h (RpDct.at r)
  | _, _, .scr h => .scr h
  | _, _, .tab h => .tab h
theorem RpAll.at : ∀ {ds : List D} {vs : List V}, RpAll ⟨K, w, a⟩ H vs ds → RpAll ⟨K, w, b⟩ H vs ds
  | _, _, .nil => .nil
  | _, _, .cons h r => .cons (Rp.at h) (RpAll.at r)
theorem RpDct.at : ∀ {kvs : List (D × D)} {xs : List (NestedKey × Addr × Value)}, RpDct ⟨K, w, a⟩ H xs kvs → RpDct ⟨K, w, b⟩ H xs kvs
  | _, _, .nil => .nil
  | _, _, .cons hk hd h rv h' r => .cons hk hd (Rp.at h) rv (Rp.at h') (RpDct.at r)
end
end
def unX1 : Sl → Sl
  | .exc => .un
  | s => s
def unX (e : En) : En := e.map unX1
theorem SR.at {K : PySem.W.Frag} {w : World} {a b : Addr} {H0 Hf0 Hf H : Hp} {σ : L2.St} {e : En} (S : SR ⟨K, w, a⟩ H0 Hf0 Hf H σ e) : SR ⟨K, w, b⟩ H0 Hf0 Hf H σ (unX e) := by
  have get : ∀ {i : Nat} {s : Sl}, (unX e)[i]? = some s → ∃ t, e[i]? = some t ∧ s = unX1 t := fun {i s} h => by
    unfold unX at h
    rw [List.getElem?_map] at h
    cases q : e[i]? with
    | none => rw [q] at h; cases h
    | some t => rw [q] at h; cases h; exact ⟨t, rfl, rfl⟩
  have own : ∀ {t : Sl}, (unX1 t).isOwn = true → t.isOwn = true := fun {t} h => by cases t <;> first | exact h | cases h
  refine ⟨S.gr, by unfold unX; rw [List.length_map]; exact S.len, fun i s v h1 h2 => ?_, fun i j s t c hij h1 h2 o1 o2 => ?_⟩
  · obtain ⟨t, q, rfl⟩ := get h1
    have z := S.sl i t v q h2
    cases t with
    | un => trivial
    | dat d => obtain ⟨x, ex, r⟩ := z; exact ⟨x, ex, r.at⟩
    | own ds => obtain ⟨c, xs, ev, ha, h0, hf, r⟩ := z; exact ⟨c, xs, ev, ha, h0, hf, r.at⟩
    | dic ks => obtain ⟨c, xs, ev, ha, h0, hf, r⟩ := z; exact ⟨c, xs, ev, ha, h0, hf, r.at⟩
    | exc => trivial
  · obtain ⟨s', q1, rfl⟩ := get h1
    obtain ⟨t', q2, rfl⟩ := get h2
    exact S.sep i j s' t' c hij q1 q2 (own o1) (own o2)
/-! ### try -/
/-- the suite for the class c -/
def gsel : List (Str × (En → Fl)) → Str → En → Fl
  | [], _ => fun _ => .bad
  | p :: r, c => if c = p.1 then p.2 else gsel r c
def endX (i : Nat) : Fl → Fl
  | .nx e => .nx (unX (e.set i .un))
  | .bk e => .bk (unX (e.set i .un))
  | .ct e => .ct (unX (e.set i .un))
  | .rt d => .rt d
  | .ex _ _ => .bad
  | .bad => .bad
def stryA (i : Nat) (l : List (Str × (En → Fl))) (A : En → Fl) : En → Fl := fun e => match A e with
  | .ex c e1 => endX i (gsel l c ((unX e1).set i .exc))
  | r => r
def noE : Fl → Fl
  | .ex _ _ => .bad
  | r => r
def stry (l : List (Str × (En → Fl))) (A : En → Fl) : En → Fl := fun e => match A e with
  | .ex c e1 => noE (gsel l c e1)
  | r => r
/-- the suites -/
def Hs (X : Cx) (y : Str) (as : Bool) (suite : List Stmt) (l : List (Str × (En → Fl))) : Prop := ∀ p ∈ l, ∃ C D, X.mg p.1 = some (.ref C) ∧ X.mg y = some (.ref D) ∧ PySem.W.exmOne X.K (.ref C) (.ref D) = some true ∧
  ∀ (a : Addr) (oe : Obj) (pn : List (Addr × Obj)), Zc (.ref C) none oe → (∃ vs, oe.data = .fields vs) → PSs (X.suite a ((a, oe) :: pn)) suite (tS (X.kw (if as then a else 0)) W0 p.2)
theorem hsNil {X : Cx} {y : Str} {as : Bool} {suite : List Stmt} : Hs X y as suite [] := fun _ h => nomatch h
/-- where the caught error stands -/
structure Cs (X : Cx) (c : Str) (a : Addr) (oe : Obj) (pn : List (Addr × Obj)) : Prop where
  nd : X.N.Nodup
  ex : ∃ C, X.mg c = some (.ref C) ∧ Zc (.ref C) none oe ∧ (∃ vs, oe.data = .fields vs) ∧ ExcC X.K C
theorem hsCons {X : Cx} {k : Nat} {W : WE} {y c : Str} {as : Bool} {suite : List Stmt} {A : En → Fl} {l : List (Str × (En → Fl))} (z : Cz X k W) (h : Hit X.K X.mg y c)
    (hs : ∀ (a : Addr) (oe : Obj) (pn : List (Addr × Obj)), Cs X c a oe pn → PSs (X.suite a ((a, oe) :: pn)) suite (tS (X.kw (if as then a else 0)) W0 A)) (r : Hs X y as suite l) : Hs X y as suite ((c, A) :: l) := fun p hp => by
  rcases List.mem_cons.mp hp with rfl | hp
  · obtain ⟨C, D, h1, h2, h3, h4⟩ := h
    exact ⟨C, D, h1, h2, h3, fun a oe pn zc hf => hs a oe pn ⟨z.nd, C, h1, zc, hf, h4⟩⟩
  · exact r p hp
theorem gsel_get : ∀ (l : List (Str × (En → Fl))) (c : Str), (∃ A, (c, A) ∈ l ∧ gsel l c = A) ∨ gsel l c = fun _ => .bad
  | [], _ => .inr rfl
  | p :: r, c => by
    by_cases h : c = p.1
    · left
      refine ⟨p.2, by rw [h]; exact List.mem_cons_self, ?_⟩
      unfold gsel
      rw [if_pos h]
    · have e : gsel (p :: r) c = gsel r c := by
        conv => lhs; unfold gsel
        rw [if_neg h]
      rw [e]
      rcases gsel_get r c with ⟨A, h1, h2⟩ | h1
      · exact .inl ⟨A, List.mem_cons_of_mem _ h1, h2⟩
      · exact .inr h1
def weOf (mg : Str → Option Value) (W : WX) : WE := fun c σ H => ∀ cls, mg c = some cls → W cls none σ H
theorem Cz.tr {X : Cx} {k : Nat} {W : WE} (z : Cz X k W) {pn : List (Addr × Obj)} {xe : Value → Shared → Prop} {W' : WX} (tk : Takes (X.tr pn xe) W') (po : PassesOwn (model X.prog X.w) X.A X.env xe) : Cz (X.tr pn xe) k (weOf X.mg W') :=
  ⟨z.calm, z.nd, tk.imp fun cls d σ H h => by
    obtain ⟨rfl, c, hc, q⟩ := h
    exact q cls hc, po, z.rm⟩
theorem PSs_ex {X : Cx} {ss : List Stmt} {ι : Type} {t : ι → TS} (h : ∀ i, PSs X ss (t i)) : PSs X ss (fun D σ H => ∃ i, t i D σ H) := ⟨fun pins s σ H D I ⟨i, q⟩ => (h i).run pins s σ H D I q⟩
section
variable {X : Cx} {k : Nat} {W : WE} {y n : Str} {i : Nat} {body suite : List Stmt} {b₀ : Stmt} {np pos pos' : Pos} {A : En → Fl} {l : List (Str × (En → Fl))}
theorem sTryA (i : Nat) (z : Cz X k W) (hh : Hs X y true (b₀ :: suite) l) (hb : ∀ (W' : WE) (pn : List (Addr × Obj)) (xe : Value → Shared → Prop), Cz (X.tr pn xe) k W' → PSs (X.tr pn xe) body (tS (X.kw 0) W' A))
    (cM : ∃ D, X.mg y = some (.ref D)) (hs : X.stack = X.env :: X.outer := by rfl) (hf : X.env.frame = some X.env.locals := by rfl) (hi : X.N[i]? = some n := by rfl) (hln : X.env.kindOf n = some .local := by rfl) (hg : Gl X y := by rfl) (hdb : (y == ("__debug__" : Str)) = false := by decide) :
    PS X (.Try body [.ExceptHandler (some (.Name y np)) (some n) (b₀ :: suite) pos'] [] [] pos) (tS (X.kw 0) W (stryA i l A)) := by
  obtain ⟨D, hD⟩ := cM
  let J := { q : (Str × (En → Fl)) × Addr // q.1 ∈ l ∧ X.mg q.1.1 = some (.ref q.2) }
  let ts : Addr → Value → Option Addr → TS := fun a cls d Dn σ H => ∃ q : { q : (Str × (En → Fl)) // q ∈ l ∧ X.mg q.1 = some cls ∧ d = none }, tS (X.kw a) W0 q.1.2 Dn σ H
  refine PS_weak (ps_try_as (i := i) (c := .ref D) (ts := ts) (Wout := wx X.mg W) (tb := fun W' => tS (X.kw 0) (weOf X.mg W') A) hs hf z.nd hi hln ⟨hg, hdb, .inl hD⟩ z.tk (fun W' pn xe tk po => hb _ pn xe (z.tr tk po)) fun a oe cls d pn zc hfl => PSs_ex fun q => ?_) fun Dn σ H h => ?_
  · obtain ⟨⟨c, B⟩, hq, hm, rfl⟩ := q
    obtain ⟨C, D', h1, h2, h3, h4⟩ := hh (c, B) hq
    have hm : X.mg c = some cls := hm
    have h1 : X.mg c = some (.ref C) := h1
    rw [h1] at hm
    cases hm
    exact h4 a oe pn zc hfl
  · obtain ⟨H0, Hf0, Hf, e, S, p⟩ := h
    refine ⟨H0, Hf0, Hf, e, S, ?_⟩
    unfold stryA at p
    revert p
    cases A e with
    | nx e1 => exact fun p => p
    | rt d => exact fun p => p
    | bk e1 => exact fun p => p
    | ct e1 => exact fun p => p
    | bad => exact fun p => p
    | ex c e1 =>
      show PoS (X.kw 0) W Dn H0 Hf0 Hf (endX i (gsel l c ((unX e1).set i .exc))) → _
      rcases gsel_get l c with ⟨B, hmem, eq⟩ | eq
      · rw [eq]
        intro p σ1 Hf1 H1 S1 s1 cls hcls
        obtain ⟨C, D', h1, h2, h3, h4⟩ := hh (c, B) hmem
        have h1 : X.mg c = some (.ref C) := h1
        have ec : cls = .ref C := Option.some.inj (hcls.symm.trans h1)
        have eD : D' = D := by
          rw [hD] at h2
          injection h2 with h2; injection h2 with h2; exact h2.symm
        subst ec eD
        refine ⟨true, h3, fun _ a na => ⟨⟨(c, B), hmem, h1, rfl⟩, H0, Hf0, Hf1, (unX e1).set i .exc, ?_, ?_⟩, fun q => nomatch q⟩
        · exact (S1.at (b := a)).put i (some (.ref a)) .exc rfl fun o => nomatch o
        · have p1 := PoS.same p s1
          revert p1
          show PoS (X.kw 0) W Dn H0 Hf0 Hf1 (endX i (B ((unX e1).set i .exc))) → PoS (X.kw a) W0 _ H0 Hf0 Hf1 (B ((unX e1).set i .exc))
          cases B ((unX e1).set i .exc) with
          | nx e2 => exact fun p1 σ2 Hf2 H2 S2 s2 => p1 (σ2.set i none) Hf2 H2 ((S2.put i none .un trivial fun o => nomatch o).at) s2
          | bk e2 => exact fun p1 σ2 Hf2 H2 S2 s2 => p1 (σ2.set i none) Hf2 H2 ((S2.put i none .un trivial fun o => nomatch o).at) s2
          | ct e2 => exact fun p1 σ2 Hf2 H2 S2 s2 => p1 (σ2.set i none) Hf2 H2 ((S2.put i none .un trivial fun o => nomatch o).at) s2
          | rt d => exact fun p1 v Hf2 H2 g r => p1 v Hf2 H2 g r.at
          | ex c e2 => exact fun p1 => p1.elim
          | bad => exact fun p1 => p1
      · rw [eq]
        exact fun p => p.elim
theorem sTry (z : Cz X k W) (hh : Hs X y false (b₀ :: suite) l) (hb : ∀ (W' : WE) (pn : List (Addr × Obj)) (xe : Value → Shared → Prop), Cz (X.tr pn xe) k W' → PSs (X.tr pn xe) body (tS (X.kw 0) W' A))
    (cM : ∃ D, X.mg y = some (.ref D)) (hs : X.stack = X.env :: X.outer := by rfl) (hf : X.env.frame = some X.env.locals := by rfl) (hg : Gl X y := by rfl) (hdb : (y == ("__debug__" : Str)) = false := by decide) :
    PS X (.Try body [.ExceptHandler (some (.Name y np)) none (b₀ :: suite) pos'] [] [] pos) (tS (X.kw 0) W (stry l A)) := by
  obtain ⟨D, hD⟩ := cM
  let ts : Addr → Value → Option Addr → TS := fun a cls d Dn σ H => ∃ q : { q : (Str × (En → Fl)) // q ∈ l ∧ X.mg q.1 = some cls ∧ d = none }, tS (X.kw 0) W0 q.1.2 Dn σ H
  refine PS_weak (ps_try_only (c := .ref D) (ts := ts) (Wout := wx X.mg W) (tb := fun W' => tS (X.kw 0) (weOf X.mg W') A) hs hf ⟨hg, hdb, .inl hD⟩ z.tk (fun W' pn xe tk po => hb _ pn xe (z.tr tk po)) fun a oe cls d pn zc hfl => PSs_ex fun q => ?_) fun Dn σ H h => ?_
  · obtain ⟨⟨c, B⟩, hq, hm, rfl⟩ := q
    obtain ⟨C, D', h1, h2, h3, h4⟩ := hh (c, B) hq
    have hm : X.mg c = some cls := hm
    have h1 : X.mg c = some (.ref C) := h1
    rw [h1] at hm
    cases hm
    exact h4 a oe pn zc hfl
  · obtain ⟨H0, Hf0, Hf, e, S, p⟩ := h
    refine ⟨H0, Hf0, Hf, e, S, ?_⟩
    unfold stry at p
    revert p
    cases A e with
    | nx e1 => exact fun p => p
    | rt d => exact fun p => p
    | bk e1 => exact fun p => p
    | ct e1 => exact fun p => p
    | bad => exact fun p => p
    | ex c e1 =>
      show PoS (X.kw 0) W Dn H0 Hf0 Hf (noE (gsel l c e1)) → _
      rcases gsel_get l c with ⟨B, hmem, eq⟩ | eq
      · rw [eq]
        intro p σ1 Hf1 H1 S1 s1 cls hcls
        obtain ⟨C, D', h1, h2, h3, h4⟩ := hh (c, B) hmem
        have h1 : X.mg c = some (.ref C) := h1
        have ec : cls = .ref C := Option.some.inj (hcls.symm.trans h1)
        have eD : D' = D := by
          rw [hD] at h2
          injection h2 with h2; injection h2 with h2; exact h2.symm
        subst ec eD
        refine ⟨true, h3, fun _ a na => ⟨⟨(c, B), hmem, h1, rfl⟩, H0, Hf0, Hf1, e1, S1, ?_⟩, fun q => nomatch q⟩
        have p1 := PoS.same p s1
        revert p1
        show PoS (X.kw 0) W Dn H0 Hf0 Hf1 (noE (B e1)) → PoS (X.kw 0) W0 Dn H0 Hf0 Hf1 (B e1)
        cases B e1 with
        | nx e2 => exact fun p1 => p1
        | bk e2 => exact fun p1 => p1
        | ct e2 => exact fun p1 => p1
        | rt d => exact fun p1 => p1
        | ex c e2 => exact fun p1 => p1.elim
        | bad => exact fun p1 => p1
      · rw [eq]
        exact fun p => p.elim
end
/-! ### in a suite -/
def xisx (i : Nat) (b : Bool) : En → R D := fun e => match e[i]? with
  | some .exc => .ok (.bool b)
  | _ => .bad
section
variable {X : Cx} {W : WE} {c x y : Str} {i : Nat} {a : Addr} {oe : Obj} {pn : List (Addr × Obj)} {b : Bool} {p px py pos : Pos} {T : String}
theorem isx_of {te : TA} (hcs : Cs X c a oe pn) {ts : TE} {v : V} {cv : Value} (hv : ∀ u, RelV v u → u = cv) (hkit : ∀ C, X.mg c = some (.ref C) → PySem.W.kitOne X.K (.ref C) cv = some b) {e2 : Expr} (h2 : PE (X.suite a ((a, oe) :: pn)) e2 (tC v))
    (hx : PE (X.suite a ((a, oe) :: pn)) (.Name x px) (tVar i)) (hg : Gl X "isinstance") (hm : X.mg "isinstance" = none) (he2 : starEach [.Name x px, e2] X.env = (false, eval (.Name x px) X.env) :: starEach [e2] X.env) (he3 : starEach [e2] X.env = [(false, eval e2 X.env)]) :
    PE (X.suite a ((a, oe) :: pn)) (.Call (.Name "isinstance" p) [.Name x px, e2] [] pos) (tE (X.kw a) W (xisx i b)) := by
  obtain ⟨nd, C, hc, zc, hf, ec⟩ := hcs
  refine PE_weak (pe_callB (X := X.suite a ((a, oe) :: pn)) (call_isE ec zc hf) hg hm bt_isinstance (pa_cons hx (pa_cons h2 pa_nil he3) he2) (by decide) (by decide) he2 (by rw [he3]; rfl)) fun σ H Q ⟨H0, Hf0, Hf, e, S, pp⟩ => ?_
  unfold xisx at pp
  cases q : e[i]? with
  | none => rw [q] at pp; exact pp.elim
  | some s =>
    rw [q] at pp
    cases s with
    | exc =>
      obtain ⟨u, hu⟩ := S.lt q
      have hz : u = some (.ref a) := S.sl i .exc u q hu
      subst hz
      exact ⟨_, hu, v, cv, b, rfl, hv, hkit C hc, pp _ Hf H (Grow.refl S.gr.fh) (.bl b)⟩
    | un => exact pp.elim
    | dat d => exact pp.elim
    | own ds => exact pp.elim
    | dic ks => exact pp.elim
theorem xIsO (hcs : Cs X c a oe pn) (hkit : Kit X.K X.mg c y b) (hx : PE (X.suite a ((a, oe) :: pn)) (.Name x px) (tVar i)) (hm : X.mg "isinstance" = none) (hg : Gl X "isinstance" := by rfl) (hgy : Gl X y := by rfl) (hdb : (y == ("__debug__" : Str)) = false := by decide)
    (he2 : starEach [.Name x px, .Name y py] X.env = (false, eval (.Name x px) X.env) :: starEach [.Name y py] X.env := by rfl) (he3 : starEach [Expr.Name y py] X.env = [(false, eval (.Name y py) X.env)] := by rfl) :
    PE (X.suite a ((a, oe) :: pn)) (.Call (.Name "isinstance" p) [.Name x px, .Name y py] [] pos) (tE (X.kw a) W (xisx i b)) := by
  obtain ⟨C, D, h1, h2, h3⟩ := hkit
  exact isx_of (te := fun _ _ _ => True) (ts := fun _ _ _ => True) hcs (v := .ref D) (cv := .ref D) (fun u h => h) (fun C' hC => by rw [h1] at hC; injection hC with hC; injection hC with hC; subst hC; exact h3) (pe_glob (X := X.suite a ((a, oe) :: pn)) hgy h2 rfl hdb) hx hg hm he2 he3
theorem xIsB (hcs : Cs X c a oe pn) (hkit : KitT X.K X.mg c T b) (hv : bootBuiltins y = some (.type T)) (hmy : X.mg y = none) (hx : PE (X.suite a ((a, oe) :: pn)) (.Name x px) (tVar i)) (hm : X.mg "isinstance" = none) (hg : Gl X "isinstance" := by rfl) (hgy : Gl X y := by rfl) (hn : y ≠ "__name__" := by decide) (hdb : (y == ("__debug__" : Str)) = false := by decide)
    (he2 : starEach [.Name x px, .Name y py] X.env = (false, eval (.Name x px) X.env) :: starEach [.Name y py] X.env := by rfl) (he3 : starEach [Expr.Name y py] X.env = [(false, eval (.Name y py) X.env)] := by rfl) :
    PE (X.suite a ((a, oe) :: pn)) (.Call (.Name "isinstance" p) [.Name x px, .Name y py] [] pos) (tE (X.kw a) W (xisx i b)) := by
  obtain ⟨C, h1, h3⟩ := hkit
  exact isx_of (te := fun _ _ _ => True) (ts := fun _ _ _ => True) hcs (v := .ty T) (cv := .type T) (fun u h => h) (fun C' hC => by rw [h1] at hC; injection hC with hC; injection hC with hC; subst hC; exact h3) (pe_bltn (X := X.suite a ((a, oe) :: pn)) (v := .ty T) hgy hmy hv rfl hn hdb) hx hg hm he2 he3
end
section
variable {X : Cx} {W : WE} {a : Expr} {F : En → R D} {pos px : Pos} {x : Str}
theorem sLetS (i : Nat) (nd : X.N.Nodup) (he : PE X a (tE (X.kw ea) W F)) (hi : X.N[i]? = some x := by rfl) (hx : Loc X.env.scope x := by first | exact .inl rfl | exact .inr rfl) (hs : swapsWith a (some (.Name x px)) pos.line X.env = pure false := by rfl) (hf : X.fn x = true ∨ X.env.scope.names.lookup x = some .local := by first | exact .inl rfl | exact .inr rfl) :
    PS X (.Assign [.Name x px] a pos) (tS (X.kw ea) W (sasg i F)) := sAsg nd hi hx he hs hf
end
theorem bt_ValueError : bootBuiltins "ValueError" = some (.type "ValueError") := by decide +kernel
end Pu
/-! Ev: how the words compute -/
namespace Pu
open PySem L2
/-! ### results and flows -/
def Fl.andThen (r : Fl) (B : En → Fl) : Fl := match r with
  | .nx e => B e
  | r => r
@[simp] theorem then_nx (e : En) (B : En → Fl) : (Fl.nx e).andThen B = B e := rfl
@[simp] theorem then_rt (d : D) (B : En → Fl) : (Fl.rt d).andThen B = .rt d := rfl
@[simp] theorem then_bk (e : En) (B : En → Fl) : (Fl.bk e).andThen B = .bk e := rfl
@[simp] theorem then_ct (e : En) (B : En → Fl) : (Fl.ct e).andThen B = .ct e := rfl
@[simp] theorem then_ex (c : Str) (e : En) (B : En → Fl) : (Fl.ex c e).andThen B = .ex c e := rfl
@[simp] theorem sseq_ev (A B : En → Fl) (e : En) : sseq A B e = (A e).andThen B := by
  unfold sseq Fl.andThen
  cases A e <;> rfl
@[simp] theorem snil_ev (e : En) : snil e = .nx e := rfl
@[simp] theorem scont_ev (e : En) : scont e = .ct e := rfl
@[simp] theorem liftE_ok (d : D) (e : En) (f : D → Fl) : liftE (.ok d) e f = f d := rfl
@[simp] theorem liftE_ex (c : Str) (e : En) (f : D → Fl) : liftE (.ex c) e f = .ex c e := rfl
@[simp] theorem sasg_ev (i : Nat) (F : En → R D) (e : En) : sasg i F e = liftE (F e) e fun d => .nx (e.set i (.dat d)) := rfl
def liftL (r : R (List D)) (e : En) (f : List D → Fl) : Fl := match r with
  | .ok d => f d
  | .ex c => .ex c e
  | .bad => .bad
@[simp] theorem liftL_ok (d : List D) (e : En) (f : List D → Fl) : liftL (.ok d) e f = f d := rfl
@[simp] theorem sasgN_ev (i : Nat) (F : En → R (List D)) (e : En) : sasgN i F e = liftL (F e) e fun d => .nx (e.set i (.own d)) := by
  unfold sasgN liftL
  cases F e <;> rfl
def optF (o : Option En) : Fl := match o with
  | some e' => .nx e'
  | none => .bad
@[simp] theorem optF_some (e : En) : optF (some e) = .nx e := rfl
@[simp] theorem sasgT_ev (f : Tg) (F : En → R D) (e : En) : sasgT f F e = liftE (F e) e fun d => optF (f d e) := rfl
def retF (r : R D) (e : En) : Fl := match r with
  | .ok d => .rt d
  | .ex c => .ex c e
  | .bad => .bad
@[simp] theorem retF_ok (d : D) (e : En) : retF (.ok d) e = .rt d := rfl
@[simp] theorem retF_ex (c : Str) (e : En) : retF (.ex c) e = .ex c e := rfl
@[simp] theorem sret_ev (F : En → R D) (e : En) : sret F e = retF (F (fz e)) (fz e) := by
  unfold sret retF
  cases F (fz e) <;> rfl
@[simp] theorem fz_nil : fz [] = [] := rfl
@[simp] theorem fz_cons (s : Sl) (e : En) : fz (s :: e) = frz1 s :: fz e := rfl
@[simp] theorem frz1_dat (d : D) : frz1 (.dat d) = .dat d := rfl
@[simp] theorem frz1_un : frz1 .un = .un := rfl
@[simp] theorem frz1_own (ds : List D) : frz1 (.own ds) = .dat (.list ds) := rfl
@[simp] theorem frz1_dic (ds : List (D × D)) : frz1 (.dic ds) = .dat (.dict ds) := rfl
@[simp] theorem sif_t {T : En → R Bool} {A B : En → Fl} {e : En} (h : T e = .ok true) : sif T A B e = A e := by unfold sif; rw [h]
@[simp] theorem sif_f {T : En → R Bool} {A B : En → Fl} {e : En} (h : T e = .ok false) : sif T A B e = B e := by unfold sif; rw [h]
theorem sif_b {T : En → R Bool} {A B : En → Fl} {e : En} {b : Bool} (h : T e = .ok b) : sif T A B e = if b = true then A e else B e := by unfold sif; rw [h]; cases b <;> rfl
/-! ### names, operations -/
@[simp] theorem xvE_ev (i : Nat) (e : En) : xvE i e = getE e i := rfl
@[simp] theorem xvV_ev (i : Nat) (e : En) : xvV i e = getV e i := rfl
@[simp] theorem getE_z (d : D) (e : En) : getE (.dat d :: e) 0 = .ok d := rfl
@[simp] theorem getE_s (s : Sl) (e : En) (i : Nat) : getE (s :: e) (i + 1) = getE e i := rfl
@[simp] theorem getV_z (d : D) (e : En) : getV (.dat d :: e) 0 = .ok d := rfl
@[simp] theorem getV_o (d : List D) (e : En) : getV (.own d :: e) 0 = .ok (.list d) := rfl
@[simp] theorem getV_d (d : List (D × D)) (e : En) : getV (.dic d :: e) 0 = .ok (.dict d) := rfl
@[simp] theorem getV_s (s : Sl) (e : En) (i : Nat) : getV (s :: e) (i + 1) = getV e i := rfl
@[simp] theorem xc_ev (d : D) (e : En) : xc d e = .ok d := rfl
@[simp] theorem bin_ev (f : D → D → Option D) (F G : En → R D) (e : En) : bin f F G e = (F e).bind fun x => (G e).bind fun y => opt (f x y) := rfl
@[simp] theorem un1_ev (f : D → Option D) (F : En → R D) (e : En) : un1 f F e = (F e).bind fun x => opt (f x) := rfl
@[simp] theorem un1N_ev (f : D → Option (List D)) (F : En → R D) (e : En) : un1N f F e = (F e).bind fun x => opt (f x) := rfl
@[simp] theorem binN_ev (f : D → D → Option (List D)) (F G : En → R D) (e : En) : binN f F G e = (F e).bind fun x => (G e).bind fun y => opt (f x y) := rfl
@[simp] theorem asL_ev (F : En → R (List D)) (e : En) : asL F e = (F e).bind fun ds => .ok (.list ds) := rfl
@[simp] theorem lnil_ev (e : En) : lnil e = .ok [] := rfl
@[simp] theorem lcons_ev (F : En → R D) (L : En → R (List D)) (e : En) : lcons F L e = (F e).bind fun d => (L e).bind fun ds => .ok (d :: ds) := rfl
@[simp] theorem xtup_ev (L : En → R (List D)) (e : En) : xtup L e = (L e).bind mkT := rfl
@[simp] theorem xlst_ev (L : En → R (List D)) (e : En) : xlst L e = (L e).bind mkL := rfl
@[simp] theorem mkT_ev {ds : List D} (h : ds.length ≤ 1000000) : mkT ds = .ok (.tuple ds) := by unfold mkT many; rw [if_pos h]
@[simp] theorem mkL_ev {ds : List D} (h : ds.length ≤ 1000000) : mkL ds = .ok ds := by unfold mkL many; rw [if_pos h]
@[simp] theorem xtru_ev (F : En → R D) (e : En) : xtru F e = (F e).bind fun d => opt (truD d) := rfl
@[simp] theorem xnot_ev (F : En → R D) (e : En) : xnot F e = (xtru F e).bind fun k => .ok (.bool (!k)) := rfl
def blD : D → R Bool
  | .bool b => .ok b
  | _ => .bad
@[simp] theorem blD_b (b : Bool) : blD (.bool b) = .ok b := rfl
@[simp] theorem xbl_ev (F : En → R D) (e : En) : xbl F e = (F e).bind blD := rfl
@[simp] theorem tand_ev (T U : En → R Bool) (e : En) : tand T U e = (T e).bind fun k => if k = true then U e else .ok false := rfl
@[simp] theorem tor_ev (T U : En → R Bool) (e : En) : tor T U e = (T e).bind fun k => if k = true then .ok true else U e := rfl
@[simp] theorem tnot_ev (T : En → R Bool) (e : En) : tnot T e = (T e).bind fun k => .ok (!k) := rfl
@[simp] theorem tyes_ev (e : En) : tyes e = .ok true := rfl
@[simp] theorem xif_ev (T : En → R Bool) (F G : En → R D) (e : En) : xif T F G e = (T e).bind fun k => if k = true then F e else G e := rfl
@[simp] theorem xandV_ev (F G : En → R D) (e : En) : xandV F G e = (F e).bind fun d => (opt (truD d)).bind fun k => if k = true then G e else .ok d := rfl
@[simp] theorem xorV_ev (F G : En → R D) (e : En) : xorV F G e = (F e).bind fun d => (opt (truD d)).bind fun k => if k = true then .ok d else G e := rfl
@[simp] theorem onone_ev (e : En) : onone e = .ok none := rfl
def intO : D → R (Option Int)
  | .int i => .ok (some i)
  | _ => .bad
@[simp] theorem intO_i (i : Int) : intO (.int i) = .ok (some i) := rfl
@[simp] theorem osome_ev (F : En → R D) (e : En) : osome F e = (F e).bind intO := rfl
@[simp] theorem xsl_ev (F : En → R D) (L U : En → R (Option Int)) (e : En) : xsl F L U e = (F e).bind fun d => (L e).bind fun lo => (U e).bind fun hi => opt (sliceD d lo hi) := rfl
@[simp] theorem xcall_ev {n : Nat} {Fn : List D → R D} {L : En → R (List D)} {e : En} : xcall n Fn L e = (L e).bind fun ds => if ds.length = n then Fn ds else .bad := rfl
@[simp] theorem iseq_ev (F : En → R D) (e : En) : iseq F e = (F e).bind fun d => opt (seqD d) := rfl
@[simp] theorem ienum_ev (F : En → R D) (e : En) : ienum F e = (F e).bind fun d => opt ((listN d).map enumL) := rfl
@[simp] theorem izip_ev (F G : En → R D) (e : En) : izip F G e = (F e).bind fun d => (G e).bind fun d' => opt (zipD d d') := rfl
@[simp] theorem irng1_ev (F : En → R D) (e : En) : irng1 F e = (F e).bind fun d => opt (rng1 d) := rfl
@[simp] theorem irng2_ev (F G : En → R D) (e : En) : irng2 F G e = (F e).bind fun d => (G e).bind fun d' => opt (rng2 d d') := rfl
@[simp] theorem gn_ev (i : Nat) (d : D) (e : En) : gn i d e = some (e.set i (.dat d)) := rfl
@[simp] theorem gnil_ev (e : En) : gnil [] e = some e := rfl
@[simp] theorem gcons_ev (f : Tg) (g : List D → En → Option En) (d : D) (ds : List D) (e : En) : gcons f g (d :: ds) e = (f d e).bind (g ds) := rfl
@[simp] theorem gtup_ev (g : List D → En → Option En) (ds : List D) (e : En) : gtup g (.tuple ds) e = g ds e := rfl
@[simp] theorem gtup_pair (g : List D → En → Option En) (x y : D) (e : En) : gtup g (pairD x y) e = g [x, y] e := rfl
@[simp] theorem add_ii (i j : Int) : addD (.int i) (.int j) = some (.int (i + j)) := rfl
@[simp] theorem sub_ii (i j : Int) : subD (.int i) (.int j) = some (.int (i - j)) := rfl
@[simp] theorem neg_i (i : Int) : negD (.int i) = some (.int (-i)) := rfl
theorem mul_ii {i j : Int} (h : small64 i = true ∨ small64 j = true) : mulD (.int i) (.int j) = some (.int (i * j)) := by
  show (if small64 i || small64 j then some (PyData.int (i * j)) else none) = _
  rw [if_pos (by rw [Bool.or_eq_true]; exact h)]
theorem small_le {i : Int} (h0 : -1000000000000000000 ≤ i) (h : i ≤ 1000000000000000000) : small64 i = true := by
  unfold small64
  rw [Bool.and_eq_true]
  exact ⟨decide_eq_true (by omega), decide_eq_true (by omega)⟩
theorem mod_ii {i j : Int} (h : 0 < j) : modD (.int i) (.int j) = some (.int (i % j)) := by
  show (if 0 < j then some (PyData.int (i % j)) else none) = _
  rw [if_pos h]
theorem fdiv_ii {i j : Int} (h : 0 < j) (h2 : j < 1073741824) : fdivD (.int i) (.int j) = some (.int (i / j)) := by
  show (if 0 < j ∧ j < 1073741824 then some (PyData.int (i / j)) else none) = _
  rw [if_pos ⟨h, h2⟩]
@[simp] theorem lt_ii (i j : Int) : ltD (.int i) (.int j) = some (.bool (decide (i < j))) := rfl
@[simp] theorem le_ii (i j : Int) : leD (.int i) (.int j) = some (.bool (decide (i ≤ j))) := rfl
@[simp] theorem gt_ii (i j : Int) : gtD (.int i) (.int j) = some (.bool (decide (j < i))) := rfl
@[simp] theorem ge_ii (i j : Int) : geD (.int i) (.int j) = some (.bool (decide (j ≤ i))) := rfl
@[simp] theorem max2_ii (i j : Int) : max2D (.int i) (.int j) = some (.int (max i j)) := by
  show some (PyData.int (if j > i then j else i)) = _
  congr 2
  omega
@[simp] theorem min2_ii (i j : Int) : min2D (.int i) (.int j) = some (.int (min i j)) := by
  show some (PyData.int (if j < i then j else i)) = _
  congr 2
  omega
@[simp] theorem is_none (x : D) : isD x .none = some (.bool (isNoneD x)) := by cases x <;> rfl
@[simp] theorem isNot_none (x : D) : isNotD x .none = some (.bool (!isNoneD x)) := by cases x <;> rfl
@[simp] theorem is_bb (a b : Bool) : isD (.bool a) (.bool b) = some (.bool (a == b)) := rfl
@[simp] theorem isNot_bb (a b : Bool) : isNotD (.bool a) (.bool b) = some (.bool (!(a == b))) := rfl
@[simp] theorem isNone_n : isNoneD .none = true := rfl
@[simp] theorem isNone_i (i : Int) : isNoneD (.int i) = false := rfl
@[simp] theorem isNone_t (ds : List D) : isNoneD (.tuple ds) = false := rfl
@[simp] theorem isNone_l (ds : List D) : isNoneD (.list ds) = false := rfl
@[simp] theorem isNone_s (x : Str) : isNoneD (.str x) = false := rfl
@[simp] theorem isNone_b (x : Bool) : isNoneD (.bool x) = false := rfl
@[simp] theorem len_l (ds : List D) : lenD (.list ds) = some (.int ds.length) := rfl
@[simp] theorem len_t (ds : List D) : lenD (.tuple ds) = some (.int ds.length) := rfl
@[simp] theorem tuple_l (ds : List D) : tupleD (.list ds) = some (.tuple ds) := rfl
@[simp] theorem tuple_t (ds : List D) : tupleD (.tuple ds) = some (.tuple ds) := rfl
@[simp] theorem list_l (ds : List D) : listN (.list ds) = some ds := rfl
@[simp] theorem list_t (ds : List D) : listN (.tuple ds) = some ds := rfl
@[simp] theorem seq_l (ds : List D) : seqD (.list ds) = some ds := rfl
@[simp] theorem seq_t (ds : List D) : seqD (.tuple ds) = some ds := rfl
@[simp] theorem tru_b (b : Bool) : truD (.bool b) = some b := rfl
@[simp] theorem tru_i (i : Int) : truD (.int i) = some (i != 0) := rfl
@[simp] theorem tru_n : truD .none = some false := rfl
@[simp] theorem tru_l (ds : List D) : truD (.list ds) = some (!ds.isEmpty) := rfl
@[simp] theorem tru_t (ds : List D) : truD (.tuple ds) = some (!ds.isEmpty) := rfl
@[simp] theorem int_b (b : Bool) : intD (.bool b) = some (.int (if b then 1 else 0)) := rfl
@[simp] theorem int_i (i : Int) : intD (.int i) = some (.int i) := rfl
theorem atI_n {α : Type} (xs : List α) (i : Nat) : atI xs (i : Int) = xs[i]? := by
  unfold atI ixN
  by_cases h : i < xs.length
  · simp [h]
  · rw [if_pos (by omega), if_neg (by omega), List.getElem?_eq_none (by omega)]; rfl
@[simp] theorem ix_l (ds : List D) (i : Int) : ixD (.list ds) (.int i) = atI ds i := rfl
@[simp] theorem ix_t (ds : List D) (i : Int) : ixD (.tuple ds) (.int i) = atI ds i := rfl
@[simp] theorem atI_0 {α : Type} (x : α) (xs : List α) : atI (x :: xs) 0 = some x := atI_n (x :: xs) 0
@[simp] theorem atI_1 {α : Type} (x y : α) (xs : List α) : atI (x :: y :: xs) 1 = some y := atI_n (x :: y :: xs) 1
@[simp] theorem atI_2 {α : Type} (x y z : α) (xs : List α) : atI (x :: y :: z :: xs) 2 = some z := atI_n (x :: y :: z :: xs) 2
@[simp] theorem rev_t (ds : List D) : revD (.tuple ds) = some (.tuple ds.reverse) := rfl
/-- a def's call -/
theorem runD_rt {m : Nat} {B : En → Fl} {ds : List D} {d : D} (h : B (startE m ds) = .rt d) : runD m B ds = .ok d := by unfold runD; rw [h]
theorem runD_nx {m : Nat} {B : En → Fl} {ds : List D} {e : En} (h : B (startE m ds) = .nx e) : runD m B ds = .ok .none := by unfold runD; rw [h]
theorem runD_ex {m : Nat} {B : En → Fl} {ds : List D} {c : Str} {e : En} (h : B (startE m ds) = .ex c e) : runD m B ds = .ex c := by unfold runD; rw [h]
/-! ### comprehensions -/
theorem lcL_map {α : Type} {enc : α → D} {f : Tg} {T : En → R Bool} {E : En → R D} {e : En} {t : α → Bool} {g : α → D} : ∀ (xs : List α), (∀ x ∈ xs, ∃ e1, f (enc x) e = some e1 ∧ T e1 = .ok (t x) ∧ (t x = true → E e1 = .ok (g x))) →
    lcL f T E e (xs.map enc) = .ok ((xs.filter t).map g)
  | [], _ => rfl
  | x :: xs, h => by
    obtain ⟨e1, h1, h2, h3⟩ := h x List.mem_cons_self
    have ih := lcL_map (enc := enc) (f := f) (T := T) (E := E) (e := e) (t := t) (g := g) xs fun y hy => h y (List.mem_cons_of_mem _ hy)
    rw [List.map_cons]
    unfold lcL
    rw [h1, ih, opt_some, bind_ok, h2, bind_ok]
    cases ht : t x with
    | true => rw [if_pos rfl, h3 ht, List.filter_cons_of_pos (by rw [ht])]; rfl
    | false => rw [if_neg Bool.false_ne_true, List.filter_cons_of_neg (by rw [ht]; exact Bool.false_ne_true)]
theorem xlc_map {α : Type} {enc : α → D} {vs : List Nat} {L : En → R (List D)} {f : Tg} {T : En → R Bool} {E : En → R D} {e : En} {xs : List α} (t : α → Bool) (g : α → D) (hL : L e = .ok (xs.map enc)) (hl : xs.length ≤ 1000000)
    (h : ∀ x ∈ xs, ∃ e1, f (enc x) (wipeE e vs) = some e1 ∧ T e1 = .ok (t x) ∧ (t x = true → E e1 = .ok (g x))) : xlc vs L f T E e = .ok ((xs.filter t).map g) := by
  unfold xlc
  rw [hL, bind_ok, if_pos (by rw [List.length_map]; exact hl), lcL_map xs h]
  rfl
/-- without a test -/
theorem xlc_all {α : Type} {enc : α → D} {vs : List Nat} {L : En → R (List D)} {f : Tg} {T : En → R Bool} {E : En → R D} {e : En} {xs : List α} (g : α → D) (hL : L e = .ok (xs.map enc)) (hl : xs.length ≤ 1000000)
    (h : ∀ x ∈ xs, ∃ e1, f (enc x) (wipeE e vs) = some e1 ∧ T e1 = .ok true ∧ E e1 = .ok (g x)) : xlc vs L f T E e = .ok (xs.map g) := by
  have := xlc_map (enc := enc) (vs := vs) (L := L) (f := f) (T := T) (E := E) (e := e) (xs := xs) (fun _ => true) g hL hl fun x hx => by
    obtain ⟨e1, h1, h2, h3⟩ := h x hx
    exact ⟨e1, h1, h2, fun _ => h3⟩
  rw [this, List.filter_eq_self.mpr (fun _ _ => rfl)]
/-! ### loops -/
theorem forL_inv {α : Type} {enc : α → D} {f : Tg} {B : En → Fl} (P : List α → En → Prop) : ∀ (xs pre : List α) (e : En), P pre e →
    (∀ p x r e, pre ++ xs = p ++ x :: r → P p e → ∃ e1 e2, f (enc x) e = some e1 ∧ (B e1 = .nx e2 ∨ B e1 = .ct e2) ∧ P (p ++ [x]) e2) → ∃ e', forL f B (xs.map enc) e = .nx e' ∧ P (pre ++ xs) e'
  | [], pre, e, h, _ => ⟨e, rfl, by rw [List.append_nil]; exact h⟩
  | x :: xs, pre, e, h, st => by
    obtain ⟨e1, e2, h1, h2, h3⟩ := st pre x xs e rfl h
    have ea : pre ++ x :: xs = (pre ++ [x]) ++ xs := by rw [List.append_assoc]; rfl
    obtain ⟨e', h4, h5⟩ := forL_inv (enc := enc) (f := f) (B := B) P xs (pre ++ [x]) e2 h3 fun p y r e0 q => st p y r e0 (ea.trans q)
    refine ⟨e', ?_, by rw [ea]; exact h5⟩
    rw [List.map_cons]
    unfold forL
    rw [h1]
    rcases h2 with h2 | h2
    · show (match B e1 with | .nx e2 => _ | .ct e2 => _ | .bk e2 => _ | r => r) = _
      rw [h2]; exact h4
    · show (match B e1 with | .nx e2 => _ | .ct e2 => _ | .bk e2 => _ | r => r) = _
      rw [h2]; exact h4
/-- a loop with an invariant that hangs on nothing -/
theorem forL_stay {α : Type} {enc : α → D} {f : Tg} {B : En → Fl} (P : En → Prop) (xs : List α) (e : En) (h : P e) (st : ∀ x e, x ∈ xs → P e → ∃ e1 e2, f (enc x) e = some e1 ∧ (B e1 = .nx e2 ∨ B e1 = .ct e2) ∧ P e2) : ∃ e', forL f B (xs.map enc) e = .nx e' ∧ P e' :=
  forL_inv (fun _ e => P e) xs [] e h fun p x r e0 q h0 => st x e0 (by rw [List.nil_append] at q; rw [q]; simp) h0
/-- a loop that folds -/
theorem forL_fold {α σ : Type} {enc : α → D} {f : Tg} {B : En → Fl} (P : σ → En → Prop) (g : σ → α → σ) (xs : List α) (s : σ) (e : En) (h : P s e) (st : ∀ s x e, x ∈ xs → P s e → ∃ e1 e2, f (enc x) e = some e1 ∧ (B e1 = .nx e2 ∨ B e1 = .ct e2) ∧ P (g s x) e2) :
    ∃ e', forL f B (xs.map enc) e = .nx e' ∧ P (xs.foldl g s) e' := by
  have := forL_inv (enc := enc) (f := f) (B := B) (fun p e => P (p.foldl g s) e) xs [] e h fun p x r e0 q h0 => by
    obtain ⟨e1, e2, h1, h2, h3⟩ := st (p.foldl g s) x e0 (by rw [List.nil_append] at q; rw [q]; simp) h0
    exact ⟨e1, e2, h1, h2, by rw [List.foldl_append]; exact h3⟩
  rwa [List.nil_append] at this
theorem sfor_nx {L : En → R (List D)} {f : Tg} {B : En → Fl} {e e' : En} {ds : List D} (hL : L e = .ok ds) (h : forL f B ds e = .nx e') : sfor L f B e = .nx e' := by
  unfold sfor
  rw [hL]
  exact h
/-! ### range -/
theorem in62_le {i : Int} (h0 : -1000000000000000000 ≤ i) (h : i ≤ 1000000000000000000) : in62 i = true := by
  unfold in62
  rw [Bool.and_eq_true]
  exact ⟨decide_eq_true (by omega), decide_eq_true (by omega)⟩
/-- range(n) -/
def upto (n : Nat) : List Int := (List.range n).map fun k : Nat => (k : Int)
theorem rng1_ev {j : Int} (h0 : -1000000000000000000 ≤ j) (h : j ≤ 1000000000000000000) : rng1 (.int j) = some ((upto j.toNat).map PyData.int) := by
  show (if in62 j then some (rangeL 0 j.toNat) else none) = _
  rw [if_pos (in62_le h0 h)]
  unfold rangeL upto
  rw [List.map_map]
  congr 1
  apply List.map_congr_left
  intro k _
  show PyData.int (0 + (k : Int)) = PyData.int (k : Int)
  rw [Int.zero_add]
def uptoFrom (lo : Int) (n : Nat) : List Int := (List.range n).map fun k : Nat => lo + (k : Int)
theorem rng2_ev {i j : Int} (hi0 : -1000000000000000000 ≤ i) (hi : i ≤ 1000000000000000000) (h0 : -1000000000000000000 ≤ j) (h : j ≤ 1000000000000000000) : rng2 (.int i) (.int j) = some ((uptoFrom i (j - i).toNat).map PyData.int) := by
  show (if in62 i && in62 j then some (rangeL i (j - i).toNat) else none) = _
  rw [if_pos (by rw [in62_le hi0 hi, in62_le h0 h]; rfl)]
  unfold rangeL uptoFrom
  rw [List.map_map]
  rfl
theorem upto_mem {n : Nat} {x : Int} : x ∈ upto n ↔ 0 ≤ x ∧ x < n := by
  unfold upto
  rw [List.mem_map]
  constructor
  · rintro ⟨k, hk, rfl⟩
    have := List.mem_range.mp hk
    omega
  · rintro ⟨h0, h1⟩
    exact ⟨x.toNat, List.mem_range.mpr (by omega), by omega⟩
theorem upto_length (n : Nat) : (upto n).length = n := by unfold upto; rw [List.length_map, List.length_range]
end Pu
/-! Ev2: data: equality, order, sorting, dicts, places -/
namespace Pu
open PySem L2
/-! ### equality of data without bools -/
mutual
def plD : D → Bool
  | .none => true
  | .int _ => true
  | .str _ => true
  | .list ds => plAll ds
  | .tuple ds => plAll ds
  | .bool _ => false
  | .dict _ => false
def plAll : List D → Bool
  | [] => true
  | d :: ds => plD d && plAll ds
end
mutual
theorem eqv_self : ∀ x : D, plD x = true → PyData.eqv x x = true
  | .none, _ => by simp [PyData.eqv]
  | .int i, _ => by simp [PyData.eqv]
  | .str i, _ => by simp [PyData.eqv]
  | .list ds, h => by simp only [PyData.eqv]; exact eqvAll_self ds (by simpa [plD] using h)
  | .tuple ds, h => by simp only [PyData.eqv]; exact eqvAll_self ds (by simpa [plD] using h)
  | .bool _, h => by simp [plD] at h
  | .dict _, h => by simp [plD] at h
theorem eqvAll_self : ∀ xs : List D, plAll xs = true → PyData.eqvAll xs xs = true
  | [], _ => by simp [PyData.eqvAll]
  | x :: xs, h => by
    simp only [plAll, Bool.and_eq_true] at h
    simp only [PyData.eqvAll, Bool.and_eq_true]
    exact ⟨eqv_self x h.1, eqvAll_self xs h.2⟩
end
mutual
theorem eq_of_eqv : ∀ x y : D, plD x = true → plD y = true → PyData.eqv x y = true → x = y
  | .none, y, _, h, e => by cases y <;> simp_all [PyData.eqv, plD]
  | .int i, y, _, h, e => by cases y <;> simp_all [PyData.eqv, plD]
  | .str i, y, _, h, e => by cases y <;> simp_all [PyData.eqv, plD]
  | .list ds, y, g, h, e => by
    cases y with
    | list es =>
      simp only [PyData.eqv] at e
      rw [eq_of_eqvAll ds es (by simpa [plD] using g) (by simpa [plD] using h) e]
    | _ => simp_all [PyData.eqv, plD]
  | .tuple ds, y, g, h, e => by
    cases y with
    | tuple es =>
      simp only [PyData.eqv] at e
      rw [eq_of_eqvAll ds es (by simpa [plD] using g) (by simpa [plD] using h) e]
    | _ => simp_all [PyData.eqv, plD]
  | .bool _, _, h, _, _ => by simp [plD] at h
  | .dict _, _, h, _, _ => by simp [plD] at h
theorem eq_of_eqvAll : ∀ xs ys : List D, plAll xs = true → plAll ys = true → PyData.eqvAll xs ys = true → xs = ys
  | [], [], _, _, _ => rfl
  | [], _ :: _, _, _, e => by simp [PyData.eqvAll] at e
  | _ :: _, [], _, _, e => by simp [PyData.eqvAll] at e
  | x :: xs, y :: ys, g, h, e => by
    simp only [plAll, Bool.and_eq_true] at g h
    simp only [PyData.eqvAll, Bool.and_eq_true] at e
    rw [eq_of_eqv x y g.1 h.1 e.1, eq_of_eqvAll xs ys g.2 h.2 e.2]
end
theorem eqv_iff {x y : D} (hx : plD x = true) (hy : plD y = true) : PyData.eqv x y = true ↔ x = y :=
  ⟨eq_of_eqv x y hx hy, fun e => by subst e; exact eqv_self x hx⟩
/-- of encoded things -/
theorem eqv_enc {α : Type} [DecidableEq α] {enc : α → D} (inj : ∀ a b, enc a = enc b → a = b) (pl : ∀ a, plD (enc a) = true) (a b : α) : PyData.eqv (enc a) (enc b) = decide (a = b) := by
  by_cases h : a = b
  · subst h; rw [eqv_self _ (pl a)]; simp
  · rw [decide_eq_false h]
    cases q : PyData.eqv (enc a) (enc b) with
    | false => rfl
    | true => exact absurd (inj _ _ (eq_of_eqv _ _ (pl a) (pl b) q)) h
theorem eq_ev {x y : D} (hx : SeqAt.shaped x = true) (hy : SeqAt.shaped y = true) : eqD x y = some (.bool (PyData.eqv x y)) := by
  unfold eqD
  rw [hx, hy]
  rfl
theorem ne_ev {x y : D} (hx : SeqAt.shaped x = true) (hy : SeqAt.shaped y = true) : neD x y = some (.bool (!PyData.eqv x y)) := by
  unfold neD
  rw [hx, hy]
  rfl
/-! ### shapes -/
theorem canLayAll_iff : ∀ ds : List D, PyData.canLayAll0 ds = true ↔ ∀ d ∈ ds, d.canLay0 = true
  | [] => by simp [PyData.canLayAll0]
  | d :: ds => by simp [PyData.canLayAll0, canLayAll_iff ds]
theorem depthAll_le : ∀ (ds : List D) (k : Nat), PyData.depthAll ds ≤ k ↔ ∀ d ∈ ds, d.depth ≤ k
  | [], k => by simp [PyData.depthAll]
  | d :: ds, k => by
    simp only [PyData.depthAll, List.mem_cons, forall_eq_or_imp, ← depthAll_le ds k]
    omega
/-- layable, at most so deep -/
def shp (k : Nat) (d : D) : Prop := d.canLay0 = true ∧ d.depth ≤ k
theorem shp.shaped {k : Nat} {d : D} (h : shp k d) (hk : k ≤ 64 := by decide) : SeqAt.shaped d = true := by
  unfold SeqAt.shaped
  rw [h.1, decide_eq_true (Nat.le_trans h.2 hk)]
  rfl
theorem shp.up {k j : Nat} {d : D} (h : shp k d) (hk : k ≤ j) : shp j d := ⟨h.1, Nat.le_trans h.2 hk⟩
theorem shp_int (i : Int) : shp 0 (.int i) := ⟨by simp [PyData.canLay0], by simp [PyData.depth]⟩
theorem shp_none : shp 0 .none := ⟨by simp [PyData.canLay0], by simp [PyData.depth]⟩
theorem shp_bool (b : Bool) : shp 0 (.bool b) := ⟨by simp [PyData.canLay0], by simp [PyData.depth]⟩
theorem shp_tup {k : Nat} {ds : List D} (h : ∀ d ∈ ds, shp k d) : shp (k + 1) (.tuple ds) :=
  ⟨by simp only [PyData.canLay0]; exact (canLayAll_iff ds).mpr fun d hd => (h d hd).1, by simp only [PyData.depth]; have := (depthAll_le ds k).mpr fun d hd => (h d hd).2; omega⟩
theorem shp_list {k : Nat} {ds : List D} (h : ∀ d ∈ ds, shp k d) : shp (k + 1) (.list ds) :=
  ⟨by simp only [PyData.canLay0]; exact (canLayAll_iff ds).mpr fun d hd => (h d hd).1, by simp only [PyData.depth]; have := (depthAll_le ds k).mpr fun d hd => (h d hd).2; omega⟩
@[simp] theorem shaped_int (i : Int) : SeqAt.shaped (.int i) = true := (shp_int i).shaped
@[simp] theorem shaped_none : SeqAt.shaped .none = true := shp_none.shaped
@[simp] theorem shaped_bool (b : Bool) : SeqAt.shaped (.bool b) = true := (shp_bool b).shaped
@[simp] theorem eqv_ii (i j : Int) : PyData.eqv (.int i) (.int j) = decide (i = j) := by simp only [PyData.eqv]; rfl
@[simp] theorem eqv_in (i : Int) : PyData.eqv (.int i) .none = false := by simp only [PyData.eqv]
@[simp] theorem eqv_ni (i : Int) : PyData.eqv .none (.int i) = false := by simp only [PyData.eqv]
@[simp] theorem eqv_nn : PyData.eqv .none .none = true := by simp only [PyData.eqv]
@[simp] theorem eqv_bb (a b : Bool) : PyData.eqv (.bool a) (.bool b) = (a == b) := by simp only [PyData.eqv]
@[simp] theorem eq_ii (i j : Int) : eqD (.int i) (.int j) = some (.bool (decide (i = j))) := by rw [eq_ev (shaped_int i) (shaped_int j), eqv_ii]
@[simp] theorem ne_ii (i j : Int) : neD (.int i) (.int j) = some (.bool (!decide (i = j))) := by rw [ne_ev (shaped_int i) (shaped_int j), eqv_ii]
@[simp] theorem ne_bb (i j : Bool) : neD (.bool i) (.bool j) = some (.bool (!(i == j))) := by rw [ne_ev (shaped_bool i) (shaped_bool j), eqv_bb]
@[simp] theorem eq_bb (i j : Bool) : eqD (.bool i) (.bool j) = some (.bool (i == j)) := by rw [eq_ev (shaped_bool i) (shaped_bool j), eqv_bb]
/-! ### x in xs -/
theorem in_t {α : Type} [DecidableEq α] {enc : α → D} {k : Nat} (inj : ∀ a b, enc a = enc b → a = b) (pl : ∀ a, plD (enc a) = true) (sh : ∀ a, shp k (enc a)) (hk : k + 1 ≤ 64) (x : α) (xs : List α) : inB (enc x) (.tuple (xs.map enc)) = some (decide (x ∈ xs)) := by
  show (if SeqAt.shaped (enc x) && SeqAt.shaped (.tuple (xs.map enc)) then some ((xs.map enc).any fun z => PyData.eqv z (enc x)) else none) = _
  rw [(sh x).shaped (by omega), (shp_tup (k := k) (ds := xs.map enc) fun d hd => by obtain ⟨y, _, rfl⟩ := List.mem_map.mp hd; exact sh y).shaped hk]
  rw [if_pos (show (true && true) = true from rfl), List.any_map]
  congr 1
  rw [Bool.eq_iff_iff, List.any_eq_true, decide_eq_true_eq]
  constructor
  · rintro ⟨y, hy, e⟩
    have : PyData.eqv (enc y) (enc x) = true := e
    rw [eqv_enc inj pl, decide_eq_true_eq] at this
    rw [← this]; exact hy
  · intro hx
    exact ⟨x, hx, by show PyData.eqv (enc x) (enc x) = true; exact eqv_self _ (pl x)⟩
theorem in_l {α : Type} [DecidableEq α] {enc : α → D} {k : Nat} (inj : ∀ a b, enc a = enc b → a = b) (pl : ∀ a, plD (enc a) = true) (sh : ∀ a, shp k (enc a)) (hk : k + 1 ≤ 64) (x : α) (xs : List α) : inB (enc x) (.list (xs.map enc)) = some (decide (x ∈ xs)) := by
  show (if SeqAt.shaped (enc x) && SeqAt.shaped (.list (xs.map enc)) then some ((xs.map enc).any fun z => PyData.eqv z (enc x)) else none) = _
  rw [(sh x).shaped (by omega), (shp_list (k := k) (ds := xs.map enc) fun d hd => by obtain ⟨y, _, rfl⟩ := List.mem_map.mp hd; exact sh y).shaped hk]
  rw [if_pos (show (true && true) = true from rfl), List.any_map]
  congr 1
  rw [Bool.eq_iff_iff, List.any_eq_true, decide_eq_true_eq]
  constructor
  · rintro ⟨y, hy, e⟩
    have : PyData.eqv (enc y) (enc x) = true := e
    rw [eqv_enc inj pl, decide_eq_true_eq] at this
    rw [← this]; exact hy
  · intro hx
    exact ⟨x, hx, by show PyData.eqv (enc x) (enc x) = true; exact eqv_self _ (pl x)⟩
theorem int_inj : ∀ a b : Int, PyData.int a = PyData.int b → a = b := fun _ _ h => by injection h
theorem int_pl : ∀ a : Int, plD (.int a) = true := fun _ => rfl
theorem in_ints_t (x : Int) (xs : List Int) : inB (.int x) (.tuple (xs.map PyData.int)) = some (decide (x ∈ xs)) := in_t int_inj int_pl shp_int (by decide) x xs
theorem in_ints_l (x : Int) (xs : List Int) : inB (.int x) (.list (xs.map PyData.int)) = some (decide (x ∈ xs)) := in_l int_inj int_pl shp_int (by decide) x xs
/-! ### order -/
theorem leS_int (i j : Int) : leS (.int i) (.int j) = decide (i ≤ j) := by
  unfold leS PySem.W.dataLe PySem.W.sortLe
  simp only [cond_false, id, PySem.W.keyToks, PyProof.Rows.lexLt, PyProof.Rows.itemLt, PyProof.Rows.itemOrd]
  by_cases h : i ≤ j
  · simp [h, show ¬ j < i by omega]
  · simp [h, show j < i by omega]
/-- tuples of ints -/
def tJ (xs : List Int) : D := .tuple (xs.map PyData.int)
def lexLe : List Int → List Int → Bool
  | [], _ => true
  | _ :: _, [] => false
  | x :: xs, y :: ys => decide (x < y) || (decide (x = y) && lexLe xs ys)
theorem toks_tJ : ∀ xs ys : List Int, (!PyProof.Rows.lexLt PyProof.Rows.itemOrd (PySem.W.keyToksAll (ys.map PyData.int)) (PySem.W.keyToksAll (xs.map PyData.int))) = lexLe xs ys
  | [], [] => by simp [PySem.W.keyToksAll, PyProof.Rows.lexLt, PyProof.Rows.itemLt, lexLe]
  | [], y :: ys => by simp [PySem.W.keyToksAll, PyProof.Rows.lexLt, PyProof.Rows.itemLt, lexLe]
  | x :: xs, [] => by simp [PySem.W.keyToksAll, PyProof.Rows.lexLt, PyProof.Rows.itemLt, lexLe]
  | x :: xs, y :: ys => by
    have ih := toks_tJ xs ys
    simp only [List.map_cons, PySem.W.keyToksAll, PySem.W.keyToks, List.singleton_append, PyProof.Rows.lexLt, PyProof.Rows.itemLt, lexLe, ← ih]
    by_cases h1 : x < y
    · simp [h1, show ¬ y < x by omega]
    · by_cases h2 : x = y
      · subst h2; simp
      · simp [h1, h2, show y < x by omega]
theorem leS_tJ (xs ys : List Int) : leS (tJ xs) (tJ ys) = lexLe xs ys := by
  rw [← toks_tJ xs ys]
  unfold leS PySem.W.dataLe PySem.W.sortLe tJ
  simp only [cond_false, id, PySem.W.keyToks]
theorem lexLe_total : ∀ xs ys : List Int, (lexLe xs ys || lexLe ys xs) = true
  | [], _ => by simp [lexLe]
  | _ :: _, [] => by simp [lexLe]
  | x :: xs, y :: ys => by
    have ih := lexLe_total xs ys
    simp only [lexLe]
    by_cases h1 : x < y
    · simp [h1]
    · by_cases h2 : x = y
      · subst h2; simpa using ih
      · simp [show y < x by omega]
theorem lexLe_trans : ∀ xs ys zs : List Int, lexLe xs ys = true → lexLe ys zs = true → lexLe xs zs = true
  | [], _, _, _, _ => by simp [lexLe]
  | _ :: _, [], _, h, _ => by simp [lexLe] at h
  | _ :: _, _ :: _, [], _, h => by simp [lexLe] at h
  | x :: xs, y :: ys, z :: zs, h1, h2 => by
    simp only [lexLe, Bool.or_eq_true, Bool.and_eq_true, decide_eq_true_eq] at h1 h2 ⊢
    rcases h1 with h1 | ⟨h1, h1'⟩
    · rcases h2 with h2 | ⟨h2, h2'⟩
      · left; omega
      · left; omega
    · rcases h2 with h2 | ⟨h2, h2'⟩
      · left; omega
      · right; exact ⟨by omega, lexLe_trans xs ys zs h1' h2'⟩
theorem lexLe_antisymm : ∀ xs ys : List Int, lexLe xs ys = true → lexLe ys xs = true → xs = ys
  | [], [], _, _ => rfl
  | [], _ :: _, _, h => by simp [lexLe] at h
  | _ :: _, [], h, _ => by simp [lexLe] at h
  | x :: xs, y :: ys, h1, h2 => by
    simp only [lexLe, Bool.or_eq_true, Bool.and_eq_true, decide_eq_true_eq] at h1 h2
    rcases h1 with h1 | ⟨h1, h1'⟩
    · rcases h2 with h2 | ⟨h2, _⟩ <;> omega
    · rcases h2 with h2 | ⟨_, h2'⟩
      · omega
      · rw [h1, lexLe_antisymm xs ys h1' h2']
/-! ### sorting -/
structure GoodLe {α : Type} (le : α → α → Bool) : Prop where
  total : ∀ a b, (le a b || le b a) = true
  trans : ∀ a b c, le a b = true → le b c = true → le a c = true
  anti : ∀ a b, le a b = true → le b a = true → a = b
theorem goodInt : GoodLe (fun a b : Int => decide (a ≤ b)) := ⟨fun a b => by simp only [Bool.or_eq_true, decide_eq_true_eq]; omega, fun a b c => by simp only [decide_eq_true_eq]; omega, fun a b => by simp only [decide_eq_true_eq]; omega⟩
theorem goodLex : GoodLe lexLe := ⟨lexLe_total, lexLe_trans, lexLe_antisymm⟩
theorem GoodLe.on {α β : Type} {le : α → α → Bool} (g : GoodLe le) (f : β → α) (inj : ∀ a b, f a = f b → a = b) : GoodLe (fun a b => le (f a) (f b)) :=
  ⟨fun a b => g.total _ _, fun a b c => g.trans _ _ _, fun a b h1 h2 => inj _ _ (g.anti _ _ h1 h2)⟩
section
variable {α : Type} {le : α → α → Bool}
theorem GoodLe.sorted (g : GoodLe le) (xs : List α) : (xs.mergeSort le).Pairwise fun a b => le a b = true := List.pairwise_mergeSort g.trans g.total xs
/-- two sorted lists of the same things -/
theorem GoodLe.unique (g : GoodLe le) : ∀ (xs ys : List α), xs.Pairwise (fun a b => le a b = true) → ys.Pairwise (fun a b => le a b = true) → xs.Perm ys → xs = ys := fun xs ys h1 h2 p => List.Perm.eq_of_pairwise (fun a b _ _ => g.anti a b) h1 h2 p
theorem GoodLe.perm (g : GoodLe le) {xs ys : List α} (p : xs.Perm ys) : xs.mergeSort le = ys.mergeSort le :=
  g.unique _ _ (g.sorted xs) (g.sorted ys) ((List.mergeSort_perm _ _).trans (p.trans (List.mergeSort_perm _ _).symm))
theorem GoodLe.same (g : GoodLe le) {xs : List α} (h : xs.Pairwise fun a b => le a b = true) : xs.mergeSort le = xs :=
  g.unique _ _ (g.sorted xs) h (List.mergeSort_perm _ _)
theorem sortD_map {enc : α → D} (h : ∀ x y, leS (enc x) (enc y) = le x y) {xs : List α} (hs : sortable (xs.map enc) = true) (hl : xs.length ≤ 1000000) : sortD (xs.map enc) = some ((xs.mergeSort le).map enc) := by
  unfold sortD
  rw [hs, decide_eq_true (show (xs.map enc).length ≤ many by rw [List.length_map]; exact hl), if_pos (show (true && true) = true from rfl)]
  congr 1
  exact (List.map_mergeSort fun a _ b _ => (h a b).symm).symm
end
theorem sortable_ints (ns : List Int) : sortable (ns.map PyData.int) = true := by
  unfold sortable
  rw [Bool.or_eq_true]
  left
  rw [List.all_eq_true]
  intro d hd
  obtain ⟨n, _, rfl⟩ := List.mem_map.mp hd
  rfl
theorem isTupD_tJ {t : List Int} (h : t ≠ []) : isTupD (tJ t) = true := by
  cases t with
  | nil => exact absurd rfl h
  | cons x r =>
    show ((x :: r).map PyData.int).all isIntD = true
    rw [List.all_eq_true]
    intro d hd
    obtain ⟨n, _, rfl⟩ := List.mem_map.mp hd
    rfl
theorem sortable_tJ {α : Type} {f : α → List Int} (hf : ∀ a, f a ≠ []) (xs : List α) : sortable (xs.map fun a => tJ (f a)) = true := by
  unfold sortable
  rw [Bool.or_eq_true]
  right
  rw [List.all_eq_true]
  intro d hd
  obtain ⟨n, _, rfl⟩ := List.mem_map.mp hd
  exact isTupD_tJ (hf n)
/-- sorted(..) of ints -/
def sortI (ns : List Int) : List Int := ns.mergeSort fun a b => decide (a ≤ b)
theorem sort_ints {ns : List Int} (hl : ns.length ≤ 1000000) : sortD (ns.map PyData.int) = some ((sortI ns).map PyData.int) := sortD_map leS_int (sortable_ints ns) hl
/-- sorted(..) of tuples of ints -/
def sortT {α : Type} (f : α → List Int) (xs : List α) : List α := xs.mergeSort fun a b => lexLe (f a) (f b)
theorem sort_tJ {α : Type} {f : α → List Int} (hf : ∀ a, f a ≠ []) {xs : List α} (hl : xs.length ≤ 1000000) : sortD (xs.map fun a => tJ (f a)) = some ((sortT f xs).map fun a => tJ (f a)) :=
  sortD_map (fun x y => leS_tJ (f x) (f y)) (sortable_tJ hf xs) hl
@[simp] theorem sortN_l (ds : List D) : sortN (.list ds) = sortD ds := rfl
@[simp] theorem sortN_t (ds : List D) : sortN (.tuple ds) = sortD ds := rfl
@[simp] theorem sortN_d (kvs : List (D × D)) : sortN (.dict kvs) = sortD (kvKeys kvs) := rfl
theorem sortT_perm {α : Type} (f : α → List Int) (xs : List α) : (sortT f xs).Perm xs := List.mergeSort_perm _ _
theorem sortI_perm (xs : List Int) : (sortI xs).Perm xs := List.mergeSort_perm _ _
/-! ### dicts whose values are True -/
section
variable {α : Type} [DecidableEq α] {enc : α → D} {key : α → NestedKey}
def tDict (enc : α → D) (ks : List α) : List (D × D) := ks.map fun a => (enc a, .bool true)
def addK (ks : List α) (a : α) : List α := if a ∈ ks then ks else ks ++ [a]
theorem dget_t (hk : ∀ a, nk (enc a) = some (key a)) (inj : ∀ a b, key a = key b → a = b) (ks : List α) (a : α) : dget (tDict enc ks) (key a) = if a ∈ ks then some (.bool true) else none := by
  induction ks with
  | nil => rfl
  | cons b ks ih =>
    show (if nk (enc b) = some (key a) then some (PyData.bool true) else dget (tDict enc ks) (key a)) = _
    rw [ih, hk]
    by_cases h : b = a
    · subst h; simp
    · have : ¬ (some (key b) = some (key a)) := fun z => h (inj _ _ (Option.some.inj z))
      rw [if_neg this]
      have h' : ¬ a = b := fun z => h z.symm
      simp [h']
theorem dput_t (hk : ∀ a, nk (enc a) = some (key a)) (inj : ∀ a b, key a = key b → a = b) (ks : List α) (a : α) : dput (tDict enc ks) (key a) (enc a) (.bool true) = tDict enc (addK ks a) := by
  unfold dput addK
  rw [dget_t hk inj]
  by_cases h : a ∈ ks
  · rw [if_pos h, if_pos h]
    show (if true = true then _ else _) = _
    rw [if_pos rfl]
    unfold tDict
    rw [List.map_map]
    apply List.map_congr_left
    intro b _
    show (if nk (enc b) = some (key a) then (enc b, PyData.bool true) else (enc b, PyData.bool true)) = _
    split <;> rfl
  · rw [if_neg h, if_neg h]
    show (if false = true then _ else _) = _
    rw [if_neg Bool.false_ne_true]
    unfold tDict
    rw [List.map_append]
    rfl
theorem kvKeys_t (ks : List α) : kvKeys (tDict enc ks) = ks.map enc := by
  unfold kvKeys tDict
  rw [List.map_map]
  rfl
theorem addK_nodup {ks : List α} {a : α} (h : ks.Nodup) : (addK ks a).Nodup := by
  unfold addK
  split
  · exact h
  · rename_i hn
    rw [List.nodup_append]
    exact ⟨h, by simp, fun x hx y hy => by simp at hy; subst hy; exact fun e => hn (e ▸ hx)⟩
theorem addK_mem {ks : List α} {a b : α} : b ∈ addK ks a ↔ b ∈ ks ∨ b = a := by
  unfold addK
  split
  · rename_i h
    exact ⟨fun z => .inl z, fun z => z.elim (fun z => z) fun e => e ▸ h⟩
  · simp
theorem addK_len {ks : List α} {a : α} : (addK ks a).length ≤ ks.length + 1 := by
  unfold addK
  split <;> simp
end
def keyI (t : List Int) : NestedKey := .tup (t.map NestedKey.num)
theorem nkAll_ints : ∀ t : List Int, nkAll (t.map PyData.int) = some (t.map NestedKey.num)
  | [] => by simp [nkAll]
  | x :: t => by simp [nkAll, nk, nkAll_ints t]
theorem nk_tJ (t : List Int) : nk (tJ t) = some (keyI t) := by
  unfold tJ
  simp only [nk, nkAll_ints]
  rfl
theorem keyI_inj {s t : List Int} (h : keyI s = keyI t) : s = t := by
  unfold keyI at h
  injection h with h
  have go : ∀ s t : List Int, s.map NestedKey.num = t.map NestedKey.num → s = t := by
    intro s
    induction s with
    | nil => intro t h; cases t with
      | nil => rfl
      | cons _ _ => cases h
    | cons x s ih => intro t h; cases t with
      | nil => cases h
      | cons y t =>
        rw [List.map_cons, List.map_cons] at h
        injection h with h1 h2
        injection h1 with h1
        rw [h1, ih t h2]
  exact go s t h
theorem keyI_depth (t : List Int) : (keyI t).depth = 1 := by
  have : ∀ t : List Int, NestedKey.depthAll (t.map NestedKey.num) = 0 := by
    intro t
    induction t with
    | nil => simp [NestedKey.depthAll]
    | cons x t ih => simp [NestedKey.depthAll, NestedKey.depth, ih]
  unfold keyI
  simp [NestedKey.depth, this]
theorem keyD_tJ (t : List Int) : keyD (tJ t) = some (keyI t) := by
  unfold keyD
  rw [show isTup (tJ t) = true from rfl, if_pos rfl, nk_tJ]
  show (if (keyI t).depth ≤ 8 then some (keyI t) else none) = _
  rw [if_pos (by rw [keyI_depth]; decide)]
/-! ### sorting by putting in: the same, and it computes -/
def ins1 (x : D) : List D → List D
  | [] => [x]
  | y :: ys => if leS x y then x :: y :: ys else y :: ins1 x ys
def isort : List D → List D
  | [] => []
  | x :: xs => ins1 x (isort xs)
theorem leS_tot : PySem.W.TotalLe leS := by unfold leS PySem.W.dataLe; exact PySem.W.sortLe_total _ _ _
theorem ins1_perm (x : D) : ∀ ys : List D, (ins1 x ys).Perm (x :: ys)
  | [] => List.Perm.refl _
  | y :: ys => by
    unfold ins1
    split
    · exact List.Perm.refl _
    · exact ((ins1_perm x ys).cons y).trans (List.Perm.swap x y ys)
theorem isort_perm : ∀ xs : List D, (isort xs).Perm xs
  | [] => List.Perm.refl _
  | x :: xs => (ins1_perm x (isort xs)).trans ((isort_perm xs).cons x)
theorem ins1_sorted (x : D) : ∀ ys : List D, ys.Pairwise (fun a b => leS a b = true) → (ins1 x ys).Pairwise fun a b => leS a b = true
  | [], _ => by simp [ins1]
  | y :: ys, h => by
    unfold ins1
    rw [List.pairwise_cons] at h
    split
    · rename_i hxy
      rw [List.pairwise_cons, List.pairwise_cons]
      refine ⟨fun z hz => ?_, h⟩
      rcases List.mem_cons.mp hz with rfl | hz
      · exact hxy
      · exact leS_tot.trans _ _ _ hxy (h.1 z hz)
    · rename_i hxy
      rw [List.pairwise_cons]
      refine ⟨fun z hz => ?_, ins1_sorted x ys h.2⟩
      rcases List.mem_cons.mp ((ins1_perm x ys).mem_iff.mp hz) with rfl | hz
      · rcases leS_tot.total y z with h1 | h1
        · exact h1
        · exact absurd h1 hxy
      · exact h.1 z hz
theorem isort_sorted : ∀ xs : List D, (isort xs).Pairwise fun a b => leS a b = true
  | [] => List.Pairwise.nil
  | x :: xs => ins1_sorted x _ (isort_sorted xs)
theorem sortable_anti {ds : List D} (h : sortable ds = true) {x y : D} (hx : x ∈ ds) (hy : y ∈ ds) (h1 : leS x y = true) (h2 : leS y x = true) : x = y := by
  unfold sortable at h
  rw [Bool.or_eq_true, List.all_eq_true, List.all_eq_true] at h
  rcases h with h | h
  · have a := h x hx
    have b := h y hy
    cases x with
    | int i => cases y with
      | int j =>
        rw [leS_int, decide_eq_true_eq] at h1 h2
        rw [show i = j by omega]
      | _ => cases b
    | _ => cases a
  · have sh : ∀ d ∈ ds, ∃ t, d = tJ t := fun d hd => by
      have a := h d hd
      cases d with
      | tuple xs =>
        cases xs with
        | nil => cases a
        | cons z r =>
          have a : (z :: r).all isIntD = true := a
          have : ∃ t : List Int, z :: r = t.map PyData.int := by
            have go : ∀ l : List D, l.all isIntD = true → ∃ t : List Int, l = t.map PyData.int := by
              intro l
              induction l with
              | nil => exact fun _ => ⟨[], rfl⟩
              | cons u l ih =>
                intro q
                rw [List.all_cons, Bool.and_eq_true] at q
                obtain ⟨t, rfl⟩ := ih q.2
                cases u with
                | int i => exact ⟨i :: t, rfl⟩
                | _ => cases q.1
            exact go _ a
          obtain ⟨t, ht⟩ := this
          exact ⟨t, by unfold tJ; rw [ht]⟩
      | _ => cases a
    obtain ⟨s, rfl⟩ := sh x hx
    obtain ⟨t, rfl⟩ := sh y hy
    rw [leS_tJ] at h1 h2
    rw [lexLe_antisymm _ _ h1 h2]
theorem merge_isort {ds : List D} (h : sortable ds = true) : ds.mergeSort leS = isort ds := by
  have p : (ds.mergeSort leS).Perm (isort ds) := (List.mergeSort_perm _ _).trans (isort_perm ds).symm
  exact List.Perm.eq_of_pairwise (fun a b ha hb => sortable_anti h ((List.mergeSort_perm ds leS).mem_iff.mp ha) ((isort_perm ds).mem_iff.mp hb)) (List.pairwise_mergeSort leS_tot.trans (fun a b => by rw [Bool.or_eq_true]; exact leS_tot.total a b) ds) (isort_sorted ds) p
def sortD' (ds : List D) : Option (List D) := if sortable ds && decide (ds.length ≤ many) then some (isort ds) else none
theorem sortD_eq : sortD = sortD' := by
  funext ds
  unfold sortD sortD'
  by_cases h : sortable ds = true
  · rw [merge_isort h]
  · rw [Bool.eq_false_iff.mpr h]; rfl
def sortN' : D → Option (List D)
  | .list ds => sortD' ds
  | .tuple ds => sortD' ds
  | .dict kvs => sortD' (kvKeys kvs)
  | _ => none
theorem sortN_eq : sortN = sortN' := by
  funext d
  cases d <;> first | rfl | exact congrFun sortD_eq _
end Pu
/-! Ev3: changes, enumerate, counts, places -/
namespace Pu
open PySem L2
theorem sdnew_ev (i : Nat) (e : En) : sdnew i e = .nx (e.set i (.dic [])) := rfl
theorem sdput_ev {i : Nat} {G F : En → R D} {e : En} {v x : D} {kvs : List (D × D)} {k : NestedKey} (hF : F e = .ok v) (hi : e[i]? = some (.dic kvs)) (hG : G e = .ok x) (hk : keyD x = some k) (hl : kvs.length < 1000000) :
    sdput i G F e = .nx (e.set i (.dic (dput kvs k x v))) := by
  unfold sdput
  rw [hF, liftE_ok, hi]
  show liftE (G e) e (dputAt i e kvs v) = _
  rw [hG, liftE_ok]
  unfold dputAt
  rw [hk]
  show (if kvs.length < many then _ else _) = _
  rw [if_pos (show kvs.length < many from hl)]
theorem sapp_ev {i : Nat} {F : En → R D} {e : En} {d : D} {ds : List D} (hi : e[i]? = some (.own ds)) (hF : F e = .ok d) (hl : ds.length < 1000000) : sapp i F e = .nx (e.set i (.own (ds ++ [d]))) := by
  unfold sapp
  rw [hi]
  show liftE (F e) e _ = _
  rw [hF, liftE_ok, if_pos (show ds.length < many from hl)]
theorem sext_ev {i : Nat} {F : En → R D} {e : En} {d : D} {ds es : List D} (hi : e[i]? = some (.own ds)) (hF : F e = .ok d) (hd : listN d = some es) (hl : ds.length + es.length ≤ 1000000) : sext i F e = .nx (e.set i (.own (ds ++ es))) := by
  unfold sext
  rw [hi]
  show liftE (F e) e _ = _
  rw [hF, liftE_ok, hd]
  show (if ds.length + es.length ≤ many then _ else _) = _
  rw [if_pos (show ds.length + es.length ≤ many from hl)]
theorem sput_ev {i : Nat} {G F : En → R D} {e : En} {d : D} {n : Int} {m : Nat} {ds : List D} (hF : F e = .ok d) (hi : e[i]? = some (.own ds)) (hG : G e = .ok (.int n)) (hn : ixN ds.length n = some m) : sput i G F e = .nx (e.set i (.own (ds.set m d))) := by
  unfold sput
  rw [hF, liftE_ok, hi]
  show liftE (G e) e (putAt i e ds d) = _
  rw [hG, liftE_ok]
  show (match ixN ds.length n with | some m => Fl.nx (e.set i (.own (ds.set m d))) | none => .bad) = _
  rw [hn]
theorem ixN_nat {n : Nat} {i : Int} (h0 : 0 ≤ i) (h : i < n) : ixN n i = some i.toNat := by
  unfold ixN
  rw [if_pos h0, if_pos h]
theorem atI_some {α : Type} {xs : List α} {i : Int} {x : α} (h0 : 0 ≤ i) (h : xs[i.toNat]? = some x) : atI xs i = some x := by
  obtain ⟨j, rfl⟩ : ∃ j : Nat, i = j := ⟨i.toNat, by omega⟩
  rw [atI_n]
  simpa using h
/-! ### men -/
def oM : Option Int → D
  | none => .none
  | some i => .int i
@[simp] theorem oM_n : oM none = .none := rfl
@[simp] theorem oM_s (i : Int) : oM (some i) = .int i := rfl
theorem oM_inj (a b : Option Int) (h : oM a = oM b) : a = b := by
  cases a <;> cases b <;> simp_all [oM]
theorem oM_pl (a : Option Int) : plD (oM a) = true := by cases a <;> rfl
theorem oM_shp (a : Option Int) : shp 0 (oM a) := by
  cases a with
  | none => exact shp_none
  | some i => exact shp_int i
@[simp] theorem oM_shaped (a : Option Int) : SeqAt.shaped (oM a) = true := (oM_shp a).shaped
@[simp] theorem isNone_oM (a : Option Int) : isNoneD (oM a) = a.isNone := by cases a <;> rfl
theorem eqv_oM (a b : Option Int) : PyData.eqv (oM a) (oM b) = decide (a = b) := eqv_enc oM_inj oM_pl a b
theorem eqv_oMi (a : Option Int) (i : Int) : PyData.eqv (oM a) (.int i) = decide (a = some i) := eqv_enc oM_inj oM_pl a (some i)
theorem eq_oMi (a : Option Int) (i : Int) : eqD (oM a) (.int i) = some (.bool (decide (a = some i))) := by rw [eq_ev (oM_shaped a) (shaped_int i), eqv_oMi]
/-- the man at a point -/
def mAt (ms : List (Option Int)) (p : Int) : Option Int := ms.getD p.toNat none
theorem atI_men {ms : List (Option Int)} {p : Int} (h0 : 0 ≤ p) (h : p < ms.length) : atI (ms.map oM) p = some (oM (mAt ms p)) := by
  apply atI_some h0
  rw [List.getElem?_map, List.getElem?_eq_getElem (show p.toNat < ms.length by omega)]
  unfold mAt
  rw [List.getD_eq_getElem?_getD, List.getElem?_eq_getElem (show p.toNat < ms.length by omega)]
  rfl
theorem mAt_set {ms : List (Option Int)} {p q : Int} {m : Option Int} (hp : 0 ≤ p) (hp2 : p < ms.length) (hq : 0 ≤ q) : mAt (ms.set p.toNat m) q = if q = p then m else mAt ms q := by
  unfold mAt
  rw [List.getD_eq_getElem?_getD, List.getD_eq_getElem?_getD, List.getElem?_set]
  by_cases h : q = p
  · subst h
    rw [if_pos rfl, if_pos rfl, if_pos (by omega)]
    rfl
  · rw [if_neg (by omega), if_neg h]
/-! ### enumerate -/
def enumM (ms : List (Option Int)) : List (Int × Option Int) := ms.mapIdx fun i m => ((i : Int), m)
def encE (p : Int × Option Int) : D := pairD (.int p.1) (oM p.2)
theorem enum_men (ms : List (Option Int)) : enumL (ms.map oM) = (enumM ms).map encE := by
  unfold enumL enumM encE
  apply List.ext_getElem?
  intro i
  rw [List.getElem?_mapIdx, List.getElem?_map, List.getElem?_map, List.getElem?_mapIdx]
  cases ms[i]? <;> rfl
theorem enumM_mem {ms : List (Option Int)} {p : Int × Option Int} : p ∈ enumM ms ↔ 0 ≤ p.1 ∧ ms[p.1.toNat]? = some p.2 := by
  unfold enumM
  rw [List.mem_mapIdx]
  constructor
  · rintro ⟨i, hi, rfl⟩
    exact ⟨by simp, by simp [hi]⟩
  · rintro ⟨h0, h⟩
    obtain ⟨hi, e⟩ := List.getElem?_eq_some_iff.mp h
    exact ⟨p.1.toNat, hi, by apply Prod.ext <;> simp [e]; omega⟩
theorem enumM_length (ms : List (Option Int)) : (enumM ms).length = ms.length := by unfold enumM; rw [List.length_mapIdx]
/-- the places whose men are so -/
def whr (c : Option Int → Bool) (ms : List (Option Int)) : List Int := ((enumM ms).filter fun p => c p.2).map (·.1)
theorem whr_mem {c : Option Int → Bool} {ms : List (Option Int)} {p : Int} : p ∈ whr c ms ↔ 0 ≤ p ∧ p < ms.length ∧ c (mAt ms p) = true := by
  unfold whr
  rw [List.mem_map]
  constructor
  · rintro ⟨⟨q, m⟩, hq, rfl⟩
    rw [List.mem_filter, enumM_mem] at hq
    obtain ⟨⟨h0, h1⟩, h2⟩ := hq
    simp only at h0 h1 h2 ⊢
    have h3 : q.toNat < ms.length := (List.getElem?_eq_some_iff.mp h1).1
    refine ⟨h0, by omega, ?_⟩
    unfold mAt
    rw [List.getD_eq_getElem?_getD, h1]
    exact h2
  · rintro ⟨h0, h1, h2⟩
    refine ⟨(p, mAt ms p), ?_, rfl⟩
    rw [List.mem_filter, enumM_mem]
    refine ⟨⟨h0, ?_⟩, h2⟩
    unfold mAt
    rw [List.getD_eq_getElem?_getD, List.getElem?_eq_getElem (show p.toNat < ms.length by omega)]
    rfl
theorem enumM_sorted (ms : List (Option Int)) : (enumM ms).Pairwise fun p q => p.1 < q.1 := by
  unfold enumM
  rw [List.pairwise_iff_getElem]
  intro i j hi hj hij
  rw [List.getElem_mapIdx, List.getElem_mapIdx]
  show (i : Int) < (j : Int)
  omega
theorem whr_sorted (c : Option Int → Bool) (ms : List (Option Int)) : (whr c ms).Pairwise (· < ·) := by
  unfold whr
  rw [List.pairwise_map]
  exact (enumM_sorted ms).filter _
theorem whr_length (c : Option Int → Bool) (ms : List (Option Int)) : (whr c ms).length ≤ ms.length := by
  unfold whr
  rw [List.length_map, ← enumM_length ms]
  exact List.length_filter_le _ _
/-- [p for p, man in enumerate(men) if ..] -/
theorem xlc_whr {vs : List Nat} {L : En → R (List D)} {f : Tg} {T : En → R Bool} {E : En → R D} {e : En} {ms : List (Option Int)} (c : Option Int → Bool) (hL : L e = .ok (enumL (ms.map oM))) (hl : ms.length ≤ 1000000)
    (h : ∀ (p : Int) (m : Option Int), 0 ≤ p → p < ms.length → m = mAt ms p → ∃ e1, f (pairD (.int p) (oM m)) (wipeE e vs) = some e1 ∧ T e1 = .ok (c m) ∧ E e1 = .ok (.int p)) : xlc vs L f T E e = .ok ((whr c ms).map PyData.int) := by
  rw [enum_men] at hL
  rw [xlc_map (enc := encE) (xs := enumM ms) (fun p => c p.2) (fun p => .int p.1) hL (by rw [enumM_length]; exact hl) fun x hx => ?_]
  · unfold whr
    rw [List.map_map]
    rfl
  · obtain ⟨h0, h1⟩ := enumM_mem.mp hx
    have h3 : x.1.toNat < ms.length := (List.getElem?_eq_some_iff.mp h1).1
    obtain ⟨e1, a1, a2, a3⟩ := h x.1 x.2 h0 (by omega) (by unfold mAt; rw [List.getD_eq_getElem?_getD, h1]; rfl)
    exact ⟨e1, a1, a2, fun _ => a3⟩
/-! ### counts -/
theorem count_men_l (ms : List (Option Int)) (w : Int) : countD (.list (ms.map oM)) (.int w) = some (.int (ms.count (some w) : Nat)) := by
  show (if SeqAt.shaped (.int w) && SeqAt.shaped (.list (ms.map oM)) then some (PyData.int ((ms.map oM).countP fun z => PyData.eqv z (.int w) : Nat)) else none) = _
  rw [shaped_int, (shp_list (k := 0) (ds := ms.map oM) fun d hd => by obtain ⟨y, _, rfl⟩ := List.mem_map.mp hd; exact oM_shp y).shaped]
  rw [if_pos (show (true && true) = true from rfl), List.countP_map]
  congr 3
  unfold List.count
  congr 1
  funext m
  show PyData.eqv (oM m) (.int w) = _
  rw [eqv_oMi, Bool.eq_iff_iff, decide_eq_true_eq, beq_iff_eq]
theorem count_men_t (ms : List (Option Int)) (w : Int) : countD (.tuple (ms.map oM)) (.int w) = some (.int (ms.count (some w) : Nat)) := by
  show (if SeqAt.shaped (.int w) && SeqAt.shaped (.tuple (ms.map oM)) then some (PyData.int ((ms.map oM).countP fun z => PyData.eqv z (.int w) : Nat)) else none) = _
  rw [shaped_int, (shp_tup (k := 0) (ds := ms.map oM) fun d hd => by obtain ⟨y, _, rfl⟩ := List.mem_map.mp hd; exact oM_shp y).shaped]
  rw [if_pos (show (true && true) = true from rfl), List.countP_map]
  congr 3
  unfold List.count
  congr 1
  funext m
  show PyData.eqv (oM m) (.int w) = _
  rw [eqv_oMi, Bool.eq_iff_iff, decide_eq_true_eq, beq_iff_eq]
theorem xcount_ev {F G : En → R D} {e : En} {x y z : D} (hF : F e = .ok x) (hG : G e = .ok y) (hx : (∃ ds, x = .list ds) ∨ ∃ ds, x = .tuple ds) (hz : countD x y = some z) : xcount F G e = .ok z := by
  unfold xcount xmt
  rw [hF, bind_ok]
  rcases hx with ⟨ds, rfl⟩ | ⟨ds, rfl⟩
  · show (if "list" ∈ ["list", "tuple"] then _ else _) = _
    rw [if_pos (by simp), hG, bind_ok, hz]
    rfl
  · show (if "tuple" ∈ ["list", "tuple"] then _ else _) = _
    rw [if_pos (by simp), hG, bind_ok, hz]
    rfl
end Pu
namespace Pf
open PySem L2 Pu
def b_law_mix : En → Fl :=
  (sseq (sasg 3 (bin modD (bin mulD (xvE 0) (xc (.int 48271))) (xvE 1)))
  (sret (bin modD (bin modD (bin mulD (xvE 3) (bin addD (xvE 3) (xc (.int 7)))) (xvE 1)) (xvE 2))))
def f_law_mix : List D → R D := runD 4 b_law_mix
def lb_law_drawn_board_1 : En → Fl :=
  (sseq (sasg 5 (xcall 3 f_law_mix (lcons (bin addD (xvE 0) (bin mulD (xc (.int 7)) (xvE 4))) (lcons (xc (.int 9949)) (lcons (xvE 2) lnil)))))
  (sseq (sasg 6 (xcall 3 f_law_mix (lcons (bin addD (xvE 0) (bin mulD (xc (.int 11)) (xvE 4))) (lcons (xc (.int 9941)) (lcons (xvE 2) lnil)))))
  (sif (xbl (bin neD (xvV 5) (xvV 6))) (sdput 3 (xtup (lcons (bin min2D (xvV 5) (xvV 6)) (lcons (bin max2D (xvV 5) (xvV 6)) lnil))) (xc (.bool true))) snil)))
def l_law_drawn_board_1 : En → Fl :=
  (sfor (irng1 (xcall 3 f_law_mix (lcons (xvE 0) (lcons (xc (.int 9967)) (lcons (bin mulD (xc (.int 2)) (xvE 2)) lnil))))) (gn 4) lb_law_drawn_board_1)
def q_law_drawn_board_1 : En → R (List D) :=
  (xlc [9] (irng1 (xc (.int 3))) (gn 9) tyes (xcall 3 f_law_mix (lcons (bin addD (bin addD (xvE 0) (bin mulD (xc (.int 13)) (xvE 4))) (xvE 9)) (lcons (xc (.int 9929)) (lcons (xvE 2) lnil)))))
def lb_law_drawn_board_2 : En → Fl :=
  (sseq (sasg 8 (asL (un1N sortSetN (asL q_law_drawn_board_1))))
  (sif (xbl (bin eqD (un1 lenD (xvV 8)) (xc (.int 3)))) (sdput 7 (un1 tupleD (xvV 8)) (xc (.bool true))) snil))
def l_law_drawn_board_2 : En → Fl :=
  (sfor (irng1 (xcall 3 f_law_mix (lcons (xvE 0) (lcons (xc (.int 9931)) (lcons (xc (.int 6)) lnil))))) (gn 4) lb_law_drawn_board_2)
def b_law_drawn_board : En → Fl :=
  (sseq (sasg 2 (bin addD (xc (.int 5)) (xcall 3 f_law_mix (lcons (xvE 0) (lcons (xc (.int 9973)) (lcons (bin subD (xvE 1) (xc (.int 4))) lnil))))))
  (sseq (sdnew 3)
  (sseq l_law_drawn_board_1
  (sseq (sdnew 7)
  (sseq l_law_drawn_board_2
  (sret (xtup (lcons (xvE 2) (lcons (un1 tupleD (asL (un1N sortN (xvV 3)))) (lcons (un1 tupleD (asL (un1N sortN (xvV 7)))) lnil))))))))))
def f_law_drawn_board : List D → R D := runD 10 b_law_drawn_board
def q_law_ring_board_1 : En → R (List D) :=
  (xlc [5] (irng1 (xc (.int 8))) (gn 5) tyes (bin addD (bin mulD (xc (.int 8)) (xvE 3)) (xvE 5)))
def q_law_ring_board_2 : En → R (List D) :=
  (xlc [5] (irng1 (xc (.int 8))) (gn 5) tyes (un1 tupleD (asL (un1N sortN (xsl (xvV 4) (osome (xvE 5)) (osome (bin addD (xvE 5) (xc (.int 2)))))))))
def q_law_ring_board_3 : En → R (List D) :=
  (xlc [5] (iseq (xtup (lcons (xc (.int 0)) (lcons (xc (.int 2)) (lcons (xc (.int 4)) (lcons (xc (.int 6)) lnil)))))) (gn 5) tyes (un1 tupleD (asL (un1N sortN (xsl (xvV 4) (osome (xvE 5)) (osome (bin addD (xvE 5) (xc (.int 3)))))))))
def q_law_ring_board_4 : En → R (List D) :=
  (xlc [5] (iseq (xtup (lcons (xc (.int 1)) (lcons (xc (.int 3)) (lcons (xc (.int 5)) (lcons (xc (.int 7)) lnil)))))) (gn 5) tyes (xtup (lcons (bin subD (bin ixD (xvV 4) (xvV 5)) (xc (.int 8))) (lcons (bin ixD (xvV 4) (xvV 5)) lnil))))
def lb_law_ring_board_1 : En → Fl :=
  (sseq (sasg 4 (bin addD (asL q_law_ring_board_1) (asL (xlst (lcons (bin mulD (xc (.int 8)) (xvE 3)) lnil)))))
  (sseq (sasg 1 (bin addD (xvE 1) (asL q_law_ring_board_2)))
  (sseq (sasg 2 (bin addD (xvE 2) (asL q_law_ring_board_3)))
  (sif (xbl (bin gtD (xvV 3) (xc (.int 0)))) (sasg 1 (bin addD (xvE 1) (asL q_law_ring_board_4))) snil))))
def l_law_ring_board_1 : En → Fl :=
  (sfor (irng1 (xvE 0)) (gn 3) lb_law_ring_board_1)
def q_law_ring_board_5 : En → R (List D) :=
  (xlc [5] (iseq (xtup (lcons (xc (.int 1)) (lcons (xc (.int 3)) (lcons (xc (.int 5)) (lcons (xc (.int 7)) lnil)))))) (gn 5) tyes (xtup (lcons (xvE 5) (lcons (bin addD (xvE 5) (xc (.int 8))) (lcons (bin addD (xvE 5) (xc (.int 16))) lnil)))))
def b_law_ring_board : En → Fl :=
  (sseq (sasg 1 (asL (xlst lnil)))
  (sseq (sasg 2 (asL (xlst lnil)))
  (sseq l_law_ring_board_1
  (sseq (sif (xbl (bin eqD (xvV 0) (xc (.int 3)))) (sasg 2 (bin addD (xvE 2) (asL q_law_ring_board_5))) snil)
  (sret (xtup (lcons (bin mulD (xc (.int 8)) (xvE 0)) (lcons (un1 tupleD (asL (un1N sortN (xvV 1)))) (lcons (un1 tupleD (asL (un1N sortN (xvV 2)))) lnil)))))))))
def f_law_ring_board : List D → R D := runD 6 b_law_ring_board
def lb_law_grid_board_1 : En → Fl :=
  (sif (tor (xbl (bin eqD (bin subD (xvE 2) (xvE 1)) (xc (.int 3)))) (tand (xbl (bin eqD (bin subD (xvE 2) (xvE 1)) (xc (.int 1)))) (xbl (bin gtD (bin modD (xvE 2) (xc (.int 3))) (xc (.int 0)))))) (sapp 0 (xtup (lcons (xvE 1) (lcons (xvE 2) lnil)))) snil)
def l_law_grid_board_1 : En → Fl :=
  (sfor (irng2 (bin addD (xvE 1) (xc (.int 1))) (xc (.int 9))) (gn 2) lb_law_grid_board_1)
def lb_law_grid_board_2 : En → Fl :=
  l_law_grid_board_1
def l_law_grid_board_2 : En → Fl :=
  (sfor (irng1 (xc (.int 9))) (gn 1) lb_law_grid_board_2)
def b_law_grid_board : En → Fl :=
  (sseq (sasgN 0 (xlst lnil))
  (sseq l_law_grid_board_2
  (sseq (sasg 3 (xtup (lcons (xtup (lcons (xc (.int 0)) (lcons (xc (.int 1)) (lcons (xc (.int 2)) lnil)))) (lcons (xtup (lcons (xc (.int 0)) (lcons (xc (.int 3)) (lcons (xc (.int 6)) lnil)))) (lcons (xtup (lcons (xc (.int 1)) (lcons (xc (.int 4)) (lcons (xc (.int 7)) lnil)))) (lcons (xtup (lcons (xc (.int 2)) (lcons (xc (.int 5)) (lcons (xc (.int 8)) lnil)))) (lcons (xtup (lcons (xc (.int 3)) (lcons (xc (.int 4)) (lcons (xc (.int 5)) lnil)))) (lcons (xtup (lcons (xc (.int 6)) (lcons (xc (.int 7)) (lcons (xc (.int 8)) lnil)))) lnil))))))))
  (sret (xtup (lcons (xc (.int 9)) (lcons (un1 tupleD (xvV 0)) (lcons (xvE 3) lnil))))))))
def f_law_grid_board : List D → R D := runD 4 b_law_grid_board
def b_law_board : En → Fl :=
  (sseq (sasg 2 (xcall 3 f_law_mix (lcons (xvE 0) (lcons (xc (.int 9923)) (lcons (xc (.int 6)) lnil)))))
  (sseq (sif (tand (xbl (bin eqD (xvV 2) (xc (.int 0)))) (xbl (bin gtD (xvV 1) (xc (.int 23))))) (sret (xcall 1 f_law_ring_board (lcons (xc (.int 3)) lnil))) snil)
  (sseq (sif (tand (xbl (bin ltD (xvV 2) (xc (.int 3)))) (xbl (bin gtD (xvV 1) (xc (.int 15))))) (sret (xcall 1 f_law_ring_board (lcons (bin addD (xc (.int 1)) (bin modD (xvE 2) (xc (.int 2)))) lnil))) snil)
  (sseq (sif (xbl (bin ltD (xvV 2) (xc (.int 4)))) (sret (xcall 0 f_law_grid_board lnil)) snil)
  (sret (xcall 2 f_law_drawn_board (lcons (bin addD (xvE 0) (xc (.int 1))) (lcons (bin min2D (xvV 1) (xc (.int 12))) lnil))))))))
def f_law_board : List D → R D := runD 3 b_law_board
def q_law_stand_1 : En → R (List D) :=
  (xlc [9] (irng1 (bin ixD (xvV 0) (xc (.int 0)))) (gn 9) tyes (xc .none))
def q_law_stand_2 : En → R (List D) :=
  (xlc [9, 10] (ienum (xvV 3)) (gtup (gcons (gn 9) (gcons (gn 10) gnil))) (xbl (bin isD (xvV 10) (xc .none))) (xvE 9))
def lb_law_stand_1 : En → Fl :=
  (sseq (sasg 7 (asL q_law_stand_2))
  (sif (tand (xbl (bin gtD (un1 lenD (xvV 7)) (xvV 4))) (tor (xbl (bin eqD (xvV 2) (xc (.int 0)))) (xbl (bin ltD (xcount (xvV 3) (xvV 6)) (xvV 2))))) (sput 3 (bin ixD (xvV 7) (xcall 3 f_law_mix (lcons (bin addD (bin addD (xvE 1) (bin mulD (xc (.int 23)) (xvE 5))) (bin mulD (xc (.int 5)) (xvE 6))) (lcons (xc (.int 9901)) (lcons (un1 lenD (xvV 7)) lnil))))) (xvE 6)) snil))
def l_law_stand_1 : En → Fl :=
  (sfor (iseq (xtup (lcons (xc (.int 0)) (lcons (xc (.int 1)) lnil)))) (gn 6) lb_law_stand_1)
def lb_law_stand_2 : En → Fl :=
  l_law_stand_1
def l_law_stand_2 : En → Fl :=
  (sfor (irng1 (bin addD (xcall 3 f_law_mix (lcons (xvE 1) (lcons (xc (.int 9907)) (lcons (bin addD (xc (.int 4)) (bin mulD (xc (.int 6)) (un1 intD (bin eqD (xvV 2) (xc (.int 0)))))) lnil)))) (xc (.int 3)))) (gn 5) lb_law_stand_2)
def b_law_stand : En → Fl :=
  (sseq (sasgN 3 q_law_stand_1)
  (sseq (sasg 4 (xcall 3 f_law_mix (lcons (xvE 1) (lcons (xc (.int 9871)) (lcons (xc (.int 4)) lnil)))))
  (sseq l_law_stand_2
  (sseq (sasg 8 (xtup (lcons (xc (.int 0)) (lcons (xc (.int 0)) lnil))))
  (sseq (sif (tand (xbl (bin eqD (xvV 2) (xc (.int 0)))) (xbl (bin eqD (bin modD (xvE 1) (xc (.int 3))) (xc (.int 0))))) (sasg 8 (xtup (lcons (xcall 3 f_law_mix (lcons (xvE 1) (lcons (xc (.int 9887)) (lcons (xc (.int 4)) lnil)))) (lcons (xcall 3 f_law_mix (lcons (xvE 1) (lcons (xc (.int 9883)) (lcons (xc (.int 4)) lnil)))) lnil)))) snil)
  (sret (xtup (lcons (un1 tupleD (xvV 3)) (lcons (xvE 8) (lcons (bin modD (xvE 1) (xc (.int 2))) lnil))))))))))
def f_law_stand : List D → R D := runD 11 b_law_stand
def b_law_cell : En → Fl :=
  (sseq (sif (xbl (bin ltD (xvV 1) (un1 lenD (xvV 0)))) (sret (bin ixD (xvV 0) (xvV 1))) snil)
  (sret (xc (.int 0))))
def f_law_cell : List D → R D := runD 2 b_law_cell
end Pf
namespace Pf
open PySem L2 Pu
def bis_whole : En → Fl :=
  (sret (xandV (un1 (isiD "int") (xvV 0)) (xandV (xnot (un1 (isiD "bool") (xvV 0))) (chn leD leD (xvV 1) (xvV 0) (xvV 2)))))
def fis_whole : List D → R D := runD 3 bis_whole
def qis_stand_1 : En → R (List D) :=
  (xlc [5] (iseq (xvV 2)) (gn 5) tyes (xorV (bin isD (xvV 5) (xc .none)) (xcall 3 fis_whole (lcons (xvE 5) (lcons (xc (.int 0)) (lcons (xc (.int 1)) lnil))))))
def qis_stand_2 : En → R (List D) :=
  (xlc [6] (iseq (xvV 3)) (gn 6) tyes (xcall 3 fis_whole (lcons (xvE 6) (lcons (xc (.int 0)) (lcons (xc (.int 9)) lnil)))))
def bis_stand : En → Fl :=
  (sseq (sif (tor (tnot (xtru (un1 (isiD "tuple") (xvV 1)))) (tor (xbl (bin neD (un1 lenD (xvV 1)) (xc (.int 3)))) (tnot (xtru (xcall 3 fis_whole (lcons (bin ixD (xvV 1) (xc (.int 2))) (lcons (xc (.int 0)) (lcons (xc (.int 1)) lnil)))))))) (sret (xc (.bool false))) snil)
  (sseq (sasgT (gtup (gcons (gn 2) (gcons (gn 3) (gcons (gn 4) gnil)))) (xvE 1))
  (sseq (sif (tor (tnot (xtru (un1 (isiD "tuple") (xvV 2)))) (xbl (bin neD (un1 lenD (xvV 2)) (bin ixD (xvV 0) (xc (.int 0)))))) (sret (xc (.bool false))) snil)
  (sseq (sif (tnot (xtru (un1 allD (asL qis_stand_1)))) (sret (xc (.bool false))) snil)
  (sret (xandV (un1 (isiD "tuple") (xvV 3)) (xandV (bin eqD (un1 lenD (xvV 3)) (xc (.int 2))) (un1 allD (asL qis_stand_2)))))))))
def fis_stand : List D → R D := runD 7 bis_stand
end Pf
/-! PuS: sorted(set(..)) of a list of tuples of ints, few of them unlike -/
namespace Pu
open PySem PySem.Spec PyProof.Rows
section
variable {P : Program} {w : World} {A : Around} {E : Value → Shared → Prop} {s : Shared}
/-- a set is filled from an iterator, by what stands after i of its items -/
theorem set_fill {R : Result → Shared → Prop} {j S : Addr} {fp wr : List Addr} {G : Array GenState → Array GenState → Prop} {n : Nat} {Pv : Nat → Value → Prop} {St : Nat → Shared → Prop} (W : WalksS P w A.in1 j fp wr G n Pv St) (own : S ∉ fp) (J : Nat → Heap → Prop)
    (calm : ∀ (i : Nat) (h h' : Heap), J i h → (∀ b o, b ∉ wr → h.get? b = some o → h'.get? b = some o) → J i h')
    (put : ∀ (i : Nat) (v : Value) (s : Shared) (Q : Bool → Shared → Prop) (E : Value → Shared → Prop), Pv i v → J i s.heap → (∀ b h' tk, Heap.SameBut S s.heap h' → s.toks ≤ tk → J (i + 1) h' → Q b { s with heap := h', toks := tk }) → wpAny (model P w) A.in1 (setAdd S v) Q E s) :
    ∀ (m : Nat) (s : Shared), m ≤ n → St (n - m) s → J (n - m) s.heap → (∀ s', Moved (S :: wr) G s s' → J n s'.heap → R (.ok (.ret .none)) s') → codeAny (model P w) A (.builtin "set.update.loop" ⟨[.ref S, .ref j], []⟩) R s
  | 0, s, _, st, inv, fin => by
    apply codeAny_builtin F.entry_set_update_loop
    rw [Around.under_plainId F.plain_set_update_loop]
    refine wpAny_bind (W.done s _ _ st fun s' mv => wpAny_pure ?_)
    exact fin s' ⟨fun b o nb => mv.heap b o fun y => nb (List.mem_cons_of_mem _ y), mv.gens, mv.drawn, mv.os, mv.toks⟩ (calm _ _ _ inv mv.heap)
  | m + 1, s, le, st, inv, fin => by
    have up : n - (m + 1) + 1 = n - m := by omega
    have wide : ∀ {s1 s2 : Shared}, Moved wr G s1 s2 → Moved (S :: wr) G s1 s2 := fun mv => ⟨fun b o nb => mv.heap b o fun y => nb (List.mem_cons_of_mem _ y), mv.gens, mv.drawn, mv.os, mv.toks⟩
    apply codeAny_builtin F.entry_set_update_loop
    rw [Around.under_plainId F.plain_set_update_loop]
    refine wpAny_bind (W.item (n - (m + 1)) s _ _ (by omega) st fun v s1 pv st1 mv => ?_)
    refine wpAny_bind (wpAny_holding (put _ v s1 _ _ pv (calm _ _ _ inv mv.heap) fun b h' tk same le' inv' => ?_))
    rw [up] at st1 inv'
    have kept : ∀ c ∈ fp, ∀ o, s1.heap.get? c = some o → h'.get? c = some o := fun c hc o g => (same.2 c fun e => own (e ▸ hc)).trans g
    refine wpAny_pure ⟨plainId_quiet F.plain_set_update_loop _, set_fill W own J calm put m _ (by omega) (W.frame _ s1 h' tk st1 le' kept) inv' fun s2 mv2 => fin s2 (Moved.trans W.gtrans (Moved.then_heap (wide mv) le' fun c o nc g => ?_) mv2)⟩
    exact (same.2 c fun e => nc (e ▸ List.mem_cons_self)).trans g
/-- what a set has of the tuples ks after i of them -/
def HasT (P : Program) (w : World) (h0 : Heap) (S : Addr) (ks : List (Addr × List Int)) (i : Nat) (h : Heap) : Prop :=
  (∀ b o, h0.get? b = some o → h.get? b = some o) ∧ ∃ L es ep t, L2.SetTR P w h S L es ep t ∧ (∀ p ∈ L, p ∈ ks) ∧ ∀ p ∈ ks.take i, p.2 ∈ L.map (·.2)
/-- not more than m unlike -/
def FewT (ks : List (Addr × List Int)) (m : Nat) : Prop := ∀ M : List (List Int), M.Nodup → (∀ k ∈ M, k ∈ ks.map (·.2)) → M.length ≤ m
theorem put_tup {h0 : Heap} {S x : Addr} {k : List Int} {ks : List (Addr × List Int)} {i : Nat} {Q : Bool → Shared → Prop} (few : FewT ks 62) (tups : ∀ p ∈ ks, L2.IsT P w h0 p.2 p.1) (off : h0.get? S = none) (hx : ks[i]? = some (x, k)) (hu : A.units < cLine) (J : HasT P w h0 S ks i s.heap)
    (q : ∀ b h' tk, Heap.SameBut S s.heap h' → s.toks ≤ tk → HasT P w h0 S ks (i + 1) h' → Q b { s with heap := h', toks := tk }) : wpAny (model P w) A (setAdd S (.ref x)) Q E s := by
  obtain ⟨kp, L, es, ep, t, R, sub, all⟩ := J
  have mem : (x, k) ∈ ks := List.mem_of_getElem? hx
  have len : L.length ≤ 62 := by
    have := few (L.map (·.2)) R.nd fun y hy => by
      obtain ⟨p, hp, rfl⟩ := List.mem_map.mp hy
      exact List.mem_map.mpr ⟨p, sub p hp, rfl⟩
    simpa using this
  have isx : L2.IsT P w s.heap k x := L2.isT_keep (tups _ mem) kp
  unfold setAdd
  apply wpAny_holding
  apply wpAny_bind
  apply wpAny_pyHash_tuple hu isx
  refine L2.add_at (s := { s with toks := s.toks + (k.length + 1) }) R isx hu (by omega) fun b h' L' es' ep' t' same R' old new => q b h' _ same (Nat.le_add_right _ _) ⟨fun c o g => ?_, L', es', ep', t', R', ?_⟩
  · exact (same.2 c fun e => nomatch (e ▸ off).symm.trans g).trans (kp c o g)
  · have tk : ks.take (i + 1) = ks.take i ++ [(x, k)] := by rw [List.take_succ, hx]; rfl
    rcases Classical.em (k ∈ L.map (·.2)) with y | y
    · have e := old y
      subst e
      refine ⟨sub, fun p hp => ?_⟩
      rw [tk, List.mem_append, List.mem_singleton] at hp
      exact hp.elim (all p) fun e => e ▸ y
    · have pm := new y
      refine ⟨fun p hp => ?_, fun p hp => ?_⟩
      · exact (List.mem_cons.mp (pm.subset hp)).elim (fun e => e ▸ mem) (sub p)
      · rw [tk, List.mem_append, List.mem_singleton] at hp
        refine (pm.map (·.2)).symm.subset ?_
        rw [List.map_cons]
        exact hp.elim (fun z => List.mem_cons_of_mem _ (all p z)) fun e => e ▸ List.mem_cons_self
/-- set(l), l a list of tuples of ints -/
theorem set_tups {l : Addr} {ks : List (Addr × List Int)} {Q : Value → Shared → Prop} (hh : A.handled = none) (hl : s.heap.IsList l (ks.map fun p => Value.ref p.1).toArray) (tups : ∀ p ∈ ks, L2.IsT P w s.heap p.2 p.1) (few : FewT ks 62) (hu : A.units + 8 < cLine)
    (h : ∀ (h' : Heap) (tk : Nat) (L : List (Addr × List Int)), L2.SetT0 P w h' s.heap.objs.size L → (∀ p ∈ L, p ∈ ks) → (∀ p ∈ ks, p.2 ∈ L.map (·.2)) → (∀ b o, s.heap.get? b = some o → h'.get? b = some o) → Q (.ref s.heap.objs.size) { s with heap := h', toks := tk }) :
    wpAny (model P w) A (call (.type "set") [.ref l]) Q E s := by
  have ll : l < s.heap.objs.size := let ⟨_, g, _⟩ := hl; Heap.lt_size g
  have off : ∀ b, s.heap.objs.size ≤ b → s.heap.get? b = none := fun b hb => by
    cases g : s.heap.get? b with
    | none => rfl
    | some o => exact absurd (Heap.lt_size g) (Nat.not_lt.mpr hb)
  have sz : (s.heap.push (set0 w)).objs.size = s.heap.objs.size + 1 := Heap.size_push ..
  have at0 : (setOn w s.heap l).get? s.heap.objs.size = some (set0 w) := Heap.get?_push_of_some _ (Heap.get?_push_size _ rfl)
  have at1 : (setOn w s.heap l).get? (s.heap.objs.size + 1) = some (lit0 l) := sz ▸ Heap.get?_push_size _ rfl
  have kp : ∀ b o, s.heap.get? b = some o → (setOn w s.heap l).get? b = some o := fun b o g => Heap.get?_push_of_some _ (Heap.get?_push_of_some _ g)
  have own : s.heap.objs.size ∉ [s.heap.objs.size + 1, l] := fun m => (List.mem_cons.mp m).elim (fun e => Nat.succ_ne_self _ e.symm) fun m => Nat.ne_of_gt ll (List.mem_singleton.mp m)
  refine setOf_list hl fun A' hA uA => ?_
  have W := (Walks.list (prog := P) (w := w) (A := A'.in1) (by simp [hA, hh]) (s.heap.objs.size + 1) l (Nat.ne_of_lt (Nat.lt_succ_of_lt ll)) (ks.map fun p => Value.ref p.1).toArray).toS
  have len : (ks.map fun p => Value.ref p.1).toArray.size = ks.length := by simp
  have u1 : A'.in1.units < cLine := by show A'.units + 1 < cLine; omega
  refine set_fill W own (HasT P w s.heap s.heap.objs.size ks) (fun i h h' ⟨k0, L, es, ep, t, R, sub, all⟩ k1 => ?_) (fun i v s1 Q1 E1 pv J q => ?_) ks.length _ (Nat.le_of_eq len.symm) ?_ ?_ fun s2 mv J => ⟨rfl, ?_⟩
  · have k2 : ∀ b o, s.heap.get? b = some o → h'.get? b = some o := fun b o g => k1 b o (fun m => Nat.ne_of_lt (Nat.lt_succ_of_lt (Heap.lt_size g)) (List.mem_singleton.mp m)) (k0 b o g)
    exact ⟨k2, L, es, ep, t, R.keep (fun o g => k1 _ o (fun m => Nat.succ_ne_self _ (List.mem_singleton.mp m).symm) g) fun p hp => L2.isT_keep (tups p (sub p hp)) k2, sub, all⟩
  · have gi : (ks.map fun p => Value.ref p.1)[i]? = some v := by simpa using pv
    rw [List.getElem?_map] at gi
    cases g : ks[i]? with
    | none => rw [g] at gi; cases gi
    | some p =>
      rw [g] at gi
      cases gi
      exact put_tup few tups (off _ (Nat.le_refl _)) g u1 J q
  · rw [len, Nat.sub_self]
    exact ⟨⟨_, at1, rfl, rfl⟩, hl.at fun o g => kp l o g⟩
  · rw [len, Nat.sub_self]
    exact ⟨kp, [], #[], 0, _, L2.setTR_fresh at0, fun p hp => (nomatch hp), fun p hp => (nomatch (show p ∈ ([] : List (Addr × List Int)) by simpa using hp))⟩
  · obtain ⟨k0, L, es, ep, t, R, sub, all⟩ := J
    rw [len, List.take_length] at all
    have es2 : s2 = { s with heap := s2.heap, toks := s2.toks } := by
      cases s2
      have e1 := mv.gens
      have e2 := mv.drawn
      have e3 := mv.os
      cases e1
      cases e2
      cases e3
      rfl
    rw [es2]
    exact h s2.heap s2.toks L R.t0 sub all k0
end
end Pu
namespace Pu
open PySem L2
/-! ### the tuples as data -/
def keysT : List D → Option (List (List Int))
  | [] => some []
  | .tuple es :: r => (intsOf es).bind fun k => (keysT r).map (k :: ·)
  | _ => none
def tupI (k : List Int) : D := .tuple (k.map PyData.int)
theorem keysT_eq : ∀ {ds : List D} {ks : List (List Int)}, keysT ds = some ks → ds = ks.map tupI
  | [], ks, h => by cases h; rfl
  | d :: r, ks, h => by
    cases d with
    | tuple es =>
      unfold keysT at h
      cases h1 : intsOf es with
      | none => rw [h1] at h; cases h
      | some k =>
        rw [h1] at h
        cases h2 : keysT r with
        | none => rw [h2] at h; cases h
        | some ls =>
          rw [h2] at h
          cases h
          rw [List.map_cons, keysT_eq h2, intsOf_eq h1]
          rfl
    | _ => cases h
def keyOk (d : Nat) (k : List Int) : Bool := decide (k.length = d) && k.all fun m => decide (0 ≤ m) && decide (m < 64)
theorem keyOk_of {d : Nat} {k : List Int} (h : keyOk d k = true) : k.length = d ∧ TS.Bd 64 k := by
  unfold keyOk at h
  rw [Bool.and_eq_true, List.all_eq_true] at h
  refine ⟨of_decide_eq_true h.1, fun m hm => ?_⟩
  have := h.2 m hm
  rw [Bool.and_eq_true] at this
  exact ⟨of_decide_eq_true this.1, of_decide_eq_true this.2⟩
theorem code_inj : ∀ {k l : List Int}, k.length = l.length → TS.Bd 64 k → TS.Bd 64 l → TS.code 64 k = TS.code 64 l → k = l
  | [], [], _, _, _, _ => rfl
  | [], y :: l, h, _, _, _ => by cases h
  | x :: k, [], h, _, _, _ => by cases h
  | x :: k, y :: l, h, b1, b2, e => by
    have hl : k.length = l.length := Nat.succ.inj h
    rcases Int.lt_trichotomy x y with c | c | c
    · have := TS.code_lt hl b1.tail b2.tail c
      omega
    · subst c
      have n1 : ¬ TS.code 64 k < TS.code 64 l := fun z => by have := (TS.code_same (B := 64) (d := x) hl).mpr z; omega
      have n2 : ¬ TS.code 64 l < TS.code 64 k := fun z => by have := (TS.code_same (B := 64) (d := x) hl.symm).mpr z; omega
      rw [code_inj hl b1.tail b2.tail (by omega)]
    · have := TS.code_lt hl.symm b2.tail b1.tail c
      omega
def dedupT : List (List Int) → List (List Int)
  | [] => []
  | x :: r => if x ∈ r then dedupT r else x :: dedupT r
theorem dedupT_mem : ∀ (ks : List (List Int)) (k : List Int), k ∈ dedupT ks ↔ k ∈ ks
  | [], k => Iff.rfl
  | x :: r, k => by
    unfold dedupT
    split
    · rename_i h
      rw [dedupT_mem r k, List.mem_cons]
      exact ⟨.inr, fun z => z.elim (fun e => e ▸ h) id⟩
    · rw [List.mem_cons, List.mem_cons, dedupT_mem r k]
theorem dedupT_nodup : ∀ ks : List (List Int), (dedupT ks).Nodup
  | [] => List.nodup_nil
  | x :: r => by
    unfold dedupT
    split
    · exact dedupT_nodup r
    · rename_i h
      exact List.nodup_cons.mpr ⟨fun z => h ((dedupT_mem r x).mp z), dedupT_nodup r⟩
theorem nodup_len {α : Type} [DecidableEq α] : ∀ (M N : List α), M.Nodup → (∀ x ∈ M, x ∈ N) → M.length ≤ N.length
  | [], N, _, _ => Nat.zero_le _
  | x :: M, N, nd, sub => by
    rw [List.nodup_cons] at nd
    have hx : x ∈ N := sub x List.mem_cons_self
    have := nodup_len M (N.erase x) nd.2 fun y hy => by
      have hne : y ≠ x := fun e => nd.1 (e ▸ hy)
      exact (List.mem_erase_of_ne hne).mpr (sub y (List.mem_cons_of_mem _ hy))
    rw [List.length_erase_of_mem hx] at this
    have := List.length_pos_of_mem hx
    rw [List.length_cons]
    omega
def tsort (ks : List (List Int)) : List (List Int) := (dedupT ks).mergeSort fun a b => decide (TS.code 64 a ≤ TS.code 64 b)
theorem tsort_mem (ks : List (List Int)) (k : List Int) : k ∈ tsort ks ↔ k ∈ ks := by
  unfold tsort
  rw [List.mem_mergeSort, dedupT_mem]
theorem tsort_nodup (ks : List (List Int)) : (tsort ks).Nodup := (List.mergeSort_perm _ _).nodup_iff.mpr (dedupT_nodup ks)
theorem tsort_len (ks : List (List Int)) : (tsort ks).length = (dedupT ks).length := List.length_mergeSort _
theorem tsort_le (ks : List (List Int)) : (tsort ks).Pairwise fun a b => TS.code 64 a ≤ TS.code 64 b :=
  (List.pairwise_mergeSort (le := fun a b => decide (TS.code 64 a ≤ TS.code 64 b)) (fun a b c => by simp only [decide_eq_true_eq]; omega) (fun a b => by simp only [Bool.or_eq_true, decide_eq_true_eq]; omega) _).imp fun h => of_decide_eq_true h
theorem map_inj_on {α β : Type} {f : α → β} : ∀ {a b : List α}, (∀ x ∈ a, ∀ y ∈ b, f x = f y → x = y) → a.map f = b.map f → a = b
  | [], [], _, _ => rfl
  | [], y :: b, _, e => by cases e
  | x :: a, [], _, e => by cases e
  | x :: a, y :: b, h, e => by
    rw [List.map_cons, List.map_cons, List.cons.injEq] at e
    rw [h x List.mem_cons_self y List.mem_cons_self e.1, map_inj_on (fun u hu v hv => h u (List.mem_cons_of_mem _ hu) v (List.mem_cons_of_mem _ hv)) e.2]
/-- lists of the same keys, each once, in the codes' order -/
theorem tsort_one {d : Nat} {a b : List (List Int)} (oa : ∀ k ∈ a, k.length = d ∧ TS.Bd 64 k) (na : a.Nodup) (nb : b.Nodup) (pa : a.Pairwise fun x y => TS.code 64 x ≤ TS.code 64 y) (pb : b.Pairwise fun x y => TS.code 64 x ≤ TS.code 64 y) (h : ∀ k, k ∈ a ↔ k ∈ b) : a = b := by
  have inj : ∀ x ∈ a, ∀ y ∈ a, TS.code 64 x = TS.code 64 y → x = y := fun x hx y hy e => code_inj ((oa x hx).1.trans (oa y hy).1.symm) (oa x hx).2 (oa y hy).2 e
  have strict : ∀ {l : List (List Int)}, (∀ x ∈ l, x ∈ a) → l.Nodup → l.Pairwise (fun x y => TS.code 64 x ≤ TS.code 64 y) → (l.map (TS.code 64)).Pairwise (· < ·) := fun {l} sub nd pw => by
    rw [List.pairwise_map]
    refine List.Pairwise.imp_of_mem (fun {x y} hx hy hxy => ?_) (pw.and nd)
    have ne : TS.code 64 x ≠ TS.code 64 y := fun e => hxy.2 (inj x (sub x hx) y (sub y hy) e)
    have := hxy.1
    omega
  refine map_inj_on (f := TS.code 64) (fun x hx y hy => inj x hx y ((h y).mpr hy)) ?_
  refine lt_unique _ _ (strict (fun x hx => hx) na pa) (strict (fun x hx => (h x).mpr hx) nb pb) fun c => ?_
  rw [List.mem_map, List.mem_map]
  exact ⟨fun ⟨k, hk, e⟩ => ⟨k, (h k).mp hk, e⟩, fun ⟨k, hk, e⟩ => ⟨k, (h k).mpr hk, e⟩⟩
/-- sorted(set(..)) of tuples of d ints from 0 to 63 -/
def sortSetT (d : Nat) : D → Option (List D)
  | .list ds => (keysT ds).bind fun ks => if ks.all (keyOk d) && decide ((dedupT ks).length ≤ 62) then some ((tsort ks).map tupI) else none
  | _ => none
/-! ### the rule -/
/-- what set(l) asks of a list of tuples, and what it gives: a set of some of them, one of each key -/
def rSetOfD (K : PySem.W.Frag) (P : Program) (w : World) : List V → Hp → VK → Prop := fun vs H Q => ∃ ks : List (Addr × List Int), FewT ks 62 ∧ (∀ u ∈ ks, SqT K H u.1 (u.2.map V.int)) ∧
  (∀ (L : List (Addr × List Int)) (b : Addr), (∀ u ∈ L, u ∈ ks) ∧ (∀ u ∈ ks, u.2 ∈ L.map (·.2)) → H b = none → Q (.ref b) (upd H b (SetTO P w b L))) ∧ ∃ l : Addr, SqL K H l (ks.map fun u => V.ref u.1) ∧ vs = [.ref l]
theorem cr_setOfD {X : Cx} (hc : X.calm = true) (hu : X.A.units + 8 < cLine) : CallR X (.type "set") (rSetOfD X.K X.prog X.w) := fun pins s σ H _ _ Q I rs ⟨ks, few, hk, q, l, hl, ex⟩ => by
  subst ex
  obtain ⟨_, rfl, rfl⟩ := vals1 rs
  obtain ⟨us, ru, pl, _⟩ := I.list hl
  obtain rfl := refs_of_vals ru
  exact set_tups (I.ok.hd hc) pl.isList (fun p hp => I.isT (hk p hp)) few hu fun g tk L R sub all kp => ⟨.ref s.heap.objs.size, _, I.laid (t' := tk) kp (Nat.le_refl _) (setTO_new R), rfl, q L _ ⟨sub, all⟩ (I.hok.fresh (Nat.le_refl _))⟩
theorem RpAll.keys {K : Kw} {H : Hp} : ∀ {ks : List (List Int)} {ys : List V}, RpAll K H ys (ks.map tupI) → ∃ ps : List (Addr × List Int), ys = ps.map (fun p => V.ref p.1) ∧ ps.map (·.2) = ks ∧ ∀ p ∈ ps, SqF H p.1 (p.2.map V.int) ∧ Rp K H (.ref p.1) (tupI p.2)
  | [], _, .nil => ⟨[], rfl, rfl, fun p hp => (nomatch hp)⟩
  | k :: ks, _, .cons (v := v) h t => by
    obtain ⟨ps, e1, e2, e3⟩ := RpAll.keys t
    obtain ⟨a, xs, ev, ha, ra⟩ := (VRp.e (H := H) h).tuple (Same.refl _)
    subst ev
    rw [ra.ints] at ha
    refine ⟨(a, k) :: ps, by rw [List.map_cons, e1], by rw [List.map_cons, e2], fun p hp => ?_⟩
    rcases List.mem_cons.mp hp with e | hp
    · rw [e]; exact ⟨ha, h⟩
    · exact e3 p hp
theorem RpAll.ofKeys {K : Kw} {H : Hp} : ∀ {ps : List (Addr × List Int)}, (∀ p ∈ ps, Rp K H (.ref p.1) (tupI p.2)) → RpAll K H (ps.map fun p => V.ref p.1) ((ps.map (·.2)).map tupI)
  | [], _ => .nil
  | p :: ps, h => .cons (h p List.mem_cons_self) (RpAll.ofKeys fun q hq => h q (List.mem_cons_of_mem _ hq))
section
variable {X : Cx} {W : WE} {a : Expr} {F : En → R D} {pos p p2 q : Pos} {k d : Nat}
theorem xSSetT (hd : 1 ≤ d) (z : Cz X k W) (m : X.mg "sorted" = none) (m2 : X.mg "set" = none) (ha : PE X a (tV (X.kw ea) W F)) (hg : Gl X "sorted" := by rfl) (hg2 : Gl X "set" := by rfl) (he : starEach [a] X.env = [(false, eval a X.env)] := by rfl)
    (he2 : starEach [Expr.Call (.Name "set" p2) [a] [] q] X.env = [(false, eval (Expr.Call (.Name "set" p2) [a] [] q) X.env)] := by rfl) : PE X (.Call (.Name "sorted" p) [.Call (.Name "set" p2) [a] [] q] [] pos) (tN (X.kw ea) W (un1N (sortSetT d) F)) :=
  PE_weak (pe_callB (cr_sortedT z.calm) hg m bt_sorted (pa_cons (pe_callTy (cr_setOfD z.calm (by have := z.rm.un; omega)) hg2 m2 bt_set (pa_cons ha pa_nil he) (by decide) (by decide) he) pa_nil he2) (by decide) (by decide) he2) fun σ H Q ⟨H0, Hf0, Hf, e, S, pp⟩ => ⟨H0, Hf0, Hf, e, S, pp.bind.mono fun x H1 ⟨Hf1, dd, g, r, p1⟩ => by
    obtain ⟨zz, ez, qq⟩ := p1.of_opt
    cases dd with
    | list ds =>
      obtain ⟨l, ys, rfl, hl, ra⟩ := r.list g.fh
      have ez' : ((keysT ds).bind fun ks => if ks.all (keyOk d) && decide ((dedupT ks).length ≤ 62) then some ((tsort ks).map tupI) else none) = some zz := ez
      cases h1 : keysT ds with
      | none => rw [h1] at ez'; cases ez'
      | some ks =>
        rw [h1] at ez'
        have ez2 : (if ks.all (keyOk d) && decide ((dedupT ks).length ≤ 62) then some ((tsort ks).map tupI) else none) = some zz := ez'
        by_cases hn : (ks.all (keyOk d) && decide ((dedupT ks).length ≤ 62)) = true
        · rw [if_pos hn] at ez2
          cases ez2
          rw [Bool.and_eq_true, List.all_eq_true] at hn
          have okk : ∀ y ∈ ks, y.length = d ∧ TS.Bd 64 y := fun y hy => keyOk_of (hn.1 y hy)
          rw [keysT_eq h1] at ra
          obtain ⟨ps, e1, e2, e3⟩ := ra.keys
          subst e1
          have few : FewT ps 62 := fun M nd sub => Nat.le_trans (nodup_len M (dedupT ks) nd fun y hy => (dedupT_mem ks y).mpr (e2 ▸ sub y hy)) (of_decide_eq_true hn.2)
          refine ⟨ps, few, fun u hu => ((e3 u hu).1.mono g.fh).sq, fun L s ⟨sub, all⟩ hs => ⟨s, L, d, 64, rfl, upd_same, fun u hu => (((e3 u (sub u hu)).1.mono g.fh).mono (same_upd hs)).sq, hd, fun u hu => okk _ (e2 ▸ List.mem_map.mpr ⟨u, sub u hu, rfl⟩), fun L' t pm nd _ pw ht => ?_⟩, l, SqL.of hl, rfl⟩
          have mem : ∀ y, y ∈ L'.map (·.2) ↔ y ∈ ks := fun y => by
            rw [(pm.map (·.2)).mem_iff, ← e2]
            constructor
            · intro hy
              obtain ⟨u, hu, eu⟩ := List.mem_map.mp hy
              exact List.mem_map.mpr ⟨u, sub u hu, eu⟩
            · intro hy
              obtain ⟨u, hu, eu⟩ := List.mem_map.mp hy
              rw [← eu]
              exact all u hu
          have em : L'.map (·.2) = tsort ks := tsort_one (fun y hy => okk y ((mem y).mp hy)) nd (tsort_nodup ks) (by rw [List.pairwise_map]; exact pw) (tsort_le ks) fun y => by rw [mem, tsort_mem]
          have g2 := Grow.lay (o := SetTO X.prog X.w s L) g.fh hs
          have g3 := Grow.lay (o := HO.lst (L'.map fun u => V.ref u.1)) g2.fh ht
          refine qq t _ Hf1 _ (g2.trans g3) (g2.hh.free ht) (g.fh.free (g2.hh.free ht)) upd_same ?_
          rw [← em]
          exact RpAll.ofKeys fun u hu => (e3 u (sub u (pm.subset hu))).2
        · rw [if_neg hn] at ez2; cases ez2
    | _ => cases ez⟩
end
end Pu
/-! PuT: methods of texts; dicts of the module that are read alone -/
namespace Pu
open PySem L2
def strsOf : List D → Option (List Str)
  | [] => some []
  | .str x :: r => (strsOf r).map (x :: ·)
  | _ => none
theorem strsOf_eq : ∀ {ds : List D} {ys : List Str}, strsOf ds = some ys → ds = ys.map PyData.str
  | [], ys, h => by cases h; rfl
  | d :: r, ys, h => by
    cases d with
    | str x =>
      unfold strsOf at h
      cases q : strsOf r with
      | none => rw [q] at h; cases h
      | some zs => rw [q] at h; cases h; rw [List.map_cons, ← strsOf_eq q]
    | _ => cases h
theorem strsOf_map : ∀ ys : List Str, strsOf (ys.map PyData.str) = some ys
  | [] => rfl
  | y :: ys => by
    rw [List.map_cons]
    unfold strsOf
    rw [strsOf_map ys]
    rfl
theorem RpAll.texts {K : Kw} {H : Hp} : ∀ {ys : List Str} {vs : List V}, RpAll K H vs (ys.map PyData.str) → vs = ys.map V.str
  | [], _, .nil => rfl
  | y :: ys, _, .cons (.str _) t => by rw [RpAll.texts t]; rfl
theorem RpAll.ofTexts {K : Kw} {H : Hp} : ∀ ys : List Str, RpAll K H (ys.map V.str) (ys.map PyData.str)
  | [] => .nil
  | y :: ys => .cons (.str y) (RpAll.ofTexts ys)
def joinD : D → D → Option D
  | .str a, .list ds => (strsOf ds).bind fun ys => if (ys.map (·.length)).sum + ys.length * a.length ≤ 16777216 then some (.str (Txt.join a ys)) else none
  | _, _ => none
def splitN : D → D → Option (List D)
  | .str a, .str b => if b.length ≠ 0 ∧ a.length ≤ many then some ((Txt.split a b).map PyData.str) else none
  | _, _ => none
def partD : D → D → Option D
  | .str a, .str b => if b.length ≠ 0 ∧ a.length ≤ many then some (.tuple [.str (Txt.partition a b).1, .str (Txt.partition a b).2.1, .str (Txt.partition a b).2.2]) else none
  | _, _ => none
def tcountD : D → D → Option D
  | .str a, .str b => some (.int (Txt.count a b))
  | _, _ => none
section
variable {X : Cx}
theorem m_join : Mt1 X "join" joinD "str" "str.join" where
  pa := F.plainAttrs_str
  slot := F.slot_str_join
  ty := F.type_str_join
  run := fun ea pins s σ Hf H x y v u dx dy z Q I rx ry f hx hy ht hz q => by
    cases dx with
    | str a =>
      obtain rfl : x = .str a := hx.str
      cases dy with
      | list ds =>
        have hz' : ((strsOf ds).bind fun ys => if (ys.map (·.length)).sum + ys.length * a.length ≤ 16777216 then some (PyData.str (Txt.join a ys)) else none) = some z := hz
        cases h1 : strsOf ds with
        | none => rw [h1] at hz'; cases hz'
        | some ys =>
          rw [h1] at hz'
          have hz2 : (if (ys.map (·.length)).sum + ys.length * a.length ≤ 16777216 then some (PyData.str (Txt.join a ys)) else none) = some z := hz'
          by_cases hn : (ys.map (·.length)).sum + ys.length * a.length ≤ 16777216
          · rw [if_pos hn] at hz2
            cases hz2
            obtain ⟨p, xs, rfl, hp, rp⟩ := hy.list f
            rw [strsOf_eq h1] at rp
            rw [rp.texts] at hp
            exact mt_join pins s σ H _ [.ref p] v [u] Q I rx (.cons ry .nil) ⟨a, p, ys, rfl, rfl, .inl (SqL.of hp), hn, q _ Hf H (Grow.refl f) (.str _)⟩
          · rw [if_neg hn] at hz2; cases hz2
      | _ => cases hz
    | _ => cases hz
theorem m_count : Mt1 X "count" tcountD "str" "str.count" where
  pa := F.plainAttrs_str
  slot := F.slot_str_count
  ty := F.type_str_count
  run := fun ea pins s σ Hf H x y v u dx dy z Q I rx ry f hx hy ht hz q => by
    cases dx with
    | str a =>
      obtain rfl : x = .str a := hx.str
      cases dy with
      | str b =>
        cases hz
        obtain rfl : y = .str b := hy.str
        exact mt_count pins s σ H _ [.str b] v [u] Q I rx (.cons ry .nil) ⟨a, b, rfl, rfl, q _ Hf H (Grow.refl f) (.int _)⟩
      | _ => cases hz
    | _ => cases hz
/-- a.partition(b), the parts in a new tuple -/
theorem mt_partF : MtR X "str.partition" (fun x xs H Q => ∃ a b, x = .str a ∧ xs = [.str b] ∧ (b.length == 0) = false ∧ a.length ≤ sizeLine ∧ TupN H Q [.str (Txt.partition a b).1, .str (Txt.partition a b).2.1, .str (Txt.partition a b).2.2]) :=
  fun pins s σ H _ _ v us Q I rx rs ⟨a, b, ex, es, hb, hz, q⟩ => by
    subst ex es
    obtain ⟨t, rfl⟩ := rx
    obtain ⟨_, rfl, u, rfl⟩ := vals1 rs
    have three : ∀ (x y z : Str) (t1 t2 t3 : Tok) (k : Nat), TupN H Q [.str x, .str y, .str z] → EP X pins σ Q (.ref s.heap.objs.size) { s with heap := s.heap.push { cls := .type "tuple", data := .seq [Value.str x t1, .str y t2, .str z t3].toArray }, toks := k } := fun x y z t1 t2 t3 k n =>
      tup_new (tk := k) (xs := [.str x, .str y, .str z]) I (.cons ⟨t1, rfl⟩ (.cons ⟨t2, rfl⟩ (.cons ⟨t3, rfl⟩ .nil))) (show 3 ≤ sizeLine by decide) n
    have isT := typeIs_str s a t
    refine call_meets F.slot_str_partition isT F.entry_str_partition (F.args_str_partition_2 _ _) (meets_str_partition a b t u hb hz) ?_
    unfold Txt.partition at q
    generalize Builtin.Str.occurrences a b 0 a.length 1 = oc at q ⊢
    cases oc with
    | nil => exact three _ _ _ _ _ _ _ q
    | cons i r => exact three _ _ _ _ _ _ _ q
theorem len_pos {b : Str} (h : b.length ≠ 0) : (b.length == 0) = false := beq_eq_false_iff_ne.mpr h
theorem m_part : Mt1 X "partition" partD "str" "str.partition" where
  pa := F.plainAttrs_str
  slot := F.slot_str_partition
  ty := F.type_str_partition
  run := fun ea pins s σ Hf H x y v u dx dy z Q I rx ry f hx hy ht hz q => by
    cases dx with
    | str a =>
      obtain rfl : x = .str a := hx.str
      cases dy with
      | str b =>
        obtain rfl : y = .str b := hy.str
        have hz' : (if b.length ≠ 0 ∧ a.length ≤ many then some (PyData.tuple [.str (Txt.partition a b).1, .str (Txt.partition a b).2.1, .str (Txt.partition a b).2.2]) else none) = some z := hz
        by_cases hn : b.length ≠ 0 ∧ a.length ≤ many
        · rw [if_pos hn] at hz'
          cases hz'
          exact mt_partF pins s σ H _ [.str b] v [u] Q I rx (.cons ry .nil) ⟨a, b, rfl, rfl, len_pos hn.1, many_line hn.2, TupN.of f (.cons (.str _) (.cons (.str _) (.cons (.str _) .nil))) q⟩
        · rw [if_neg hn] at hz'; cases hz'
      | _ => cases hz
    | _ => cases hz
end
section
variable {X : Cx} {W : WE} {a b c o : Expr} {F G : En → R D} {pos p apos cpos : Pos} {k : Nat}
theorem one_str {f : D → D → Option D} {name : Str} {id : String} (h : Mt1 X name f "str" id) : ∀ T ∈ ["str"], ∃ id, Mt1 X name f T id := fun T hT => ⟨id, List.mem_singleton.mp hT ▸ h⟩
theorem xJoin (ho : PE X o (tV (X.kw ea) W F)) (ha : PE X a (tV (X.kw ea) W G)) (hbase : attributeBase o "join" X.env (eval o X.env) = eval o X.env := by rfl)
    (hfew : ((backTo cpos (starEach [a] X.env)).all (fun x => !x.1) && (backToKw cpos (keywordEach [] X.env)).all (fun x => x.1.isSome) && decide ([a].length + ([] : List Keyword).length + (if ([] : List Keyword).isEmpty then 0 else 1) < 30)) = true := by rfl)
    (hline : (apos.endLine == cpos.line) = true := by rfl) (hs : starEach [a] X.env = [(false, eval a X.env)] := by rfl) : PE X (.Call (.Attribute o "join" apos) [a] [] cpos) (tE (X.kw ea) W (xmt ["str"] joinD F G)) := xMt (one_str m_join) ho ha hbase hfew hline hs
theorem xTCount (ho : PE X o (tV (X.kw ea) W F)) (ha : PE X a (tV (X.kw ea) W G)) (hbase : attributeBase o "count" X.env (eval o X.env) = eval o X.env := by rfl)
    (hfew : ((backTo cpos (starEach [a] X.env)).all (fun x => !x.1) && (backToKw cpos (keywordEach [] X.env)).all (fun x => x.1.isSome) && decide ([a].length + ([] : List Keyword).length + (if ([] : List Keyword).isEmpty then 0 else 1) < 30)) = true := by rfl)
    (hline : (apos.endLine == cpos.line) = true := by rfl) (hs : starEach [a] X.env = [(false, eval a X.env)] := by rfl) : PE X (.Call (.Attribute o "count" apos) [a] [] cpos) (tE (X.kw ea) W (xmt ["str"] tcountD F G)) := xMt (one_str m_count) ho ha hbase hfew hline hs
theorem xPart (ho : PE X o (tV (X.kw ea) W F)) (ha : PE X a (tV (X.kw ea) W G)) (hbase : attributeBase o "partition" X.env (eval o X.env) = eval o X.env := by rfl)
    (hfew : ((backTo cpos (starEach [a] X.env)).all (fun x => !x.1) && (backToKw cpos (keywordEach [] X.env)).all (fun x => x.1.isSome) && decide ([a].length + ([] : List Keyword).length + (if ([] : List Keyword).isEmpty then 0 else 1) < 30)) = true := by rfl)
    (hline : (apos.endLine == cpos.line) = true := by rfl) (hs : starEach [a] X.env = [(false, eval a X.env)] := by rfl) : PE X (.Call (.Attribute o "partition" apos) [a] [] cpos) (tE (X.kw ea) W (xmt ["str"] partD F G)) := xMt (one_str m_part) ho ha hbase hfew hline hs
/-- a.split(b) -/
def xsplit (F G : En → R D) : En → R (List D) := fun e => (F e).bind fun x => match x with
  | .str a => (G e).bind fun y => opt (splitN (.str a) y)
  | _ => .bad
theorem xSplit (ho : PE X o (tV (X.kw ea) W F)) (ha : PE X a (tV (X.kw ea) W G)) (hs : starEach [a] X.env = [(false, eval a X.env)] := by rfl) (hbase : attributeBase o "split" X.env (eval o X.env) = eval o X.env := by rfl) (hline : (apos.endLine == cpos.line) = true := by rfl) :
    PE X (.Call (.Attribute o "split" apos) [a] [] cpos) (tN (X.kw ea) W (xsplit F G)) :=
  PE_weak (pe_split ho ha hs hbase hline) fun σ H Q ⟨H0, Hf0, Hf, e, S, pp⟩ => ⟨H0, Hf0, Hf, e, S, pp.bind.mono fun x H1 ⟨Hf1, dx, g1, rx, p1⟩ => by
    cases dx with
    | str t =>
      obtain rfl : x = .str t := rx.str
      refine ⟨⟨t, rfl⟩, H0, Hf0, Hf1, e, S.grow g1, PoN.bind p1 |>.mono fun y H2 ⟨Hf2, dy, g2, ry, p2⟩ => ?_⟩
      obtain ⟨z, ez, q⟩ := p2.of_opt
      cases dy with
      | str b =>
        obtain rfl : y = .str b := ry.str
        have ez' : (if b.length ≠ 0 ∧ t.length ≤ many then some ((Txt.split t b).map PyData.str) else none) = some z := ez
        by_cases hn : b.length ≠ 0 ∧ t.length ≤ many
        · rw [if_pos hn] at ez'
          cases ez'
          have hl : t.length + 2 ≤ sizeLine := by have := hn.2; unfold many at this; rw [sizeLine_eq]; omega
          exact ⟨t, b, rfl, rfl, len_pos hn.1, hl, fun pt ht => q pt _ Hf2 _ (Grow.lay g2.fh ht) ht (g2.fh.free ht) upd_same (RpAll.ofTexts _)⟩
        · rw [if_neg hn] at ez'; cases ez'
      | _ => cases ez
    | _ => exact p1.elim⟩
end
end Pu
/-! PuU: a dict of the module, of None, ints and texts, that is read alone -/
namespace Pu
open PySem L2
def seekT (tab : List (D × D)) (k : Option Key) : Option D := (tab.find? fun p => decide (keyV p.1 = some k)).map (·.2)
def lookT (tab : List (D × D)) (x : D) : Option D := (keyV x).bind (seekT tab)
def hasT (tab : List (D × D)) (x : D) : Option D := (keyV x).map fun k => .bool (seekT tab k).isSome
/-! ### what lies there -/
def tabO (o : Obj) : Option (List (Option (Option Key) × Int × Option D)) := match o with
  | ⟨.type c, none, .dict es _, sl⟩ => if c = "dict" ∧ sl = #[] then some (es.toList.map entC) else none
  | _ => none
/-- the dict at d has these rows -/
structure KTab (K : PySem.W.Frag) (w : World) (d : Addr) (tab : List (D × D)) : Prop where
  low : (d == sysModules) = false
  all : tab.all (fun p => (keyV p.1).isSome) = true
  ex : ∃ o, K.lookup d = some o ∧ tabO o = some (tab.map (rowC w.params))
def GTab (K : PySem.W.Frag) (w : World) (mg : Str → Option Value) (x : Str) (tab : List (D × D)) : Prop := ∃ d, mg x = some (.ref d) ∧ KTab K w d tab
theorem keyC_is {v : Value} {k : Option Key} (h : keyC v = some k) : nkIs k v = true := by
  cases v with
  | none => cases h; rfl
  | int i t => cases h; exact keyIs_int i t
  | str x t => cases h; exact keyIs_str x t
  | _ => cases h
theorem is_keyC {v : Value} {k : Option Key} (h : nkIs k v = true) : keyC v = some k := by
  cases k with
  | none => rw [nk_none h]; rfl
  | some k =>
    rcases keyIs_shape h with ⟨i, t, rfl, rfl⟩ | ⟨x, t, rfl, rfl⟩ <;> rfl
theorem valC_rp {v : Value} {d : D} (h : valC v = some d) : ∃ x : V, RelV x v ∧ ∀ (K : Kw) (H : Hp), Rp K H x d := by
  cases v with
  | none => cases h; exact ⟨.non, rfl, fun _ _ => .non⟩
  | int i t => cases h; exact ⟨.int i, ⟨t, rfl⟩, fun _ _ => .int i⟩
  | str x t => cases h; exact ⟨.str x, ⟨t, rfl⟩, fun _ _ => .str x⟩
  | _ => cases h
theorem hashP_eq (w : World) (P : Program) (k : Option Key) : hashP w.params k = (noneKind P w).hash k := by
  cases k with
  | none => rfl
  | some k => cases k <;> rfl
theorem rows_keys {w : World} {P : Program} : ∀ {l : List DictEntry} {tab : List (D × D)}, l.map entC = tab.map (rowC w.params) → tab.all (fun p => (keyV p.1).isSome) = true → ∀ e ∈ l, ∃ k, (noneKind P w).is k e.key = true ∧ e.hash = (noneKind P w).hash k
  | [], _, _, _, e, he => by cases he
  | e0 :: l, [], h, _, _, _ => by cases h
  | e0 :: l, p :: tab, h, al, e, he => by
    rw [List.map_cons, List.map_cons, List.cons.injEq] at h
    rw [List.all_cons, Bool.and_eq_true] at al
    rcases List.mem_cons.mp he with q | q
    · subst q
      have h1 : keyC e.key = keyV p.1 := congrArg (·.1) h.1
      have h2 : e.hash = ((keyV p.1).map (hashP w.params)).getD 0 := congrArg (·.2.1) h.1
      obtain ⟨k, hk⟩ := Option.isSome_iff_exists.mp al.1
      rw [hk] at h1 h2
      exact ⟨k, keyC_is h1, h2.trans (hashP_eq w P k)⟩
    · exact rows_keys h.2 al.2 e q
theorem rows_find {w : World} : ∀ {l : List DictEntry} {tab : List (D × D)}, l.map entC = tab.map (rowC w.params) → ∀ k : Option Key,
    (l.find? fun e => nkIs k e.key) = none ∧ seekT tab k = none ∨ ∃ e d, (l.find? fun e => nkIs k e.key) = some e ∧ seekT tab k = some d ∧ valC e.val = some d
  | [], [], _, k => .inl ⟨rfl, rfl⟩
  | [], p :: tab, h, k => by cases h
  | e :: l, [], h, k => by cases h
  | e :: l, p :: tab, h, k => by
    rw [List.map_cons, List.map_cons, List.cons.injEq] at h
    have h1 : keyC e.key = keyV p.1 := congrArg (·.1) h.1
    have h3 : valC e.val = some p.2 := congrArg (·.2.2) h.1
    unfold seekT
    by_cases c : nkIs k e.key = true
    · have c2 : keyV p.1 = some k := h1.symm.trans (is_keyC c)
      refine .inr ⟨e, p.2, ?_, ?_, h3⟩
      · simp [List.find?_cons, c]
      · simp [List.find?_cons, c2]
    · have c2 : ¬ keyV p.1 = some k := fun z => c (keyC_is (h1.trans z))
      have f1 : ((e :: l).find? fun e => nkIs k e.key) = l.find? fun e => nkIs k e.key := by simp [List.find?_cons, c]
      have f2 : ((p :: tab).find? fun p => decide (keyV p.1 = some k)) = tab.find? fun p => decide (keyV p.1 = some k) := by simp [List.find?_cons, c2]
      rw [f1, f2]
      exact rows_find h.2 k
section
variable {X : Cx} {d : Addr} {tab : List (D × D)} {pins : List (Addr × Obj)} {s : Shared} {σ : L2.St} {H : Hp}
theorem KTab.map (T : KTab X.K X.w d tab) (I : L2.Inv X pins σ H s) : ∃ es : Array DictEntry, s.heap.MapOf (noneKind X.prog X.w) d (fun k => findBy nkIs es k) ∧ es.toList.map entC = tab.map (rowC X.w.params) := by
  obtain ⟨o, hl, ht⟩ := T.ex
  obtain ⟨oc, od, dt, sl⟩ := o
  unfold tabO at ht
  split at ht
  · rename_i c es n sl' e
    cases e
    split at ht
    · rename_i h
      obtain ⟨rfl, rfl⟩ := h
      have he : es.toList.map entC = tab.map (rowC X.w.params) := Option.some.inj ht
      exact ⟨es, ⟨_, es, n, I.kIn _ _ hl, ⟨rfl, rfl, rfl⟩, rfl, fun e he' => rows_keys he T.all e (Array.mem_toList_iff.mpr he'), fun _ => rfl⟩, he⟩
    · cases ht
  · cases ht
theorem find_list (es : Array DictEntry) (k : Option Key) : findBy nkIs es k = (es.toList.find? fun e => nkIs k e.key).map (·.val) := by
  unfold findBy
  rw [← Array.find?_toList]
/-- a key's value -/
theorem key_of {ea : Addr} {Hf : Hp} {x : V} {v : Value} {dx : D} {k : Option Key} (r : RelV x v) (h : VRp (X.kw ea) Hf H x dx) (hk : keyV dx = some k) : (noneKind X.prog X.w).is k v = true := by
  cases dx with
  | none => cases hk; cases h with | e h => cases h; exact (show nkIs none v = true by cases (show v = Value.none from r); rfl)
  | int i => cases hk; obtain rfl : x = .int i := h.int; obtain ⟨t, rfl⟩ := r; exact keyIs_int i t
  | str z => cases hk; obtain rfl : x = .str z := h.str; obtain ⟨t, rfl⟩ := r; exact keyIs_str z t
  | _ => cases hk
/-- d[k], of the module's dict -/
def rTab (K : Kw) (d : Addr) (tab : List (D × D)) : R2 := fun x y H Q => ∃ Hf dy z, x = .ref d ∧ Same Hf H ∧ VRp K Hf H y dy ∧ lookT tab dy = some z ∧ ∀ v, Rp K Hf v z → Q v H
theorem ix_tab {ea : Addr} (T : KTab X.K X.w d tab) : IxR X (rTab (X.kw ea) d tab) := fun value slice pins s σ H x y v u Q I rx ry ⟨Hf, dy, z, ex, f, hy, hz, q⟩ hs => by
  subst ex
  obtain rfl : v = .ref d := rx
  obtain ⟨es, mp, he⟩ := T.map I
  unfold lookT at hz
  cases hk : keyV dy with
  | none => rw [hk] at hz; cases hz
  | some k =>
    rw [hk] at hz
    have hz' : seekT tab k = some z := hz
    rcases rows_find he k with ⟨_, n⟩ | ⟨e, d', fe, sd, ve⟩
    · rw [n] at hz'; cases hz'
    · rw [sd] at hz'
      cases hz'
      obtain ⟨v0, rv, rp⟩ := valC_rp ve
      have fnd : findBy nkIs es k = some e.val := by rw [find_list, fe]; rfl
      exact PyProof.Rows.tail_any mp.typeIs slot_dict_getitem.lookup (wpAny_getItem_of (key_of ry hy hk) mp fnd ⟨v0, H, I.tok _, rv, q v0 (rp _ _)⟩) hs
def rHas (K : Kw) (d : Addr) (tab : List (D × D)) (g : Bool → Bool) : R2 := fun x y H Q => ∃ Hf dx k, y = .ref d ∧ VRp K Hf H x dx ∧ keyV dx = some k ∧ Q (.bl (g (seekT tab k).isSome)) H
theorem has_tab {es : Array DictEntry} (he : es.toList.map entC = tab.map (rowC X.w.params)) (k : Option Key) : (findBy nkIs es k).isSome = (seekT tab k).isSome := by
  rw [find_list]
  rcases rows_find he k with ⟨a, b⟩ | ⟨e, d', fe, sd, _⟩
  · rw [a, b]; rfl
  · rw [fe, sd]; rfl
theorem op_inTab {ea : Addr} (T : KTab X.K X.w d tab) : OpR X (compareOp .In) (rHas (X.kw ea) d tab id) := fun pins s σ H x y v u Q I rx ry ⟨Hf, dx, k, ey, hx, hk, q⟩ => by
  subst ey
  obtain rfl : u = .ref d := ry
  obtain ⟨es, mp, he⟩ := T.map I
  refine wpAny_in_of (key_of rx hx hk) T.low mp ⟨.bl _, H, I.tok _, rfl, ?_⟩
  rw [has_tab he]
  exact q
theorem op_notInTab {ea : Addr} (T : KTab X.K X.w d tab) : OpR X (compareOp .NotIn) (rHas (X.kw ea) d tab not) := fun pins s σ H x y v u Q I rx ry ⟨Hf, dx, k, ey, hx, hk, q⟩ => by
  subst ey
  obtain rfl : u = .ref d := ry
  obtain ⟨es, mp, he⟩ := T.map I
  refine wpAny_notIn_of (key_of rx hx hk) T.low mp ⟨.bl _, H, I.tok _, rfl, ?_⟩
  rw [has_tab he]
  exact q
end
section
variable {X : Cx} {W : WE} {a b : Expr} {F : En → R D} {pos px : Pos} {x : Str} {tab : List (D × D)}
/-- x[b], x a dict of the module -/
theorem xTab (T : GTab X.K X.w X.mg x tab) (hb : PE X b (tV (X.kw ea) W F)) (hs : PlainIx b) (hg : Gl X x := by rfl) (hd : (x == ("__debug__" : Str)) = false := by decide) : PE X (.Subscript (.Name x px) b pos) (tE (X.kw ea) W (un1 (lookT tab) F)) := by
  obtain ⟨d, hm, T⟩ := T
  exact PE_weak (pe_ix (ix_tab (ea := ea) T) (pe_glob (v := .ref d) hg hm rfl hd) hb hs) fun σ H Q ⟨H0, Hf0, Hf, e, S, p⟩ => ⟨H0, Hf0, Hf, e, S, p.bind.mono fun y H1 ⟨Hf1, dy, g1, ry, p1⟩ => by
    obtain ⟨z, ez, q⟩ := p1.of_opt
    exact ⟨Hf1, dy, z, rfl, g1.fh, ry, ez, fun v r => q v Hf1 H1 (Grow.refl g1.fh) r⟩⟩
/-- a in x, a not in x, x a dict of the module -/
def hasTN (tab : List (D × D)) (x : D) : Option D := (keyV x).map fun k => .bool (!(seekT tab k).isSome)
theorem xTabIn (T : GTab X.K X.w X.mg x tab) (ha : PE X a (tV (X.kw ea) W F)) (hm : behindInMarks .In (.Name x px) = false := by with_unfolding_all rfl) (hg : Gl X x := by rfl) (hd : (x == ("__debug__" : Str)) = false := by decide) : PE X (.Compare a [.In] [.Name x px] pos) (tE (X.kw ea) W (un1 (hasT tab) F)) := by
  obtain ⟨d, hx, T⟩ := T
  exact PE_weak (pe_cmpR (op_inTab (ea := ea) T) ha (pe_glob (v := .ref d) hg hx rfl hd) hm) fun σ H Q ⟨H0, Hf0, Hf, e, S, p⟩ => ⟨H0, Hf0, Hf, e, S, p.bind.mono fun y H1 ⟨Hf1, dy, g1, ry, p1⟩ => by
    obtain ⟨z, ez, q⟩ := p1.of_opt
    unfold hasT at ez
    cases hk : keyV dy with
    | none => rw [hk] at ez; cases ez
    | some k => rw [hk] at ez; cases ez; exact ⟨Hf1, dy, k, rfl, ry, hk, q _ Hf1 H1 (Grow.refl g1.fh) (.bl _)⟩⟩
end
/-! ### range(i, j, c) -/
def rng3 : D → D → D → Option (List D)
  | .int i, .int j, .int c => if (decide (0 < c) && decide (c < 1000)) && Builtin.Range.small i j c then some (rangeC i c (Builtin.Range.rangeSize i j c).toNat) else none
  | _, _, _ => none
def irng3 (F G J : En → R D) : En → R (List D) := fun e => (F e).bind fun d => (G e).bind fun d' => (J e).bind fun d2 => opt (rng3 d d' d2)
theorem size_pos {i j c : Int} (hc : 0 < c) : 0 ≤ Builtin.Range.rangeSize i j c := by
  unfold Builtin.Range.rangeSize
  rw [if_pos hc]
  split
  · have := Int.ediv_nonneg (a := j - i - 1) (b := c) (by omega) (by omega)
    omega
  · exact Int.le_refl _
section
variable {X : Cx} {W : WE} {a b c tg : Expr} {F G J : En → R D} {pos p : Pos}
theorem iRange3 {fz : Bool} (hg : Gl X "range") (hm : X.mg "range" = none) (ha : PE X a (tE (X.kw ea) W F)) (hb : PE X b (tE (X.kw ea) W G)) (hc : PE X c (tE (X.kw ea) W J)) (hs : starEach [a, b, c] X.env = (false, eval a X.env) :: starEach [b, c] X.env := by rfl)
    (hs2 : starEach [b, c] X.env = (false, eval b X.env) :: starEach [c] X.env := by rfl) (hs3 : starEach [c] X.env = [(false, eval c X.env)] := by rfl) (hpl : (backTo pos (starEach [b, c] X.env)).any (·.1) = false := by rfl) :
    PI X tg (.Call (.Name "range" p) [a, b, c] [] pos) (tI (X.kw ea) W fz (irng3 F G J)) :=
  PI_weak (pi_range3 hg hm (pa_cons ha (pa_cons hb (pa_cons hc pa_nil hs3) hs2) hs) hs hpl) fun σ H Q ⟨H0, Hf0, Hf, e, S, p⟩ => ⟨H0, Hf0, Hf, e, S, p.bind.mono fun x H1 ⟨Hf1, d, g, r, p1⟩ => ⟨H0, Hf0, Hf1, e, S.grow g, p1.bind.mono fun y H2 ⟨Hf2, d', g2, r2, p2⟩ => ⟨H0, Hf0, Hf2, e, (S.grow g).grow g2, p2.bind.mono fun z H3 ⟨Hf3, d3, g3, r3, p3⟩ => by
    obtain ⟨ds, ez, q⟩ := p3.of_opt
    cases r with
    | int i =>
      cases r2 with
      | int j =>
        cases r3 with
        | int k =>
          have ez' : (if (decide (0 < k) && decide (k < 1000)) && Builtin.Range.small i j k then some (rangeC i k (Builtin.Range.rangeSize i j k).toNat) else none) = some ds := ez
          split at ez'
          · rename_i hh
            cases ez'
            rw [Bool.and_eq_true, Bool.and_eq_true] at hh
            have k0 : 0 < k := of_decide_eq_true hh.1.1
            have k1 : k < 1000 := of_decide_eq_true hh.1.2
            exact ⟨i, j, k, _, rfl, ⟨by omega, by omega, hh.2, (Int.toNat_of_nonneg (size_pos k0)).symm⟩, q _ Hf3 H3 (Grow.refl g3.fh) (Wk.rangeC i k _)⟩
          · cases ez'
        | _ => cases ez
      | _ => cases ez
    | _ => cases ez⟩⟩⟩
end
/-! ### a op b op' c as a test -/
section
variable {X : Cx} {W : WE} {a b c : Expr} {F G Fc : En → R D} {pos : Pos} {f f' : D → D → Option D} {σ : L2.St} {H : Hp} {Q : VK}
theorem chn_tr {ea : Addr} : tE (X.kw ea) W (chn f f' F G Fc) σ H Q → tChain (rB (X.kw ea) (VRp (X.kw ea)) f) (rB (X.kw ea) (VRp (X.kw ea)) f') (tV (X.kw ea) W F) (tV (X.kw ea) W G) (tV (X.kw ea) W Fc) σ H Q :=
  fun ⟨H0, Hf0, Hf, e, S, p⟩ => ⟨H0, Hf0, Hf, e, S, p.bind.mono fun x H1 ⟨Hf1, dx, g1, rx, p1⟩ => ⟨H0, Hf0, Hf1, e, S.grow g1, p1.bind.mono fun y H2 ⟨Hf2, dy, g2, ry, p2⟩ => by
    cases hz : f dx dy with
    | none => rw [hz] at p2; exact p2.elim
    | some z =>
      rw [hz] at p2
      refine ⟨Hf2, dx, dy, z, g2.fh, rx.mono g2, ry, hz, fun v Hf3 H3 g3 r3 => ?_⟩
      have S3 := ((S.grow g1).grow g2).grow g3
      cases z with
      | bool k =>
        cases r3
        cases k with
        | true =>
          refine ⟨true, rfl, ?_⟩
          rw [if_pos rfl]
          have p3 : Po (ERp (X.kw ea)) W Q σ Hf2 H2 ((Fc e).bind fun w => opt (f' dy w)) := p2
          refine ⟨H0, Hf0, Hf3, e, S3, (p3.grow g3).bind.mono fun w H4 ⟨Hf4, dw, g4, rw4, p4⟩ => ?_⟩
          obtain ⟨z', ez, q⟩ := p4.of_opt
          exact ⟨Hf4, dy, dw, z', g4.fh, (ry.mono g3).mono g4, rw4, ez, q⟩
        | false =>
          refine ⟨false, rfl, ?_⟩
          rw [if_neg Bool.false_ne_true]
          have p3 : ∀ v Hf' H', Grow Hf2 H2 Hf' H' → Rp (X.kw ea) Hf' v (.bool false) → Q v H' := p2
          exact p3 _ Hf3 H3 g3 (.bl false)
      | none => exact p2.elim
      | int i => exact p2.elim
      | str i => exact p2.elim
      | list i => exact p2.elim
      | tuple i => exact p2.elim
      | dict i => exact p2.elim⟩⟩

theorem tChn {op op' : CmpOp} (ho : OpR X (compareOp op) (rB (X.kw ea) (VRp (X.kw ea)) f)) (ho' : OpR X (compareOp op') (rB (X.kw ea) (VRp (X.kw ea)) f')) (ha : PE X a (tV (X.kw ea) W F)) (hb : PE X b (tV (X.kw ea) W G)) (hc : PE X c (tV (X.kw ea) W Fc))
    (hm : lastMarks [op, op'] [b, c] = false := by with_unfolding_all rfl) : PT X (.Compare a [op, op'] [b, c] pos) (tT (X.kw ea) W (xbl (chn f f' F G Fc))) :=
  PT_weak (pt_chain ho ho' ha hb hc hm) fun σ H Q ⟨H0, Hf0, Hf, e, S, p⟩ => chn_tr ⟨H0, Hf0, Hf, e, S, p.bind.mono fun x H1 ⟨Hf1, dx, g1, rx, p1⟩ => by
    cases dx with
    | bool k => cases rx; exact ⟨k, rfl, p1 Hf1 H1 (Grow.refl g1.fh)⟩
    | _ => exact p1.elim⟩
end
/-! ### the signs of texts -/
def tSIGNS : List (D × D) := [(.none, .str "."), (.int 0, .str "x"), (.int 1, .str "o")]
def tMEN : List (D × D) := [(.str ".", .none), (.str "x", .int 0), (.str "o", .int 1)]
end Pu
namespace Pf
open PySem L2 Pu
def qwritten_1 : En → R (List D) :=
  (xlc [5] (iseq (xvV 1)) (gn 5) tyes (un1 (lookT tSIGNS) (xvV 5)))
def bwritten : En → Fl :=
  (sseq (sasgT (gtup (gcons (gn 1) (gcons (gn 2) (gcons (gn 3) gnil)))) (xvE 0))
  (sseq (sasg 4 (xmt ["str"] joinD (xc (.str "")) (asL qwritten_1)))
  (sret (bin addD (bin addD (bin addD (bin addD (bin addD (bin addD (xvE 4) (xc (.str " "))) (un1 strD (bin ixD (xvV 2) (xc (.int 0))))) (xc (.str " "))) (un1 strD (bin ixD (xvV 2) (xc (.int 1))))) (xc (.str " "))) (un1 (lookT tSIGNS) (xvV 3))))))
def fwritten : List D → R D := runD 6 bwritten
def btold : En → Fl :=
  (sseq (sasgT (gtup (gcons (gn 1) (gcons (gn 2) (gcons (gn 3) gnil)))) (xvE 0))
  (sseq (sasg 4 (bin addD (xc (.str "lay ")) (un1 strD (xvV 2))))
  (sseq (sif (xbl (bin geD (xvV 1) (xc (.int 0)))) (sasg 4 (bin addD (bin addD (bin addD (xc (.str "lead ")) (un1 strD (xvV 1))) (xc (.str " "))) (un1 strD (xvV 2)))) snil)
  (sseq (sif (xbl (bin geD (xvV 3) (xc (.int 0)))) (sasg 4 (bin addD (bin addD (xvE 4) (xc (.str " take "))) (un1 strD (xvV 3)))) snil)
  (sret (xvE 4))))))
def ftold : List D → R D := runD 5 btold
def qread_1 : En → R (List D) :=
  (xlc [5] (iseq (bin ixD (xvV 2) (xc (.int 0)))) (gn 5) tyes (un1 (hasT tMEN) (xvV 5)))
def qread_2 : En → R (List D) :=
  (xlc [4] (iseq (xsl (xvV 2) (osome (xc (.int 1))) (osome (xc (.int 3))))) (gn 4) tyes (xandV (bin eqD (un1 lenD (xvV 4)) (xc (.int 1))) (bin inD (xvV 4) (xc (.str "0123456789")))))
def qread_3 : En → R (List D) :=
  (xlc [5] (iseq (bin ixD (xvV 2) (xc (.int 0)))) (gn 5) tyes (un1 (lookT tMEN) (xvV 5)))
def bread : En → Fl :=
  (sseq (sasg 2 (asL (xsplit (xvV 1) (xc (.str " ")))))
  (sseq (sif (tor (xbl (bin neD (un1 lenD (xvV 2)) (xc (.int 4)))) (tor (tnot (xtru (un1 allD (asL qread_1)))) (xbl (bin notInD (bin ixD (xvV 2) (xc (.int 3))) (xtup (lcons (xc (.str "x")) (lcons (xc (.str "o")) lnil))))))) (srai "NoText") snil)
  (sseq (sif (tnot (xtru (un1 allD (asL qread_2)))) (srai "NoText") snil)
  (sseq (sasg 3 (xtup (lcons (un1 tupleD (asL qread_3)) (lcons (xtup (lcons (un1 intD (bin ixD (xvV 2) (xc (.int 1)))) (lcons (un1 intD (bin ixD (xvV 2) (xc (.int 2)))) lnil))) (lcons (un1 (lookT tMEN) (bin ixD (xvV 2) (xc (.int 3)))) lnil)))))
  (sseq (sif (tnot (xtru (xcall 2 fis_stand (lcons (xvE 0) (lcons (xvE 3) lnil))))) (srai "NoText") snil)
  (sret (xvE 3)))))))
def fread : List D → R D := runD 6 bread
def qpoint_of_1 : En → R (List D) :=
  (xlc [1] (iseq (xvV 0)) (gn 1) tyes (bin inD (xvV 1) (xc (.str "0123456789"))))
def bpoint_of : En → Fl :=
  (sseq (sif (tor (tnot (xbl (chn leD leD (xc (.int 1)) (un1 lenD (xvV 0)) (xc (.int 2))))) (tor (tnot (xtru (un1 allD (asL qpoint_of_1)))) (xbl (bin neD (un1 strD (un1 intD (xvV 0))) (xvV 0))))) (srai "NoText") snil)
  (sseq (sif (xbl (bin gtD (un1 intD (xvV 0)) (xc (.int 23)))) (srai "NoText") snil)
  (sret (un1 intD (xvV 0)))))
def fpoint_of : List D → R D := runD 2 bpoint_of
def bheard : En → Fl :=
  (sseq (sasgT (gtup (gcons (gn 1) (gcons (gn 2) (gcons (gn 3) gnil)))) (xmt ["str"] partD (xvV 0) (xc (.str " take "))))
  (sseq (sasg 4 (un1 negD (xc (.int 1))))
  (sseq (sif (xbl (bin neD (xvV 2) (xc (.str "")))) (sasg 4 (xcall 1 fpoint_of (lcons (xvE 3) lnil))) snil)
  (sseq (sasg 5 (asL (xsplit (xvV 1) (xc (.str " ")))))
  (sseq (sif (tand (xbl (bin eqD (bin ixD (xvV 5) (xc (.int 0))) (xc (.str "lay")))) (xbl (bin eqD (un1 lenD (xvV 5)) (xc (.int 2))))) (sret (xtup (lcons (un1 negD (xc (.int 1))) (lcons (xcall 1 fpoint_of (lcons (bin ixD (xvV 5) (xc (.int 1))) lnil)) (lcons (xvE 4) lnil))))) snil)
  (sseq (sif (tor (xbl (bin neD (bin ixD (xvV 5) (xc (.int 0))) (xc (.str "lead")))) (xbl (bin neD (un1 lenD (xvV 5)) (xc (.int 3))))) (srai "NoText") snil)
  (sret (xtup (lcons (xcall 1 fpoint_of (lcons (bin ixD (xvV 5) (xc (.int 1))) lnil)) (lcons (xcall 1 fpoint_of (lcons (bin ixD (xvV 5) (xc (.int 2))) lnil)) (lcons (xvE 4) lnil)))))))))))
def fheard : List D → R D := runD 6 bheard
end Pf
/-! PuV: a dict of constants that is made and read in one place -/
namespace Pu
open PySem L2
def plainV : D → Bool
  | .none => true
  | .int _ => true
  | .str _ => true
  | _ => false
def vOf : D → V
  | .int i => .int i
  | .str x => .str x
  | _ => .non
def kOf (d : D) : Option Key := (keyV d).getD none
theorem kOf_key {d : D} (h : plainV d = true) : keyV d = some (kOf d) := by
  cases d with
  | none => rfl
  | int i => rfl
  | str x => rfl
  | _ => cases h
theorem vOf_rp {d : D} (h : plainV d = true) (K : Kw) (H : Hp) : Rp K H (vOf d) d := by
  cases d with
  | none => exact .non
  | int i => exact .int i
  | str x => exact .str x
  | _ => cases h
theorem vOf_key {P : Program} {w : World} {d : D} {u : Value} (h : plainV d = true) (r : RelV (vOf d) u) : (noneKind P w).is (kOf d) u = true := by
  cases d with
  | none => cases (show u = Value.none from r); rfl
  | int i => obtain ⟨t, rfl⟩ := r; exact keyIs_int i t
  | str x => obtain ⟨t, rfl⟩ := r; exact keyIs_str x t
  | _ => cases h
def tabOk (tab : List (D × D)) : Bool := tab.all (fun p => plainV p.1 && plainV p.2) && decide (tab.map fun p => kOf p.1).Nodup
abbrev RowR (p : D × D) (r : Option Key × Value) : Prop := kOf p.1 = r.1 ∧ RelV (vOf p.2) r.2
theorem stored_new {rs : List (Option Key × Value)} {k : Option Key} {v : Value} (h : k ∉ rs.map (·.1)) : stored rs k v = rs ++ [(k, v)] := by
  unfold stored
  rw [if_neg]
  intro z
  obtain ⟨x, hx, e⟩ := List.any_eq_true.mp z
  exact h (List.mem_map.mpr ⟨x, hx, of_decide_eq_true e⟩)
theorem merged_new : ∀ (rs acc : List (Option Key × Value)), ((acc ++ rs).map (·.1)).Nodup → merged acc rs = acc ++ rs
  | [], acc, _ => by rw [List.append_nil]; rfl
  | r :: rs, acc, h => by
    have hn : r.1 ∉ acc.map (·.1) := fun z => by
      rw [List.map_append] at h
      exact (List.nodup_append.mp h).2.2 _ z _ (by simp) rfl
    show merged (stored acc r.1 r.2) rs = _
    rw [stored_new hn, merged_new rs (acc ++ [(r.1, r.2)]) (by rw [List.append_assoc]; exact h), List.append_assoc]
    rfl
theorem rows_carry {P : Program} {w : World} : ∀ {tab : List (D × D)} {ws : List (Value × Value)}, tab.all (fun p => plainV p.1 && plainV p.2) = true → VV (tab.map fun p => (vOf p.1, vOf p.2)) ws → ∃ rs, Carries (noneKind P w) ws rs ∧ Paired RowR tab rs
  | [], _, _, r => by cases r; exact ⟨[], True.intro, .nil⟩
  | p :: tab, _, al, r => by
    rw [List.all_cons, Bool.and_eq_true, Bool.and_eq_true] at al
    cases r with
    | @cons _ b _ bs h t =>
      obtain ⟨rs, c, q⟩ := rows_carry (P := P) (w := w) al.2 t
      exact ⟨(kOf p.1, b.2) :: rs, ⟨vOf_key al.1.1 h.1, rfl, c⟩, .cons ⟨rfl, h.2⟩ q⟩
theorem rows_names : ∀ {tab : List (D × D)} {rs : List (Option Key × Value)}, Paired RowR tab rs → rs.map (·.1) = tab.map fun p => kOf p.1
  | [], _, .nil => rfl
  | p :: tab, _, .cons h t => by rw [List.map_cons, List.map_cons, rows_names t, h.1]
theorem vOf_val {d : D} {u : Value} (h : plainV d = true) (r : RelV (vOf d) u) : valC u = some d := by
  cases d with
  | none => cases (show u = Value.none from r); rfl
  | int i => obtain ⟨t, rfl⟩ := r; rfl
  | str x => obtain ⟨t, rfl⟩ := r; rfl
  | _ => cases h
theorem rows_lie {P : Program} {w : World} : ∀ {tab : List (D × D)} {rs : List (Option Key × Value)} {l : List DictEntry}, Paired RowR tab rs → tab.all (fun p => plainV p.1 && plainV p.2) = true → Pairs (noneKind P w) l rs → (∀ e ∈ l, ∃ k, (noneKind P w).is k e.key = true ∧ e.hash = (noneKind P w).hash k) → l.map entC = tab.map (rowC w.params)
  | [], _, _, .nil, _, .nil, _ => rfl
  | p :: tab, _, [], .cons _ _, _, hp, _ => by cases hp
  | p :: tab, _, e :: l, @Paired.cons _ _ _ _ r _ rs h t, al, .cons hk hv hp, ks => by
    rw [List.all_cons, Bool.and_eq_true, Bool.and_eq_true] at al
    have ih := rows_lie (P := P) (w := w) t al.2 hp fun e he => ks e (List.mem_cons_of_mem _ he)
    obtain ⟨k, hk2, hh⟩ := ks e List.mem_cons_self
    have ek : r.1 = k := (noneKind P w).inj e.key r.1 k hk hk2
    have h1 : keyC e.key = some r.1 := is_keyC hk
    have h2 : keyV p.1 = some r.1 := by rw [kOf_key al.1.1, h.1]
    have h3 : valC e.val = some p.2 := by rw [hv]; exact vOf_val al.1.2 h.2
    rw [List.map_cons, List.map_cons, ih]
    congr 1
    unfold entC rowC
    rw [h1, h2, h3, hh, ← ek]
    rw [← hashP_eq w P r.1]
    rfl
section
variable {X : Cx} {keys : List (Option Expr)} {values : List Expr} {tab : List (D × D)} {dpos pos : Pos}
def tTab (w : World) (tab : List (D × D)) : TE := fun _ H Q => ∀ p, H p = none → Q (.ref p) (upd H p (TabO w p tab))
theorem pairs_tab {σ : L2.St} {H : Hp} : ∀ (tab : List (D × D)) (Q : List (V × V) → Hp → Prop), Q (tab.map fun p => (vOf p.1, vOf p.2)) H → tPairs (tab.map fun p => (tC (vOf p.1), tC (vOf p.2))) σ H Q
  | [], _, q => q
  | p :: tab, Q, q => pairs_tab tab (fun ps H3 => Q ((vOf p.1, vOf p.2) :: ps) H3) q
theorem tab_stays {P : Program} {w : World} {H : Hp} {h : Heap} {a : Addr} (t : TabF w a tab h) : ObjOk P w H h a (TabO w a tab) := by
  refine ⟨t, ?_, fun h1 h2 ⟨o, es, ep, ho, z⟩ k => ⟨o, es, ep, k o ho, z⟩⟩
  obtain ⟨o, es, ep, ho, _⟩ := t
  exact ⟨o, ho⟩
theorem pe_tab (h : PPs X dpos keys values (tab.map fun p => (tC (vOf p.1), tC (vOf p.2)))) (hall : keys.all (·.isSome) = true) (hl : keys.length = values.length) (h0 : keys ≠ []) (h15 : keys.length ≤ 15) (ok : tabOk tab = true) : PE X (.Dict keys values dpos) (tTab X.w tab) := by
  unfold tabOk at ok
  rw [Bool.and_eq_true] at ok
  have nd := of_decide_eq_true ok.2
  refine ⟨fun pins s σ H Q I q => ?_⟩
  generalize ha : s.heap.objs.size = a
  have free : H a = none := I.hok.fresh (Nat.le_of_eq ha)
  have ob : (s.heap.push { cls := .type "dict", data := .dict #[] }).get? a = some { cls := .type "dict", data := .dict #[] } := by rw [← ha]; exact Heap.get?_push_size _ rfl
  have dn : TabF X.w a [] (s.heap.push { cls := .type "dict", data := .dict #[] }) := ⟨_, #[], 0, ob, ⟨rfl, rfl, rfl⟩, rfl, rfl⟩
  have I1 := I.laid (a := a) (o := TabO X.w a []) (t' := s.toks) (fun b u e => Heap.get?_push_of_some _ e) (Nat.le_of_eq ha) (tab_stays dn)
  refine wpAny_Dict_walk (knd := noneKind X.prog X.w) hall hl h0 h15 ?_
  rw [ha]
  refine thn (h.run pins _ σ _ (fun ps H2 => ps = (tab.map fun p => (vOf p.1, vOf p.2)) ∧ H2 = upd H a (TabO X.w a [])) I1 (pairs_tab tab _ ⟨rfl, rfl⟩)) fun ws s2 ⟨ps, H2, I2, rel, e, eH⟩ => ?_
  subst e eH
  obtain ⟨rs, c, rk⟩ := rows_carry (P := X.prog) (w := X.w) ok.1 rel
  have mg : merged [] rs = rs := merged_new rs [] (by rw [List.nil_append, rows_names rk]; exact nd)
  obtain ⟨⟨o, es, ep, ho, hx, hd, he⟩, _, _⟩ := (show ObjOk X.prog X.w _ s2.heap a (TabO X.w a []) from I2.hok a _ upd_same)
  have d0 : s2.heap.DictOf (noneKind X.prog X.w) a [] := by
    have e0 : es.toList = [] := List.map_eq_nil_iff.mp he
    refine ⟨o, es, ep, ho, hx, hd, fun e h => ?_, by rw [e0]; exact .nil, List.nodup_nil⟩
    rw [← Array.mem_toList_iff, e0] at h
    cases h
  refine ⟨rs, c, d0, fun h' dd hs => ?_⟩
  rw [mg] at dd
  obtain ⟨o', es', ep', ho', hx', hd', hk', hp', _⟩ := dd
  have tf : TabF X.w a tab h' := ⟨o', es', ep', ho', hx', hd', rows_lie rk ok.1 hp' fun e h => hk' e (Array.mem_toList_iff.mp h)⟩
  have I3 := d_write (ob := TabO X.w a tab) (t' := s2.toks + ws.length) I2 (by rw [upd_same]; exact True.intro) hs ⟨o', ho'⟩ (tab_stays tf)
  rw [upd_upd] at I3
  exact ⟨.ref a, _, I3, rfl, q a free⟩
/-- {..} -/
theorem xDisp {W : WE} (h : PPs X dpos keys values (tab.map fun p => (tC (vOf p.1), tC (vOf p.2)))) (ok : tabOk tab = true) (hall : keys.all (·.isSome) = true := by rfl) (hl : keys.length = values.length := by rfl) (h0 : keys ≠ [] := by simp) (h15 : keys.length ≤ 15 := by decide) :
    PE X (.Dict keys values dpos) (tE (X.kw ea) W (xc (tabD tab))) :=
  PE_weak (pe_tab h hall hl h0 h15 ok) fun σ H Q ⟨H0, Hf0, Hf, e, S, p⟩ a ha => p (.ref a) _ _ (Grow.new S.gr.fh ha) (.tab upd_same)
/-! ### a row of it -/
theorem TabF.map {pins : List (Addr × Obj)} {s : Shared} {σ : L2.St} {H : Hp} {a : Addr} (al : tab.all (fun p => (keyV p.1).isSome) = true) (I : L2.Inv X pins σ H s) (t : TabF X.w a tab s.heap) : ∃ es : Array DictEntry, s.heap.MapOf (noneKind X.prog X.w) a (fun k => findBy nkIs es k) ∧ es.toList.map entC = tab.map (rowC X.w.params) := by
  obtain ⟨o, es, ep, ho, hx, hd, he⟩ := t
  exact ⟨es, ⟨o, es, ep, ho, hx, hd, fun e h => rows_keys he al e (Array.mem_toList_iff.mpr h), fun _ => rfl⟩, he⟩
def lookD : D → D → Option D
  | .dict ((.none, .none) :: t), x => if t.all (fun p => (keyV p.1).isSome) then lookT t x else none
  | _, _ => none
def rTabL (K : Kw) : R2 := fun x y H Q => ∃ (a : Addr) (Hf : Hp) (tab : List (D × D)) (dy z : D), x = .ref a ∧ tab.all (fun p => (keyV p.1).isSome) = true ∧ H a = some (TabO K.w a tab) ∧ VRp K Hf H y dy ∧ lookT tab dy = some z ∧ ∀ v, Rp K Hf v z → Q v H
theorem ix_tabL {ea : Addr} : IxR X (rTabL (X.kw ea)) := fun value slice pins s σ H x y v u Q I rx ry ⟨a, Hf, tab, dy, z, ex, al, ha, hy, hz, q⟩ hs => by
  subst ex
  obtain rfl : v = .ref a := rx
  obtain ⟨tf, _, _⟩ := (show ObjOk X.prog X.w H s.heap a (TabO X.w a tab) from I.hok a _ ha)
  obtain ⟨es, mp, he⟩ := tf.map al I
  unfold lookT at hz
  cases hk : keyV dy with
  | none => rw [hk] at hz; cases hz
  | some k =>
    rw [hk] at hz
    have hz' : seekT tab k = some z := hz
    rcases rows_find he k with ⟨_, n⟩ | ⟨e, d', fe, sd, ve⟩
    · rw [n] at hz'; cases hz'
    · rw [sd] at hz'
      cases hz'
      obtain ⟨v0, rv, rp⟩ := valC_rp ve
      have fnd : findBy nkIs es k = some e.val := by rw [find_list, fe]; rfl
      exact PyProof.Rows.tail_any mp.typeIs slot_dict_getitem.lookup (wpAny_getItem_of (key_of ry hy hk) mp fnd ⟨v0, H, I.tok _, rv, q v0 (rp _ _)⟩) hs
theorem Rp.table {K : Kw} {H : Hp} {v : V} {t : List (D × D)} (r : Rp K H v (tabD t)) : ∃ a, v = .ref a ∧ H a = some (TabO K.w a t) := by
  have gen : ∀ {d : D}, Rp K H v d → d = tabD t → ∃ a, v = .ref a ∧ H a = some (TabO K.w a t) := by
    intro d r e
    cases r with
    | dct h r =>
      unfold tabD at e
      injection e with e
      subst e
      cases r with
      | cons _ _ hb _ _ _ => cases hb
    | scr h =>
      unfold tabD scrD at e
      injection e with e
      injection e with e1 e2
      injection e1 with e1 e3
      cases e3
    | tab h =>
      unfold tabD at e
      injection e with e
      injection e with e1 e2
      subst e2
      exact ⟨_, rfl, h⟩
    | _ => cases e
  exact gen r rfl
theorem VRp.table {K : Kw} {Hf H : Hp} {v : V} {t : List (D × D)} (f : Same Hf H) (r : VRp K Hf H v (tabD t)) : ∃ a, v = .ref a ∧ H a = some (TabO K.w a t) := by
  have gen : ∀ {d : D}, VRp K Hf H v d → d = tabD t → ∃ a, v = .ref a ∧ H a = some (TabO K.w a t) := by
    intro d r e
    cases r with
    | e h =>
      rw [e] at h
      obtain ⟨a, ev, ha⟩ := h.table
      exact ⟨a, ev, f _ _ ha⟩
    | l h r => cases e
    | d h r =>
      unfold tabD at e
      injection e with e
      subst e
      cases r with
      | cons _ _ hb _ _ _ => cases hb
  exact gen r rfl
/-- a[b], a such a dict -/
theorem xIxT {W : WE} {a b : Expr} {F G : En → R D} (ha : PE X a (tV (X.kw ea) W F)) (hb : PE X b (tV (X.kw ea) W G)) (hs : PlainIx b) : PE X (.Subscript a b pos) (tE (X.kw ea) W (bin lookD F G)) :=
  PE_weak (pe_ix (ix_tabL (ea := ea)) ha hb hs) fun σ H Q ⟨H0, Hf0, Hf, e, S, p⟩ => ⟨H0, Hf0, Hf, e, S, p.bind.mono fun x H1 ⟨Hf1, dx, g1, rx, p1⟩ => ⟨H0, Hf0, Hf1, e, S.grow g1, p1.bind.mono fun y H2 ⟨Hf2, dy, g2, ry, p2⟩ => by
    obtain ⟨z, ez, q⟩ := p2.of_opt
    unfold lookD at ez
    split at ez
    · rename_i t _
      split at ez
      · rename_i al
        obtain ⟨a0, ev, h0⟩ := VRp.table (t := t) g1.fh rx
        exact ⟨a0, Hf2, t, dy, z, ev, al, g2.hh _ _ h0, ry, ez, fun v r => q v Hf2 H2 (Grow.refl g2.fh) r⟩
      · cases ez
    · cases ez⟩⟩
/-- {..}[b] -/
theorem xDispIx {W : WE} {b : Expr} {F : En → R D} (h : PPs X dpos keys values (tab.map fun p => (tC (vOf p.1), tC (vOf p.2)))) (ok : tabOk tab = true) (hb : PE X b (tV (X.kw ea) W F)) (hs : PlainIx b) (hall : keys.all (·.isSome) = true := by rfl) (hl : keys.length = values.length := by rfl) (h0 : keys ≠ [] := by simp) (h15 : keys.length ≤ 15 := by decide) :
    PE X (.Subscript (.Dict keys values dpos) b pos) (tE (X.kw ea) W (un1 (lookT tab) F)) :=
  PE_weak (pe_ix (ix_tabL (ea := ea)) (pe_tab h hall hl h0 h15 ok) hb hs) fun σ H Q ⟨H0, Hf0, Hf, e, S, p⟩ a ha => by
    have g0 : Grow Hf H Hf (upd H a (TabO X.w a tab)) := Grow.lay S.gr.fh ha
    have al : tab.all (fun p => (keyV p.1).isSome) = true := by
      unfold tabOk at ok
      rw [Bool.and_eq_true, List.all_eq_true] at ok
      rw [List.all_eq_true]
      intro p hp
      have := ok.1 p hp
      rw [Bool.and_eq_true] at this
      rw [kOf_key this.1]
      rfl
    refine ⟨H0, Hf0, Hf, e, S.grow g0, (p.grow g0).bind.mono fun y H1 ⟨Hf1, dy, g1, ry, p1⟩ => ?_⟩
    obtain ⟨z, ez, q⟩ := p1.of_opt
    exact ⟨a, Hf1, tab, dy, z, rfl, al, g1.hh _ _ upd_same, ry, ez, fun v r => q v Hf1 H1 (Grow.refl g1.fh) r⟩
end
/-! ### (a, b, ..) = a list -/
def glst (g : List D → En → Option En) : Tg := fun d e => match d with
  | .list ds => g ds e
  | _ => none
section
variable {X : Cx} {W : WE} {pos : Pos} {k : Nat}
theorem gL {es : List Expr} {kk n : Nat} {is : List Nat} {g : List D → En → Option En} (z : Cz X k W) (hl : ∀ ds e e', g ds e = some e' → ds.length = n) (h : PGs X es (tGs (X.kw ea) is g)) (hn : (assignEach es X.env).length = n := by rfl) (hst : (assignEach es X.env).findIdx? (·.1) = none := by rfl) :
    PG X (.Tuple es kk pos) (tG (X.kw ea) is (glst g)) :=
  PG_weak (pg_unl z.calm h hn hst) fun v σ H Q ⟨H0, Hf0, Hf, e, d, e', S, r, he, q⟩ => by
    cases r with
    | lst hp ra => exact ⟨_, _, rfl, SqL.of (S.gr.fh _ _ hp), by rw [ra.length]; exact hl _ _ _ he, H0, Hf0, Hf, e, _, e', S, ra, he, q⟩
    | _ => cases he
end
end Pu
/-! PuW: len(set(..)) of a list of texts that are all unlike -/
namespace Pu
open PySem PySem.Spec PyProof.Rows
section
variable {P : Program} {w : World} {A : Around} {E : Value → Shared → Prop} {s : Shared}
theorem txt_is (y : Str) (t : Tok) : (strKind P w).is y (.str y t) = true := by
  show Value.isStrOf y (.str y t) = true
  simp [Value.isStrOf]
/-- what a set has of the texts ys after i of them -/
def HasX (P : Program) (w : World) (h0 : Heap) (S : Addr) (ys : List Str) (i : Nat) (h : Heap) : Prop :=
  (∀ b o, h0.get? b = some o → h.get? b = some o) ∧ ∃ Sf, h.SetOf (strKind P w) S Sf i ∧ ∀ k, Sf k = true ↔ k ∈ ys.take i
theorem put_txt {h0 : Heap} {S : Addr} {y : Str} {t : Tok} {ys : List Str} {i : Nat} {Q : Bool → Shared → Prop} (nd : ys.Nodup) (few : ys.length < 4000) (off : h0.get? S = none) (hy : ys[i]? = some y) (J : HasX P w h0 S ys i s.heap)
    (q : ∀ b h' tk, Heap.SameBut S s.heap h' → s.toks ≤ tk → HasX P w h0 S ys (i + 1) h' → Q b { s with heap := h', toks := tk }) : wpAny (model P w) A (setAdd S (.str y t)) Q E s := by
  obtain ⟨kp, Sf, R, mem⟩ := J
  obtain ⟨hi, ey⟩ := List.getElem?_eq_some_iff.mp hy
  have tk : ys.take (i + 1) = ys.take i ++ [y] := by rw [List.take_succ, hy]; rfl
  have hn : Sf y = false := by
    cases c : Sf y with
    | false => rfl
    | true =>
      have h1 := (mem y).mp c
      have h2 : (ys.take (i + 1)).Nodup := nd.sublist (List.take_sublist _ _)
      rw [tk, List.nodup_append] at h2
      exact absurd rfl (h2.2.2 y h1 y (by simp))
  unfold setAdd
  apply wpAny_holding
  apply wpAny_bind
  refine (strKind P w).pyHash (txt_is y t) ?_
  refine wpAny_setAddHashed_of (s := { s with toks := s.toks + 1 }) (txt_is y t) rfl R (by show i + 1 < 4096; omega) fun h' same R' => q _ h' _ same (Nat.le_succ _) ⟨fun c o g => ?_, fun k => Sf k || decide (k = y), ?_, fun k => ?_⟩
  · exact (same.2 c fun e => nomatch (e ▸ off).symm.trans g).trans (kp c o g)
  · rw [hn] at R'
    exact R'
  · rw [tk, Bool.or_eq_true, mem k, decide_eq_true_eq, List.mem_append, List.mem_singleton]
theorem set_txts {l : Addr} {ys : List Str} {us : List Value} {Q : Value → Shared → Prop} (hh : A.handled = none) (hl : s.heap.IsList l us.toArray) (ru : L2.Vals (ys.map L2.V.str) us) (nd : ys.Nodup) (few : ys.length < 4000)
    (h : ∀ (h' : Heap) (tk : Nat) (Sf : Str → Bool), h'.SetOf (strKind P w) s.heap.objs.size Sf ys.length → (∀ b o, s.heap.get? b = some o → h'.get? b = some o) → Q (.ref s.heap.objs.size) { s with heap := h', toks := tk }) :
    wpAny (model P w) A (call (.type "set") [.ref l]) Q E s := by
  have ll : l < s.heap.objs.size := let ⟨_, g, _⟩ := hl; Heap.lt_size g
  have off : ∀ b, s.heap.objs.size ≤ b → s.heap.get? b = none := fun b hb => by
    cases g : s.heap.get? b with
    | none => rfl
    | some o => exact absurd (Heap.lt_size g) (Nat.not_lt.mpr hb)
  have sz : (s.heap.push (set0 w)).objs.size = s.heap.objs.size + 1 := Heap.size_push ..
  have at0 : (setOn w s.heap l).get? s.heap.objs.size = some (set0 w) := Heap.get?_push_of_some _ (Heap.get?_push_size _ rfl)
  have at1 : (setOn w s.heap l).get? (s.heap.objs.size + 1) = some (lit0 l) := sz ▸ Heap.get?_push_size _ rfl
  have kp : ∀ b o, s.heap.get? b = some o → (setOn w s.heap l).get? b = some o := fun b o g => Heap.get?_push_of_some _ (Heap.get?_push_of_some _ g)
  have own : s.heap.objs.size ∉ [s.heap.objs.size + 1, l] := fun m => (List.mem_cons.mp m).elim (fun e => Nat.succ_ne_self _ e.symm) fun m => Nat.ne_of_gt ll (List.mem_singleton.mp m)
  have ul : us.length = ys.length := by have := ru.length; simpa using this.symm
  refine setOf_list hl fun A' hA uA => ?_
  have W := (Walks.list (prog := P) (w := w) (A := A'.in1) (by simp [hA, hh]) (s.heap.objs.size + 1) l (Nat.ne_of_lt (Nat.lt_succ_of_lt ll)) us.toArray).toS
  have len : us.toArray.size = ys.length := by simp [ul]
  refine set_fill W own (HasX P w s.heap s.heap.objs.size ys) (fun i h h' ⟨k0, Sf, R, mem⟩ k1 => ?_) (fun i v s1 Q1 E1 pv J q => ?_) ys.length _ (Nat.le_of_eq len.symm) ?_ ?_ fun s2 mv J => ⟨rfl, ?_⟩
  · refine ⟨fun b o g => k1 b o (fun m => Nat.ne_of_lt (Nat.lt_succ_of_lt (Heap.lt_size g)) (List.mem_singleton.mp m)) (k0 b o g), Sf, ?_, mem⟩
    obtain ⟨o, es, ep, t, ho, z⟩ := R
    exact ⟨o, es, ep, t, k1 _ o (fun m => Nat.succ_ne_self _ (List.mem_singleton.mp m).symm) ho, z⟩
  · have gi : us[i]? = some v := by simpa using pv
    have hi : i < ys.length := by rw [← ul]; exact (List.getElem?_eq_some_iff.mp gi).1
    cases g : ys[i]? with
    | none => rw [List.getElem?_eq_getElem hi] at g; cases g
    | some y =>
      obtain ⟨u, hu, rx⟩ := L2.Vals.get ru (i := i) (x := .str y) (by rw [List.getElem?_map, g]; rfl)
      obtain rfl : u = v := Option.some.inj (hu.symm.trans gi)
      obtain ⟨t, rfl⟩ := rx
      exact put_txt nd few (off _ (Nat.le_refl _)) g J q
  · rw [len, Nat.sub_self]
    exact ⟨⟨_, at1, rfl, rfl⟩, hl.at fun o g => kp l o g⟩
  · rw [len, Nat.sub_self]
    exact ⟨kp, fun _ => false, ⟨_, #[], 0, _, at0, ⟨rfl, rfl, rfl⟩, rfl, fun e he => by simp at he, fun k => by simp, by decide, rfl, rfl⟩, fun k => by simp⟩
  · obtain ⟨k0, Sf, R, mem⟩ := J
    rw [len] at R
    have es2 : s2 = { s with heap := s2.heap, toks := s2.toks } := by
      cases s2
      have e1 := mv.gens
      have e2 := mv.drawn
      have e3 := mv.os
      cases e1
      cases e2
      cases e3
      rfl
    rw [es2]
    exact h s2.heap s2.toks Sf R k0
end
end Pu
namespace Pu
open PySem L2
def TxF (P : Program) (w : World) (a : Addr) (n : Nat) (h : Heap) : Prop := ∃ Sf, h.SetOf (strKind P w) a Sf n
theorem tx_stays {P : Program} {w : World} {H : Hp} {h : Heap} {a : Addr} {n : Nat} (t : TxF P w a n h) : ObjOk P w H h a (.ext (TxF P w a n)) := by
  refine ⟨t, ?_, fun h1 h2 ⟨Sf, o, es, ep, t, ho, z⟩ k => ⟨Sf, o, es, ep, t, k o ho, z⟩⟩
  obtain ⟨Sf, o, es, ep, t, ho, _⟩ := t
  exact ⟨o, ho⟩
def rSetX (K : PySem.W.Frag) (P : Program) (w : World) : List V → Hp → VK → Prop := fun vs H Q => ∃ (l : Addr) (ys : List Str), vs = [.ref l] ∧ SqL K H l (ys.map V.str) ∧ ys.Nodup ∧ ys.length < 4000 ∧ ∀ b : Addr, H b = none → Q (.ref b) (upd H b (.ext (TxF P w b ys.length)))
theorem cr_setX {X : Cx} (hc : X.calm = true) : CallR X (.type "set") (rSetX X.K X.prog X.w) := fun pins s σ H _ _ Q I rs ⟨l, ys, ex, hl, nd, few, q⟩ => by
  subst ex
  obtain ⟨_, rfl, rfl⟩ := vals1 rs
  obtain ⟨us, ru, pl, _⟩ := I.list hl
  exact set_txts (I.ok.hd hc) pl.isList ru nd few fun g tk Sf R kp => ⟨.ref s.heap.objs.size, _, I.laid (t' := tk) kp (Nat.le_refl _) (tx_stays ⟨Sf, R⟩), rfl, q _ (I.hok.fresh (Nat.le_refl _))⟩
def rLenX (P : Program) (w : World) : List V → Hp → VK → Prop := fun vs H Q => ∃ (a : Addr) (n : Nat), vs = [.ref a] ∧ H a = some (.ext (TxF P w a n)) ∧ n < 4000 ∧ Q (.int n) H
theorem cr_lenX {X : Cx} : CallR X (.builtin "len") (rLenX X.prog X.w) := fun pins s σ H _ _ Q I rs ⟨a, n, ex, ha, few, q⟩ => by
  subst ex
  obtain ⟨_, rfl, rfl⟩ := vals1 rs
  obtain ⟨⟨Sf, o, es, ep, t, ho, hx, hd, _, _, _, hf, hn⟩, _, _⟩ := (show ObjOk X.prog X.w H s.heap a (.ext (TxF X.prog X.w a n)) from I.hok a _ ha)
  refine call_len_set ho hx hd hf (by rw [hn]; omega) ⟨.int n, H, I.tok _, ⟨s.toks + 1, by rw [hn]⟩, q⟩
/-- len(set(..)) of texts that are all unlike -/
def lenSetD : D → Option D
  | .list ds => (strsOf ds).bind fun ys => if ys.Nodup ∧ ys.length < 4000 then some (.int ys.length) else none
  | _ => none
section
variable {X : Cx} {W : WE} {a : Expr} {F : En → R D} {pos p p2 q : Pos} {k : Nat}
theorem xLenSet (z : Cz X k W) (m : X.mg "len" = none) (m2 : X.mg "set" = none) (ha : PE X a (tV (X.kw ea) W F)) (hg : Gl X "len" := by rfl) (hg2 : Gl X "set" := by rfl) (he : starEach [a] X.env = [(false, eval a X.env)] := by rfl)
    (he2 : starEach [Expr.Call (.Name "set" p2) [a] [] q] X.env = [(false, eval (Expr.Call (.Name "set" p2) [a] [] q) X.env)] := by rfl) : PE X (.Call (.Name "len" p) [.Call (.Name "set" p2) [a] [] q] [] pos) (tE (X.kw ea) W (un1 lenSetD F)) :=
  PE_weak (pe_callB cr_lenX hg m bt_len (pa_cons (pe_callTy (cr_setX z.calm) hg2 m2 bt_set (pa_cons ha pa_nil he) (by decide) (by decide) he) pa_nil he2) (by decide) (by decide) he2) fun σ H Q ⟨H0, Hf0, Hf, e, S, pp⟩ => ⟨H0, Hf0, Hf, e, S, pp.bind.mono fun x H1 ⟨Hf1, dd, g, r, p1⟩ => by
    obtain ⟨zz, ez, qq⟩ := p1.of_opt
    cases dd with
    | list ds =>
      obtain ⟨l, xs, rfl, hl, ra⟩ := r.list g.fh
      have ez' : ((strsOf ds).bind fun ys => if ys.Nodup ∧ ys.length < 4000 then some (PyData.int ys.length) else none) = some zz := ez
      cases h1 : strsOf ds with
      | none => rw [h1] at ez'; cases ez'
      | some ys =>
        rw [h1] at ez'
        have ez2 : (if ys.Nodup ∧ ys.length < 4000 then some (PyData.int ys.length) else none) = some zz := ez'
        by_cases hn : ys.Nodup ∧ ys.length < 4000
        · rw [if_pos hn] at ez2
          cases ez2
          rw [strsOf_eq h1] at ra
          rw [ra.texts] at hl
          refine ⟨l, ys, rfl, SqL.of hl, hn.1, hn.2, fun b hb => ⟨b, ys.length, rfl, upd_same, hn.2, ?_⟩⟩
          exact qq _ Hf1 _ (Grow.lay g.fh hb) (.int _)
        · rw [if_neg hn] at ez2; cases ez2
    | _ => cases ez⟩
end
end Pu
/-! PuX: l[2:0:-1] of a list of four -/
namespace Pu
open PySem L2
def mid2D : D → Option D
  | .list [_, b, c, _] => some (.list [c, b])
  | _ => none
theorem pick_mid (a b c d : Value) : slicePick #[a, b, c, d] (some 2) (some 0) (some (-1)) = #[c, b] := by rfl
theorem RpAll.four {K : Kw} {H : Hp} {xs : List V} {a b c d : D} (r : RpAll K H xs [a, b, c, d]) : ∃ x y z w, xs = [x, y, z, w] ∧ Rp K H y b ∧ Rp K H z c := by
  cases r with
  | cons r1 t => cases t with
    | cons r2 t => cases t with
      | cons r3 t => cases t with
        | cons r4 t => cases t; exact ⟨_, _, _, _, rfl, r2, r3⟩
theorem vals_four {x y z w : V} {us : List Value} (r : Vals [x, y, z, w] us) : ∃ a b c d, us = [a, b, c, d] ∧ RelV y b ∧ RelV z c := by
  cases r with
  | cons r1 t => cases t with
    | cons r2 t => cases t with
      | cons r3 t => cases t with
        | cons r4 t => cases t; exact ⟨_, _, _, _, rfl, r2, r3⟩
section
variable {X : Cx} {W : WE} {a : Expr} {F : En → R D} {pos p2 q1 q2 pu pc : Pos} {j j1 j2 : Nat}
open PySem.Spec PyProof.Rows in
theorem xMid2 (ha : PE X a (tV (X.kw ea) W F)) : PE X (.Subscript a (.Slice (some (.Constant (.int 2) j1 q1)) (some (.Constant (.int 0) j2 q2)) (some (.UnaryOp .USub (.Constant (.int 1) j pc) pu)) p2) pos) (tE (X.kw ea) W (un1 mid2D F)) := by
  refine ⟨fun pins s σ H Q I ⟨H0, Hf0, Hf, e, S, q⟩ => ?_⟩
  refine Subscript_ (thn (ha.run pins s σ H _ I ⟨H0, Hf0, Hf, e, S, q.bind⟩) fun v s1 ⟨x, H1, I1, r1, Hf1, d, g1, rx, qq⟩ => ?_)
  obtain ⟨z, ez, qz⟩ := qq.of_opt
  unfold mid2D at ez
  split at ez
  · rename_i d0 d1 d2 d3
    cases ez
    obtain ⟨l, xs, rfl, hl, ra⟩ := rx.list g1.fh
    obtain ⟨x0, x1, x2, x3, rfl, ry, rz⟩ := ra.four
    cases r1
    have k2 : PO X (some (.Constant (.int 2) j1 q1)) (tPart (tC (.int 2))) := po_some pe_int
    have k0 : PO X (some (.Constant (.int 0) j2 q2)) (tPart (tC (.int 0))) := po_some pe_int
    have k1 : PO X (some (.UnaryOp .USub (.Constant (.int 1) j pc) pu)) (tPart (tUn (fun x H Q => ∃ i, x = .int i ∧ Q (.int (-i)) H) (tC (.int 1)))) := po_some (pe_un un_neg pe_int)
    refine wpAny_Slice (thn (k2.run pins s1 σ H1 (fun o H' => o = some 2 ∧ H' = H1) I1 ⟨2, rfl, rfl, rfl⟩) fun vl s2 ⟨o, H2, I2, pl, eo, eH⟩ => ?_)
    subst eo eH
    refine thn (k0.run pins s2 σ H2 (fun o H' => o = some 0 ∧ H' = H2) I2 ⟨0, rfl, rfl, rfl⟩) fun vh s3 ⟨o, H3, I3, ph, eo, eH⟩ => ?_
    subst eo eH
    refine thn (k1.run pins s3 σ H3 (fun o H' => o = some (-1) ∧ H' = H3) I3 ⟨1, rfl, -1, rfl, rfl, rfl⟩) fun vk s4 ⟨o, H4, I4, pk, eo, eH⟩ => ?_
    subst eo eH
    have I5 : L2.Inv X pins σ H4 { s4 with heap := s4.heap.push { cls := .type "slice", data := .fields #[vl, vh, vk] } } := I4.kept (t' := s4.toks) fun b ob q => Heap.get?_push_of_some _ q
    obtain ⟨us, rv, pl', hz⟩ := I5.list (SqL.of hl)
    obtain ⟨u0, u1, u2, u3, rfl, w1, w2⟩ := vals_four rv
    show wpAny (model X.prog X.w) X.A (subscriptTail a (.Slice (some (.Constant (.int 2) j1 q1)) (some (.Constant (.int 0) j2 q2)) (some (.UnaryOp .USub (.Constant (.int 1) j pc) pu)) p2) (.ref l) (.ref s4.heap.objs.size)) (EP X pins σ Q) X.xe { s4 with heap := s4.heap.push { cls := .type "slice", data := .fields #[vl, vh, vk] } }
    refine tail_any (ops := [.ref l, .ref s4.heap.objs.size]) pl'.isList.typeIs PySem.slot_list_getitem.lookup ?_ (by with_unfolding_all rfl)
    refine wpAny_getItem_list_slice pl'.isList (Heap.IsSliceOf.new ..) pl ph pk (by decide) ?_ (by show 4 ≤ sizeLine; decide)
    rw [pick_mid]
    have fr := I5.hok.fresh (Nat.le_refl _)
    refine ⟨.ref _, _, I5.laid (t' := s4.toks) (o := .lst [x2, x1]) (fun b ob q => Heap.get?_push_of_some _ q) (Nat.le_refl _) ⟨by show 2 ≤ sizeLine; decide, _, 0, .cons w2 (.cons w1 .nil), Heap.get?_push_size _ rfl⟩, rfl, ?_⟩
    have g2 := Grow.new (o := HO.lst [x2, x1]) g1.fh fr
    exact qz _ _ _ g2 (.lst upd_same (.cons (rz.mono g2.ff) (.cons (ry.mono g2.ff) .nil)))
  · cases ez
end
end Pu
/-! PuY: list(range(..)), tuple(range(..)), dict([(key, value), ..]) with keys that are tuples -/
namespace Pu
open PySem L2
/-! ### ranges -/
def rgN : D → Option (List D)
  | .int j => if 0 ≤ j ∧ j ≤ 1000000 then some (rangeL 0 j.toNat) else none
  | _ => none
def rgT (d : D) : Option D := (rgN d).map PyData.tuple
theorem rp_rg {K : Kw} {H : Hp} (j : Int) : RpAll K H (rgV 0 j) (rangeL 0 j.toNat) := by
  unfold rgV rangeL
  rw [show j - 0 = j by omega]
  generalize List.range j.toNat = l
  induction l with
  | nil => exact .nil
  | cons i l ih => exact .cons (.int _) ih
theorem rg_ok {j : Int} (h : 0 ≤ j ∧ j ≤ 1000000) : RgOk 0 j := RgOk.of_le (by omega) (by omega) (by omega) (by omega)
section
variable {X : Cx} {W : WE} {a : Expr} {F : En → R D} {pos p p2 q : Pos} {k : Nat}
theorem xListRg (z : Cz X k W) (m : X.mg "list" = none) (m2 : X.mg "range" = none) (ha : PE X a (tE (X.kw ea) W F)) (hg : Gl X "list" := by rfl) (hg2 : Gl X "range" := by rfl) (he : starEach [a] X.env = (false, eval a X.env) :: starEach [] X.env := by rfl)
    (he2 : starEach [Expr.Call (.Name "range" p2) [a] [] q] X.env = (false, eval (Expr.Call (.Name "range" p2) [a] [] q) X.env) :: starEach [] X.env := by rfl) : PE X (.Call (.Name "list" p) [.Call (.Name "range" p2) [a] [] q] [] pos) (tN (X.kw ea) W (un1N rgN F)) :=
  PE_weak (pe_listRg z.calm hg m (prg_1 hg2 m2 ha he) he2) fun σ H Q ⟨H0, Hf0, Hf, e, S, pp⟩ => ⟨H0, Hf0, Hf, e, S, pp.bind.mono fun x H1 ⟨Hf1, d, g, r, p1⟩ => by
    obtain ⟨ds, ez, qq⟩ := p1.of_opt
    cases r with
    | int j =>
      have ez' : (if 0 ≤ j ∧ j ≤ 1000000 then some (rangeL 0 j.toNat) else none) = some ds := ez
      split at ez'
      · rename_i hj
        cases ez'
        refine ⟨j, rfl, rg_ok hj, fun b hb => qq b _ Hf1 _ (Grow.lay g.fh hb) hb (g.fh.free hb) upd_same (rp_rg j)⟩
      · cases ez'
    | _ => cases ez⟩
open PySem.Spec PyProof.Rows in
theorem xTupRg (z : Cz X k W) (m : X.mg "tuple" = none) (m2 : X.mg "range" = none) (ha : PE X a (tE (X.kw ea) W F)) (hg : Gl X "tuple" := by rfl) (hg2 : Gl X "range" := by rfl) (he : starEach [a] X.env = (false, eval a X.env) :: starEach [] X.env := by rfl)
    (he2 : starEach [Expr.Call (.Name "range" p2) [a] [] q] X.env = (false, eval (Expr.Call (.Name "range" p2) [a] [] q) X.env) :: starEach [] X.env := by rfl) : PE X (.Call (.Name "tuple" p) [.Call (.Name "range" p2) [a] [] q] [] pos) (tE (X.kw ea) W (un1 rgT F)) := by
  refine ⟨fun pins s σ H Q I ⟨H0, Hf0, Hf, e, S, pp⟩ => ?_⟩
  have rg := prg_1 (p := p2) (pos := q) hg2 m2 ha he pins s σ H (fun i j H1 => i = 0 ∧ (0 ≤ j ∧ j ≤ 1000000) ∧ TupN H1 Q (rgV 0 j)) I ⟨H0, Hf0, Hf, e, S, pp.bind.mono fun x H1 ⟨Hf1, d, g, r, p1⟩ => by
    obtain ⟨y, ez, qq⟩ := p1.of_opt
    cases r with
    | int j =>
      have ez' : ((if 0 ≤ j ∧ j ≤ 1000000 then some (rangeL 0 j.toNat) else none).map PyData.tuple) = some y := ez
      split at ez'
      · rename_i hj
        cases ez'
        exact ⟨j, rfl, rfl, hj, TupN.of g.fh (rp_rg j) qq⟩
      · cases ez'
    | _ => cases ez⟩
  refine Call_ (ld_blt I hg m boot_tuple (PyProof.Rows.callWith_type1 (args_cons (thn rg fun x s1 ⟨r, i, j, t, u, v, H1, ex, hr, I1, ei, hj, qq⟩ => args_nil ?_) he2) he2))
  subst ex ei
  obtain ⟨b1, b2, b3, b4, b5⟩ := rg_ok hj
  refine call_tuple_range (n := (j - 0).toNat) (I1.ok.hd z.calm) hr (small_one b1 b2 b3 b4) (rangeSize_nat 0 j) b5 fun g tk acc kp hi => ?_
  have I2 : L2.Inv X pins σ H1 { s1 with heap := g, toks := tk } := I1.kept kp
  have := tup_new (tk := tk) (us := acc.toList) I2 (vals_rg hi) (by rw [rgV_length, sizeLine_eq]; omega) qq
  rwa [Array.toArray_toList] at this
end
/-! ### dict([(key, value), ..]) -/
def pairsD : List D → Option (List (D × D))
  | [] => some []
  | .tuple [k, v] :: r => (pairsD r).map ((k, v) :: ·)
  | _ => none
def keyT (d : D) : Option NestedKey := match d with
  | .tuple ds => nk (.tuple ds)
  | _ => none
def keysOk (kvs : List (D × D)) : Bool := kvs.all (fun p => match keyT p.1 with | some k => decide (k.depth ≤ 8) | none => false) && decide (kvs.map fun p => keyT p.1).Nodup
def dictD : D → Option D
  | .list ds => (pairsD ds).bind fun kvs => if keysOk kvs && decide (kvs.length ≤ many) then some (.dict kvs) else none
  | _ => none
/-- a pair's tuple, its key's tuple, its value -/
abbrev Row3 := Addr × Addr × V
abbrev Row3R (K : Kw) (Hf : Hp) (r : Row3) (kv : D × D) : Prop := SqF Hf r.1 [.ref r.2.1, r.2.2] ∧ Rp K Hf (.ref r.2.1) kv.1 ∧ Rp K Hf r.2.2 kv.2
theorem RpAll.pairs {K : Kw} {Hf : Hp} : ∀ {ds : List D} {kvs : List (D × D)} {xs : List V}, pairsD ds = some kvs → (∀ p ∈ kvs, (keyT p.1).isSome = true) → RpAll K Hf xs ds → ∃ rows : List Row3, xs = rows.map (fun r => V.ref r.1) ∧ Paired (Row3R K Hf) rows kvs
  | [], kvs, _, h, _, .nil => by cases h; exact ⟨[], rfl, .nil⟩
  | d :: ds, kvs, _, h, ok, .cons (v := x) (vs := xs) r t => by
    unfold pairsD at h
    split at h
    · cases ‹d :: ds = []›
    · rename_i k v r' e
      cases e
      cases h1 : pairsD ds with
      | none => rw [h1] at h; cases h
      | some kvs' =>
        rw [h1] at h
        cases h
        obtain ⟨rows, e1, pr⟩ := RpAll.pairs h1 (fun p hp => ok p (List.mem_cons_of_mem _ hp)) t
        obtain ⟨a, ys, ev, ha, ra⟩ := (VRp.e (H := Hf) r).tuple (Same.refl _)
        subst ev
        cases ra with
        | @cons y1 _ _ _ rk t1 => cases t1 with
          | @cons y2 _ _ _ rv t2 =>
            cases t2
            have ko := ok (k, v) List.mem_cons_self
            cases k with
            | tuple es =>
              obtain ⟨b, zs, ev, hb, rb⟩ := (VRp.e (H := Hf) rk).tuple (Same.refl _)
              subst ev
              exact ⟨(a, b, y2) :: rows, by rw [List.map_cons, e1], .cons ⟨ha, rk, rv⟩ pr⟩
            | _ => cases ko
    · cases h
section
variable {X : Cx} {pins : List (Addr × Obj)} {σ : L2.St} {H Hf : Hp} {s : Shared}
theorem rows_are (I : L2.Inv X pins σ H s) (f : Same Hf H) : ∀ {rows : List Row3} {kvs : List (D × D)}, Paired (Row3R (X.kw ea) Hf) rows kvs → (∀ p ∈ kvs, ∃ k, keyT p.1 = some k ∧ k.depth ≤ 8) →
    ∃ es : List (NestedKey × Addr × Value), es.map (fun x => some x.1) = kvs.map (fun p => keyT p.1) ∧ RpDct (X.kw ea) Hf es kvs ∧ es.length = rows.length ∧ ∀ (j : Nat) (x : NestedKey × Addr × Value), es[j]? = some x → ∃ t : Addr, (rows.map (·.1))[j]? = some t ∧ s.heap.IsTuple t #[.ref x.2.1, x.2.2]
  | [], _, .nil, _ => ⟨[], rfl, .nil, rfl, fun j x h => by simp at h⟩
  | r :: rows, kv :: kvs, .cons h t, ok => by
    obtain ⟨es, e1, e2, e3, e4⟩ := rows_are I f t fun p hp => ok p (List.mem_cons_of_mem _ hp)
    obtain ⟨k, hk, hd⟩ := ok kv List.mem_cons_self
    obtain ⟨us, rv, p, _⟩ := I.tuple (h.1.mono f).sq
    obtain ⟨u1, u2, eu, r1, r2⟩ := Vals.two rv
    subst eu
    obtain rfl : u1 = .ref r.2.1 := r1
    have hn : nk kv.1 = some k := by
      unfold keyT at hk
      split at hk
      · rename_i e; rw [e]; exact hk
      · cases hk
    refine ⟨(k, r.2.1, u2) :: es, by rw [List.map_cons, List.map_cons, e1, hk], .cons hn hd h.2.1 r2 h.2.2 e2, by rw [List.length_cons, List.length_cons, e3], fun j x hx => ?_⟩
    cases j with
    | zero => cases hx; exact ⟨r.1, rfl, p⟩
    | succ j => exact e4 j x hx
theorem stored_all : ∀ (ps acc : List (NestedKey × Addr × Value)), ((acc ++ ps).map (·.1)).Nodup → storedAllH acc ps = acc ++ ps
  | [], acc, _ => by rw [List.append_nil]; rfl
  | p :: ps, acc, h => by
    have hn : p.1 ∉ acc.map (·.1) := fun z => by
      rw [List.map_append] at h
      exact (List.nodup_append.mp h).2.2 _ z _ (by simp) rfl
    have e : storedH acc p.1 p.2.1 p.2.2 = acc ++ [p] := by
      unfold storedH
      rw [if_neg]
      intro z
      unfold atKey at z
      rw [Option.isSome_map] at z
      obtain ⟨x, hx⟩ := Option.isSome_iff_exists.mp z
      exact hn (List.mem_map.mpr ⟨x, List.mem_of_find?_eq_some hx, by simpa using List.find?_some hx⟩)
    show storedAllH (storedH acc p.1 p.2.1 p.2.2) ps = _
    rw [e, stored_all ps (acc ++ [p]) (by rw [List.append_assoc]; exact h), List.append_assoc]
    rfl
end
def rDictL (K : Kw) : List V → Hp → VK → Prop := fun vs H Q => ∃ (l : Addr) (Hf : Hp) (rows : List Row3) (kvs : List (D × D)), vs = [.ref l] ∧ Same Hf H ∧ SqL K.K H l (rows.map fun r => V.ref r.1) ∧ Paired (Row3R K Hf) rows kvs ∧ keysOk kvs = true ∧ kvs.length ≤ many ∧
  ∀ (b : Addr) (es : List (NestedKey × Addr × Value)), H b = none → RpDct K Hf es kvs → Q (.ref b) (upd H b (DicO K.w b es))
theorem cr_dictL {X : Cx} (hc : X.calm = true) (hu : X.A.units + 16 < cLine) : CallR X (.type "dict") (rDictL (X.kw ea)) := fun pins s σ H _ _ Q I rs ⟨l, Hf, rows, kvs, ex, f, hl, pr, ok, hm, q⟩ => by
  subst ex
  obtain ⟨_, rfl, rfl⟩ := vals1 rs
  obtain ⟨us, ru, pl, hz⟩ := I.list hl
  unfold keysOk at ok
  rw [Bool.and_eq_true, List.all_eq_true] at ok
  have nd := of_decide_eq_true ok.2
  have okk : ∀ p ∈ kvs, ∃ k, keyT p.1 = some k ∧ k.depth ≤ 8 := fun p hp => by
    have := ok.1 p hp
    cases hk : keyT p.1 with
    | none => rw [hk] at this; cases this
    | some k => rw [hk] at this; exact ⟨k, rfl, of_decide_eq_true this⟩
  obtain ⟨es, e1, e2, e3, e4⟩ := rows_are I f pr okk
  have uv : us = (rows.map (·.1)).map Value.ref := by
    have e : (rows.map fun r => V.ref r.1) = (rows.map (·.1)).map V.ref := by rw [List.map_map]; rfl
    rw [e] at ru
    exact refs_at ru
  obtain ⟨o, n, ho, hcl, hdi, hda⟩ := pl
  have lenp : pr.length = pr.length := rfl
  have hlen : rows.length = kvs.length := Paired.length pr
  have ndk : (es.map (·.1)).Nodup := by
    have h2 : (es.map fun x => some x.1).Nodup := by rw [e1]; exact nd
    rw [List.Nodup, List.pairwise_map] at h2 ⊢
    exact h2.imp fun h e => h (by rw [e])
  have PA := PairArg.list (prog := X.prog) (w := X.w) l us.toArray (fun j => ((rows.map (·.1))[j]?).getD 0) (es.map fun x => (Value.ref x.2.1, x.2.2))
  have oks : PlainSeq "list" s.heap l us.toArray ∧ PairItems s.heap us.toArray (fun j => ((rows.map (·.1))[j]?).getD 0) (es.map fun x => (Value.ref x.2.1, x.2.2)) := by
    refine ⟨⟨o, n, ho, hcl, hdi, hda⟩, by rw [List.size_toArray, uv]; simp [e3], fun j k v hj => ?_⟩
    rw [List.getElem?_map] at hj
    cases hx : es[j]? with
    | none => rw [hx] at hj; cases hj
    | some x =>
      rw [hx] at hj
      cases hj
      obtain ⟨t, ht, it⟩ := e4 j x hx
      refine ⟨?_, .inl ?_⟩
      · rw [uv]
        simp only [List.getElem?_toArray, List.getElem?_map] at ht ⊢
        rw [ht]
        rfl
      · show s.heap.IsTuple (((rows.map (·.1))[j]?).getD 0) _
        rw [ht]
        exact it
  refine call_dict_pairsH (knd := nestedKind X.prog X.w) (ps := es) PA (I.ok.hd hc) (by show X.A.in1.in1.units + 8 < cLine; have : X.A.in1.in1.units = X.A.units + 1 + 1 := rfl; omega) oks ⟨by simp, fun i key v h => ?_⟩ (fun h' kp x hx => ?_) (by simp; rw [e3, hlen]; exact many_line hm) fun h' tk dd kp => ?_
  · have h : (es.map fun x => (Value.ref x.2.1, x.2.2))[i]? = some (key, v) := h
    rw [List.getElem?_map] at h
    cases hx : es[i]? with
    | none => rw [hx] at h; cases h
    | some x =>
      rw [hx] at h
      cases h
      exact ⟨x.1, x.2.1, rfl, rfl⟩
  · have is0 := RpDct.is (ea := ea) I (RpDct.mono f e2) x hx
    exact nestedKind_stays.stays (fun b o vs n hb _ => kp b o (Nat.ne_of_lt (Heap.lt_size hb)) (by simp) hb) is0
  · rw [stored_all es [] (by rw [List.nil_append]; exact ndk), List.nil_append] at dd
    refine ⟨.ref s.heap.objs.size, _, I.laid (t' := tk) (o := DicO X.w s.heap.objs.size es) (fun b u hb => kp b u (by simp) hb) (Nat.le_refl _) (dic_ok (by rw [e3, hlen]; exact many_line hm) (beq_eq_false_iff_ne.mpr (Nat.ne_of_gt I.big)) dd), rfl, q _ es (I.hok.fresh (Nat.le_refl _)) e2⟩
section
variable {X : Cx} {W : WE} {a : Expr} {F : En → R D} {pos p : Pos} {k : Nat}
theorem xDictL (z : Cz X k W) (m : X.mg "dict" = none) (ha : PE X a (tV (X.kw ea) W F)) (hg : Gl X "dict" := by rfl) (he : starEach [a] X.env = [(false, eval a X.env)] := by rfl) : PE X (.Call (.Name "dict" p) [a] [] pos) (tE (X.kw ea) W (un1 dictD F)) :=
  PE_weak (pe_callTy (cr_dictL (ea := ea) z.calm (by have := z.rm.un; omega)) hg m bt_dict (pa_cons ha pa_nil he) (by decide) (by decide) he) fun σ H Q ⟨H0, Hf0, Hf, e, S, pp⟩ => ⟨H0, Hf0, Hf, e, S, pp.bind.mono fun x H1 ⟨Hf1, dd, g, r, p1⟩ => by
    obtain ⟨zz, ez, qq⟩ := p1.of_opt
    cases dd with
    | list ds =>
      obtain ⟨l, xs, rfl, hl, ra⟩ := r.list g.fh
      have ez' : ((pairsD ds).bind fun kvs => if keysOk kvs && decide (kvs.length ≤ many) then some (PyData.dict kvs) else none) = some zz := ez
      cases h1 : pairsD ds with
      | none => rw [h1] at ez'; cases ez'
      | some kvs =>
        rw [h1] at ez'
        have ez2 : (if keysOk kvs && decide (kvs.length ≤ many) then some (PyData.dict kvs) else none) = some zz := ez'
        split at ez2
        · rename_i hn
          cases ez2
          rw [Bool.and_eq_true] at hn
          have oks : ∀ p ∈ kvs, (keyT p.1).isSome = true := fun p hp => by
            have h := hn.1
            unfold keysOk at h
            rw [Bool.and_eq_true, List.all_eq_true] at h
            have := h.1 p hp
            cases hk : keyT p.1 with
            | none => rw [hk] at this; cases this
            | some k => rfl
          obtain ⟨rows, e1, pr⟩ := ra.pairs h1 oks
          subst e1
          refine ⟨l, Hf1, rows, kvs, rfl, g.fh, SqL.of hl, pr, hn.1, of_decide_eq_true hn.2, fun b es hb rd => ?_⟩
          have g2 := Grow.new (o := DicO X.w b es) g.fh hb
          exact qq _ _ _ g2 (.dct upd_same (rd.mono g2.ff))
        · cases ez2
    | _ => cases ez⟩
end
end Pu
/-! PuZ: sorted(set(..)) of a tuple of tuples of ints, all of one length -/
namespace Pu
open PySem PySem.Spec PyProof.Rows
abbrev lit1 (l : Addr) : Obj := { cls := .type "tuple_iterator", data := .fields #[.ref l, .int 0 0] }
abbrev setOnT (w : World) (h : Heap) (l : Addr) : Heap := (h.push (set0 w)).push (lit1 l)
/-- set(l), l a tuple: the set's loop over a new iterator -/
theorem setOf_tup {P : Program} {w : World} {A : Around} {E : Value → Shared → Prop} {s : Shared} {l : Addr} {us : Array Value} {Q : Value → Shared → Prop} (hl : s.heap.IsTuple l us)
    (loop : ∀ A' : Around, A'.handled = A.handled → A'.units ≤ A.units + 3 → codeAny (model P w) A' (.builtin "set.update.loop" ⟨[.ref s.heap.objs.size, .ref (s.heap.objs.size + 1)], []⟩) (fun r s2 => r = .ok (.ret .none) ∧ Q (.ref s.heap.objs.size) s2) { s with heap := setOnT w s.heap l }) :
    wpAny (model P w) A (call (.type "set") [.ref l]) Q E s := by
  refine call_class (Q1 := fun x s1 => x = .ref s.heap.objs.size ∧ s1 = { s with heap := s.heap.push (set0 w) }) F.called_set (F.typeCall_set_1 _) (fun A' => L2.code_set_led1 _ ⟨rfl, rfl⟩) fun A' x s1 hA' uA' ⟨ex, e1⟩ => ?_
  subst ex e1
  have at0 : (s.heap.push (set0 w)).get? s.heap.objs.size = some (set0 w) := Heap.get?_push_size _ rfl
  have ty : Shared.TypeIs { s with heap := s.heap.push (set0 w) } (.ref s.heap.objs.size) "set" := ⟨_, at0, rfl⟩
  have hl1 : (s.heap.push (set0 w)).IsTuple l us := hl.push _
  refine ⟨ty, codeAny_call_builtin F.called_set.init.plain F.entry_set_init (check_set_init_1 ty ?_)⟩
  obtain ⟨⟨cl, dd, da, sl⟩, gl, ec, n, ed⟩ := id hl1
  obtain rfl : cl = .type "tuple" := ec
  obtain rfl : da = .seq us n := ed
  have n1 := F.sub_tuple_set
  have n2 := F.sub_tuple_frozenset
  have n3 : (Value.type "tuple" == Value.type "dict") = false := by decide
  unfold Builtin.«set.__init__» noKeywords Builtin.Frozenset.updateFrom
  generalize eP : pyIter = pI
  wp_walk
  subst eP
  apply wpAny_pyIter_tuple hl1
  apply wpAny_bind
  apply wpAny_runValue
  have sz : (s.heap.push (set0 w)).objs.size = s.heap.objs.size + 1 := Heap.size_push ..
  rw [sz]
  refine codeAny_mono (loop _ (by simp [hA']) (by have := uA'; show A'.units + 1 ≤ A.units + 3; omega)) fun r s2 ⟨er, q⟩ => ?_
  subst er
  exact wpAny_pure (wpAny_pure ⟨rfl, q⟩)
section
variable {P : Program} {w : World} {A : Around} {E : Value → Shared → Prop} {s : Shared}
/-- set(l), l a tuple of tuples of ints -/
theorem set_tupsT {l : Addr} {ks : List (Addr × List Int)} {Q : Value → Shared → Prop} (hh : A.handled = none) (hl : s.heap.IsTuple l (ks.map fun p => Value.ref p.1).toArray) (tups : ∀ p ∈ ks, L2.IsT P w s.heap p.2 p.1) (few : FewT ks 62) (hu : A.units + 8 < cLine)
    (h : ∀ (h' : Heap) (tk : Nat) (L : List (Addr × List Int)), L2.SetT0 P w h' s.heap.objs.size L → (∀ p ∈ L, p ∈ ks) → (∀ p ∈ ks, p.2 ∈ L.map (·.2)) → (∀ b o, s.heap.get? b = some o → h'.get? b = some o) → Q (.ref s.heap.objs.size) { s with heap := h', toks := tk }) :
    wpAny (model P w) A (call (.type "set") [.ref l]) Q E s := by
  have ll : l < s.heap.objs.size := let ⟨_, g, _⟩ := hl; Heap.lt_size g
  have off : ∀ b, s.heap.objs.size ≤ b → s.heap.get? b = none := fun b hb => by
    cases g : s.heap.get? b with
    | none => rfl
    | some o => exact absurd (Heap.lt_size g) (Nat.not_lt.mpr hb)
  have sz : (s.heap.push (set0 w)).objs.size = s.heap.objs.size + 1 := Heap.size_push ..
  have at0 : (setOnT w s.heap l).get? s.heap.objs.size = some (set0 w) := Heap.get?_push_of_some _ (Heap.get?_push_size _ rfl)
  have at1 : (setOnT w s.heap l).get? (s.heap.objs.size + 1) = some (lit1 l) := sz ▸ Heap.get?_push_size _ rfl
  have kp : ∀ b o, s.heap.get? b = some o → (setOnT w s.heap l).get? b = some o := fun b o g => Heap.get?_push_of_some _ (Heap.get?_push_of_some _ g)
  have own : s.heap.objs.size ∉ [s.heap.objs.size + 1, l] := fun m => (List.mem_cons.mp m).elim (fun e => Nat.succ_ne_self _ e.symm) fun m => Nat.ne_of_gt ll (List.mem_singleton.mp m)
  refine setOf_tup hl fun A' hA uA => ?_
  have W := (Walks.tuple (prog := P) (w := w) (A := A'.in1) (by simp [hA, hh]) (s.heap.objs.size + 1) l (Nat.ne_of_lt (Nat.lt_succ_of_lt ll)) (ks.map fun p => Value.ref p.1).toArray).toS
  have len : (ks.map fun p => Value.ref p.1).toArray.size = ks.length := by simp
  have u1 : A'.in1.units < cLine := by show A'.units + 1 < cLine; omega
  refine set_fill W own (HasT P w s.heap s.heap.objs.size ks) (fun i h h' ⟨k0, L, es, ep, t, R, sub, all⟩ k1 => ?_) (fun i v s1 Q1 E1 pv J q => ?_) ks.length _ (Nat.le_of_eq len.symm) ?_ ?_ fun s2 mv J => ⟨rfl, ?_⟩
  · have k2 : ∀ b o, s.heap.get? b = some o → h'.get? b = some o := fun b o g => k1 b o (fun m => Nat.ne_of_lt (Nat.lt_succ_of_lt (Heap.lt_size g)) (List.mem_singleton.mp m)) (k0 b o g)
    exact ⟨k2, L, es, ep, t, R.keep (fun o g => k1 _ o (fun m => Nat.succ_ne_self _ (List.mem_singleton.mp m).symm) g) fun p hp => L2.isT_keep (tups p (sub p hp)) k2, sub, all⟩
  · have gi : (ks.map fun p => Value.ref p.1)[i]? = some v := by simpa using pv
    rw [List.getElem?_map] at gi
    cases g : ks[i]? with
    | none => rw [g] at gi; cases gi
    | some p =>
      rw [g] at gi
      cases gi
      exact put_tup few tups (off _ (Nat.le_refl _)) g u1 J q
  · rw [len, Nat.sub_self]
    exact ⟨⟨_, at1, rfl, rfl⟩, hl.at fun o g => kp l o g⟩
  · rw [len, Nat.sub_self]
    exact ⟨kp, [], #[], 0, _, L2.setTR_fresh at0, fun p hp => (nomatch hp), fun p hp => (nomatch (show p ∈ ([] : List (Addr × List Int)) by simpa using hp))⟩
  · obtain ⟨k0, L, es, ep, t, R, sub, all⟩ := J
    rw [len, List.take_length] at all
    have es2 : s2 = { s with heap := s2.heap, toks := s2.toks } := by
      cases s2
      have e1 := mv.gens
      have e2 := mv.drawn
      have e3 := mv.os
      cases e1
      cases e2
      cases e3
      rfl
    rw [es2]
    exact h s2.heap s2.toks L R.t0 sub all k0
end
end Pu
namespace Pu
open PySem L2
def sortSetA : D → Option (List D)
  | .tuple ds => (keysT ds).bind fun ks => if (decide (1 ≤ (ks.headD []).length) && ks.all (keyOk (ks.headD []).length)) && decide ((dedupT ks).length ≤ 62) then some ((tsort ks).map tupI) else none
  | _ => none
def rSetOfT (K : PySem.W.Frag) (P : Program) (w : World) : List V → Hp → VK → Prop := fun vs H Q => ∃ ks : List (Addr × List Int), FewT ks 62 ∧ (∀ u ∈ ks, SqT K H u.1 (u.2.map V.int)) ∧
  (∀ (L : List (Addr × List Int)) (b : Addr), (∀ u ∈ L, u ∈ ks) ∧ (∀ u ∈ ks, u.2 ∈ L.map (·.2)) → H b = none → Q (.ref b) (upd H b (SetTO P w b L))) ∧ ∃ l : Addr, SqT K H l (ks.map fun u => V.ref u.1) ∧ vs = [.ref l]
theorem cr_setOfT {X : Cx} (hc : X.calm = true) (hu : X.A.units + 8 < cLine) : CallR X (.type "set") (rSetOfT X.K X.prog X.w) := fun pins s σ H _ _ Q I rs ⟨ks, few, hk, q, l, hl, ex⟩ => by
  subst ex
  obtain ⟨_, rfl, rfl⟩ := vals1 rs
  obtain ⟨us, ru, pl, _⟩ := I.tuple hl
  obtain rfl := refs_of_vals ru
  exact set_tupsT (I.ok.hd hc) pl (fun p hp => I.isT (hk p hp)) few hu fun g tk L R sub all kp => ⟨.ref s.heap.objs.size, _, I.laid (t' := tk) kp (Nat.le_refl _) (setTO_new R), rfl, q L _ ⟨sub, all⟩ (I.hok.fresh (Nat.le_refl _))⟩
section
variable {X : Cx} {W : WE} {a : Expr} {F : En → R D} {pos p p2 q : Pos} {k : Nat}
theorem xSSetA (z : Cz X k W) (m : X.mg "sorted" = none) (m2 : X.mg "set" = none) (ha : PE X a (tV (X.kw ea) W F)) (hg : Gl X "sorted" := by rfl) (hg2 : Gl X "set" := by rfl) (he : starEach [a] X.env = [(false, eval a X.env)] := by rfl)
    (he2 : starEach [Expr.Call (.Name "set" p2) [a] [] q] X.env = [(false, eval (Expr.Call (.Name "set" p2) [a] [] q) X.env)] := by rfl) : PE X (.Call (.Name "sorted" p) [.Call (.Name "set" p2) [a] [] q] [] pos) (tN (X.kw ea) W (un1N sortSetA F)) :=
  PE_weak (pe_callB (cr_sortedT z.calm) hg m bt_sorted (pa_cons (pe_callTy (cr_setOfT z.calm (by have := z.rm.un; omega)) hg2 m2 bt_set (pa_cons ha pa_nil he) (by decide) (by decide) he) pa_nil he2) (by decide) (by decide) he2) fun σ H Q ⟨H0, Hf0, Hf, e, S, pp⟩ => ⟨H0, Hf0, Hf, e, S, pp.bind.mono fun x H1 ⟨Hf1, dd, g, r, p1⟩ => by
    obtain ⟨zz, ez, qq⟩ := p1.of_opt
    cases dd with
    | tuple ds =>
      obtain ⟨l, ys, rfl, hl, ra⟩ := r.tuple g.fh
      have ez' : ((keysT ds).bind fun ks => if (decide (1 ≤ (ks.headD []).length) && ks.all (keyOk (ks.headD []).length)) && decide ((dedupT ks).length ≤ 62) then some ((tsort ks).map tupI) else none) = some zz := ez
      cases h1 : keysT ds with
      | none => rw [h1] at ez'; cases ez'
      | some ks =>
        rw [h1] at ez'
        have ez2 : (if (decide (1 ≤ (ks.headD []).length) && ks.all (keyOk (ks.headD []).length)) && decide ((dedupT ks).length ≤ 62) then some ((tsort ks).map tupI) else none) = some zz := ez'
        by_cases hn : ((decide (1 ≤ (ks.headD []).length) && ks.all (keyOk (ks.headD []).length)) && decide ((dedupT ks).length ≤ 62)) = true
        · rw [if_pos hn] at ez2
          cases ez2
          rw [Bool.and_eq_true, Bool.and_eq_true, List.all_eq_true] at hn
          generalize (ks.headD []).length = d at hn
          have hd : 1 ≤ d := of_decide_eq_true hn.1.1
          have okk : ∀ y ∈ ks, y.length = d ∧ TS.Bd 64 y := fun y hy => keyOk_of (hn.1.2 y hy)
          rw [keysT_eq h1] at ra
          obtain ⟨ps, e1, e2, e3⟩ := ra.keys
          subst e1
          have few : FewT ps 62 := fun M nd sub => Nat.le_trans (nodup_len M (dedupT ks) nd fun y hy => (dedupT_mem ks y).mpr (e2 ▸ sub y hy)) (of_decide_eq_true hn.2)
          refine ⟨ps, few, fun u hu => ((e3 u hu).1.mono g.fh).sq, fun L s ⟨sub, all⟩ hs => ⟨s, L, d, 64, rfl, upd_same, fun u hu => (((e3 u (sub u hu)).1.mono g.fh).mono (same_upd hs)).sq, hd, fun u hu => okk _ (e2 ▸ List.mem_map.mpr ⟨u, sub u hu, rfl⟩), fun L' t pm nd _ pw ht => ?_⟩, l, hl.sq, rfl⟩
          have mem : ∀ y, y ∈ L'.map (·.2) ↔ y ∈ ks := fun y => by
            rw [(pm.map (·.2)).mem_iff, ← e2]
            constructor
            · intro hy
              obtain ⟨u, hu, eu⟩ := List.mem_map.mp hy
              exact List.mem_map.mpr ⟨u, sub u hu, eu⟩
            · intro hy
              obtain ⟨u, hu, eu⟩ := List.mem_map.mp hy
              rw [← eu]
              exact all u hu
          have em : L'.map (·.2) = tsort ks := tsort_one (fun y hy => okk y ((mem y).mp hy)) nd (tsort_nodup ks) (by rw [List.pairwise_map]; exact pw) (tsort_le ks) fun y => by rw [mem, tsort_mem]
          have g2 := Grow.lay (o := SetTO X.prog X.w s L) g.fh hs
          have g3 := Grow.lay (o := HO.lst (L'.map fun u => V.ref u.1)) g2.fh ht
          refine qq t _ Hf1 _ (g2.trans g3) (g2.hh.free ht) (g.fh.free (g2.hh.free ht)) upd_same ?_
          rw [← em]
          exact RpAll.ofKeys fun u hu => (e3 u (sub u (pm.subset hu))).2
        · rw [if_neg hn] at ez2; cases ez2
    | _ => cases ez⟩
end
/-! ### max(t), t a tuple of ints -/
def maxTD : D → Option D
  | .tuple ds => (intsOf ds).bind fun ns => (maxL ns).map PyData.int
  | _ => none
theorem most_is (n : Int) : ∀ (ns : List Int) (m : Int), ns.foldl (fun a y => if PySem.W.DatumOrd.lt a y = true then y else a) m = ns.foldl max m := by
  intro ns
  induction ns with
  | nil => intro m; rfl
  | cons y ns ih =>
    intro m
    rw [List.foldl_cons, List.foldl_cons, ih]
    congr 1
    have e : (PySem.W.DatumOrd.lt m y = true) = (m < y) := by
      show (decide (m < y) = true) = (m < y)
      rw [decide_eq_true_eq]
    simp only [e]
    split <;> omega
def rMaxT (K : Kw) : List V → Hp → VK → Prop := fun vs H Q => ∃ (a : Addr) (n : Int) (ns : List Int), vs = [.ref a] ∧ SqT K.K H a ((n :: ns).map V.int) ∧ Q (.int (ns.foldl max n)) H
theorem cr_maxT {X : Cx} (hc : X.calm = true) (hu : X.A.units + 1 < cLine) : CallR X (.builtin "max") (rMaxT (X.kw ea)) := fun pins s σ H _ _ Q I rs ⟨a, n, ns, ex, ha, q⟩ => by
  subst ex
  obtain ⟨_, rfl, rfl⟩ := vals1 rs
  obtain ⟨us, ru, pl, _⟩ := I.tuple ha
  refine PySem.W.max_tuple_datum (α := Int) (x := n) (xs := ns) (I.ok.hd hc) pl (PySem.W.HoldAll.of_ints (by simpa using ru.ints)) (by show X.A.units + 1 + 0 < cLine; omega) fun i v h' tk hi hv kp => ?_
  obtain ⟨bs, r⟩ := hv
  have e : PySem.W.maxOf n ns = ns.foldl max n := most_is 0 ns n
  rw [e] at r
  have r : Reads h' v (.int (ns.foldl max n)) bs := r
  cases r with
  | int _ t => exact ⟨.int _, H, I.kept kp, ⟨t, rfl⟩, q⟩
section
variable {X : Cx} {W : WE} {a : Expr} {F : En → R D} {pos p : Pos} {k : Nat}
theorem xMaxT (z : Cz X k W) (m : X.mg "max" = none) (ha : PE X a (tV (X.kw ea) W F)) (hg : Gl X "max" := by rfl) (he : starEach [a] X.env = [(false, eval a X.env)] := by rfl) : PE X (.Call (.Name "max" p) [a] [] pos) (tE (X.kw ea) W (un1 maxTD F)) :=
  PE_weak (pe_callB (cr_maxT (ea := ea) z.calm (by have := z.rm.un; omega)) hg m bt_max (pa_cons ha pa_nil he) (by decide) (by decide) he) fun σ H Q ⟨H0, Hf0, Hf, e, S, pp⟩ => ⟨H0, Hf0, Hf, e, S, pp.bind.mono fun x H1 ⟨Hf1, dd, g, r, p1⟩ => by
    obtain ⟨zz, ez, qq⟩ := p1.of_opt
    cases dd with
    | tuple ds =>
      obtain ⟨l, xs, rfl, hl, ra⟩ := r.tuple g.fh
      have ez' : ((intsOf ds).bind fun ns => (maxL ns).map PyData.int) = some zz := ez
      cases h1 : intsOf ds with
      | none => rw [h1] at ez'; cases ez'
      | some ns =>
        rw [h1] at ez'
        rw [intsOf_eq h1] at ra
        rw [ra.ints] at hl
        cases ns with
        | nil => cases ez'
        | cons n ns =>
          cases ez'
          exact ⟨l, n, ns, rfl, hl.sq, qq _ Hf1 H1 (Grow.refl g.fh) (.int _)⟩
    | _ => cases ez⟩
end
end Pu
/-! PuLX: a list comprehension whose element, a call, may raise -/
namespace L2
open PySem PySem.Spec PyProof.Rows
theorem frames_less {h B B' : Heap} (k : ∀ b, B.get? b = none → B'.get? b = none) : ∀ {l : List Env}, h.FunFrames B l → h.FunFrames B' l
  | [], _ => trivial
  | _ :: _, ⟨y, ⟨L, o, e, n, g, d⟩, r⟩ => ⟨y, ⟨L, o, e, k L n, g, d⟩, frames_less k r⟩
section
variable {X : Cx} {W : WX} {pins : List (Addr × Obj)} {σ : St} {H : Hp} {s s' : Shared} {C : Addr} {m : Str → Option Value} {cenv : Env} {E : XK} {u : Value}
/-- what a call lets out goes on out of a comprehension's block at C -/
theorem out_block (tk : Takes X W) (hst : X.stack = X.env :: X.outer) (hf : X.env.frame = some X.env.locals) (I : Inv X pins σ H s) (fC : FpOk X pins H C) (hn : s.heap.Ns C m) (hl : cenv.locals = C) (hfr : cenv.frame = X.env.frame)
    (hW : ∀ cls d H', E cls d H' → W cls d σ H') (c : CX X.prog X.w X.stack H s E u s') : notedBy (model X.prog X.w) X.A cenv (CompFails (model X.prog X.w) X.A X.xe cenv) u s' := by
  obtain ⟨a, B, H', cls, d, rfl, fl, hok, ub, na, os, ag, hX⟩ := c
  obtain ⟨oC, es, ep, gC, dC, rC⟩ := id hn
  have noC : ∀ vs, oC.data ≠ .fields vs := fun vs q => by rw [dC] at q; cases q
  have offC : C ∉ frs X.stack := fun z => (List.mem_cons.mp (I.stkSub C z)).elim fC.2.1 fC.2.2.1
  have bC : B.get? C = some oC := ub.keep C oC gC fC.1 offC
  have nC : H' C = none := ub.free C oC gC fC.1
  have ns' : s'.heap.Ns C m := ⟨oC, es, ep, fl.1 C oC bC, dC, rC⟩
  have fl' := fl
  rw [hst] at fl'
  have frm : X.A.frames = some (X.env :: X.outer) := by rw [I.ok.frames, hst]
  -- the ground without C
  have gone : (PySem.W.hideAll B [C]).get? C = none := PySem.W.hideAll_none [C] (List.mem_singleton.mpr rfl)
  have less : ∀ b, B.get? b = none → (PySem.W.hideAll B [C]).get? b = none := fun b n => by
    cases q : (PySem.W.hideAll B [C]).get? b with
    | none => rfl
    | some o => rw [PySem.W.of_hideAll [C] q] at n; cases n
  have inB : ∀ b o, (PySem.W.hideAll B [C]).get? b = some o → B.get? b = some o ∧ b ≠ C := fun b o q => ⟨PySem.W.of_hideAll [C] q, fun e => by rw [e, gone] at q; cases q⟩
  have toB : ∀ b o, B.get? b = some o → b ≠ C → (PySem.W.hideAll B [C]).get? b = some o := fun b o q ne => PySem.W.hideAll_get [C] q fun z => ne (List.mem_singleton.mp z)
  show wpAny _ _ (noteFrame (.ref a) cenv) _ _ s'
  rw [noteFrame_env _ hfr]
  refine HandSPX.looks_onZ Zc.steady frm hf fl' fun h1 held up1 => ?_
  obtain ⟨sl1, g1C⟩ := up1 C oC (fl.1 C oC bC) noC
  have ns1 : h1.Ns C m := ⟨_, es, ep, g1C, dC, rC⟩
  refine ⟨m, by rw [hl]; exact ns1, fun h2 m2 hn2 sb2 => ?_⟩
  rw [hl] at hn2 sb2
  have same2 : ∀ b, b ≠ C → h2.get? b = h1.get? b := fun b ne => sb2.2 b ne
  obtain ⟨st1, nb1, ff1, oe, vs, T, oT, ts, ge, ze, de, e1, nT, Te, gT, dT, e3⟩ := held
  have aC : a ≠ C := fun z => by rw [z, g1C] at ge; cases ge; exact noC vs de
  have tC : T ≠ C := fun z => by rw [z, g1C] at gT; cases gT; exact noC ts dT
  have held2 : HandSPX.HeldZ (PySem.W.hideAll B [C]) (X.env :: X.outer) a (Zc cls d) X.env.locals h2 :=
    ⟨fun b o q => (same2 b (inB b o q).2).trans (st1 b o (inB b o q).1), less a nb1, frames_less less (Heap.FunFrames.sameBut sb2 hn2 ff1),
      oe, vs, T, oT, ts, (same2 a aC).trans ge, ze, de, e1, less T nT, Te, (same2 T tC).trans gT, dT, e3⟩
  unfold PySem.passOn
  refine wpAny_bind (wpAny_field (((same2 a aC).trans ge)) de e1 ?_)
  rw [if_neg (show ¬ ((Value.ref T == Value.none) = true) from by simp), hfr, hf]
  refine wpAny_bind (HandSPX.setFlight_onZ (s := { s' with heap := h2 }) held2 fun h3 held3 up3 => wpAny_throw (tk _ _ ?_))
  -- the state without the error
  obtain ⟨G, g1, g2⟩ := restrict s'.heap fun b => ((PySem.W.hideAll B [C]).get? b).isSome || decide (b ∈ frs X.stack)
  have inG : ∀ b o, G.get? b = some o → s'.heap.get? b = some o ∧ ((∃ o', (PySem.W.hideAll B [C]).get? b = some o') ∨ b ∈ frs X.stack) := fun b o q => by
    cases y : (((PySem.W.hideAll B [C]).get? b).isSome || decide (b ∈ frs X.stack)) with
    | false => rw [g2 b y] at q; cases q
    | true =>
      rw [Bool.or_eq_true, Option.isSome_iff_exists, decide_eq_true_eq] at y
      exact ⟨(g1 b (by rw [Bool.or_eq_true, Option.isSome_iff_exists, decide_eq_true_eq]; exact y)).symm.trans q, y⟩
  have toG : ∀ b o, B.get? b = some o → b ≠ C → G.get? b = some o := fun b o q ne => (g1 b (by rw [toB b o q ne]; rfl)).trans (fl.1 b o q)
  have frG : ∀ b, b ∈ frs X.stack → G.get? b = s'.heap.get? b := fun b y => g1 b (by rw [decide_eq_true y, Bool.or_true])
  have neC : ∀ {b}, b ∉ [C] → b ≠ C := fun n z => n (List.mem_singleton.mpr z)
  have un : Un (frs X.stack) [C] H H' s.heap G := ⟨fun b o e n y z => toG b o (ub.keep b o e n y) (neC z), fun b o e _ y _ => by
      obtain ⟨sl, q⟩ := ub.slot b o e y
      exact ⟨sl, (frG b y).trans q⟩, fun b o e n _ => ub.free b o e n, fun b o e z => by
      by_cases y : b ∈ frs X.stack
      · obtain ⟨sl, q⟩ := ub.slot b o e y
        exact ⟨_, (frG b y).trans q⟩
      · obtain ⟨o', q⟩ := ub.there b o e y
        exact ⟨o', toG b o' q (neC z)⟩, ub.tups, ub.frzs, ub.tbls⟩
  have hokG : HOk X.prog X.w H' (PySem.W.hideAll B [C]) := fun b o q => (hok b o q).stay (fun c v hc r => toB c v r fun e => by
      rcases hc with z | z
      · rw [← z, e, nC] at q; cases q
      · rw [e, nC] at z; cases z) (fun _ r => r) fun _ _ r => r
  have I2 : Inv X pins σ H' { s with heap := G, gens := s'.gens, drawn := s'.drawn, toks := s'.toks } := I.call (ch := [C]) un (hokG.kept fun b o q => toG b o (inB b o q).1 (inB b o q).2) ag fun b hb => by
    rw [List.mem_singleton.mp hb]
    exact ⟨fC.2.2.2.1, fC.2.1, fC.2.2.2.2.1, fC.2.2.2.2.2⟩
  refine ⟨a, PySem.W.hideAll B [C], _, pins, σ, H', cls, d, rfl, I2, fun b o q y => ?_, fun b o q nf => ?_, ?_, na, os, ag, hW _ _ _ hX⟩
  · obtain ⟨q', alt⟩ := inG b o q
    rcases alt with ⟨o', z⟩ | z
    · have w := fl.1 b o' (inB b o' z).1
      rw [q'] at w
      cases w
      exact z
    · exact absurd z y
  · obtain ⟨q', alt⟩ := inG b o q
    have ne : b ≠ C := by
      rcases alt with ⟨o', z⟩ | z
      · exact (inB b o' z).2
      · exact fun e => offC (e ▸ z)
    obtain ⟨sl, w1⟩ := up1 b o q' nf
    have w2 := (same2 b ne).trans w1
    obtain ⟨sl3, w3⟩ := up3 b _ w2 nf
    exact ⟨sl3, w3⟩
  · rw [hst]
    exact .inr (.inr held3)
end
section
variable {X : Cx} {W : WX}
/-- [elt for target in iter], elt by a reading of its own for each σ -/
def tLx (wi : TI) (g : TG) (te : St → TE) (vs : List Nat) : TE := fun σ H Q => wi σ H fun J H1 => ∀ D, H1 D = none → ∃ P : Nat → Nat → Hp → Prop, (∃ n, P 0 n (upd H1 D (.lst []))) ∧ ∀ i n H2, P i n H2 →
  (J.stop i H2 ∧ Q (.ref D) H2) ∨ (J.go i H2 ∧ ∀ x H3, J.yld i H2 x H3 → g x (wipe σ vs) H3 fun σ4 H4 => wipe σ4 vs = wipe σ vs ∧ te σ σ4 H4 fun y H5 => ∃ acc, H5 D = some (.lst acc) ∧ acc.length < sizeLine ∧ ∃ n', n' < n ∧ P (i + 1) n' (upd H5 D (.lst (acc ++ [y]))))
theorem pe_lx {elt tg iter : Expr} {scope : Scope} {own : List (Str × Nat)} {pos : Pos} {wi : TI} {g : TG} {te : St → TE} (hc : X.calm = true) (hN : X.N.Nodup) (tk : Takes X W) (hst : X.stack = X.env :: X.outer) (hf : X.env.frame = some X.env.locals) (hi : PI X tg iter wi) (ok : BlkOk X.N X.env.scope scope own)
    (hg : ∀ (s : Shared) (H : Hp) (C : Addr) (cl : List (Str × Addr)) (fp : List Addr), PG (X.blk s H scope (compEnvC scope cl C X.env) fp) tg g)
    (he : ∀ (s : Shared) (H : Hp) (C : Addr) (cl : List (Str × Addr)) (fp : List Addr) (xe : Value → Shared → Prop) (σ : St), (∀ τ, PassesAt (CX X.prog X.w) ((X.blk s H scope (compEnvC scope cl C X.env) fp).wish xe) τ fun cls d H' => W cls d σ H') → PE ((X.blk s H scope (compEnvC scope cl C X.env) fp).wish xe) elt (te σ))
    (hs : ∀ x, foldedSetIterable iter X.env x = pure x := by intro _; rfl) : PE X (.ListComp elt [⟨tg, iter, [], 0⟩] scope pos) (tLx wi g te (own.map (·.2))) := ⟨fun pins s σ H Q I h => by
  rw [eval_ListComp]
  have cls : ∀ y ∈ scope.names, y.2 = .free → ∃ c, X.env.cells.lookup y.1 = some c := fun y hy e => (ok.free y hy e).elim (fun k => I.ok.has _ (.inl k)) fun k => I.ok.has _ (.inr k)
  refine comprehension_at (use := none) rfl hs (closure_ok cls) ok.kind (fun y hy e => by rw [ok.uniq y hy, e]) (thn (hi.run pins s σ H _ I h) fun xv s1 hx => thn hx fun itv s2 ⟨it, fp, tn, J, H2, e, I2, T, st2, f2, q⟩ => ?_)
  subst e
  refine wpAny_newObj_type (newEnv_comp ?_) (Nat.zero_le sizeLine)
  have hDn : H2 s2.heap.objs.size = none := I2.hok.fresh (Nat.le_refl _)
  obtain ⟨P, ⟨n0, p0⟩, turn⟩ := q _ hDn
  -- the list
  obtain ⟨s3, es3⟩ : ∃ s3 : Shared, s3 = { s2 with heap := s2.heap.push { cls := .type "list", data := .seq ([] : List Value).toArray } } := ⟨_, rfl⟩
  have kp3 : ∀ b o, s2.heap.get? b = some o → s3.heap.get? b = some o := fun b o y => by rw [es3]; exact Heap.get?_push_of_some _ y
  have sz3 : s3.heap.objs.size = s2.heap.objs.size + 1 := by rw [es3]; exact Heap.size_push ..
  have I3 : Inv X pins σ (upd H2 s2.heap.objs.size (.lst [])) s3 := by
    rw [es3]
    exact I2.laid (t' := s2.toks) (fun b o y => Heap.get?_push_of_some _ y) (Nat.le_refl _) ⟨Nat.zero_le _, [], 0, .nil, Heap.get?_push_size _ rfl⟩
  have old : ∀ b ∈ fp, b < s2.heap.objs.size := fun b hb => let ⟨_, y, _⟩ := T.obj _ _ st2 b hb; Heap.lt_size y
  have f3 : ∀ b ∈ fp, FpOk X pins (upd H2 s2.heap.objs.size (.lst [])) b ∧ b < s3.heap.objs.size := fun b hb => ⟨⟨by rw [upd_ne (Nat.ne_of_lt (old b hb))]; exact (f2 b hb).1, (f2 b hb).2⟩, by rw [sz3]; exact Nat.lt_succ_of_lt (old b hb)⟩
  have st3 : tn 0 s3.heap := T.keep _ _ _ st2 fun b _ o y => kp3 b o y
  have IB := block_start I3 ok hN f3
  generalize eH : upd H2 s2.heap.objs.size (.lst []) = H3 at *
  generalize eD : s2.heap.objs.size = D at *
  rw [← es3]
  show codeAny _ _ (.compStart (.ListComp elt [⟨tg, iter, [], 0⟩] scope pos) 0 (.ref it) (.ref D) (compEnvC scope (cellsFrom (s3.heap.objs.size + 1) scope.names (cloFrom X.env.cells scope.names [])) s3.heap.objs.size X.env)) (compEnds (model X.prog X.w) X.A X.xe none (EP X pins σ Q) (.ref D) (compEnvC scope (cellsFrom (s3.heap.objs.size + 1) scope.names (cloFrom X.env.cells scope.names [])) s3.heap.objs.size X.env)) { s3 with heap := pushCells (s3.heap.push { cls := .type "dict", data := .dict #[] }) scope.names }
  have pg := hg s3 H3 s3.heap.objs.size (cellsFrom (s3.heap.objs.size + 1) scope.names (cloFrom X.env.cells scope.names [])) fp
  have pe := he s3 H3 s3.heap.objs.size (cellsFrom (s3.heap.objs.size + 1) scope.names (cloFrom X.env.cells scope.names [])) fp
  obtain ⟨ce, ece⟩ : ∃ ce, ce = compEnvC scope (cellsFrom (s3.heap.objs.size + 1) scope.names (cloFrom X.env.cells scope.names [])) s3.heap.objs.size X.env := ⟨_, rfl⟩
  have cl : ce.locals = s3.heap.objs.size := by rw [ece]; rfl
  have cf : ce.frame = X.env.frame := by rw [ece]; rfl
  rw [← ece] at IB pg pe ⊢
  obtain ⟨s4, es4⟩ : ∃ s4 : Shared, s4 = { s3 with heap := pushCells (s3.heap.push { cls := .type "dict", data := .dict #[] }) scope.names } := ⟨_, rfl⟩
  rw [← es4] at IB ⊢
  have st4 : tn 0 s4.heap := T.keep _ _ _ st3 fun b _ o y => by rw [es4]; exact pushCells_keeps _ _ _ _ (Heap.get?_push_of_some _ y)
  -- back in the def
  have back : ∀ {pl : List (Addr × Obj)} {τ : St} {H' : Hp} {s' : Shared}, Inv (X.blk s3 H3 scope ce fp) pl τ H' s' → Inv X pins σ H' s' ∧ FpOk X pins H' s3.heap.objs.size ∧ ∃ m, s'.heap.Ns s3.heap.objs.size m := fun {pl τ H' s'} J' => by
    have free : H' ce.locals = none := J'.free
    rw [cl] at free
    obtain ⟨m, hn, _⟩ := J'.loc
    have hn : s'.heap.Ns ce.locals m := hn
    rw [cl] at hn
    exact ⟨I3.call' (ch := fp) J'.os J'.base J'.hok J'.bare fun b hb => ⟨(f3 b hb).1.2.2.2.1, (f3 b hb).1.2.1, (f3 b hb).1.2.2.2.2.1, (f3 b hb).1.2.2.2.2.2⟩, I3.fpOk (Nat.le_refl _) free, m, hn⟩
  have pass : ∀ τ, PassesAt (CX X.prog X.w) ((X.blk s3 H3 scope ce fp).wish (notedBy (model X.prog X.w) X.A ce (CompFails (model X.prog X.w) X.A X.xe ce))) τ fun cls d H' => W cls d σ H' := fun τ pl H' s' u s'' J' c => by
    obtain ⟨IX, fC, m, hn⟩ := back J'.unwish
    exact out_block tk hst hf IX fC hn cl cf (fun _ _ _ y => y) c
  have pe' := pe _ σ pass
  have mine : ∀ {τ : St} {H' : Hp} {s' : Shared}, Inv (X.blk s3 H3 scope ce fp) [] τ H' s' → (∀ b ∈ fp, H' b = none) → ∀ b ∈ fp, FpOk (X.blk s3 H3 scope ce fp) [] H' b := fun J' n b hb => ⟨n b hb, (J'.ok.exf b hb).1, J'.ok.exfs b hb, .inl hb, (J'.ok.exf b hb).2, fun p hp => nomatch hp⟩
  have loop : codeAny (model X.prog X.w) X.A (.compLoop (.ListComp elt [⟨tg, iter, [], 0⟩] scope pos) 0 (.ref it) (.ref D) ce) (compEnds (model X.prog X.w) X.A X.xe none (EP X pins σ Q) (.ref D) ce) s4 := by
    refine compLoop_any (fun n s' => ∃ i H', Inv (X.blk s3 H3 scope ce fp) [] (wipe σ (own.map (·.2))) H' s' ∧ tn i s'.heap ∧ (∀ b ∈ fp, H' b = none) ∧ P i n H') (fun n s5 ⟨i, H5, I5, st5, n5, p5⟩ => ?_) n0 ⟨0, H3, IB, st4, fun b hb => (f3 b hb).1.1, p0⟩
    rcases turn i n H5 p5 with ⟨stop, fin⟩ | ⟨go, step⟩
    · refine thnF (T.done (X.blk s3 H3 scope ce fp) rfl rfl rfl hc i [] s5 _ H5 (fun _ _ => False) I5 (mine I5 n5) st5 stop) fun r s6 ⟨er, I6⟩ => ?_
      subst er
      obtain ⟨IX, fC, m, hn⟩ := back I6
      refine ⟨m, by rw [cl]; exact hn, fun h' sb => ?_⟩
      rw [cl] at sb
      exact ⟨.ref D, H5, IX.turned (t' := s6.toks) (fun b o ne y => (sb.2 b ne).trans y) fC.1 fC.2.1 fC.2.2.2.1 fC.2.2.2.2.1 fC.2.2.2.2.2, rfl, fin⟩
    · refine thnF (T.item (X.blk s3 H3 scope ce fp) rfl rfl rfl hc i [] s5 _ H5 (fun _ _ => False) I5 (mine I5 n5) st5 go) fun r s6 ⟨u, er, h6⟩ => ?_
      subst er
      refine thnF h6 fun _ s7 ⟨x, H7, I7, r7, yl7, st7, n7⟩ => ?_
      have I7p := I7.pinned (mine I7 n7) (T.obj _ _ st7)
      refine thnF (pg.run _ s7 _ H7 x u _ I7p r7 (step x H7 yl7)) fun _ s8 ⟨σ8, H8, I8, w8, q8⟩ => ?_
      refine wpAny_tests_nil ?_
      rw [if_pos rfl]
      refine wpAny_mono (pe'.run _ s8 σ8 H8 _ (I8.wish _) q8) (fun z s9 ⟨y, H9, I9, r9, acc, hD9, hz9, n', lt', p9⟩ => ?_) fun _ _ y => y
      refine app_ok (X := X.blk s3 H3 scope ce fp) I9.unwish hD9 hz9 r9 fun s10 I10 => ?_
      have pin : ∀ b ∈ fp, ∀ o, s7.heap.get? b = some o → s10.heap.get? b = some o ∧ (upd H9 D (.lst (acc ++ [y]))) b = none := fun b hb o yy =>
        let k := I10.pin (b, o) (List.mem_append_right _ (List.mem_append_right _ (mem_pinsAt hb yy)))
        ⟨k.1, k.2.1⟩
      refine ⟨n', lt', i + 1, _, (I10.unpinned (pins := [])).weak (by rw [← w8, wipe_length]) (fun j v yy => ?_), T.keep _ _ _ st7 fun b hb o yy => (pin b hb o yy).1, fun b hb => ?_, p9⟩
      · rw [← w8] at yy
        exact (wipe_some yy).1
      · obtain ⟨o, yy, _⟩ := T.obj _ _ st7 b hb
        exact (pin b hb o yy).2
  exact codeAny_compStart_list loop (T.self X.A 0 _ _ _ st4 loop)⟩
end
end L2
namespace Pu
open PySem L2
def lcX (f : Tg) (E : En → R D) (e : En) : List D → R (List D)
  | [] => .ok []
  | d :: ds => (opt (f d e)).bind fun e1 => (E e1).bind fun x => (lcX f E e ds).bind fun xs => .ok (x :: xs)
/-- [E for f in L], E may raise -/
def xlx (vs : List Nat) (L : En → R (List D)) (f : Tg) (E : En → R D) : En → R (List D) := fun e => (L e).bind fun ds => if ds.length ≤ many then lcX f E (wipeE e vs) ds else .bad
def andL (out : List D) (r : R (List D)) : R (List D) := r.bind fun xs => .ok (out ++ xs)
section
variable {K : Kw} {W : WE} {vs is : List Nat} {L : En → R (List D)} {f : Tg} {E : En → R D}
theorem tLx_of (hs : ∀ i ∈ is, i ∈ vs) {σ : L2.St} {H : Hp} {Q : VK} (h : tN K W (xlx vs L f E) σ H Q) : tLx (tI K W false L) (tG K is f) (fun σ => tE K (fun c _ H' => W c σ H') E) vs σ H Q := by
  obtain ⟨H0, Hf0, Hf, e, S, p⟩ := h
  refine ⟨H0, Hf0, Hf, e, S, ?_⟩
  unfold xlx at p
  revert p
  cases L e with
  | ex c => exact fun p => p
  | bad => exact fun p => p
  | ok ds =>
    intro p J Hf1 H1 g w D hD
    have p1 : PoN K W Q σ Hf1 H1 (if ds.length ≤ many then lcX f E (wipeE e vs) ds else .bad) := p.grow g
    by_cases hm : ds.length ≤ many
    · rw [if_pos hm] at p1
      have S1 := S.grow g
      refine ⟨fun i n H2 => n = ds.length - i ∧ i ≤ ds.length ∧ ∃ Hf2 acc out, Grow Hf1 H1 Hf2 H2 ∧ Hf2 D = none ∧ H2 D = some (.lst acc) ∧ RpAll K Hf2 acc out ∧ out.length ≤ i ∧ andL out (lcX f E (wipeE e vs) (ds.drop i)) = lcX f E (wipeE e vs) ds,
        ⟨ds.length, rfl, Nat.zero_le _, Hf1, [], [], Grow.lay g.fh hD, g.fh.free hD, upd_same, .nil, Nat.le_refl _, ?_⟩, ?_⟩
      · rw [List.drop_zero]
        cases lcX f E (wipeE e vs) ds <;> rfl
      · rintro i n H2 ⟨rfl, hi, Hf2, acc, out, g2, nD, hacc, ra, hlo, hrest⟩
        by_cases hlt : i < ds.length
        · refine .inr ⟨w.go i H2 g2.hh hlt, fun x H3 hy => ?_⟩
          have hdr : ds.drop i = ds[i] :: ds.drop (i + 1) := List.drop_eq_getElem_cons hlt
          rw [hdr] at hrest
          obtain ⟨Hf3, g3, rx⟩ := w.yl i H2 Hf2 H3 x ds[i] g2.hh g2.ff g2.fh (List.getElem?_eq_getElem hlt) hy
          have g13 := g2.trans g3
          have S3 := (S1.wipe vs).grow g13
          cases h1 : f ds[i] (wipeE e vs) with
          | none =>
            have z : lcX f E (wipeE e vs) (ds[i] :: ds.drop (i + 1)) = .bad := by unfold lcX; rw [h1]; rfl
            rw [z] at hrest
            rw [← hrest] at p1
            exact p1.elim
          | some e1 =>
            have z : lcX f E (wipeE e vs) (ds[i] :: ds.drop (i + 1)) = (E e1).bind fun x => (lcX f E (wipeE e vs) (ds.drop (i + 1))).bind fun xs => .ok (x :: xs) := by
              show (opt (f ds[i] (wipeE e vs))).bind _ = _
              rw [h1]
              rfl
            rw [z] at hrest
            refine ⟨H0, Hf0, Hf3, wipeE e vs, ds[i], e1, S3, rx, h1, fun σ2 l2 o2 S4 => ⟨wipe_eq l2 o2 hs, H0, Hf0, Hf3, e1, S4, ?_⟩⟩
            have hD3 := g3.hh _ _ hacc
            have nD3 := g3.nf _ _ hacc rfl nD
            cases h3 : E e1 with
            | bad =>
              rw [h3] at hrest
              rw [← hrest] at p1
              exact p1.elim
            | ex c =>
              rw [h3] at hrest
              rw [← hrest] at p1
              exact fun Hf' H' g4 => p1 Hf' H' (g13.trans g4)
            | ok y =>
              rw [h3] at hrest
              intro v Hf5 H5 g5 rv
              have hD5 := g5.hh _ _ hD3
              have nD5 := g5.nf _ _ hD3 rfl nD3
              refine ⟨acc, hD5, many_lt (by rw [ra.length]; omega), ds.length - (i + 1), by omega, rfl, hlt, Hf5, acc ++ [v], out ++ [y], ⟨Same.upd (g13.trans g5).hh hD, (g13.trans g5).ff, Same.upd g5.fh nD5, (g13.trans g5).nf⟩, nD5, upd_same, ((ra.mono g3.ff).mono g5.ff).snoc rv, ?_, ?_⟩
              · rw [List.length_append, List.length_singleton]; omega
              · rw [← hrest]
                show andL (out ++ [y]) (lcX f E (wipeE e vs) (ds.drop (i + 1))) = andL out ((lcX f E (wipeE e vs) (ds.drop (i + 1))).bind fun xs => .ok (y :: xs))
                cases lcX f E (wipeE e vs) (ds.drop (i + 1)) with
                | ok xs => show R.ok (out ++ [y] ++ xs) = R.ok (out ++ y :: xs); rw [List.append_assoc]; rfl
                | ex c => rfl
                | bad => rfl
        · have hi' : i = ds.length := by omega
          subst hi'
          rw [List.drop_length] at hrest
          have hrest : R.ok (out ++ []) = lcX f E (wipeE e vs) ds := hrest
          rw [List.append_nil] at hrest
          rw [← hrest] at p1
          exact .inl ⟨w.st H2 g2.hh, p1 D acc Hf2 H2 g2 hD nD hacc ra⟩
    · rw [if_neg hm] at p1
      exact p1.elim
end
section
variable {X : Cx} {W : WE} {pos p : Pos} {k j : Nat}
theorem xLx {elt tg iter : Expr} {scope : Scope} {own : List (Str × Nat)} {is : List Nat} {L : En → R (List D)} {f : Tg} {E : En → R D} (z : Cz X k W) (hst : X.stack = X.env :: X.outer) (hf : X.env.frame = some X.env.locals) (hi : PI X tg iter (tI (X.kw ea) W false L)) (ok : BlkOk X.N X.env.scope scope own) (his : ∀ i ∈ is, i ∈ own.map (·.2))
    (hg : ∀ (s : Shared) (H : Hp) (C : Addr) (cl : List (Str × Addr)) (fp : List Addr), PG (X.blk s H scope (compEnvC scope cl C X.env) fp) tg (tG (X.kw ea) is f))
    (he : ∀ (s : Shared) (H : Hp) (C : Addr) (cl : List (Str × Addr)) (fp : List Addr) (xe : Value → Shared → Prop) (σ : L2.St), (∀ τ, PassesAt (L2.CX X.prog X.w) ((X.blk s H scope (compEnvC scope cl C X.env) fp).wish xe) τ fun cls d H' => wx X.mg W cls d σ H') → PE ((X.blk s H scope (compEnvC scope cl C X.env) fp).wish xe) elt (tE (X.kw ea) (fun c _ H' => W c σ H') E))
    (hs : ∀ x, foldedSetIterable iter X.env x = pure x := by intro _; rfl) : PE X (.ListComp elt [⟨tg, iter, [], 0⟩] scope pos) (tN (X.kw ea) W (xlx (own.map (·.2)) L f E)) :=
  PE_weak (pe_lx z.calm z.nd z.tk hst hf hi ok hg he hs) fun σ H Q h => tLx_of his h
/-- f(e, ..), what it lets out by a wish of another place -/
theorem xC1P {σ : L2.St} {a : Expr} {es : List Expr} {L : En → R (List D)} {x : Str} {ps : List Str} {Fn : List D → R D} (G : OkF X.prog X.w X.K X.mg X.base x ps j Fn) (rm : Room k X.A) (hj : j ≤ k) (hx : ∀ τ, PassesAt (L2.CX X.prog X.w) X τ fun cls d H' => wx X.mg W cls d σ H') (ha : PA X (a :: es) (tA (X.kw 0) (fun c _ H' => W c σ H') L)) (hg : Gl X x := by rfl)
    (hdb : (x == ("__debug__" : Str)) = false := by decide) (he : starEach (a :: es) X.env = (false, eval a X.env) :: starEach es X.env := by rfl) (hpl : (backTo pos (starEach es X.env)).any (·.1) = false := by rfl) : PE X (.Call (.Name x p) (a :: es) [] pos) (tE (X.kw 0) (fun c _ H' => W c σ H') (xcall ps.length Fn L)) := by
  obtain ⟨f, fd, G, kp, b, m, _⟩ := G
  exact PE_weak (pe_callSD (dvs := []) (ds := []) (E := fun _ cls d H' => wx X.mg W cls d σ H') G (rm.mono hj) hg m kp b .nil hx ha hdb he hpl) fun σ' H Q ⟨H0, Hf0, Hf, e, S, q⟩ => ⟨H0, Hf0, Hf, e, S, q.bindA.mono fun vs H1 ⟨Hf1, ds, g, r, q1⟩ => by
    rw [List.append_nil]
    by_cases hn : ds.length = ps.length
    · rw [if_pos hn] at q1
      refine ⟨Hf1, ds, g.fh, r, hn, ?_⟩
      revert q1
      cases Fn ds with
      | ok d => exact fun q1 => q1
      | ex c => exact fun q1 cv Hf' H' hc g' => ⟨rfl, c, hc, q1 Hf' H' g'⟩
      | bad => exact fun q1 => q1
    · rw [if_neg hn] at q1; exact q1.elim⟩
end
end Pu
/-! PuRP: x.replace(y, z, 1), y and z written texts, where a token is out -/
namespace Pu
open PySem PySem.Spec PyProof.Rows PySem.Builtin PySem.Builtin.Str
/-- what the first y of x is made -/
def rep1 (x y z : PySem.Str) : PySem.Str := if (occurrences x y 0 x.length 1).isEmpty = true then x else glued z (partsBetween x (occurrences x y 0 x.length 1) y.length)
def pieces (x : PySem.Str) (l : List Nat) (n : Nat) : List PySem.Str := partsBetween x l n
theorem rep1_cuts (x y : PySem.Str) : (occurrences x y 0 x.length 1) = [] ∨ ∃ k, occurrences x y 0 x.length 1 = [k] := by
  have h := StrLaws.occ_length_le x y 0 x.length 1
  match q : occurrences x y 0 x.length 1 with
  | [] => exact .inl rfl
  | [k] => exact .inr ⟨k, rfl⟩
  | _ :: _ :: _ => rw [q] at h; simp at h
theorem rep1_list (x y z : PySem.Str) : rep1 x y z = x ∨ ∃ a b c d : Nat, (rep1 x y z).cps.toList = (x.cps.extract a b).toList ++ z.cps.toList ++ (x.cps.extract c d).toList := by
  unfold rep1
  rcases rep1_cuts x y with h | ⟨k, h⟩
  · left; rw [h]; rfl
  · right
    rw [h, if_neg (by simp)]
    refine ⟨0, k, k + y.length, x.length, ?_⟩
    show (((x.cps.extract 0 k) ++ z.cps) ++ (x.cps.extract (k + y.length) x.length)).toList = _
    rw [Array.toList_append, Array.toList_append]
theorem ext_len (a : Array Nat) (i j : Nat) : (a.extract i j).toList.length ≤ a.toList.length := by
  rw [Array.length_toList, Array.length_toList, Array.size_extract]
  omega
theorem rep1_len (x y z : PySem.Str) : (rep1 x y z).cps.toList.length ≤ 2 * x.cps.toList.length + z.cps.toList.length := by
  rcases rep1_list x y z with h | ⟨a, b, c, d, h⟩
  · rw [h]; omega
  · rw [h, List.length_append, List.length_append]
    have := ext_len x.cps a b
    have := ext_len x.cps c d
    omega
theorem rep1_mem (x y z : PySem.Str) : ∀ n ∈ (rep1 x y z).cps.toList, n ∈ x.cps.toList ∨ n ∈ z.cps.toList := fun n hn => by
  have ex : ∀ i j, n ∈ (x.cps.extract i j).toList → n ∈ x.cps.toList := fun i j h => by
    rw [Array.toList_extract] at h
    exact List.mem_of_mem_drop (List.mem_of_mem_take h)
  rcases rep1_list x y z with h | ⟨a, b, c, d, h⟩
  · rw [h] at hn; exact .inl hn
  · rw [h, List.mem_append, List.mem_append] at hn
    rcases hn with (hn | hn) | hn
    · exact .inl (ex _ _ hn)
    · exact .inr hn
    · exact .inl (ex _ _ hn)
theorem gives_ite {c : Prop} [Decidable c] {f g : Sem PySem.Fin} {m : Made} (hf : c → Gives f m) (hg : ¬ c → Gives g m) : Gives (if c then f else g) m := by
  by_cases h : c
  · rw [if_pos h]; exact hf h
  · rw [if_neg h]; exact hg h
theorem gives_rep1 (x y z : PySem.Str) (t u v r : Tok) (n0 : (u == 0 || v == 0) = false) (nn : (u == v) = false) (other : (y == z) = false) (long : (y.length == 0) = false) (fit : tooLong (x.length + (occurrences x y 0 x.length 1).length * z.length) = false) :
    Gives («str.replace» ⟨[.str x t, .str y u, .str z v, .int 1 r], []⟩) (if (occurrences x y 0 x.length 1).isEmpty = true then .val (.str x t) else .str (glued z (partsBetween x (occurrences x y 0 x.length 1) y.length))) := by
  show Gives (ite (((occurrences x y 0 x.length 1).isEmpty || _) = true) _ _) _
  refine gives_ite (fun c => ?_) fun c => ?_
  · rw [long, Bool.false_and, Bool.or_false] at c
    rw [if_pos c]
    exact .rule (.of_eq rfl)
  · rw [long, Bool.false_and, Bool.or_false] at c
    rw [if_neg c, isSame_str_other y z u v n0 nn other]
    show Gives (ite (tooLong _ = true) _ _) _
    exact gives_ite (fun d => nomatch fit.symm.trans d) fun _ => .of_eq rfl
theorem call_rep1 {P : Program} {w : World} {A : Around} {E : Value → Shared → Prop} {s : Shared} {x y z : PySem.Str} {t u v r : Tok} {Q : Value → Shared → Prop} (hu : u ≠ 0) (hv : v ≠ 0) (huv : u ≠ v) (hyz : (y == z) = false) (hy : (y.length == 0) = false) (hx : x.length ≤ 1000000) (hz : z.length ≤ 1000)
    (q : ∀ t' k, Q (.str (rep1 x y z) t') { s with toks := k }) : wpAny (model P w) A (call (.builtin "str.replace") [.str x t, .str y u, .str z v, .int 1 r]) Q E s := by
  have few := StrLaws.occ_length_le x y 0 x.length 1
  have hl : tooLong (x.length + (occurrences x y 0 x.length 1).length * z.length) = false := by
    have : (occurrences x y 0 x.length 1).length * z.length ≤ 1 * z.length := Nat.mul_le_mul_right _ few
    unfold tooLong sizeLine
    exact decide_eq_false (by omega)
  refine call_gives PySem.F.slot_str_replace (typeIs_str _ _ _) PySem.F.entry_str_replace (PySem.F.args_str_replace_4 _ _ _ _) (gives_rep1 x y z t u v r (by simp [hu, hv]) (by simp [huv]) hyz hy hl) ?_
  have ln := rep1_len x y z
  unfold rep1 at q ln
  cases hc : (occurrences x y 0 x.length 1).isEmpty
  · rw [hc] at q ln
    simp only [Bool.false_eq_true, if_false] at q ln ⊢
    refine ⟨?_, q _ _⟩
    have e1 : (glued z (partsBetween x (occurrences x y 0 x.length 1) y.length)).length = (glued z (partsBetween x (occurrences x y 0 x.length 1) y.length)).cps.toList.length := (Array.length_toList).symm
    have e2 : x.cps.toList.length = x.length := Array.length_toList
    have e3 : z.cps.toList.length = z.length := Array.length_toList
    rw [e1]
    unfold sizeLine
    omega
  · rw [hc] at q
    simp only [if_true] at q ⊢
    exact q t s.toks
end Pu
namespace L2
open PySem PySem.Spec PyProof.Rows
section
variable {X : Cx} {o a e : Expr} {es : List Expr} {te to : TE} {ta : TA} {y z : PySem.Str} {j k l : Nat} {c0 c1 c2 apos pos : Pos}
def tRep1 (to : TE) (y z : PySem.Str) : TE := fun σ H Q => to σ H fun v H1 => ∃ x, v = .str x ∧ x.length ≤ 1000000 ∧ Q (.str (Pu.rep1 x y z)) H1
theorem pet_rep1 (ho : PE X o to) (hyz : (y == z) = false := by decide) (hy : (y.length == 0) = false := by decide) (hz : z.length ≤ 1000 := by decide)
    (hst : starEach [.Constant (.str y) j c0, .Constant (.str z) k c1, .Constant (.int 1) l c2] X.env = [(false, eval (.Constant (.str y) j c0) X.env), (false, eval (.Constant (.str z) k c1) X.env), (false, eval (.Constant (.int 1) l c2) X.env)] := by rfl)
    (hbase : attributeBase o "replace" X.env (eval o X.env) = eval o X.env := by rfl) (hline : (apos.endLine == pos.line) = true := by rfl) : PET X (.Call (.Attribute o "replace" apos) [.Constant (.str y) j c0, .Constant (.str z) k c1, .Constant (.int 1) l c2] [] pos) (tRep1 to y z) := by
  intro pins s σ H Q h0 I h
  refine wpAny_Call_method_lateS hbase (by rw [hst]; rfl) hline ?_
  rw [hst]
  refine wpAny_mono (PySem.wpAny_toks (ho.run pins s σ H _ I h)) (fun v s1 ⟨up, v', H1, I1, r1, x, e1, hx, q⟩ => ?_) fun _ _ n => n.2
  subst e1
  obtain ⟨tx, e2⟩ := r1
  subst e2
  have slot := PySem.F.slot_str_replace
  have noRef : ∀ b, Value.str x tx = .ref b → ∃ ob, s1.heap.get? b = some ob ∧ ob.dict = none := fun _ n => by cases n
  refine ⟨"str", "str.replace", PySem.F.plainAttrs_str, slot, PySem.F.type_str_replace, typeIs_str s1 x tx, noRef, Calls.callWith_builtin rfl (Calls.evalArgs_plain ?_)⟩
  refine Calls.spliced_cons ?_
  refine Calls.Constant_str (k := j) (pos := c0) (Calls.spliced_cons (Calls.Constant_str (k := k) (pos := c1) (Calls.spliced_cons (wpAny_Constant_int (i := 1) (k := l) (pos := c2) (Calls.spliced_nil ?_)))))
  have pos1 : 1 ≤ s1.toks := Nat.le_trans h0 up
  exact Pu.call_rep1 (Nat.ne_of_gt pos1) (Nat.succ_ne_zero _) (Nat.ne_of_lt (Nat.lt_succ_self _)) hyz hy hx hz fun t' n => ⟨.str (Pu.rep1 x y z), H1, I1.tok n, ⟨t', rfl⟩, q⟩
/-- behind it a token is out -/
def PEp (X : Cx) (e : Expr) (t : TE) : Prop := ∀ pins s σ H Q, Inv X pins σ H s → t σ H Q → wpAny (model X.prog X.w) X.A (eval e X.env) (fun v z => 1 ≤ z.toks ∧ EP X pins σ Q v z) X.xe s
theorem pep_opC {op : Operator} {r : R2} {c : PySem.Str} (ho : OpR X (binaryOp op) r) (ha : PE X a te) : PEp X (.BinOp a op (.Constant (.str c) j c0) pos) (tOp r te (tC (.str c))) := fun pins s σ H Q I h =>
  wpAny_BinOp (thn (ha.run pins s σ H _ I h) fun v s1 ⟨x, H1, I1, r1, q1⟩ => Calls.Constant_str (wpAny_mono (PySem.wpAny_toks_of (n := 1) (s := { s1 with toks := s1.toks + 1 }) (Nat.le_add_left 1 s1.toks) (ho pins { s1 with toks := s1.toks + 1 } σ H1 x (.str c) v (.str c s1.toks) Q (I1.tok _) r1 ⟨_, rfl⟩ q1)) (fun _ _ y => y) fun _ _ y => y.2))
theorem pa_consP (ha : PEp X e te) (hr : PAT X es ta) (hs : starEach (e :: es) X.env = (false, eval e X.env) :: starEach es X.env := by rfl) : PA X (e :: es) (tCons te ta) := ⟨fun pos pins s σ H Q I h => by
  rw [hs]
  exact Calls.spliced_cons (thn (ha pins s σ H _ I h) fun v s1 ⟨up, x, H1, I1, r1, q1⟩ => thn (hr pos pins s1 σ H1 _ up I1 q1) fun us s2 ⟨xs, H2, I2, r2, q2⟩ => ⟨x :: xs, H2, I2, .cons r1 r2, q2⟩)⟩
end
end L2
namespace Pu
open PySem L2
section
variable {X : Cx} {W : WE} {a b : Expr} {es : List Expr} {F G : En → R D} {L : En → R (List D)} {pos apos c0 c1 c2 : Pos} {y z c : PySem.Str} {j k l : Nat}
def rep1D (y z : PySem.Str) : D → Option D
  | .str x => if x.length ≤ 1000000 then some (.str (rep1 x y z)) else none
  | _ => none
theorem tRep (ha : PE X a (tE (X.kw ea) W F)) (hyz : (y == z) = false := by decide) (hy : (y.length == 0) = false := by decide) (hz : z.length ≤ 1000 := by decide)
    (hst : starEach [.Constant (.str y) j c0, .Constant (.str z) k c1, .Constant (.int 1) l c2] X.env = [(false, eval (.Constant (.str y) j c0) X.env), (false, eval (.Constant (.str z) k c1) X.env), (false, eval (.Constant (.int 1) l c2) X.env)] := by rfl)
    (hbase : attributeBase a "replace" X.env (eval a X.env) = eval a X.env := by rfl) (hline : (apos.endLine == pos.line) = true := by rfl) : PET X (.Call (.Attribute a "replace" apos) [.Constant (.str y) j c0, .Constant (.str z) k c1, .Constant (.int 1) l c2] [] pos) (tE (X.kw ea) W (un1 (rep1D y z) F)) :=
  fun pins s σ H Q h0 I ⟨H0, Hf0, Hf, e, S, p⟩ => pet_rep1 ha hyz hy hz hst hbase hline pins s σ H Q h0 I ⟨H0, Hf0, Hf, e, S, p.bind.mono fun x H1 ⟨Hf1, d, g, r, p1⟩ => by
    obtain ⟨d2, ed, q⟩ := p1.of_opt
    cases r with
    | str x =>
      have ed : (if x.length ≤ 1000000 then some (PyData.str (rep1 x y z)) else none) = some d2 := ed
      split at ed
      · rename_i hl
        cases ed
        exact ⟨x, rfl, hl, q _ Hf1 H1 (Grow.refl g.fh) (.str _)⟩
      · cases ed
    | _ => cases ed⟩
theorem aTNil : PAT X [] (tA (X.kw ea) W lnil) := fun pos pins s σ H Q h0 I ⟨H0, Hf0, Hf, e, S, p⟩ => pat_nil pos pins s σ H Q h0 I (p [] Hf H (Grow.refl S.gr.fh) .nil)
theorem tCons_of {σ : L2.St} {H : Hp} {Q : List V → Hp → Prop} (h : tA (X.kw ea) W (lcons F L) σ H Q) : tCons (tE (X.kw ea) W F) (tA (X.kw ea) W L) σ H Q := by
  obtain ⟨H0, Hf0, Hf, e, S, p⟩ := h
  exact ⟨H0, Hf0, Hf, e, S, p.bind.mono fun v H1 ⟨Hf1, d, g, r, p1⟩ => ⟨H0, Hf0, Hf1, e, S.grow g, p1.bindA.mono fun vs H2 ⟨Hf2, ds, g2, r2, p2⟩ => p2 (v :: vs) Hf2 H2 (Grow.refl g2.fh) (.cons (r.mono g2.ff) r2)⟩⟩
theorem aTCons (ha : PET X a (tE (X.kw ea) W F)) (hr : PAT X es (tA (X.kw ea) W L)) (hs : starEach (a :: es) X.env = (false, eval a X.env) :: starEach es X.env := by rfl) : PAT X (a :: es) (tA (X.kw ea) W (lcons F L)) := fun pos pins s σ H Q h0 I h => pat_cons ha hr hs pos pins s σ H Q h0 I (tCons_of h)
theorem aTE (ha : PE X a (tE (X.kw ea) W F)) : PET X a (tE (X.kw ea) W F) := CwR.PET.of ha
/-- x + "..", ahead of what wants a token -/
theorem aPCons {f : D → D → Option D} {op : Operator} (ho : OpR X (binaryOp op) (rB (X.kw ea) (ERp (X.kw ea)) f)) (ha : PE X a (tE (X.kw ea) W F)) (hr : PAT X es (tA (X.kw ea) W L)) (hs : starEach (.BinOp a op (.Constant (.str c) j c0) pos :: es) X.env = (false, eval (.BinOp a op (.Constant (.str c) j c0) pos) X.env) :: starEach es X.env := by rfl) :
    PA X (.BinOp a op (.Constant (.str c) j c0) pos :: es) (tA (X.kw ea) W (lcons (bin f F (xc (.str c))) L)) := by
  have one : PEp X (.BinOp a op (.Constant (.str c) j c0) pos) (tE (X.kw ea) W (bin f F (xc (.str c)))) := fun pins s σ H Q I h => pep_opC ho ha pins s σ H Q I (by
    have h1 : tOp (rB (X.kw ea) (ERp (X.kw ea)) f) (tE (X.kw ea) W F) (tE (X.kw ea) W (xc (.str c))) σ H Q := tX_bin stE h
    obtain ⟨H0, Hf0, Hf, e, S, p⟩ := h1
    exact ⟨H0, Hf0, Hf, e, S, p.mono fun v H1 ⟨_, _, Hf', e', S', p'⟩ => p' (.str c) Hf' H1 (Grow.refl S'.gr.fh) (.str c)⟩)
  exact PA_weak (pa_consP one hr hs) fun σ H Q h => tCons_of h
end
end Pu
/-! PuRL: l[::-1] of a list -/
namespace Pu
open PySem L2
def revLD : D → Option D
  | .list ds => some (.list ds.reverse)
  | _ => none
section
variable {X : Cx} {W : WE} {a : Expr} {F : En → R D} {pos p2 pu pc : Pos} {j : Nat}
open PySem.Spec PyProof.Rows in
theorem xRevL (ha : PE X a (tV (X.kw ea) W F)) : PE X (.Subscript a (.Slice none none (some (.UnaryOp .USub (.Constant (.int 1) j pc) pu)) p2) pos) (tE (X.kw ea) W (un1 revLD F)) := by
  refine ⟨fun pins s σ H Q I ⟨H0, Hf0, Hf, e, S, q⟩ => ?_⟩
  refine Subscript_ (thn (ha.run pins s σ H _ I ⟨H0, Hf0, Hf, e, S, q.bind⟩) fun v s1 ⟨x, H1, I1, r1, Hf1, d, g1, rx, q1⟩ => ?_)
  obtain ⟨z, ez, q2⟩ := q1.of_opt
  cases d with
  | list ds =>
    cases ez
    obtain ⟨l, xs, rfl, hl, ra⟩ := rx.list g1.fh
    cases r1
    refine wpAny_Slice ?_
    rw [evalPart_none]
    refine wpAny_pure (wpAny_pure ?_)
    have k1 : PO X (some (.UnaryOp .USub (.Constant (.int 1) j pc) pu)) (tPart (tUn (fun x H Q => ∃ i, x = .int i ∧ Q (.int (-i)) H) (tC (.int 1)))) := po_some (pe_un un_neg pe_int)
    refine thn (k1.run pins s1 σ H1 (fun o H' => o = some (-1) ∧ H' = H1) I1 ⟨1, rfl, -1, rfl, rfl, rfl⟩) fun vk s4 ⟨o, H4, I4, pk, eo, eH⟩ => ?_
    subst eo eH
    have I5 : L2.Inv X pins σ H4 { s4 with heap := s4.heap.push { cls := .type "slice", data := .fields #[.none, .none, vk] } } := I4.kept (t' := s4.toks) fun b ob q => Heap.get?_push_of_some _ q
    obtain ⟨us, rv, pl', hz⟩ := I5.list (SqL.of hl)
    show wpAny (model X.prog X.w) X.A (subscriptTail a (.Slice none none (some (.UnaryOp .USub (.Constant (.int 1) j pc) pu)) p2) (.ref l) (.ref s4.heap.objs.size)) (EP X pins σ Q) X.xe { s4 with heap := s4.heap.push { cls := .type "slice", data := .fields #[.none, .none, vk] } }
    refine tail_any (ops := [.ref l, .ref s4.heap.objs.size]) pl'.isList.typeIs PySem.slot_list_getitem.lookup ?_ (by with_unfolding_all rfl)
    have szs : us.toArray.size ≤ sizeLine := by rw [List.size_toArray, ← rv.length]; exact hz
    refine wpAny_getItem_list_slice pl'.isList (Heap.IsSliceOf.new ..) .none .none pk (by decide) ?_ szs
    rw [PySem.W.krv_pick]
    have fr := I5.hok.fresh (Nat.le_refl _)
    refine ⟨.ref _, _, I5.laid (t' := s4.toks) (o := .lst xs.reverse) (fun b ob q => Heap.get?_push_of_some _ q) (Nat.le_refl _) ⟨by rw [List.length_reverse]; exact hz, _, 0, rv.reverse, Heap.get?_push_size _ rfl⟩, rfl, ?_⟩
    have g2 := Grow.new (o := HO.lst xs.reverse) g1.fh fr
    exact q2 _ _ _ g2 (.lst upd_same (ra.reverse.mono g2.ff))
  | _ => cases ez
end
end Pu
namespace M29
open PySem L2 Pu Pf
def qrecord_text_1 : En → R (List D) :=
  (xlc [3] (iseq (xsl (xvV 0) (osome (xvE 2)) (osome (bin addD (xvE 2) (xc (.int 2)))))) (gn 3) tyes (xcall 1 ftold (lcons (xvE 3) lnil)))
def lbrecord_text_1 : En → Fl :=
  (sasg 1 (bin addD (bin addD (bin addD (bin addD (xvE 1) (un1 strD (bin addD (bin fdivD (xvE 2) (xc (.int 2))) (xc (.int 1))))) (xc (.str ". "))) (xmt ["str"] joinD (xc (.str ", ")) (asL qrecord_text_1))) (xc (.str "\n"))))
def lrecord_text_1 : En → Fl :=
  (sfor (irng3 (xc (.int 0)) (un1 lenD (xvV 0)) (xc (.int 2))) (gn 2) lbrecord_text_1)
def brecord_text : En → Fl :=
  (sseq (sasg 1 (xc (.str "")))
  (sseq lrecord_text_1
  (sret (xvE 1))))
def frecord_text : List D → R D := runD 4 brecord_text
def b_law_move : En → Fl :=
  (sseq (spar2 1 2 (lcons (bin subD (xcall 3 f_law_mix (lcons (xvE 0) (lcons (xc (.int 9619)) (lcons (xc (.int 25)) lnil)))) (xc (.int 1))) (lcons (xcall 3 f_law_mix (lcons (xvE 0) (lcons (xc (.int 9613)) (lcons (xc (.int 24)) lnil)))) lnil)))
  (sseq (sasg 3 (xif (xbl (bin eqD (xcall 3 f_law_mix (lcons (xvE 0) (lcons (xc (.int 9587)) (lcons (xc (.int 3)) lnil)))) (xc (.int 0)))) (xcall 3 f_law_mix (lcons (xvE 0) (lcons (xc (.int 9601)) (lcons (xc (.int 24)) lnil)))) (un1 negD (xc (.int 1)))))
  (sret (xtup (lcons (xif (xbl (bin eqD (xcall 3 f_law_mix (lcons (xvE 0) (lcons (xc (.int 9551)) (lcons (xc (.int 2)) lnil)))) (xc (.int 0)))) (un1 negD (xc (.int 1))) (xvE 1)) (lcons (xvE 2) (lcons (xvE 3) lnil)))))))
def f_law_move : List D → R D := runD 4 b_law_move
def qmoves_in_1 : En → R (List D) :=
  (xlx [4] (iseq (asL (xsplit (xvV 3) (xc (.str ", "))))) (gn 4) (xcall 1 fheard (lcons (xvE 4) lnil)))
def bmoves_in : En → Fl :=
  (sseq (sasgT (gtup (gcons (gn 1) (gcons (gn 2) (gcons (gn 3) gnil)))) (xmt ["str"] partD (xvV 0) (xc (.str ". "))))
  (sseq (sif (xbl (bin eqD (xvV 2) (xc (.str "")))) (srai "NoText") snil)
  (sret (asL qmoves_in_1))))
def fmoves_in : List D → R D := runD 5 bmoves_in
def lbread_record_1 : En → Fl :=
  (sext 2 (xcall 1 fmoves_in (lcons (xvE 3) lnil)))
def lread_record_1 : En → Fl :=
  (sfor (iseq (xsl (xvV 1) onone (osome (un1 negD (xc (.int 1)))))) (gn 3) lbread_record_1)
def bread_record : En → Fl :=
  (sseq (sasg 1 (asL (xsplit (xvV 0) (xc (.str "\n")))))
  (sseq (sasgN 2 (xlst lnil))
  (sseq lread_record_1
  (sseq (sfz 2 (sif (xbl (bin neD (xcall 1 frecord_text (lcons (xvE 2) lnil)) (xvV 0))) (srai "NoText") snil))
  (sret (un1 tupleD (xvV 2)))))))
def fread_record : List D → R D := runD 4 bread_record
def lt_law_is_right_1 : En → Fl :=
  (sasg 2 (xcall 1 fread_record (lcons (xvE 0) lnil)))
def q_law_is_right_1 : En → R (List D) :=
  (xlc [5] (iseq (xvV 2)) (gn 5) (tnot (tand (xbl (chn leD leD (un1 negD (xc (.int 1))) (bin ixD (xvV 5) (xc (.int 0))) (xc (.int 23)))) (tand (xbl (chn leD leD (xc (.int 0)) (bin ixD (xvV 5) (xc (.int 1))) (xc (.int 23)))) (xbl (chn leD leD (un1 negD (xc (.int 1))) (bin ixD (xvV 5) (xc (.int 2))) (xc (.int 23))))))) (xvE 5))
def b_law_is_right : En → Fl :=
  (sseq (stryA 3 [("NoText", (sseq (sasg 4 (xorV (xisx 3 false) (xisx 3 false)))
  (sret (xandV (xisx 3 true) (xandV (xisx 3 true) (xnot (xvV 4)))))))] lt_law_is_right_1)
  (sseq (sif (tor (xbl (bin eqD (xvV 2) (xvV 1))) (xbl (bin neD (xcall 1 frecord_text (lcons (xvE 2) lnil)) (xvV 0)))) (sret (xc (.bool false))) snil)
  (sret (bin eqD (asL q_law_is_right_1) (asL (xlst lnil))))))
def f_law_is_right : List D → R D := runD 6 b_law_is_right
def qlaw_1 : En → R (List D) :=
  (xlc [10] (irng1 (bin addD (xc (.int 1)) (xcall 3 f_law_mix (lcons (xvE 2) (lcons (xc (.int 9547)) (lcons (xc (.int 7)) lnil)))))) (gn 10) tyes (xcall 1 f_law_move (lcons (bin addD (xvE 2) (bin mulD (xc (.int 11)) (xvE 10))) lnil)))
def qlaw_2 : En → R (List D) :=
  (xlc [11] (iseq (xvV 7)) (gn 11) (tand (xbl (bin neD (xvV 11) (xvV 4))) (tnot (xtru (xcall 2 f_law_is_right (lcons (xvE 11) (lcons (xvE 3) lnil)))))) (xvE 11))
def lblaw_1 : En → Fl :=
  (sseq (sasgN 7 (xlst (lcons (bin addD (xsl (xvV 4) onone (osome (xvE 6))) (xsl (xvV 4) (osome (bin addD (xvE 6) (xc (.int 1)))) onone)) (lcons (bin addD (bin addD (xsl (xvV 4) onone (osome (xvE 6))) (xvE 5)) (xsl (xvV 4) (osome (xvE 6)) onone)) lnil))))
  (sseq (sapp 7 (bin addD (bin addD (xsl (xvV 4) onone (osome (xvE 6))) (xvE 5)) (xsl (xvV 4) (osome (bin addD (xvE 6) (xc (.int 1)))) onone)))
  (sif (xbl (bin neD (asL qlaw_2) (asL (xlst lnil)))) (sret (xc (.bool false))) snil)))
def llaw_1 : En → Fl :=
  (sfor (irng1 (un1 lenD (xvV 4))) (gn 6) lblaw_1)
def qlaw_3 : En → R (List D) :=
  (xlc [12] (iseq (un1 revLD (xvV 8))) (gn 12) tyes (bin addD (xvE 12) (xc (.str "\n"))))
def qlaw_4 : En → R (List D) :=
  (xlc [12] (iseq (xvV 8)) (gn 12) tyes (bin addD (xvE 12) (xc (.str ", lay 1\n"))))
def qlaw_5 : En → R (List D) :=
  (xlc [11] (iseq (xvV 9)) (gn 11) (tand (xbl (bin neD (xvV 11) (xvV 4))) (tnot (xtru (xcall 2 f_law_is_right (lcons (xvE 11) (lcons (xvE 3) lnil)))))) (xvE 11))
def lblaw_2 : En → Fl :=
  (sseq (sasg 2 (bin addD (xcall 2 f_law_cell (lcons (xvE 0) (lcons (xvE 1) lnil))) (bin mulD (xc (.int 71)) (xvE 1))))
  (sseq (sasg 3 (un1 tupleD (asL qlaw_1)))
  (sseq (sasgT (gtup (gcons (gn 4) (gcons (gn 5) gnil))) (xtup (lcons (xcall 1 frecord_text (lcons (xvE 3) lnil)) (lcons (bin ixD (xc (.str "1., 0ltk2\n")) (xcall 3 f_law_mix (lcons (xvE 2) (lcons (xc (.int 9539)) (lcons (xc (.int 10)) lnil))))) lnil))))
  (sseq llaw_1
  (sseq (sasg 8 (xsl (asL (xsplit (xvV 4) (xc (.str "\n")))) onone (osome (un1 negD (xc (.int 1))))))
  (sseq (sasgN 9 (xlst (lcons (bin addD (xvE 4) (xc (.str "\n"))) (lcons (bin addD (xc (.str "\n")) (xvE 4)) (lcons (xsl (xvV 4) onone (osome (un1 negD (xc (.int 1))))) (lcons (bin addD (xvE 4) (xvE 4)) (lcons (un1 (rep1D ". " ".") (xvE 4)) (lcons (un1 (rep1D "1" "2") (xvE 4)) lnil))))))))
  (sseq (sapp 9 (xmt ["str"] joinD (xc (.str "")) (asL qlaw_3)))
  (sseq (sapp 9 (xmt ["str"] joinD (xc (.str "")) (asL qlaw_4)))
  (sif (xbl (bin neD (asL qlaw_5) (asL (xlst lnil)))) (sret (xc (.bool false))) snil)))))))))
def llaw_2 : En → Fl :=
  (sfor (irng1 (xc (.int 8))) (gn 1) lblaw_2)
def blaw : En → Fl :=
  (sseq llaw_2
  (sret (xc (.bool true))))
def flaw : List D → R D := runD 13 blaw
end M29
/-! Ev4: loops that may return; rising rows -/
namespace Pu
open PySem L2
/-- a loop that returns d at the first that is not so -/
theorem forL_all {α : Type} {enc : α → D} {f : Tg} {B : En → Fl} (P : En → Prop) (c : α → Bool) (d : D) : ∀ (xs : List α) (e : En), P e →
    (∀ x e, x ∈ xs → P e → ∃ e1, f (enc x) e = some e1 ∧ (c x = true → ∃ e2, (B e1 = .nx e2 ∨ B e1 = .ct e2) ∧ P e2) ∧ (c x = false → B e1 = .rt d)) →
    (xs.all c = true → ∃ e', forL f B (xs.map enc) e = .nx e' ∧ P e') ∧ (xs.all c = false → forL f B (xs.map enc) e = .rt d)
  | [], e, h, _ => ⟨fun _ => ⟨e, rfl, h⟩, fun z => by simp at z⟩
  | x :: xs, e, h, st => by
    obtain ⟨e1, h1, h2, h3⟩ := st x e List.mem_cons_self h
    rw [List.map_cons, List.all_cons]
    unfold forL
    rw [h1]
    dsimp only
    cases hc : c x with
    | true =>
      obtain ⟨e2, h4, h5⟩ := h2 hc
      have ih := forL_all (enc := enc) (f := f) (B := B) P c d xs e2 h5 fun y e hy => st y e (List.mem_cons_of_mem _ hy)
      rw [Bool.true_and]
      rcases h4 with h4 | h4
      · rw [h4]; exact ih
      · rw [h4]; exact ih
    | false =>
      rw [h3 hc, Bool.false_and]
      exact ⟨fun z => by simp at z, fun _ => rfl⟩
/-- a loop that may return -/
theorem forL_try {α : Type} {enc : α → D} {f : Tg} {B : En → Fl} (P : List α → En → Prop) (Q : List α → α → Fl → Prop) : ∀ (xs pre : List α) (e : En), P pre e →
    (∀ p x r e, pre ++ xs = p ++ x :: r → P p e → ∃ e1, f (enc x) e = some e1 ∧ ((∃ e2, (B e1 = .nx e2 ∨ B e1 = .ct e2) ∧ P (p ++ [x]) e2) ∨ (((∃ d, B e1 = .rt d) ∨ ∃ c e2, B e1 = .ex c e2) ∧ Q p x (B e1)))) →
    (∃ e', forL f B (xs.map enc) e = .nx e' ∧ P (pre ++ xs) e') ∨ ∃ p x r, pre ++ xs = p ++ x :: r ∧ Q p x (forL f B (xs.map enc) e)
  | [], pre, e, h, _ => .inl ⟨e, rfl, by rw [List.append_nil]; exact h⟩
  | x :: xs, pre, e, h, st => by
    obtain ⟨e1, h1, h2⟩ := st pre x xs e rfl h
    have ea : pre ++ x :: xs = (pre ++ [x]) ++ xs := by rw [List.append_assoc]; rfl
    rw [List.map_cons]
    unfold forL
    rw [h1]
    dsimp only
    rcases h2 with ⟨e2, h2, h3⟩ | ⟨h2, h3⟩
    · have ih := forL_try (enc := enc) (f := f) (B := B) P Q xs (pre ++ [x]) e2 h3 fun p y r e0 q => st p y r e0 (ea.trans q)
      rw [ea]
      rcases h2 with h2 | h2
      · rw [h2]; exact ih
      · rw [h2]; exact ih
    · right
      refine ⟨pre, x, xs, rfl, ?_⟩
      rcases h2 with ⟨d, h2⟩ | ⟨c, e2, h2⟩
      · rw [h2] at h3 ⊢; exact h3
      · rw [h2] at h3 ⊢; exact h3
theorem sfor_is {L : En → R (List D)} {f : Tg} {B : En → Fl} {e : En} {ds : List D} {r : Fl} (hL : L e = .ok ds) (h : forL f B ds e = r) : sfor L f B e = r := by
  unfold sfor
  rw [hL]
  exact h
/-- what a def tells -/
def finR : Fl → R D
  | .rt d => .ok d
  | .nx _ => .ok .none
  | .ex c _ => .ex c
  | _ => .bad
theorem runD_fin (m : Nat) (B : En → Fl) (ds : List D) : runD m B ds = finR (B (startE m ds)) := by
  unfold runD finR
  cases B (startE m ds) <;> rfl
/-- by lemmas, that the kernel unfolds nothing (a length that meets 2 ^ 62 is deep) -/
theorem irng1_of {F : En → R D} {e : En} {j : Int} {L : List D} (hF : F e = .ok (.int j)) (h : rng1 (.int j) = some L) : irng1 F e = .ok L := by
  rw [irng1_ev, hF, bind_ok, h]
  rfl
theorem irng2_of {F G : En → R D} {e : En} {i j : Int} {L : List D} (hF : F e = .ok (.int i)) (hG : G e = .ok (.int j)) (h : rng2 (.int i) (.int j) = some L) : irng2 F G e = .ok L := by
  rw [irng2_ev, hF, bind_ok, hG, bind_ok, h]
  rfl
/-- each below the next -/
def risL {α : Type} (lt : α → α → Bool) : List α → Bool
  | x :: y :: r => lt x y && risL lt (y :: r)
  | _ => true
theorem uptoFrom_succ (n : Nat) : uptoFrom 1 (n + 1) = 1 :: (uptoFrom 1 n).map (· + 1) := by
  unfold uptoFrom
  rw [List.range_succ_eq_map, List.map_cons, List.map_map, List.map_map]
  refine List.cons_eq_cons.mpr ⟨rfl, List.map_congr_left fun k _ => ?_⟩
  show 1 + ((k + 1 : Nat) : Int) = 1 + (k : Int) + 1
  omega
theorem uptoFrom_mem {lo x : Int} {n : Nat} : x ∈ uptoFrom lo n ↔ lo ≤ x ∧ x < lo + n := by
  unfold uptoFrom
  rw [List.mem_map]
  constructor
  · rintro ⟨k, hk, rfl⟩
    have := List.mem_range.mp hk
    omega
  · rintro ⟨h0, h1⟩
    exact ⟨(x - lo).toNat, List.mem_range.mpr (by omega), by omega⟩
theorem uptoFrom_length (lo : Int) (n : Nat) : (uptoFrom lo n).length = n := by unfold uptoFrom; rw [List.length_map, List.length_range]
theorem ris_all {α : Type} (lt : α → α → Bool) (z : α) : ∀ xs : List α, (uptoFrom 1 (xs.length - 1)).all (fun k => lt (xs.getD (k - 1).toNat z) (xs.getD k.toNat z)) = risL lt xs
  | [] => rfl
  | [x] => rfl
  | x :: y :: r => by
    have ih := ris_all lt z (y :: r)
    show (uptoFrom 1 (r.length + 1)).all _ = _
    rw [uptoFrom_succ, List.all_cons, List.all_map]
    unfold risL
    rw [← ih]
    congr 1
    show List.all _ _ = (uptoFrom 1 r.length).all _
    rw [Bool.eq_iff_iff, List.all_eq_true, List.all_eq_true]
    have key : ∀ k ∈ uptoFrom 1 r.length, ((fun k : Int => lt ((x :: y :: r).getD (k - 1).toNat z) ((x :: y :: r).getD k.toNat z)) ∘ fun x => x + 1) k = lt ((y :: r).getD (k - 1).toNat z) ((y :: r).getD k.toNat z) := fun k hk => by
      rw [uptoFrom_mem] at hk
      obtain ⟨j, rfl⟩ : ∃ j : Nat, k = (j : Int) + 1 := ⟨(k - 1).toNat, by omega⟩
      show lt ((x :: y :: r).getD ((j : Int) + 1 + 1 - 1).toNat z) ((x :: y :: r).getD ((j : Int) + 1 + 1).toNat z) = _
      rw [show ((j : Int) + 1 + 1 - 1).toNat = j + 1 by omega, show ((j : Int) + 1 + 1).toNat = j + 1 + 1 by omega, show ((j : Int) + 1 - 1).toNat = j by omega, show ((j : Int) + 1).toNat = j + 1 by omega]
      rfl
    exact ⟨fun h k hk => (key k hk).symm.trans (h k hk), fun h k hk => (key k hk).trans (h k hk)⟩
theorem risL_map {α β : Type} (lt : β → β → Bool) (f : α → β) : ∀ xs : List α, risL lt (xs.map f) = risL (fun x y => lt (f x) (f y)) xs
  | [] => rfl
  | [x] => rfl
  | x :: y :: r => by
    have ih := risL_map lt f (y :: r)
    rw [List.map_cons, List.map_cons] at *
    unfold risL
    rw [ih]
theorem risL_pair {α : Type} {lt : α → α → Bool} : ∀ {xs : List α}, xs.Pairwise (fun a b => lt a b = true) → risL lt xs = true
  | [], _ => rfl
  | [x], _ => rfl
  | x :: y :: r, h => by
    rw [List.pairwise_cons] at h
    unfold risL
    rw [h.1 y List.mem_cons_self, risL_pair h.2]
    rfl
def ltB (x y : D) : Bool := match ltD x y with
  | some (.bool b) => b
  | _ => false
theorem ltB_int (i j : Int) : ltB (.int i) (.int j) = decide (i < j) := rfl
theorem lt_tJ (s t : List Int) : ltD (tJ s) (tJ t) = some (.bool (HT.lexLt s t)) := by
  unfold tJ
  show (match intsOf (s.map PyData.int), intsOf (t.map PyData.int) with | some ns, some ms => some (PyData.bool (HT.lexLt ns ms)) | _, _ => none) = _
  rw [intsOf_map, intsOf_map]
theorem lexLt_of : ∀ s t : List Int, lexLe s t = true → s ≠ t → HT.lexLt s t = true
  | [], [], _, h => absurd rfl h
  | [], _ :: _, _, _ => rfl
  | _ :: _, [], h, _ => by simp [lexLe] at h
  | x :: s, y :: t, h, hn => by
    rw [HT.lexLt_cons]
    simp only [lexLe, Bool.or_eq_true, Bool.and_eq_true, decide_eq_true_eq] at h
    by_cases e : x = y
    · subst e
      rw [if_pos rfl]
      exact lexLt_of s t (h.elim (fun z => by omega) fun z => z.2) fun z => hn (by rw [z])
    · rw [if_neg e]
      exact decide_eq_true (by omega)
end Pu
namespace Pf
open PySem L2 Pu
def qfull_rows_1 : En → R (List D) :=
  (xlc [4] (iseq (xvV 3)) (gn 4) tyes (bin eqD (bin ixD (xvV 1) (xvV 4)) (xvV 2)))
def qfull_rows_2 : En → R (List D) :=
  (xlc [3] (iseq (bin ixD (xvV 0) (xc (.int 2)))) (gn 3) (xtru (un1 allD (asL qfull_rows_1))) (xvE 3))
def bfull_rows : En → Fl :=
  (sret (asL qfull_rows_2))
def ffull_rows : List D → R D := runD 5 bfull_rows
def bfull : En → Fl :=
  (sret (un1 tupleD (xcall 3 ffull_rows (lcons (xvE 0) (lcons (bin ixD (xvV 1) (xc (.int 0))) (lcons (xvE 2) lnil))))))
def ffull : List D → R D := runD 3 bfull
end Pf
namespace Pf
open PySem L2 Pu
def qpoints_of_1 : En → R (List D) :=
  (xlc [2, 3] (ienum (bin ixD (xvV 0) (xc (.int 0)))) (gtup (gcons (gn 2) (gcons (gn 3) gnil))) (xbl (bin eqD (xvV 3) (xvV 1))) (xvE 2))
def bpoints_of : En → Fl :=
  (sret (asL qpoints_of_1))
def fpoints_of : List D → R D := runD 4 bpoints_of
def bcount : En → Fl :=
  (sret (bin addD (un1 lenD (xcall 2 fpoints_of (lcons (xvE 0) (lcons (xvE 1) lnil)))) (bin ixD (bin ixD (xvV 0) (xc (.int 1))) (xvV 1))))
def fcount : List D → R D := runD 2 bcount
def lbneighbours_1 : En → Fl :=
  (sseq (sif (xbl (bin eqD (xvV 3) (xvV 1))) (sapp 2 (xvE 4)) snil)
  (sif (xbl (bin eqD (xvV 4) (xvV 1))) (sapp 2 (xvE 3)) snil))
def lneighbours_1 : En → Fl :=
  (sfor (iseq (bin ixD (xvV 0) (xc (.int 1)))) (gtup (gcons (gn 3) (gcons (gn 4) gnil))) lbneighbours_1)
def bneighbours : En → Fl :=
  (sseq (sasgN 2 (xlst lnil))
  (sseq lneighbours_1
  (sret (xvE 2))))
def fneighbours : List D → R D := runD 5 bneighbours
def qsteps_1 : En → R (List D) :=
  (xlc [10, 11] (ienum (xvV 2)) (gtup (gcons (gn 10) (gcons (gn 11) gnil))) (xbl (bin isD (xvV 11) (xc .none))) (xvE 10))
def qsteps_2 : En → R (List D) :=
  (xlc [12] (iseq (xvV 5)) (gn 12) tyes (xtup (lcons (un1 negD (xc (.int 1))) (lcons (xvE 12) lnil))))
def qsteps_3 : En → R (List D) :=
  (xlc [10] (iseq (xcall 2 fneighbours (lcons (xvE 0) (lcons (xvE 8) lnil)))) (gn 10) (xbl (bin isD (bin ixD (xvV 2) (xvV 10)) (xc .none))) (xvE 10))
def qsteps_4 : En → R (List D) :=
  (xlc [12] (iseq (xvV 9)) (gn 12) tyes (xtup (lcons (xvE 8) (lcons (xvE 12) lnil))))
def lbsteps_1 : En → Fl :=
  (sseq (sasg 9 (xvE 5))
  (sseq (sif (xbl (bin gtD (un1 lenD (xvV 6)) (xc (.int 3)))) (sasg 9 (asL qsteps_3)) snil)
  (sext 7 (asL qsteps_4))))
def lsteps_1 : En → Fl :=
  (sfor (iseq (xvE 6)) (gn 8) lbsteps_1)
def bsteps : En → Fl :=
  (sseq (sasgT (gtup (gcons (gn 2) (gcons (gn 3) (gcons (gn 4) gnil)))) (xvE 1))
  (sseq (sasg 5 (asL qsteps_1))
  (sseq (sif (xbl (bin gtD (bin ixD (xvV 3) (xvV 4)) (xc (.int 0)))) (sret (asL qsteps_2)) snil)
  (sseq (sasg 6 (xcall 2 fpoints_of (lcons (xvE 1) (lcons (xvE 4) lnil))))
  (sseq (sasgN 7 (xlst lnil))
  (sseq lsteps_1
  (sret (xvE 7))))))))
def fsteps : List D → R D := runD 13 bsteps
def bwinner : En → Fl :=
  (sseq (sasg 2 (bin ixD (xvV 1) (xc (.int 2))))
  (sseq (sif (tor (xbl (bin ltD (xcall 2 fcount (lcons (xvE 1) (lcons (xvE 2) lnil))) (xc (.int 3)))) (tnot (xtru (xcall 2 fsteps (lcons (xvE 0) (lcons (xvE 1) lnil)))))) (sret (bin subD (xc (.int 1)) (xvE 2))) snil)
  (sret (xc .none))))
def fwinner : List D → R D := runD 3 bwinner
def qtakings_1 : En → R (List D) :=
  (xlc [9] (iseq (xcall 3 ffull_rows (lcons (xvE 0) (lcons (xvE 1) (lcons (xvE 3) lnil))))) (gn 9) tyes (bin inD (xvV 2) (xvV 9)))
def qtakings_2 : En → R (List D) :=
  (xlc [7, 8] (ienum (xvV 1)) (gtup (gcons (gn 7) (gcons (gn 8) gnil))) (xbl (bin eqD (xvV 8) (bin subD (xc (.int 1)) (xvE 3)))) (xvE 7))
def qtakings_3 : En → R (List D) :=
  (xlc [9] (iseq (xvV 5)) (gn 9) tyes (bin inD (xvV 7) (xvV 9)))
def qtakings_4 : En → R (List D) :=
  (xlc [7] (iseq (xvV 4)) (gn 7) (tnot (xtru (un1 anyD (asL qtakings_3)))) (xvE 7))
def btakings : En → Fl :=
  (sseq (sif (tnot (xtru (un1 anyD (asL qtakings_1)))) (sret (asL (xlst (lcons (un1 negD (xc (.int 1))) lnil)))) snil)
  (sseq (sasg 4 (asL qtakings_2))
  (sseq (sasg 5 (xcall 3 ffull_rows (lcons (xvE 0) (lcons (xvE 1) (lcons (bin subD (xc (.int 1)) (xvE 3)) lnil)))))
  (sseq (sasg 6 (asL qtakings_4))
  (sret (xorV (xvE 6) (xorV (xvE 4) (asL (xlst (lcons (un1 negD (xc (.int 1))) lnil))))))))))
def ftakings : List D → R D := runD 10 btakings
def bwith_step : En → Fl :=
  (sseq (sasgN 4 (un1N listN (xvV 0)))
  (sseq (sif (xbl (bin geD (xvV 1) (xc (.int 0)))) (sput 4 (xvE 1) (xc .none)) snil)
  (sseq (sput 4 (xvE 2) (xvE 3))
  (sret (un1 tupleD (xvV 4))))))
def fwith_step : List D → R D := runD 5 bwith_step
def qall_moves_1 : En → R (List D) :=
  (xlc [9] (iseq (xvV 8)) (gn 9) tyes (xtup (lcons (xvE 6) (lcons (xvE 7) (lcons (xvE 9) lnil)))))
def lball_moves_1 : En → Fl :=
  (sseq (sasg 8 (xcall 4 ftakings (lcons (xvE 0) (lcons (xcall 4 fwith_step (lcons (xvE 2) (lcons (xvE 6) (lcons (xvE 7) (lcons (xvE 4) lnil))))) (lcons (xvE 7) (lcons (xvE 4) lnil))))))
  (sext 5 (asL qall_moves_1)))
def lall_moves_1 : En → Fl :=
  (sfor (iseq (xcall 2 fsteps (lcons (xvE 0) (lcons (xvE 1) lnil)))) (gtup (gcons (gn 6) (gcons (gn 7) gnil))) lball_moves_1)
def ball_moves : En → Fl :=
  (sseq (sasgT (gtup (gcons (gn 2) (gcons (gn 3) (gcons (gn 4) gnil)))) (xvE 1))
  (sseq (sasgN 5 (xlst lnil))
  (sseq lall_moves_1
  (sret (xvE 5)))))
def fall_moves : List D → R D := runD 10 ball_moves
def bmoves : En → Fl :=
  (sseq (sif (xbl (bin isNotD (xcall 2 fwinner (lcons (xvE 0) (lcons (xvE 1) lnil))) (xc .none))) (sret (xtup lnil)) snil)
  (sret (un1 tupleD (asL (un1N sortN (xcall 2 fall_moves (lcons (xvE 0) (lcons (xvE 1) lnil))))))))
def fmoves : List D → R D := runD 2 bmoves
end Pf
namespace Pf
open PySem L2 Pu
def q_law_steps_1 : En → R (List D) :=
  (xlc [10] (irng1 (bin ixD (xvV 0) (xc (.int 0)))) (gn 10) (xbl (bin isD (bin ixD (xvV 2) (xvV 10)) (xc .none))) (xvE 10))
def q_law_steps_2 : En → R (List D) :=
  (xlc [9] (iseq (xvV 5)) (gn 9) tyes (xtup (lcons (un1 negD (xc (.int 1))) (lcons (xvE 9) lnil))))
def q_law_steps_3 : En → R (List D) :=
  (xlc [10] (irng1 (bin ixD (xvV 0) (xc (.int 0)))) (gn 10) (xbl (bin eqD (bin ixD (xvV 2) (xvV 10)) (xvV 4))) (xvE 10))
def lb_law_steps_1 : En → Fl :=
  (sif (tor (xbl (bin ltD (un1 lenD (xvV 6)) (xc (.int 4)))) (xbl (bin inD (xtup (lcons (bin min2D (xvV 8) (xvV 9)) (lcons (bin max2D (xvV 8) (xvV 9)) lnil))) (bin ixD (xvV 0) (xc (.int 1)))))) (sapp 7 (xtup (lcons (xvE 8) (lcons (xvE 9) lnil)))) snil)
def l_law_steps_1 : En → Fl :=
  (sfor (iseq (xvE 5)) (gn 9) lb_law_steps_1)
def lb_law_steps_2 : En → Fl :=
  l_law_steps_1
def l_law_steps_2 : En → Fl :=
  (sfor (iseq (xvE 6)) (gn 8) lb_law_steps_2)
def b_law_steps : En → Fl :=
  (sseq (sasgT (gtup (gcons (gn 2) (gcons (gn 3) (gcons (gn 4) gnil)))) (xvE 1))
  (sseq (sasg 5 (asL q_law_steps_1))
  (sseq (sif (xbl (bin gtD (bin ixD (xvV 3) (xvV 4)) (xc (.int 0)))) (sret (asL q_law_steps_2)) snil)
  (sseq (sasg 6 (asL q_law_steps_3))
  (sseq (sasgN 7 (xlst lnil))
  (sseq l_law_steps_2
  (sret (xvE 7))))))))
def f_law_steps : List D → R D := runD 11 b_law_steps
def b_law_winner : En → Fl :=
  (sseq (sasgT (gtup (gcons (gn 2) (gcons (gn 3) (gcons (gn 4) gnil)))) (xvE 1))
  (sseq (sif (tor (xbl (bin ltD (bin addD (xcount (xvV 2) (xvV 4)) (bin ixD (xvV 3) (xvV 4))) (xc (.int 3)))) (tnot (xtru (xcall 2 f_law_steps (lcons (xvE 0) (lcons (xvE 1) lnil)))))) (sret (bin subD (xc (.int 1)) (xvE 4))) snil)
  (sret (xc .none))))
def f_law_winner : List D → R D := runD 5 b_law_winner
def q_law_rows_of_1 : En → R (List D) :=
  (xlc [4] (iseq (xvV 3)) (gn 4) tyes (bin ixD (xvV 1) (xvV 4)))
def q_law_rows_of_2 : En → R (List D) :=
  (xlc [3] (iseq (bin ixD (xvV 0) (xc (.int 2)))) (gn 3) (xbl (bin eqD (asL q_law_rows_of_1) (asL (xlst (lcons (xvE 2) (lcons (xvE 2) (lcons (xvE 2) lnil))))))) (xvE 3))
def b_law_rows_of : En → Fl :=
  (sret (asL q_law_rows_of_2))
def f_law_rows_of : List D → R D := runD 5 b_law_rows_of
def q_law_moves_1 : En → R (List D) :=
  (xlc [14, 15] (ienum (xvV 2)) (gtup (gcons (gn 14) (gcons (gn 15) gnil))) tyes (xif (xbl (bin eqD (xvV 14) (xvV 6))) (xc .none) (xvE 15)))
def q_law_moves_2 : En → R (List D) :=
  (xlc [11] (iseq (xcall 3 f_law_rows_of (lcons (xvE 0) (lcons (xvE 8) (lcons (xvE 4) lnil))))) (gn 11) (xbl (bin inD (xvV 7) (xvV 11))) (xvE 11))
def lb_law_moves_1 : En → Fl :=
  (sext 10 (xvE 11))
def l_law_moves_1 : En → Fl :=
  (sfor (iseq (xcall 3 f_law_rows_of (lcons (xvE 0) (lcons (xvE 8) (lcons (bin subD (xc (.int 1)) (xvE 4)) lnil))))) (gn 11) lb_law_moves_1)
def q_law_moves_3 : En → R (List D) :=
  (xlc [14] (irng1 (bin ixD (xvV 0) (xc (.int 0)))) (gn 14) (xbl (bin eqD (bin ixD (xvV 8) (xvV 14)) (bin subD (xc (.int 1)) (xvE 4)))) (xvE 14))
def q_law_moves_4 : En → R (List D) :=
  (xlc [14] (iseq (xvV 12)) (gn 14) (xbl (bin notInD (xvV 14) (xvV 10))) (xvE 14))
def q_law_moves_5 : En → R (List D) :=
  (xlc [16] (iseq (xvV 9)) (gn 16) tyes (xtup (lcons (xvE 6) (lcons (xvE 7) (lcons (xvE 16) lnil)))))
def lb_law_moves_2 : En → Fl :=
  (sseq (sasgN 8 q_law_moves_1)
  (sseq (sput 8 (xvE 7) (xvE 4))
  (sseq (sasg 9 (asL (xlst (lcons (un1 negD (xc (.int 1))) lnil))))
  (sseq (sfz 8 (sif (xtru (asL q_law_moves_2)) (sseq (sasgN 10 (xlst lnil))
  (sseq l_law_moves_1
  (sseq (sasg 12 (asL q_law_moves_3))
  (sseq (sasg 13 (asL q_law_moves_4))
  (sif (xtru (xvV 13)) (sasg 9 (xvE 13)) (sif (xtru (xvV 12)) (sasg 9 (xvE 12)) snil)))))) snil))
  (sext 5 (asL q_law_moves_5))))))
def l_law_moves_2 : En → Fl :=
  (sfor (iseq (xcall 2 f_law_steps (lcons (xvE 0) (lcons (xvE 1) lnil)))) (gtup (gcons (gn 6) (gcons (gn 7) gnil))) lb_law_moves_2)
def b_law_moves : En → Fl :=
  (sseq (sasgT (gtup (gcons (gn 2) (gcons (gn 3) (gcons (gn 4) gnil)))) (xvE 1))
  (sseq (sif (xbl (bin isNotD (xcall 2 f_law_winner (lcons (xvE 0) (lcons (xvE 1) lnil))) (xc .none))) (sret (xtup lnil)) snil)
  (sseq (sasgN 5 (xlst lnil))
  (sseq l_law_moves_2
  (sret (un1 tupleD (asL (un1N sortN (xvV 5)))))))))
def f_law_moves : List D → R D := runD 17 b_law_moves
def q_law_same_1 (F_law_same : List D → R D) : En → R (List D) :=
  (xlc [2, 3] (izip (xvV 0) (xvV 1)) (gtup (gcons (gn 2) (gcons (gn 3) gnil))) tyes (xcall 2 F_law_same (lcons (xvE 2) (lcons (xvE 3) lnil))))
def b_law_same (F_law_same : List D → R D) : En → Fl :=
  (sseq (sif (xtru (un1 (isiD "tuple") (xvV 1))) (sseq (sif (tor (tnot (xtru (un1 (isiD "tuple") (xvV 0)))) (xbl (bin neD (un1 lenD (xvV 0)) (un1 lenD (xvV 1))))) (sret (xc (.bool false))) snil)
  (sret (un1 allD (asL (q_law_same_1 F_law_same))))) snil)
  (sseq (sif (xbl (bin isD (xvV 1) (xc .none))) (sret (bin isD (xvV 0) (xc .none))) snil)
  (sseq (sif (tor (xtru (un1 (isiD "bool") (xvV 1))) (xtru (un1 (isiD "bool") (xvV 0)))) (sret (xandV (un1 (isiD "bool") (xvV 1)) (xandV (un1 (isiD "bool") (xvV 0)) (bin eqD (xvV 0) (xvV 1))))) snil)
  (sret (xandV (un1 (isi2D "int" "str") (xvV 0)) (bin eqD (xvV 0) (xvV 1)))))))
def f_law_same : Nat → List D → R D
  | 0 => fun _ => .bad
  | n + 1 => runD 4 (b_law_same (f_law_same n))
end Pf
/-! Sm: the same data is the same -/
namespace Pf
open PySem L2 Pu
@[simp] theorem isi_tt (ds : List D) : isiD "tuple" (.tuple ds) = some (.bool true) := by
  show (kitB "tuple" "tuple").map PyData.bool = _
  rw [show kitB "tuple" "tuple" = some true by decide +kernel]; rfl
@[simp] theorem isi_tn : isiD "tuple" .none = some (.bool false) := by
  show (kitB "NoneType" "tuple").map PyData.bool = _
  rw [show kitB "NoneType" "tuple" = some false by decide +kernel]; rfl
@[simp] theorem isi_ti (i : Int) : isiD "tuple" (.int i) = some (.bool false) := by
  show (kitB "int" "tuple").map PyData.bool = _
  rw [show kitB "int" "tuple" = some false by decide +kernel]; rfl
@[simp] theorem isi_tb (i : Bool) : isiD "tuple" (.bool i) = some (.bool false) := by
  show (kitB "bool" "tuple").map PyData.bool = _
  rw [show kitB "bool" "tuple" = some false by decide +kernel]; rfl
@[simp] theorem isi_ts (x : Str) : isiD "tuple" (.str x) = some (.bool false) := by
  show (kitB "str" "tuple").map PyData.bool = _
  rw [show kitB "str" "tuple" = some false by decide +kernel]; rfl
@[simp] theorem isi_tl (ds : List D) : isiD "tuple" (.list ds) = some (.bool false) := by
  show (kitB "list" "tuple").map PyData.bool = _
  rw [show kitB "list" "tuple" = some false by decide +kernel]; rfl
@[simp] theorem isi_bi (i : Int) : isiD "bool" (.int i) = some (.bool false) := by
  show (kitB "int" "bool").map PyData.bool = _
  rw [show kitB "int" "bool" = some false by decide +kernel]; rfl
@[simp] theorem isi_bb (i : Bool) : isiD "bool" (.bool i) = some (.bool true) := by
  show (kitB "bool" "bool").map PyData.bool = _
  rw [show kitB "bool" "bool" = some true by decide +kernel]; rfl
@[simp] theorem isi_bs (x : Str) : isiD "bool" (.str x) = some (.bool false) := by
  show (kitB "str" "bool").map PyData.bool = _
  rw [show kitB "str" "bool" = some false by decide +kernel]; rfl
@[simp] theorem isi_bt (x : List D) : isiD "bool" (.tuple x) = some (.bool false) := by
  show (kitB "tuple" "bool").map PyData.bool = _
  rw [show kitB "tuple" "bool" = some false by decide +kernel]; rfl
@[simp] theorem isi_bl (x : List D) : isiD "bool" (.list x) = some (.bool false) := by
  show (kitB "list" "bool").map PyData.bool = _
  rw [show kitB "list" "bool" = some false by decide +kernel]; rfl
@[simp] theorem isi_bn : isiD "bool" .none = some (.bool false) := by
  show (kitB "NoneType" "bool").map PyData.bool = _
  rw [show kitB "NoneType" "bool" = some false by decide +kernel]; rfl
@[simp] theorem isi_ii (i : Int) : isiD "int" (.int i) = some (.bool true) := by
  show (kitB "int" "int").map PyData.bool = _
  rw [show kitB "int" "int" = some true by decide +kernel]; rfl
@[simp] theorem isi_ib (i : Bool) : isiD "int" (.bool i) = some (.bool true) := by
  show (kitB "bool" "int").map PyData.bool = _
  rw [show kitB "bool" "int" = some true by decide +kernel]; rfl
@[simp] theorem isi_in : isiD "int" .none = some (.bool false) := by
  show (kitB "NoneType" "int").map PyData.bool = _
  rw [show kitB "NoneType" "int" = some false by decide +kernel]; rfl
@[simp] theorem isi_is (x : Str) : isiD "int" (.str x) = some (.bool false) := by
  show (kitB "str" "int").map PyData.bool = _
  rw [show kitB "str" "int" = some false by decide +kernel]; rfl
@[simp] theorem isi_it (x : List D) : isiD "int" (.tuple x) = some (.bool false) := by
  show (kitB "tuple" "int").map PyData.bool = _
  rw [show kitB "tuple" "int" = some false by decide +kernel]; rfl
@[simp] theorem isi_il (x : List D) : isiD "int" (.list x) = some (.bool false) := by
  show (kitB "list" "int").map PyData.bool = _
  rw [show kitB "list" "int" = some false by decide +kernel]; rfl
@[simp] theorem isi2_i (i : Int) : isi2D "int" "str" (.int i) = some (.bool true) := by
  show ((kitB "int" "int").bind fun b => (kitB "int" "str").map fun b' => PyData.bool (b || b')) = _
  rw [show kitB "int" "int" = some true by decide +kernel, show kitB "int" "str" = some false by decide +kernel]; rfl
@[simp] theorem isi2_s (x : Str) : isi2D "int" "str" (.str x) = some (.bool true) := by
  show ((kitB "str" "int").bind fun b => (kitB "str" "str").map fun b' => PyData.bool (b || b')) = _
  rw [show kitB "str" "int" = some false by decide +kernel, show kitB "str" "str" = some true by decide +kernel]; rfl
/-- what is the same as itself, so deep -/
inductive SmD : Nat → D → Prop
  | non {n : Nat} : SmD n .none
  | int {n : Nat} (i : Int) : SmD n (.int i)
  | bl {n : Nat} (i : Bool) : SmD n (.bool i)
  | str {n : Nat} {x : Str} : SeqAt.shaped (.str x) = true → SmD n (.str x)
  | tup {n : Nat} {ds : List D} : ds.length ≤ 1000000 → (∀ d ∈ ds, SmD n d) → SmD (n + 1) (.tuple ds)
theorem zipL_same (ds : List D) : zipL ds ds = ds.map fun d => pairD d d := by
  unfold zipL
  induction ds with
  | nil => rfl
  | cons d ds ih => rw [List.zipWith_cons_cons, ih, List.map_cons]
theorem same_refl {n : Nat} {d : D} (h : SmD n d) : f_law_same (n + 1) [d, d] = .ok (.bool true) := by
  induction h with
  | non =>
    apply runD_rt
    simp [b_law_same, startE]
  | int i =>
    apply runD_rt
    simp [b_law_same, startE]
  | bl i =>
    apply runD_rt
    simp [b_law_same, startE]
  | str hx =>
    apply runD_rt
    simp [b_law_same, startE, eq_ev hx hx, PyData.eqv]
  | @tup n ds hl hd ih =>
    have hq : q_law_same_1 (f_law_same (n + 1)) (fz [.dat (.tuple ds), .dat (.tuple ds), .un, .un]) = .ok ((ds.map fun _ => true).map PyData.bool) := by
      unfold q_law_same_1
      rw [xlc_all (enc := fun d => pairD d d) (xs := ds) (fun _ => .bool true) ?_ hl fun d hd' => ⟨_, rfl, rfl, ?_⟩]
      · rw [List.map_map]; rfl
      · simp only [fz_cons, frz1_dat, frz1_un, fz_nil, izip_ev, xvV_ev, getV_s, getV_z, bind_ok]
        show opt (some (zipL ds ds)) = _
        rw [zipL_same]
        rfl
      · simp [wipeE, ih d hd']
    have ha : allD (.list ((ds.map fun _ => true).map PyData.bool)) = some (.bool true) := by
      show ((boolsOf ((ds.map fun _ => true).map PyData.bool)).map fun bs => PyData.bool (bs.all id)) = _
      rw [boolsOf_map]
      simp
    simp only [fz_cons, frz1_dat, frz1_un, fz_nil] at hq
    apply runD_rt
    simp [-List.map_map, b_law_same, startE, hq, ha]
theorem SmD.up {n : Nat} {d : D} (h : SmD n d) : SmD (n + 1) d := by
  induction h with
  | non => exact .non
  | int i => exact .int i
  | bl i => exact .bl i
  | str hx => exact .str hx
  | tup hl _ ih => exact .tup hl ih
theorem SmD.le {n m : Nat} {d : D} (h : SmD n d) (hm : n ≤ m) : SmD m d := by
  obtain ⟨k, rfl⟩ := Nat.le.dest hm
  induction k with
  | zero => exact h
  | succ k ih => exact (ih (Nat.le_add_right _ _)).up
theorem sm_oM (m : Option Int) : SmD 0 (oM m) := by
  cases m with
  | none => exact .non
  | some i => exact .int i
theorem sm_tJ {t : List Int} (h : t.length ≤ 1000000) : SmD 1 (tJ t) := .tup (by rw [List.length_map]; exact h) fun d hd => by
  obtain ⟨x, _, rfl⟩ := List.mem_map.mp hd
  exact .int x
/-- _law_same of a thing and itself -/
theorem same_ok {n : Nat} {d : D} (h : SmD n d) (hn : n ≤ 7) : f_law_same 8 [d, d] = .ok (.bool true) := same_refl (h.le hn)
end Pf
/-! Bo: boards and stands as the laws draw them -/
namespace Pf
open PySem L2 Pu
structure Bd where
  n : Int
  ties : List (Int × Int)
  rows : List (Int × Int × Int)
def f2 (p : Int × Int) : List Int := [p.1, p.2]
def f3 (p : Int × Int × Int) : List Int := [p.1, p.2.1, p.2.2]
def e2 (p : Int × Int) : D := tJ (f2 p)
def e3 (p : Int × Int × Int) : D := tJ (f3 p)
def encB (b : Bd) : D := .tuple [.int b.n, .tuple (b.ties.map e2), .tuple (b.rows.map e3)]
structure Bd.Ok (b : Bd) : Prop where
  lo : 3 ≤ b.n
  hi : b.n ≤ 24
  ties : b.ties.Pairwise fun p q => lexLe (f2 p) (f2 q) = true ∧ p ≠ q
  tie : ∀ p ∈ b.ties, 0 ≤ p.1 ∧ p.1 < p.2 ∧ p.2 < b.n
  rows : b.rows.Pairwise fun p q => lexLe (f3 p) (f3 q) = true ∧ p ≠ q
  row : ∀ p ∈ b.rows, 0 ≤ p.1 ∧ p.1 < p.2.1 ∧ p.2.1 < p.2.2 ∧ p.2.2 < b.n
  nt : b.ties.length ≤ 200
  nr : b.rows.length ≤ 1000
theorem f2_inj (p q : Int × Int) (h : f2 p = f2 q) : p = q := by
  unfold f2 at h
  simp only [List.cons.injEq, and_true] at h
  exact Prod.ext h.1 h.2
theorem f3_inj (p q : Int × Int × Int) (h : f3 p = f3 q) : p = q := by
  unfold f3 at h
  simp only [List.cons.injEq, and_true] at h
  exact Prod.ext h.1 (Prod.ext h.2.1 h.2.2)
theorem tJ_inj (s t : List Int) (h : tJ s = tJ t) : s = t := by
  have h1 := nk_tJ s
  rw [h, nk_tJ t] at h1
  exact keyI_inj (Option.some.inj h1).symm
theorem plAll_ints : ∀ t : List Int, plAll (t.map PyData.int) = true
  | [] => by simp [plAll]
  | x :: t => by simp [plAll, plD, plAll_ints t]
theorem tJ_pl (t : List Int) : plD (tJ t) = true := by
  unfold tJ
  simp only [plD]
  exact plAll_ints t
theorem tJ_shp (t : List Int) : shp 1 (tJ t) := shp_tup fun d hd => by obtain ⟨x, _, rfl⟩ := List.mem_map.mp hd; exact shp_int x
/-! ### the known boards -/
def ringB1 : Bd := ⟨8, [(0, 1), (0, 7), (1, 2), (2, 3), (3, 4), (4, 5), (5, 6), (6, 7)], [(0, 1, 2), (0, 6, 7), (2, 3, 4), (4, 5, 6)]⟩
def ringB2 : Bd := ⟨16, [(0, 1), (0, 7), (1, 2), (1, 9), (2, 3), (3, 4), (3, 11), (4, 5), (5, 6), (5, 13), (6, 7), (7, 15), (8, 9), (8, 15), (9, 10), (10, 11), (11, 12), (12, 13), (13, 14), (14, 15)], [(0, 1, 2), (0, 6, 7), (2, 3, 4), (4, 5, 6), (8, 9, 10), (8, 14, 15), (10, 11, 12), (12, 13, 14)]⟩
def ringB3 : Bd := ⟨24, [(0, 1), (0, 7), (1, 2), (1, 9), (2, 3), (3, 4), (3, 11), (4, 5), (5, 6), (5, 13), (6, 7), (7, 15), (8, 9), (8, 15), (9, 10), (9, 17), (10, 11), (11, 12), (11, 19), (12, 13), (13, 14), (13, 21), (14, 15), (15, 23), (16, 17), (16, 23), (17, 18), (18, 19), (19, 20), (20, 21), (21, 22), (22, 23)], [(0, 1, 2), (0, 6, 7), (1, 9, 17), (2, 3, 4), (3, 11, 19), (4, 5, 6), (5, 13, 21), (7, 15, 23), (8, 9, 10), (8, 14, 15), (10, 11, 12), (12, 13, 14), (16, 17, 18), (16, 22, 23), (18, 19, 20), (20, 21, 22)]⟩
def gridB : Bd := ⟨9, [(0, 1), (0, 3), (1, 2), (1, 4), (2, 5), (3, 4), (3, 6), (4, 5), (4, 7), (5, 8), (6, 7), (7, 8)], [(0, 1, 2), (0, 3, 6), (1, 4, 7), (2, 5, 8), (3, 4, 5), (6, 7, 8)]⟩
theorem grid_ev : f_law_grid_board [] = .ok (encB gridB) := by kernel_rfl
theorem ring1_ev : f_law_ring_board [.int 1] = .ok (encB ringB1) := by
  delta f_law_ring_board b_law_ring_board l_law_ring_board_1 lb_law_ring_board_1 q_law_ring_board_2 q_law_ring_board_3
  rw [sortN_eq]
  kernel_rfl
theorem ring2_ev : f_law_ring_board [.int 2] = .ok (encB ringB2) := by
  delta f_law_ring_board b_law_ring_board l_law_ring_board_1 lb_law_ring_board_1 q_law_ring_board_2 q_law_ring_board_3
  rw [sortN_eq]
  kernel_rfl
theorem ring3_ev : f_law_ring_board [.int 3] = .ok (encB ringB3) := by
  delta f_law_ring_board b_law_ring_board l_law_ring_board_1 lb_law_ring_board_1 q_law_ring_board_2 q_law_ring_board_3
  rw [sortN_eq]
  kernel_rfl
theorem grid_ok : gridB.Ok := ⟨by decide, by decide, by decide, by decide, by decide, by decide, by decide, by decide⟩
theorem ring1_ok : ringB1.Ok := ⟨by decide, by decide, by decide, by decide, by decide, by decide, by decide, by decide⟩
theorem ring2_ok : ringB2.Ok := ⟨by decide, by decide, by decide, by decide, by decide, by decide, by decide, by decide⟩
theorem ring3_ok : ringB3.Ok := ⟨by decide, by decide, by decide, by decide, by decide, by decide, by decide, by decide⟩
/-! ### mix, cell -/
def mixI (c p m : Int) : Int := (c * 48271 % p) * (c * 48271 % p + 7) % p % m
theorem mix_ev {c p m : Int} (hp : 0 < p) (hp2 : p < 1000000000) (hm : 0 < m) : f_law_mix [.int c, .int p, .int m] = .ok (.int (mixI c p m)) := by
  have h0 := Int.emod_nonneg (c * 48271) (show p ≠ 0 by omega)
  have h1 := Int.emod_lt_of_pos (c * 48271) hp
  have e1 : mulD (.int c) (.int 48271) = some (.int (c * 48271)) := mul_ii (.inr (by decide))
  have e2 : mulD (.int (c * 48271 % p)) (.int (c * 48271 % p + 7)) = some (.int ((c * 48271 % p) * (c * 48271 % p + 7))) := mul_ii (.inl (small_le (by omega) (by omega)))
  apply runD_rt
  simp [b_law_mix, startE, e1, e2, mod_ii hp, mod_ii hm, mixI]
theorem mix_lo {c p m : Int} (hm : 0 < m) : 0 ≤ mixI c p m := Int.emod_nonneg _ (by omega)
theorem mix_hi {c p m : Int} (hm : 0 < m) : mixI c p m < m := Int.emod_lt_of_pos _ hm
def cellI (ns : List Int) (k : Int) : Int := if k < ns.length then ns.getD k.toNat 0 else 0
theorem cell_ev {ns : List Int} {k : Int} (hk0 : 0 ≤ k) : f_law_cell [scrD ns, .int k] = .ok (.int (cellI ns k)) := by
  have e1 : lenD (scrD ns) = some (.int ns.length) := by
    show ((scrOf [(.none, .list (ns.map PyData.int))]).map fun ns => PyData.int ns.length) = _
    rw [scrOf_map]
    rfl
  obtain ⟨j, rfl⟩ : ∃ j : Nat, k = j := ⟨k.toNat, by omega⟩
  apply runD_rt
  by_cases h : (j : Int) < ns.length
  · have hj : j < ns.length := by omega
    have e2 : ixD (scrD ns) (.int j) = some (.int (ns.getD (j : Int).toNat 0)) := by
      show ((scrOf [(.none, .list (ns.map PyData.int))]).bind fun ns => (atI ns j).map PyData.int) = _
      rw [scrOf_map]
      show (atI ns j).map PyData.int = _
      rw [atI_n, List.getD_eq_getElem?_getD, Int.toNat_natCast, List.getElem?_eq_getElem hj]
      rfl
    simp [b_law_cell, startE, e1, e2, h, cellI]
  · simp [b_law_cell, startE, e1, h, cellI]
end Pf
/-! Bo2: drawn boards -/
namespace Pf
open PySem L2 Pu
theorem f2_key (p q : Int × Int) (h : keyI (f2 p) = keyI (f2 q)) : p = q := f2_inj p q (keyI_inj h)
theorem f3_key (p q : Int × Int × Int) (h : keyI (f3 p) = keyI (f3 q)) : p = q := f3_inj p q (keyI_inj h)
section
variable {c most m : Int}
def D1 (c most m : Int) (n : Nat) (e : En) : Prop := ∃ (ks : List (Int × Int)) (s4 s5 s6 : Sl), e = [.dat (.int c), .dat (.int most), .dat (.int m), .dic (tDict e2 ks), s4, s5, s6, .un, .un, .un] ∧ ks.Nodup ∧ (∀ p ∈ ks, 0 ≤ p.1 ∧ p.1 < p.2 ∧ p.2 < m) ∧ ks.length ≤ n
theorem lb1_ev (hm : 0 < m) (hm2 : m ≤ 24) {n : Nat} (hn : n ≤ 1000) {k : Int} (hk : 0 ≤ k) (hk2 : k ≤ 1000) {e : En} (h : D1 c most m n e) : ∃ e1 e2, gn 4 (.int k) e = some e1 ∧ (lb_law_drawn_board_1 e1 = .nx e2 ∨ lb_law_drawn_board_1 e1 = .ct e2) ∧ D1 c most m (n + 1) e2 := by
  obtain ⟨ks, s4, s5, s6, rfl, nd, ok, hl⟩ := h
  have m7 : mulD (.int 7) (.int k) = some (.int (7 * k)) := mul_ii (.inl (by decide))
  have m11 : mulD (.int 11) (.int k) = some (.int (11 * k)) := mul_ii (.inl (by decide))
  have x1 := mix_ev (c := c + 7 * k) (p := 9949) (m := m) (by decide) (by decide) hm
  have x2 := mix_ev (c := c + 11 * k) (p := 9941) (m := m) (by decide) (by decide) hm
  have a1 := mix_lo (c := c + 7 * k) (p := 9949) hm
  have a2 := mix_hi (c := c + 7 * k) (p := 9949) hm
  have b1 := mix_lo (c := c + 11 * k) (p := 9941) hm
  have b2 := mix_hi (c := c + 11 * k) (p := 9941) hm
  generalize mixI (c + 7 * k) 9949 m = x at x1 a1 a2
  generalize mixI (c + 11 * k) 9941 m = y at x2 b1 b2
  by_cases hxy : x = y
  · refine ⟨_, _, rfl, .inl (?_ : _ = Fl.nx [.dat (.int c), .dat (.int most), .dat (.int m), .dic (tDict e2 ks), .dat (.int k), .dat (.int x), .dat (.int y), .un, .un, .un]), ks, _, _, _, rfl, nd, ok, by omega⟩
    simp [lb_law_drawn_board_1, m7, m11, x1, x2, hxy]
  · have hp : keyD (tJ [min x y, max x y]) = some (keyI [min x y, max x y]) := keyD_tJ _
    refine ⟨_, _, rfl, .inl (?_ : _ = Fl.nx [.dat (.int c), .dat (.int most), .dat (.int m), .dic (tDict e2 (addK ks (min x y, max x y))), .dat (.int k), .dat (.int x), .dat (.int y), .un, .un, .un]), addK ks (min x y, max x y), _, _, _, rfl, addK_nodup nd, fun p hp => ?_, ?_⟩
    · have hd : dput (tDict e2 ks) (keyI [min x y, max x y]) (tJ [min x y, max x y]) (.bool true) = tDict e2 (addK ks (min x y, max x y)) := dput_t (enc := e2) (key := fun p => keyI (f2 p)) (fun a => nk_tJ _) f2_key ks (min x y, max x y)
      simp [lb_law_drawn_board_1, m7, m11, x1, x2, hxy]
      rw [sdput_ev (v := .bool true) (x := tJ [min x y, max x y]) (kvs := tDict e2 ks) (k := keyI [min x y, max x y]) rfl rfl (by simp [tJ]) hp (by unfold tDict; rw [List.length_map]; omega), hd]
      rfl
    · rcases addK_mem.mp hp with hp | rfl
      · exact ok p hp
      · simp only; omega
    · have := addK_len (ks := ks) (a := (min x y, max x y)); omega
theorem l1_ev (hm : 0 < m) (hm2 : m ≤ 24) : ∃ e', l_law_drawn_board_1 [.dat (.int c), .dat (.int most), .dat (.int m), .dic [], .un, .un, .un, .un, .un, .un] = .nx e' ∧ D1 c most m 100 e' := by
  have x1 := mix_ev (c := c) (p := 9967) (m := 2 * m) (by decide) (by decide) (by omega)
  have a1 := mix_lo (c := c) (p := 9967) (m := 2 * m) (by omega)
  have a2 := mix_hi (c := c) (p := 9967) (m := 2 * m) (by omega)
  generalize mixI c 9967 (2 * m) = n at x1 a1 a2
  have m2 : mulD (.int 2) (.int m) = some (.int (2 * m)) := mul_ii (.inl (by decide))
  obtain ⟨e', h1, h2⟩ := forL_inv (enc := PyData.int) (f := gn 4) (B := lb_law_drawn_board_1) (fun p e => D1 c most m p.length e) (upto n.toNat) [] [.dat (.int c), .dat (.int most), .dat (.int m), .dic [], .un, .un, .un, .un, .un, .un]
    ⟨[], _, _, _, rfl, List.nodup_nil, (fun p hp => nomatch hp), Nat.le_refl _⟩ fun p x r e q h => by
      rw [List.nil_append] at q
      have hl : (upto n.toNat).length = p.length + (r.length + 1) := by rw [q, List.length_append, List.length_cons]
      rw [upto_length] at hl
      have hx : x ∈ upto n.toNat := by rw [q]; simp
      rw [upto_mem] at hx
      obtain ⟨e1, e2, h1, h2, h3⟩ := lb1_ev hm hm2 (n := p.length) (by omega) (k := x) hx.1 (by omega) h
      exact ⟨e1, e2, h1, h2, by rw [List.length_append]; exact h3⟩
  refine ⟨e', sfor_nx (ds := (upto n.toNat).map PyData.int) ?_ h1, ?_⟩
  · simp [m2, x1, rng1_ev (j := n) (by omega) (by omega)]
  · obtain ⟨ks, s4, s5, s6, q1, q2, q3, q4⟩ := h2
    refine ⟨ks, s4, s5, s6, q1, q2, q3, ?_⟩
    rw [List.nil_append, upto_length] at q4
    omega
def D2 (c most m : Int) (ks : List (Int × Int)) (n : Nat) (e : En) : Prop := ∃ (rs : List (Int × Int × Int)) (s4 s5 s6 s8 : Sl), e = [.dat (.int c), .dat (.int most), .dat (.int m), .dic (tDict e2 ks), s4, s5, s6, .dic (tDict e3 rs), s8, .un] ∧ rs.Nodup ∧ (∀ p ∈ rs, 0 ≤ p.1 ∧ p.1 < p.2.1 ∧ p.2.1 < p.2.2 ∧ p.2.2 < m) ∧ rs.length ≤ n
theorem q1_ev (hm : 0 < m) {k : Int} {d3 s5 s6 s7 s8 : Sl} : q_law_drawn_board_1 [.dat (.int c), .dat (.int most), .dat (.int m), d3, .dat (.int k), s5, s6, s7, s8, .un] = .ok (((upto 3).map fun j => mixI (c + 13 * k + j) 9929 m).map PyData.int) := by
  have m13 : mulD (.int 13) (.int k) = some (.int (13 * k)) := mul_ii (.inl (by decide))
  unfold q_law_drawn_board_1
  rw [xlc_all (enc := PyData.int) (xs := upto 3) (fun j => .int (mixI (c + 13 * k + j) 9929 m)) (by simp [rng1_ev (j := 3) (by omega) (by omega)]) (by decide) fun x hx => ?_]
  · rw [List.map_map]; rfl
  · refine ⟨_, rfl, rfl, ?_⟩
    simp [wipeE, m13, mix_ev (c := c + 13 * k + x) (p := 9929) (m := m) (by decide) (by decide) hm]
theorem sortSet_ev {ns : List Int} (h : ns.length < 60) : sortSetN (.list (ns.map PyData.int)) = some ((ssort ns).map PyData.int) := by
  show ((intsOf (ns.map PyData.int)).bind fun ns => if ns.length < 60 then some ((ssort ns).map PyData.int) else none) = _
  rw [intsOf_map]
  show (if ns.length < 60 then _ else _) = _
  rw [if_pos h]
theorem lb2_ev (hm : 0 < m) (hm2 : m ≤ 24) {ks : List (Int × Int)} {n : Nat} (hn : n ≤ 1000) {k : Int} {e : En} (h : D2 c most m ks n e) : ∃ e1 e2, gn 4 (.int k) e = some e1 ∧ (lb_law_drawn_board_2 e1 = .nx e2 ∨ lb_law_drawn_board_2 e1 = .ct e2) ∧ D2 c most m ks (n + 1) e2 := by
  obtain ⟨rs, s4, s5, s6, s8, rfl, nd, ok, hl⟩ := h
  have hq := q1_ev (c := c) (most := most) (m := m) (k := k) (d3 := .dic (tDict e2 ks)) (s5 := s5) (s6 := s6) (s7 := .dic (tDict e3 rs)) (s8 := s8) hm
  have hmem : ∀ x ∈ (upto 3).map fun j => mixI (c + 13 * k + j) 9929 m, 0 ≤ x ∧ x < m := fun x hx => by
    obtain ⟨j, _, rfl⟩ := List.mem_map.mp hx
    exact ⟨mix_lo hm, mix_hi hm⟩
  have hlen : ((upto 3).map fun j => mixI (c + 13 * k + j) 9929 m).length < 60 := by rw [List.length_map, upto_length]; decide
  generalize (upto 3).map (fun j => mixI (c + 13 * k + j) 9929 m) = ns at hq hmem hlen
  have hs := sortSet_ev hlen
  by_cases h3 : (ssort ns).length = 3
  · obtain ⟨x, y, z, hz⟩ : ∃ x y z, ssort ns = [x, y, z] := by
      match ssort ns, h3 with
      | [x, y, z], _ => exact ⟨x, y, z, rfl⟩
    have hlt := ssort_lt ns
    rw [hz] at hlt hs
    simp only [List.pairwise_cons, List.mem_cons, List.not_mem_nil, or_false, forall_eq_or_imp, forall_eq] at hlt
    have hx := hmem x ((ssort_mem ns x).mp (by rw [hz]; simp))
    have hzz := hmem z ((ssort_mem ns z).mp (by rw [hz]; simp))
    have hd : dput (tDict e3 rs) (keyI [x, y, z]) (tJ [x, y, z]) (.bool true) = tDict e3 (addK rs (x, y, z)) := dput_t (enc := e3) (key := fun p => keyI (f3 p)) (fun a => nk_tJ _) f3_key rs (x, y, z)
    refine ⟨_, _, rfl, .inl (?_ : _ = Fl.nx [.dat (.int c), .dat (.int most), .dat (.int m), .dic (tDict e2 ks), .dat (.int k), s5, s6, .dic (tDict e3 (addK rs (x, y, z))), .dat (.list [.int x, .int y, .int z]), .un]), addK rs (x, y, z), _, _, _, _, rfl, addK_nodup nd, fun p hp => ?_, ?_⟩
    · simp [lb_law_drawn_board_2, hq, hs]
      rw [sdput_ev (v := .bool true) (x := tJ [x, y, z]) (kvs := tDict e3 rs) (k := keyI [x, y, z]) rfl rfl (by simp [tJ]) (keyD_tJ _) (by unfold tDict; rw [List.length_map]; omega), hd]
      rfl
    · rcases addK_mem.mp hp with hp | rfl
      · exact ok p hp
      · simp only; omega
    · have := addK_len (ks := rs) (a := (x, y, z)); omega
  · refine ⟨_, _, rfl, .inl (?_ : _ = Fl.nx [.dat (.int c), .dat (.int most), .dat (.int m), .dic (tDict e2 ks), .dat (.int k), s5, s6, .dic (tDict e3 rs), .dat (.list ((ssort ns).map PyData.int)), .un]), rs, _, _, _, _, rfl, nd, ok, by omega⟩
    have h3' : ¬ ((ssort ns).length : Int) = 3 := by omega
    simp [lb_law_drawn_board_2, hq, hs, h3']
theorem l2_ev (hm : 0 < m) (hm2 : m ≤ 24) {ks : List (Int × Int)} {s4 s5 s6 : Sl} : ∃ e', l_law_drawn_board_2 [.dat (.int c), .dat (.int most), .dat (.int m), .dic (tDict e2 ks), s4, s5, s6, .dic [], .un, .un] = .nx e' ∧ D2 c most m ks 1000 e' := by
  have x1 := mix_ev (c := c) (p := 9931) (m := 6) (by decide) (by decide) (by omega)
  have a1 := mix_lo (c := c) (p := 9931) (m := 6) (by omega)
  have a2 := mix_hi (c := c) (p := 9931) (m := 6) (by omega)
  generalize mixI c 9931 6 = n at x1 a1 a2
  obtain ⟨e', h1, h2⟩ := forL_inv (enc := PyData.int) (f := gn 4) (B := lb_law_drawn_board_2) (fun p e => D2 c most m ks p.length e) (upto n.toNat) [] [.dat (.int c), .dat (.int most), .dat (.int m), .dic (tDict e2 ks), s4, s5, s6, .dic [], .un, .un]
    ⟨[], _, _, _, _, rfl, List.nodup_nil, (fun p hp => nomatch hp), Nat.le_refl _⟩ fun p x r e q h => by
      rw [List.nil_append] at q
      have hl : (upto n.toNat).length = p.length + (r.length + 1) := by rw [q, List.length_append, List.length_cons]
      rw [upto_length] at hl
      obtain ⟨e1, e2, h1, h2, h3⟩ := lb2_ev hm hm2 (n := p.length) (by omega) (k := x) h
      exact ⟨e1, e2, h1, h2, by rw [List.length_append]; exact h3⟩
  refine ⟨e', sfor_nx (ds := (upto n.toNat).map PyData.int) ?_ h1, ?_⟩
  · simp [x1, rng1_ev (j := n) (by omega) (by omega)]
  · obtain ⟨rs, s4, s5, s6, s8, q1, q2, q3, q4⟩ := h2
    refine ⟨rs, s4, s5, s6, s8, q1, q2, q3, ?_⟩
    rw [List.nil_append, upto_length] at q4
    omega
theorem sortT_strict {α : Type} {f : α → List Int} (inj : ∀ a b, f a = f b → a = b) {xs : List α} (nd : xs.Nodup) : (sortT f xs).Pairwise fun p q => lexLe (f p) (f q) = true ∧ p ≠ q := by
  have h1 := (goodLex.on f inj).sorted xs
  have h2 : (sortT f xs).Pairwise (· ≠ ·) := (sortT_perm f xs).nodup_iff.mpr nd
  exact h1.and h2
theorem drawn_ev (h5 : 5 ≤ most) (h24 : most ≤ 24) : ∃ b : Bd, b.Ok ∧ 5 ≤ b.n ∧ b.n ≤ most ∧ f_law_drawn_board [.int c, .int most] = .ok (encB b) := by
  have x1 := mix_ev (c := c) (p := 9973) (m := most - 4) (by decide) (by decide) (by omega)
  have a1 := mix_lo (c := c) (p := 9973) (m := most - 4) (by omega)
  have a2 := mix_hi (c := c) (p := 9973) (m := most - 4) (by omega)
  generalize mixI c 9973 (most - 4) = n at x1 a1 a2
  obtain ⟨e1, p1, ks, s4, s5, s6, rfl, nd, ok, hl⟩ := l1_ev (c := c) (most := most) (m := 5 + n) (by omega) (by omega)
  obtain ⟨e2', p2, rs, t4, t5, t6, t8, rfl, nd2, ok2, hl2⟩ := l2_ev (c := c) (most := most) (m := 5 + n) (ks := ks) (s4 := s4) (s5 := s5) (s6 := s6) (by omega) (by omega)
  refine ⟨⟨5 + n, sortT f2 ks, sortT f3 rs⟩, ⟨by simp only; omega, by simp only; omega, sortT_strict f2_inj nd, fun p hp => ok p ((sortT_perm f2 ks).mem_iff.mp hp), sortT_strict f3_inj nd2, fun p hp => ok2 p ((sortT_perm f3 rs).mem_iff.mp hp), ?_, ?_⟩, by simp only; omega, by simp only; omega, ?_⟩
  · rw [(sortT_perm f2 ks).length_eq]; omega
  · rw [(sortT_perm f3 rs).length_eq]; exact hl2
  · apply runD_rt
    have s1 : sortD (ks.map e2) = some ((sortT f2 ks).map e2) := sort_tJ (f := f2) (fun a => by simp [f2]) (by omega)
    have s2 : sortD (rs.map e3) = some ((sortT f3 rs).map e3) := sort_tJ (f := f3) (fun a => by simp [f3]) (by omega)
    simp only [b_law_drawn_board, startE, List.map_cons, List.map_nil, List.length_cons, List.length_nil, sseq_ev, sdnew_ev]
    simp [x1, p1, p2, sdnew_ev, kvKeys_t, s1, s2, encB]
end
end Pf
/-! Bo3: boards and stands as drawn -/
namespace Pf
open PySem L2 Pu
theorem board_ev {c most : Int} (h5 : 5 ≤ most) (h24 : most ≤ 24) : ∃ b : Bd, b.Ok ∧ 5 ≤ b.n ∧ f_law_board [.int c, .int most] = .ok (encB b) := by
  have x1 := mix_ev (c := c) (p := 9923) (m := 6) (by decide) (by decide) (by omega)
  have a1 := mix_lo (c := c) (p := 9923) (m := 6) (by omega)
  have a2 := mix_hi (c := c) (p := 9923) (m := 6) (by omega)
  generalize mixI c 9923 6 = n at x1 a1 a2
  by_cases c1 : n = 0 ∧ 23 < most
  · refine ⟨ringB3, ring3_ok, by decide, ?_⟩
    apply runD_rt
    simp [b_law_board, startE, x1, c1.1, c1.2, ring3_ev]
  by_cases c2 : n < 3 ∧ 15 < most
  · by_cases hn : n % 2 = 0
    · refine ⟨ringB1, ring1_ok, by decide, ?_⟩
      apply runD_rt
      have m2 : modD (.int n) (.int 2) = some (.int 0) := by rw [mod_ii (by decide), hn]
      by_cases h0 : n = 0
      · have : ¬ 23 < most := fun z => c1 ⟨h0, z⟩
        simp [b_law_board, startE, x1, h0, this, c2.2, mod_ii, ring1_ev]
      · simp [b_law_board, startE, x1, h0, c2.1, c2.2, m2, ring1_ev]
    · refine ⟨ringB2, ring2_ok, by decide, ?_⟩
      apply runD_rt
      have m2 : modD (.int n) (.int 2) = some (.int 1) := by rw [mod_ii (by decide), show n % 2 = 1 by omega]
      have h0 : ¬ n = 0 := by omega
      simp [b_law_board, startE, x1, h0, c2.1, c2.2, m2, ring2_ev]
  by_cases c3 : n < 4
  · refine ⟨gridB, grid_ok, by decide, ?_⟩
    apply runD_rt
    by_cases h0 : n = 0
    · have h1 : ¬ 23 < most := fun z => c1 ⟨h0, z⟩
      have h2 : ¬ 15 < most := fun z => c2 ⟨by omega, z⟩
      simp [b_law_board, startE, x1, h0, h1, h2, grid_ev]
    · by_cases h3 : n < 3
      · have h2 : ¬ 15 < most := fun z => c2 ⟨by omega, z⟩
        simp [b_law_board, startE, x1, h0, h2, h3, c3, grid_ev]
      · simp [b_law_board, startE, x1, h0, h3, c3, grid_ev]
  · obtain ⟨b, ok, lo, hi, he⟩ := drawn_ev (c := c + 1) (most := min most 12) (by omega) (by omega)
    refine ⟨b, ok, lo, ?_⟩
    apply runD_rt
    have h0 : ¬ n = 0 := by omega
    have h3 : ¬ n < 3 := by omega
    simp [b_law_board, startE, x1, h0, h3, c3, he]
/-! ### stands -/
structure Sd where
  men : List (Option Int)
  l0 : Int
  l1 : Int
  turn : Int
def encM (ms : List (Option Int)) : D := .tuple (ms.map oM)
def encS (s : Sd) : D := .tuple [encM s.men, .tuple [.int s.l0, .int s.l1], .int s.turn]
def ManOk (m : Option Int) : Prop := m = none ∨ m = some 0 ∨ m = some 1
structure Sd.Ok (n : Int) (s : Sd) : Prop where
  len : (s.men.length : Int) = n
  man : ∀ m ∈ s.men, ManOk m
  l0 : 0 ≤ s.l0 ∧ s.l0 ≤ 9
  l1 : 0 ≤ s.l1 ∧ s.l1 ≤ 9
  turn : s.turn = 0 ∨ s.turn = 1
section
variable {b : Bd} {c few fr : Int}
def S1 (b : Bd) (c few fr : Int) (e : En) : Prop := ∃ (ms : List (Option Int)) (s5 s6 s7 : Sl), e = [.dat (encB b), .dat (.int c), .dat (.int few), .own (ms.map oM), .dat (.int fr), s5, s6, s7, .un, .un, .un] ∧ (ms.length : Int) = b.n ∧ (∀ m ∈ ms, ManOk m) ∧ (few = 0 ∨ ((ms.count (some 0) : Int) ≤ few ∧ (ms.count (some 1) : Int) ≤ few))
theorem q2_ev {ms : List (Option Int)} (hl : ms.length ≤ 1000000) {s0 s1 s2 s4 s5 s6 s7 s8 : Sl} : q_law_stand_2 [s0, s1, s2, .own (ms.map oM), s4, s5, s6, s7, s8, .un, .un] = .ok ((whr (·.isNone) ms).map PyData.int) := by
  unfold q_law_stand_2
  refine xlc_whr (fun m => m.isNone) (by simp) hl fun p m _ _ _ => ⟨_, rfl, ?_, ?_⟩
  · simp [wipeE]
  · simp [wipeE]
theorem set_ok {ms : List (Option Int)} {i : Nat} {w : Int} (h : ∀ m ∈ ms, ManOk m) (hw : w = 0 ∨ w = 1) : ∀ m ∈ ms.set i (some w), ManOk m := fun m hm => by
  rcases List.mem_or_eq_of_mem_set hm with hm | rfl
  · exact h m hm
  · rcases hw with rfl | rfl
    · exact .inr (.inl rfl)
    · exact .inr (.inr rfl)
theorem count_set_le {ms : List (Option Int)} {i : Nat} (hi : i < ms.length) (w v : Int) : (ms.set i (some w)).count (some v) ≤ ms.count (some v) + if w = v then 1 else 0 := by
  rw [List.count_set hi]
  by_cases h : w = v
  · subst h; simp
  · have : ¬ (some w = some v) := fun z => h (Option.some.inj z)
    simp [h]
theorem lbS1_ev (hf : 0 ≤ fr) (h24 : b.n ≤ 24) {k w : Int} (hw : w = 0 ∨ w = 1) {s6 s7 : Sl} {ms : List (Option Int)} (hl : (ms.length : Int) = b.n) (hm : ∀ m ∈ ms, ManOk m) (hc : few = 0 ∨ ((ms.count (some 0) : Int) ≤ few ∧ (ms.count (some 1) : Int) ≤ few)) :
    ∃ ms' : List (Option Int), (ms'.length : Int) = b.n ∧ (∀ m ∈ ms', ManOk m) ∧ (few = 0 ∨ ((ms'.count (some 0) : Int) ≤ few ∧ (ms'.count (some 1) : Int) ≤ few)) ∧ ∃ s7', lb_law_stand_1 [.dat (encB b), .dat (.int c), .dat (.int few), .own (ms.map oM), .dat (.int fr), .dat (.int k), .dat (.int w), s7, .un, .un, .un] =
      .nx [.dat (encB b), .dat (.int c), .dat (.int few), .own (ms'.map oM), .dat (.int fr), .dat (.int k), .dat (.int w), s7', .un, .un, .un] := by
  have hq := q2_ev (ms := ms) (by omega) (s0 := .dat (encB b)) (s1 := .dat (.int c)) (s2 := .dat (.int few)) (s4 := .dat (.int fr)) (s5 := .dat (.int k)) (s6 := .dat (.int w)) (s7 := s7) (s8 := .un)
  have hcnt : xcount (xvV 3) (xvV 6) [.dat (encB b), .dat (.int c), .dat (.int few), .own (ms.map oM), .dat (.int fr), .dat (.int k), .dat (.int w), .dat (.list ((whr (·.isNone) ms).map PyData.int)), .un, .un, .un] = .ok (.int (ms.count (some w) : Nat)) :=
    xcount_ev (x := .list (ms.map oM)) (y := .int w) (by simp) (by simp) (.inl ⟨_, rfl⟩) (count_men_l ms w)
  have hwl := whr_length (·.isNone) ms
  have hmem : ∀ p ∈ whr (·.isNone) ms, 0 ≤ p ∧ p < ms.length := fun p hp => ⟨(whr_mem.mp hp).1, (whr_mem.mp hp).2.1⟩
  generalize whr (·.isNone) ms = em at hq hcnt hwl hmem
  by_cases h1 : fr < em.length
  · by_cases h2 : few = 0 ∨ (ms.count (some w) : Int) < few
    · -- a man is put
      have x1 := mix_ev (c := c + 23 * k + 5 * w) (p := 9901) (m := (em.length : Int)) (by decide) (by decide) (by omega)
      have a1 := mix_lo (c := c + 23 * k + 5 * w) (p := 9901) (m := (em.length : Int)) (by omega)
      have a2 := mix_hi (c := c + 23 * k + 5 * w) (p := 9901) (m := (em.length : Int)) (by omega)
      generalize mixI (c + 23 * k + 5 * w) 9901 (em.length : Int) = i at x1 a1 a2
      have hi : i.toNat < em.length := by omega
      have hp := hmem em[i.toNat] (List.getElem_mem hi)
      have hat : atI (em.map PyData.int) i = some (.int em[i.toNat]) := atI_some a1 (by rw [List.getElem?_map, List.getElem?_eq_getElem hi]; rfl)
      generalize em[i.toNat] = p at hp hat
      have m23 : mulD (.int 23) (.int k) = some (.int (23 * k)) := mul_ii (.inl (by decide))
      have m5 : mulD (.int 5) (.int w) = some (.int (5 * w)) := mul_ii (.inl (by decide))
      refine ⟨ms.set p.toNat (some w), by rw [List.length_set]; exact hl, set_ok hm hw, ?_, .dat (.list (em.map PyData.int)), ?_⟩
      · by_cases hfw : few = 0
        · exact .inl hfw
        · right
          have hcw : (ms.count (some w) : Int) < few := h2.resolve_left hfw
          have hcc := hc.resolve_left hfw
          have q0 := count_set_le (show p.toNat < ms.length by omega) w 0
          have q1 := count_set_le (show p.toNat < ms.length by omega) w 1
          rcases hw with rfl | rfl
          · rw [if_pos rfl] at q0; rw [if_neg (by decide)] at q1; omega
          · rw [if_neg (by decide)] at q0; rw [if_pos rfl] at q1; omega
      · have hT : (tand (xbl (bin gtD (un1 lenD (xvV 7)) (xvV 4))) (tor (xbl (bin eqD (xvV 2) (xc (.int 0)))) (xbl (bin ltD (xcount (xvV 3) (xvV 6)) (xvV 2))))) [.dat (encB b), .dat (.int c), .dat (.int few), .own (ms.map oM), .dat (.int fr), .dat (.int k), .dat (.int w), .dat (.list (em.map PyData.int)), .un, .un, .un] = .ok true := by
          by_cases hfw : few = 0
          · simp [h1, hfw]
          · simp [h1, hfw, hcnt, h2.resolve_left hfw]
        simp only [lb_law_stand_1, sseq_ev, sasg_ev, asL_ev, hq, bind_ok, liftE_ok, then_nx, List.set_cons_succ, List.set_cons_zero]
        rw [sif_t hT, sput_ev (d := .int w) (n := p) (m := p.toNat) (ds := ms.map oM) (by simp) rfl (by simp [m23, m5, x1, hat]) (by rw [List.length_map]; exact ixN_nat hp.1 (by omega))]
        rw [show (PyData.int w) = oM (some w) from rfl, ← List.map_set]
        rfl
    · refine ⟨ms, hl, hm, hc, .dat (.list (em.map PyData.int)), ?_⟩
      have hfw : ¬ few = 0 := fun z => h2 (.inl z)
      have hcw : ¬ (ms.count (some w) : Int) < few := fun z => h2 (.inr z)
      have hT : (tand (xbl (bin gtD (un1 lenD (xvV 7)) (xvV 4))) (tor (xbl (bin eqD (xvV 2) (xc (.int 0)))) (xbl (bin ltD (xcount (xvV 3) (xvV 6)) (xvV 2))))) [.dat (encB b), .dat (.int c), .dat (.int few), .own (ms.map oM), .dat (.int fr), .dat (.int k), .dat (.int w), .dat (.list (em.map PyData.int)), .un, .un, .un] = .ok false := by
        simp [h1, hfw, hcnt, hcw]
      simp only [lb_law_stand_1, sseq_ev, sasg_ev, asL_ev, hq, bind_ok, liftE_ok, then_nx, List.set_cons_succ, List.set_cons_zero]
      rw [sif_f hT]
      rfl
  · refine ⟨ms, hl, hm, hc, .dat (.list (em.map PyData.int)), ?_⟩
    have hT : (tand (xbl (bin gtD (un1 lenD (xvV 7)) (xvV 4))) (tor (xbl (bin eqD (xvV 2) (xc (.int 0)))) (xbl (bin ltD (xcount (xvV 3) (xvV 6)) (xvV 2))))) [.dat (encB b), .dat (.int c), .dat (.int few), .own (ms.map oM), .dat (.int fr), .dat (.int k), .dat (.int w), .dat (.list (em.map PyData.int)), .un, .un, .un] = .ok false := by
      simp [h1]
    simp only [lb_law_stand_1, sseq_ev, sasg_ev, asL_ev, hq, bind_ok, liftE_ok, then_nx, List.set_cons_succ, List.set_cons_zero]
    rw [sif_f hT]
    rfl
theorem lbS2_ev (hf : 0 ≤ fr) (h24 : b.n ≤ 24) {k : Int} {e : En} (h : S1 b c few fr e) : ∃ e1 e2, gn 5 (.int k) e = some e1 ∧ (lb_law_stand_2 e1 = .nx e2 ∨ lb_law_stand_2 e1 = .ct e2) ∧ S1 b c few fr e2 := by
  obtain ⟨ms, s5, s6, s7, rfl, hl, hm, hc⟩ := h
  obtain ⟨e', h1, h2⟩ := forL_stay (enc := PyData.int) (f := gn 6) (B := lb_law_stand_1) (fun e => ∃ (ms : List (Option Int)) (s6 s7 : Sl), e = [.dat (encB b), .dat (.int c), .dat (.int few), .own (ms.map oM), .dat (.int fr), .dat (.int k), s6, s7, .un, .un, .un] ∧ (ms.length : Int) = b.n ∧ (∀ m ∈ ms, ManOk m) ∧ (few = 0 ∨ ((ms.count (some 0) : Int) ≤ few ∧ (ms.count (some 1) : Int) ≤ few)))
    [0, 1] [.dat (encB b), .dat (.int c), .dat (.int few), .own (ms.map oM), .dat (.int fr), .dat (.int k), s6, s7, .un, .un, .un] ⟨ms, s6, s7, rfl, hl, hm, hc⟩ fun w e hw ⟨ms, s6, s7, e1, hl, hm, hc⟩ => by
      subst e1
      obtain ⟨ms', l', m', c', s7', he⟩ := lbS1_ev (b := b) (c := c) (few := few) (fr := fr) hf h24 (k := k) (w := w) (by simpa using hw) (s6 := s6) (s7 := s7) hl hm hc
      exact ⟨_, _, rfl, .inl he, ms', _, _, rfl, l', m', c'⟩
  obtain ⟨ms', s6', s7', rfl, hl', hm', hc'⟩ := h2
  have hh : lb_law_stand_2 [.dat (encB b), .dat (.int c), .dat (.int few), .own (ms.map oM), .dat (.int fr), .dat (.int k), s6, s7, .un, .un, .un] = .nx [.dat (encB b), .dat (.int c), .dat (.int few), .own (ms'.map oM), .dat (.int fr), .dat (.int k), s6', s7', .un, .un, .un] := by
    unfold lb_law_stand_2 l_law_stand_1
    exact sfor_nx (by simp) h1
  exact ⟨_, _, rfl, .inl hh, ms', _, _, _, rfl, hl', hm', hc'⟩
theorem stand_ev (hb : 5 ≤ b.n) (h24 : b.n ≤ 24) (hfew : 0 ≤ few) : ∃ s : Sd, s.Ok b.n ∧ (0 < few → (s.men.count (some 0) : Int) ≤ few ∧ (s.men.count (some 1) : Int) ≤ few ∧ s.l0 = 0 ∧ s.l1 = 0) ∧ s.turn = c % 2 ∧ s.l0 ≤ 3 ∧ s.l1 ≤ 3 ∧ f_law_stand [encB b, .int c, .int few] = .ok (encS s) := by
  have x1 := mix_ev (c := c) (p := 9871) (m := 4) (by decide) (by decide) (by omega)
  have a1 := mix_lo (c := c) (p := 9871) (m := 4) (by omega)
  generalize mixI c 9871 4 = fr at x1 a1
  have hq1 : q_law_stand_1 [.dat (encB b), .dat (.int c), .dat (.int few), .un, .un, .un, .un, .un, .un, .un, .un] = .ok ((List.replicate b.n.toNat none).map oM) := by
    unfold q_law_stand_1
    rw [xlc_all (enc := PyData.int) (xs := upto b.n.toNat) (fun _ => .none) (by simp [encB, rng1_ev (j := b.n) (by omega) (by omega)]) (by rw [upto_length]; omega) fun x hx => ⟨_, rfl, rfl, rfl⟩]
    congr 1
    unfold upto
    rw [List.map_map, List.map_replicate]
    apply List.ext_getElem
    · simp
    · intro i h1 h2
      simp
  -- the loop
  obtain ⟨n, hn0, hn1, xn⟩ : ∃ n : Int, 0 ≤ n ∧ n ≤ 100 ∧ irng1 (bin addD (xcall 3 f_law_mix (lcons (xvE 1) (lcons (xc (.int 9907)) (lcons (bin addD (xc (.int 4)) (bin mulD (xc (.int 6)) (un1 intD (bin eqD (xvV 2) (xc (.int 0)))))) lnil)))) (xc (.int 3))) [.dat (encB b), .dat (.int c), .dat (.int few), .own ((List.replicate b.n.toNat none).map oM), .dat (.int fr), .un, .un, .un, .un, .un, .un] = .ok ((upto n.toNat).map PyData.int) := by
    by_cases h0 : few = 0
    · have x2 := mix_ev (c := c) (p := 9907) (m := 10) (by decide) (by decide) (by omega)
      have b1 := mix_lo (c := c) (p := 9907) (m := 10) (by omega)
      have b2 := mix_hi (c := c) (p := 9907) (m := 10) (by omega)
      have m6 : mulD (.int 6) (.int 1) = some (.int 6) := mul_ii (.inl (by decide))
      refine ⟨mixI c 9907 10 + 3, by omega, by omega, ?_⟩
      simp [h0, m6, x2, rng1_ev (j := mixI c 9907 10 + 3) (by omega) (by omega)]
    · have x2 := mix_ev (c := c) (p := 9907) (m := 4) (by decide) (by decide) (by omega)
      have b1 := mix_lo (c := c) (p := 9907) (m := 4) (by omega)
      have b2 := mix_hi (c := c) (p := 9907) (m := 4) (by omega)
      have m6 : mulD (.int 6) (.int 0) = some (.int 0) := mul_ii (.inl (by decide))
      refine ⟨mixI c 9907 4 + 3, by omega, by omega, ?_⟩
      simp [h0, m6, x2, rng1_ev (j := mixI c 9907 4 + 3) (by omega) (by omega)]
  obtain ⟨e', h1, ms, s5, s6, s7, rfl, hl, hm, hc⟩ := forL_stay (enc := PyData.int) (f := gn 5) (B := lb_law_stand_2) (S1 b c few fr) (upto n.toNat) [.dat (encB b), .dat (.int c), .dat (.int few), .own ((List.replicate b.n.toNat none).map oM), .dat (.int fr), .un, .un, .un, .un, .un, .un]
    ⟨_, _, _, _, rfl, by rw [List.length_replicate]; omega, fun m hm => .inl (List.eq_of_mem_replicate hm), by right; rw [List.count_replicate, List.count_replicate]; simp; exact hfew⟩ fun x e _ h => lbS2_ev a1 h24 h
  have hloop : l_law_stand_2 [.dat (encB b), .dat (.int c), .dat (.int few), .own ((List.replicate b.n.toNat none).map oM), .dat (.int fr), .un, .un, .un, .un, .un, .un] = .nx [.dat (encB b), .dat (.int c), .dat (.int few), .own (ms.map oM), .dat (.int fr), s5, s6, s7, .un, .un, .un] := sfor_nx xn h1
  simp only [List.map_replicate, oM_n] at hloop
  have ht0 := Int.emod_nonneg c (show (2 : Int) ≠ 0 by decide)
  have ht1 := Int.emod_lt_of_pos c (show (0 : Int) < 2 by decide)
  have m2 : modD (.int c) (.int 2) = some (.int (c % 2)) := mod_ii (by decide)
  have m3 : modD (.int c) (.int 3) = some (.int (c % 3)) := mod_ii (by decide)
  have y1 := mix_ev (c := c) (p := 9887) (m := 4) (by decide) (by decide) (by omega)
  have y2 := mix_ev (c := c) (p := 9883) (m := 4) (by decide) (by decide) (by omega)
  have l1 := mix_lo (c := c) (p := 9887) (m := 4) (by omega)
  have l2 := mix_hi (c := c) (p := 9887) (m := 4) (by omega)
  have l3 := mix_lo (c := c) (p := 9883) (m := 4) (by omega)
  have l4 := mix_hi (c := c) (p := 9883) (m := 4) (by omega)
  by_cases hc3 : few = 0 ∧ c % 3 = 0
  · obtain ⟨rfl, h3⟩ := hc3
    refine ⟨⟨ms, mixI c 9887 4, mixI c 9883 4, c % 2⟩, ⟨hl, hm, by simp only; omega, by simp only; omega, by simp only; omega⟩, fun h => by omega, rfl, by simp only; omega, by simp only; omega, ?_⟩
    apply runD_rt
    simp [b_law_stand, startE, hq1, x1]
    rw [hloop]
    simp [m2, m3, h3, y1, y2, encS, encM]
  · refine ⟨⟨ms, 0, 0, c % 2⟩, ⟨hl, hm, by simp only; omega, by simp only; omega, by simp only; omega⟩, fun h => ⟨(hc.resolve_left (by omega)).1, (hc.resolve_left (by omega)).2, rfl, rfl⟩, rfl, by simp only; omega, by simp only; omega, ?_⟩
    apply runD_rt
    by_cases h0 : few = 0
    · have h3 : ¬ c % 3 = 0 := fun z => hc3 ⟨h0, z⟩
      subst h0
      simp [b_law_stand, startE, hq1, x1]
      rw [hloop]
      simp [m2, m3, h3, encS, encM]
    · simp [b_law_stand, startE, hq1, x1]
      rw [hloop]
      simp [m2, m3, h0, encS, encM]
end
end Pf
namespace Pf
open PySem L2 Pu
def qrows_open_1 : En → R (List D) :=
  (xlc [6] (iseq (xvV 5)) (gn 6) (xbl (bin neD (xvV 6) (xvV 3))) (bin ixD (bin ixD (xvV 1) (xc (.int 0))) (xvV 6)))
def lbrows_open_1 : En → Fl :=
  (sif (tand (xbl (bin inD (xvV 3) (xvV 5))) (xbl (bin eqD (asL qrows_open_1) (asL (xlst (lcons (xvE 2) (lcons (xvE 2) lnil))))))) (sasg 4 (bin addD (xvE 4) (xc (.int 1)))) snil)
def lrows_open_1 : En → Fl :=
  (sfor (iseq (bin ixD (xvV 0) (xc (.int 2)))) (gn 5) lbrows_open_1)
def brows_open : En → Fl :=
  (sseq (sasg 4 (xc (.int 0)))
  (sseq lrows_open_1
  (sret (xvE 4))))
def frows_open : List D → R D := runD 7 brows_open
def qpoints_open_1 : En → R (List D) :=
  (xlc [5, 6] (ienum (bin ixD (xvV 1) (xc (.int 0)))) (gtup (gcons (gn 5) (gcons (gn 6) gnil))) (xbl (bin isD (xvV 6) (xc .none))) (xvE 5))
def qpoints_open_2 : En → R (List D) :=
  (xlc [5] (iseq (xvV 4)) (gn 5) (xbl (bin geD (xcall 4 frows_open (lcons (xvE 0) (lcons (xvE 1) (lcons (xvE 2) (lcons (xvE 5) lnil))))) (xvV 3))) (xvE 5))
def bpoints_open : En → Fl :=
  (sseq (sasg 4 (asL qpoints_open_1))
  (sret (un1 tupleD (asL qpoints_open_2))))
def fpoints_open : List D → R D := runD 7 bpoints_open
def bthreats : En → Fl :=
  (sret (xcall 4 fpoints_open (lcons (xvE 0) (lcons (xvE 1) (lcons (xvE 2) (lcons (xc (.int 1)) lnil))))))
def fthreats : List D → R D := runD 3 bthreats
def bforks : En → Fl :=
  (sret (xcall 4 fpoints_open (lcons (xvE 0) (lcons (xvE 1) (lcons (xvE 2) (lcons (xc (.int 2)) lnil))))))
def fforks : List D → R D := runD 3 bforks
def q_law_open_rows_1 : En → R (List D) :=
  (xlc [6] (iseq (xvV 5)) (gn 6) tyes (bin ixD (xvV 1) (xvV 6)))
def lb_law_open_rows_1 : En → Fl :=
  (sif (tand (xbl (bin inD (xvV 3) (xvV 5))) (tand (xbl (bin eqD (xcount (asL q_law_open_rows_1) (xvV 2)) (xc (.int 2)))) (xbl (bin isD (bin ixD (xvV 1) (xvV 3)) (xc .none))))) (sapp 4 (xvE 5)) snil)
def l_law_open_rows_1 : En → Fl :=
  (sfor (iseq (bin ixD (xvV 0) (xc (.int 2)))) (gn 5) lb_law_open_rows_1)
def b_law_open_rows : En → Fl :=
  (sseq (sasgN 4 (xlst lnil))
  (sseq l_law_open_rows_1
  (sret (xvE 4))))
def f_law_open_rows : List D → R D := runD 7 b_law_open_rows
end Pf
/-! Th: full rows, threats -/
namespace Pf
open PySem L2 Pu
theorem map_oM_inj : ∀ xs ys : List (Option Int), xs.map oM = ys.map oM → xs = ys
  | [], [], _ => rfl
  | [], _ :: _, h => by cases h
  | _ :: _, [], h => by cases h
  | x :: xs, y :: ys, h => by
    rw [List.map_cons, List.map_cons] at h
    injection h with h1 h2
    rw [oM_inj x y h1, map_oM_inj xs ys h2]
theorem plAll_oM : ∀ xs : List (Option Int), plAll (xs.map oM) = true
  | [] => by simp [plAll]
  | x :: xs => by simp [plAll, oM_pl, plAll_oM xs]
def encML (xs : List (Option Int)) : D := .list (xs.map oM)
theorem eq_menL (xs ys : List (Option Int)) : eqD (.list (xs.map oM)) (.list (ys.map oM)) = some (.bool (decide (xs = ys))) := by
  have sh : ∀ zs : List (Option Int), SeqAt.shaped (.list (zs.map oM)) = true := fun zs => (shp_list (k := 0) (ds := zs.map oM) fun d hd => by obtain ⟨y, _, rfl⟩ := List.mem_map.mp hd; exact oM_shp y).shaped
  rw [eq_ev (sh xs) (sh ys)]
  congr 2
  exact eqv_enc (enc := encML) (fun a b h => by unfold encML at h; injection h with h; exact map_oM_inj a b h) (fun a => by unfold encML; simp only [plD]; exact plAll_oM a) xs ys
theorem all_bools (bs : List Bool) : allD (.list (bs.map PyData.bool)) = some (.bool (bs.all id)) := by
  show ((boolsOf (bs.map PyData.bool)).map fun bs => PyData.bool (bs.all id)) = _
  rw [boolsOf_map]
  rfl
theorem any_bools (bs : List Bool) : anyD (.list (bs.map PyData.bool)) = some (.bool (bs.any id)) := by
  show ((boolsOf (bs.map PyData.bool)).map fun bs => PyData.bool (bs.any id)) = _
  rw [boolsOf_map]
  rfl
/-- all points of a row are on the board -/
def RowOn (n : Int) (r : Int × Int × Int) : Prop := ∀ p ∈ f3 r, 0 ≤ p ∧ p < n
theorem Bd.Ok.on {b : Bd} (h : b.Ok) : ∀ r ∈ b.rows, RowOn b.n r := fun r hr p hp => by
  have := h.row r hr
  unfold f3 at hp
  simp only [List.mem_cons, List.not_mem_nil, or_false] at hp
  omega
/-! ### full rows -/
def fullR (ms : List (Option Int)) (w : Int) (r : Int × Int × Int) : Bool := (f3 r).all fun p => decide (mAt ms p = some w)
section
variable {b : Bd} {ms : List (Option Int)} {w : Int}
theorem qfull1_ev {r : Int × Int × Int} (hr : RowOn ms.length r) {s0 s4 : Sl} : qfull_rows_1 [s0, .dat (encM ms), .dat (.int w), .dat (e3 r), s4] = .ok (((f3 r).map fun p => decide (mAt ms p = some w)).map PyData.bool) := by
  unfold qfull_rows_1
  rw [xlc_all (enc := PyData.int) (xs := f3 r) (fun p => .bool (decide (mAt ms p = some w))) (by simp [e3, tJ]) (by simp [f3]) fun p hp => ?_]
  · rw [List.map_map]; rfl
  · obtain ⟨h0, h1⟩ := hr p hp
    exact ⟨_, rfl, rfl, by simp [wipeE, encM, atI_men h0 h1, eq_oMi]⟩
theorem full_rows_ev (hrow : ∀ r ∈ b.rows, RowOn ms.length r) (hl : b.rows.length ≤ 1000) : ffull_rows [encB b, encM ms, .int w] = .ok (.list ((b.rows.filter (fullR ms w)).map e3)) := by
  have h : qfull_rows_2 [.dat (encB b), .dat (encM ms), .dat (.int w), .un, .un] = .ok ((b.rows.filter (fullR ms w)).map e3) := by
    unfold qfull_rows_2
    refine xlc_map (enc := e3) (xs := b.rows) (fullR ms w) e3 (by simp [encB]) (by omega) fun r hr => ⟨_, rfl, ?_, fun _ => ?_⟩
    · simp [-List.map_map, wipeE, qfull1_ev (hrow r hr), all_bools, fullR]
    · simp [wipeE]
  apply runD_rt
  simp [bfull_rows, startE, h]
theorem full_ev {s : Sd} (hm : s.men = ms) (hrow : ∀ r ∈ b.rows, RowOn ms.length r) (hl : b.rows.length ≤ 1000) : ffull [encB b, encS s, .int w] = .ok (.tuple ((b.rows.filter (fullR ms w)).map e3)) := by
  subst hm
  apply runD_rt
  simp [bfull, startE, encS, full_rows_ev hrow hl]
/-! ### threats -/
/-- a row that a man of w at p makes full -/
def opnR (ms : List (Option Int)) (w p : Int) (r : Int × Int × Int) : Bool := decide (p ∈ f3 r) && decide (((f3 r).filter fun q => !decide (q = p)).map (mAt ms) = [some w, some w])
theorem qopen_ev {r : Int × Int × Int} (hr : RowOn ms.length r) {s : Sd} (hm : s.men = ms) {p : Int} {s0 s2 s4 s6 : Sl} : qrows_open_1 [s0, .dat (encS s), s2, .dat (.int p), s4, .dat (e3 r), s6] = .ok ((((f3 r).filter fun q => !decide (q = p)).map (mAt ms)).map oM) := by
  subst hm
  unfold qrows_open_1
  rw [xlc_map (enc := PyData.int) (xs := f3 r) (fun q => !decide (q = p)) (fun q => oM (mAt s.men q)) (by simp [e3, tJ]) (by simp [f3]) fun q hq => ?_]
  · rw [List.map_map]; rfl
  · obtain ⟨h0, h1⟩ := hr q hq
    exact ⟨_, rfl, by simp [wipeE], fun _ => by simp [wipeE, encS, encM, atI_men h0 h1]⟩
theorem lbopen_ev {r : Int × Int × Int} (hr : RowOn ms.length r) {s : Sd} (hm : s.men = ms) {p n : Int} {s0 s6 : Sl} : lbrows_open_1 [s0, .dat (encS s), .dat (.int w), .dat (.int p), .dat (.int n), .dat (e3 r), s6] =
    .nx [s0, .dat (encS s), .dat (.int w), .dat (.int p), .dat (.int (n + if opnR ms w p r then 1 else 0)), .dat (e3 r), s6] := by
  have hi : inD (.int p) (e3 r) = some (.bool (decide (p ∈ f3 r))) := by unfold inD e3 tJ; rw [in_ints_t]; rfl
  have he := eq_menL (((f3 r).filter fun q => !decide (q = p)).map (mAt ms)) [some w, some w]
  simp only [List.map_cons, List.map_nil, oM_s] at he
  have hq := qopen_ev hr hm (p := p) (s0 := s0) (s2 := .dat (.int w)) (s4 := .dat (.int n)) (s6 := s6)
  unfold lbrows_open_1 opnR
  generalize ((f3 r).filter fun q => !decide (q = p)).map (mAt ms) = L at he hq
  by_cases h1 : p ∈ f3 r
  · by_cases h2 : L = [some w, some w]
    · rw [sif_t (by simp [hi, h1, hq, he]; exact h2)]
      simp [h1, h2]
    · rw [sif_f (by simp [hi, h1, hq, he]; exact h2)]
      simp [h1, h2]
  · rw [sif_f (by simp [hi, h1])]
    simp [h1]
theorem foldl_count {α : Type} (c : α → Bool) : ∀ (xs : List α) (n : Int), xs.foldl (fun n x => n + if c x then 1 else 0) n = n + (xs.filter c).length
  | [], n => by simp
  | x :: xs, n => by
    rw [List.foldl_cons, foldl_count c xs]
    by_cases h : c x = true
    · rw [List.filter_cons_of_pos h, if_pos h, List.length_cons]; omega
    · rw [List.filter_cons_of_neg h, if_neg h]; omega
theorem rows_open_ev (hrow : ∀ r ∈ b.rows, RowOn ms.length r) {s : Sd} (hm : s.men = ms) {p : Int} : frows_open [encB b, encS s, .int w, .int p] = .ok (.int ((b.rows.filter (opnR ms w p)).length : Int)) := by
  obtain ⟨e', h1, s5, rfl⟩ := forL_fold (enc := e3) (f := gn 5) (B := lbrows_open_1) (fun (n : Int) e => ∃ s5, e = [.dat (encB b), .dat (encS s), .dat (.int w), .dat (.int p), .dat (.int n), s5, .un]) (fun n r => n + if opnR ms w p r then 1 else 0) b.rows 0
    [.dat (encB b), .dat (encS s), .dat (.int w), .dat (.int p), .dat (.int 0), .un, .un] ⟨_, rfl⟩ fun n r e hr ⟨s5, h⟩ => by
      subst h
      exact ⟨_, _, rfl, .inl (lbopen_ev (hrow r hr) hm), _, rfl⟩
  rw [foldl_count, Int.zero_add] at h1
  have hl : lrows_open_1 [.dat (encB b), .dat (encS s), .dat (.int w), .dat (.int p), .dat (.int 0), .un, .un] = .nx _ := sfor_nx (by simp [encB]) h1
  apply runD_rt
  simp [brows_open, startE, hl]
/-- the places that ask for at least so many rows -/
def opnP (b : Bd) (ms : List (Option Int)) (w k : Int) : List Int := (whr (·.isNone) ms).filter fun p => decide (k ≤ ((b.rows.filter (opnR ms w p)).length : Int))
theorem points_open_ev (hrow : ∀ r ∈ b.rows, RowOn ms.length r) (hlen : ms.length ≤ 1000) {s : Sd} (hm : s.men = ms) {k : Int} : fpoints_open [encB b, encS s, .int w, .int k] = .ok (.tuple ((opnP b ms w k).map PyData.int)) := by
  have h1 : qpoints_open_1 [.dat (encB b), .dat (encS s), .dat (.int w), .dat (.int k), .un, .un, .un] = .ok ((whr (·.isNone) ms).map PyData.int) := by
    subst hm
    unfold qpoints_open_1
    exact xlc_whr (fun m => m.isNone) (by simp [encS, encM]) (by omega) fun p m _ _ _ => ⟨_, rfl, by simp [wipeE], by simp [wipeE]⟩
  have h2 : qpoints_open_2 (fz [.dat (encB b), .dat (encS s), .dat (.int w), .dat (.int k), .dat (.list ((whr (·.isNone) ms).map PyData.int)), .un, .un]) = .ok ((opnP b ms w k).map PyData.int) := by
    unfold qpoints_open_2 opnP
    refine xlc_map (enc := PyData.int) (xs := whr (·.isNone) ms) _ PyData.int (by simp) (by have := whr_length (·.isNone) ms; omega) fun p hp => ⟨_, rfl, ?_, fun _ => ?_⟩
    · simp [wipeE, rows_open_ev hrow hm]
    · simp [wipeE]
  apply runD_rt
  simp [bpoints_open, startE, h1]
  simp at h2
  simp [h2]
theorem threats_ev (hrow : ∀ r ∈ b.rows, RowOn ms.length r) (hlen : ms.length ≤ 1000) {s : Sd} (hm : s.men = ms) : fthreats [encB b, encS s, .int w] = .ok (.tuple ((opnP b ms w 1).map PyData.int)) := by
  apply runD_rt
  simp [bthreats, startE, points_open_ev hrow hlen hm]
theorem forks_ev (hrow : ∀ r ∈ b.rows, RowOn ms.length r) (hlen : ms.length ≤ 1000) {s : Sd} (hm : s.men = ms) : fforks [encB b, encS s, .int w] = .ok (.tuple ((opnP b ms w 2).map PyData.int)) := by
  apply runD_rt
  simp [bforks, startE, points_open_ev hrow hlen hm]
/-! ### the law's own -/
def lopR (ms : List (Option Int)) (w p : Int) (r : Int × Int × Int) : Bool := decide (p ∈ f3 r) && decide (((f3 r).map (mAt ms)).count (some w) = 2) && (mAt ms p).isNone
theorem open_rows_ev (hrow : ∀ r ∈ b.rows, RowOn ms.length r) (hl : b.rows.length ≤ 1000) {p : Int} (h0 : 0 ≤ p) (hp : p < ms.length) : f_law_open_rows [encB b, encM ms, .int w, .int p] = .ok (.list ((b.rows.filter (lopR ms w p)).map e3)) := by
  have step : ∀ (acc : List (Int × Int × Int)) (r : Int × Int × Int) (e : En), r ∈ b.rows → (∃ s5, acc.length ≤ b.rows.length ∧ e = [.dat (encB b), .dat (encM ms), .dat (.int w), .dat (.int p), .own (acc.map e3), s5, .un]) → True := fun _ _ _ _ _ => trivial
  obtain ⟨e', h1, s5, hE⟩ := forL_inv (enc := e3) (f := gn 5) (B := lb_law_open_rows_1) (fun pre e => ∃ s5, e = [.dat (encB b), .dat (encM ms), .dat (.int w), .dat (.int p), .own ((pre.filter (lopR ms w p)).map e3), s5, .un]) b.rows []
    [.dat (encB b), .dat (encM ms), .dat (.int w), .dat (.int p), .own [], .un, .un] ⟨_, rfl⟩ fun pre r rest e q ⟨s5, h⟩ => by
      subst h
      rw [List.nil_append] at q
      have hr : r ∈ b.rows := by rw [q]; simp
      have hlp : pre.length < b.rows.length := by rw [q, List.length_append, List.length_cons]; omega
      have hlf : (pre.filter (lopR ms w p)).length ≤ pre.length := List.length_filter_le _ _
      have hq : q_law_open_rows_1 [.dat (encB b), .dat (encM ms), .dat (.int w), .dat (.int p), .own ((pre.filter (lopR ms w p)).map e3), .dat (e3 r), .un] = .ok (((f3 r).map (mAt ms)).map oM) := by
        unfold q_law_open_rows_1
        rw [xlc_all (enc := PyData.int) (xs := f3 r) (fun q => oM (mAt ms q)) (by simp [e3, tJ]) (by simp [f3]) fun q hq => ?_]
        · rw [List.map_map]; rfl
        · obtain ⟨g0, g1⟩ := hrow r hr q hq
          exact ⟨_, rfl, rfl, by simp [wipeE, encM, atI_men g0 g1]⟩
      have hi : inD (.int p) (e3 r) = some (.bool (decide (p ∈ f3 r))) := by unfold inD e3 tJ; rw [in_ints_t]; rfl
      have hc : xcount (asL q_law_open_rows_1) (xvV 2) [.dat (encB b), .dat (encM ms), .dat (.int w), .dat (.int p), .own ((pre.filter (lopR ms w p)).map e3), .dat (e3 r), .un] = .ok (.int (((f3 r).map (mAt ms)).count (some w) : Nat)) :=
        xcount_ev (x := .list (((f3 r).map (mAt ms)).map oM)) (y := .int w) (by simp [hq]) (by simp) (.inl ⟨_, rfl⟩) (count_men_l _ w)
      have hat : ixD (encM ms) (.int p) = some (oM (mAt ms p)) := atI_men h0 hp
      by_cases ht : lopR ms w p r = true
      · refine ⟨_, _, rfl, .inl (?_ : _ = Fl.nx [.dat (encB b), .dat (encM ms), .dat (.int w), .dat (.int p), .own (((pre ++ [r]).filter (lopR ms w p)).map e3), .dat (e3 r), .un]), _, rfl⟩
        have ht' := ht
        unfold lopR at ht'
        simp only [Bool.and_eq_true, decide_eq_true_eq] at ht'
        unfold lb_law_open_rows_1
        have hc2 : (((((f3 r).map (mAt ms)).count (some w) : Nat) : Int) = 2) := by omega
        show sif _ _ _ [.dat (encB b), .dat (encM ms), .dat (.int w), .dat (.int p), .own ((pre.filter (lopR ms w p)).map e3), .dat (e3 r), .un] = _
        rw [sif_t (by simp [hi, ht'.1.1, hc, hc2, hat, ht'.2])]
        rw [sapp_ev (ds := (pre.filter (lopR ms w p)).map e3) (d := e3 r) rfl (by simp) (by rw [List.length_map]; omega)]
        rw [List.filter_append, List.filter_cons_of_pos ht, List.filter_nil, List.map_append]
        rfl
      · refine ⟨_, _, rfl, .inl (?_ : _ = Fl.nx [.dat (encB b), .dat (encM ms), .dat (.int w), .dat (.int p), .own (((pre ++ [r]).filter (lopR ms w p)).map e3), .dat (e3 r), .un]), _, rfl⟩
        have ht' := ht
        unfold lopR at ht'
        unfold lb_law_open_rows_1
        show sif _ _ _ [.dat (encB b), .dat (encM ms), .dat (.int w), .dat (.int p), .own ((pre.filter (lopR ms w p)).map e3), .dat (e3 r), .un] = _
        rw [sif_f ?_]
        · rw [List.filter_append, List.filter_cons_of_neg ht, List.filter_nil, List.append_nil]
          rfl
        · by_cases g1 : p ∈ f3 r
          · by_cases g2 : ((f3 r).map (mAt ms)).count (some w) = 2
            · have hc2 : (((((f3 r).map (mAt ms)).count (some w) : Nat) : Int) = 2) := by omega
              have g3 : (mAt ms p).isNone = false := by
                cases h : (mAt ms p).isNone with
                | false => rfl
                | true => exact absurd (by simp [g1, g2, h]) ht'
              simp [hi, g1, hc, hc2, hat, g3]
            · have hc2 : ¬ (((((f3 r).map (mAt ms)).count (some w) : Nat) : Int) = 2) := by omega
              simp [hi, g1, hc, hc2]
          · simp [hi, g1]
  subst hE
  have hl' : l_law_open_rows_1 [.dat (encB b), .dat (encM ms), .dat (.int w), .dat (.int p), .own [], .un, .un] = .nx _ := sfor_nx (by simp [encB]) h1
  apply runD_rt
  simp [b_law_open_rows, startE, hl']
end
end Pf
/-! Wh: is_whole and is_stand -/
namespace Pf
open PySem L2 Pu
def noDc : D → Bool
  | .dict _ => false
  | _ => true
def isW (lo hi : Int) : D → Bool
  | .int i => decide (lo ≤ i) && decide (i ≤ hi)
  | _ => false
theorem chn_b {f f' : D → D → Option D} {F G Fc : En → R D} {e : En} {x y : D} {b : Bool} (hF : F e = .ok x) (hG : G e = .ok y) (h : f x y = some (.bool b)) : chn f f' F G Fc e = if b = true then (Fc e).bind fun w => opt (f' y w) else .ok (.bool false) := by
  unfold chn
  rw [hF, bind_ok, hG, bind_ok, h, opt_some, bind_ok]
  cases b <;> rfl
theorem is_whole_ev {d : D} {lo hi : Int} (h : noDc d = true) : fis_whole [d, .int lo, .int hi] = .ok (.bool (isW lo hi d)) := by
  apply runD_rt
  cases d with
  | int i =>
    have hc : chn leD leD (xvV 1) (xvV 0) (xvV 2) [.dat (.int i), .dat (.int lo), .dat (.int hi)] = .ok (.bool (decide (lo ≤ i) && decide (i ≤ hi))) := by
      rw [chn_b (x := .int lo) (y := .int i) (b := decide (lo ≤ i)) rfl rfl rfl]
      by_cases h1 : lo ≤ i <;> simp [h1]
    simp [bis_whole, startE, hc, isW]
  | dict => cases h
  | _ => simp [bis_whole, startE, isW]
def inS : D → Bool
  | .tuple ds => ds.all noDc && decide (ds.length ≤ 1000000)
  | _ => true
def okS : D → Bool
  | .dict _ => false
  | .tuple [x, y, z] => noDc x && noDc y && noDc z && inS x && inS y
  | _ => true
def isM2 (d : D) : Bool := isNoneD d || isW 0 1 d
def isSt (n : Int) : D → Bool
  | .tuple [.tuple ms, .tuple [x, y], z] => isW 0 1 z && decide ((ms.length : Int) = n) && ms.all isM2 && isW 0 9 x && isW 0 9 y
  | _ => false
theorem is_stand_ev {b : Bd} {d : D} (h : okS d = true) : fis_stand [encB b, d] = .ok (.bool (isSt b.n d)) := by
  apply runD_rt
  unfold bis_stand
  by_cases ht : ∃ ds, d = .tuple ds
  rotate_left
  · have h1 : isiD "tuple" d = some (.bool false) := by cases d <;> first | exact absurd ⟨_, rfl⟩ ht | (cases h; done) | simp
    have h2 : isSt b.n d = false := by cases d <;> first | rfl | exact absurd ⟨_, rfl⟩ ht
    rw [h2]
    simp [startE, h1]
  obtain ⟨ds, rfl⟩ := ht
  by_cases hl : ds.length = 3
  rotate_left
  · have h2 : isSt b.n (.tuple ds) = false := by
      unfold isSt
      split
      · rename_i e; injection e with e; subst e; exact absurd rfl hl
      · rfl
    rw [h2]
    have : ¬ (ds.length : Int) = 3 := by omega
    simp [startE, this]
  match ds, hl with
  | [x, y, z], _ =>
    simp only [okS, Bool.and_eq_true] at h
    obtain ⟨⟨⟨⟨hx, hy⟩, hz⟩, ix⟩, iy⟩ := h
    have w1 := is_whole_ev (lo := 0) (hi := 1) hz
    cases hz1 : isW 0 1 z with
    | false =>
      have h2 : isSt b.n (.tuple [x, y, z]) = false := by
        unfold isSt
        split
        · rename_i e; injection e with e; injection e with e1 e2; injection e2 with e2 e3; injection e3 with e3; subst e3; rw [hz1]; rfl
        · rfl
      rw [hz1] at w1
      rw [h2]
      simp [startE, w1]
    | true =>
    rw [hz1] at w1
    have e1 : (tor (tnot (xtru (un1 (isiD "tuple") (xvV 1)))) (tor (xbl (bin neD (un1 lenD (xvV 1)) (xc (.int 3)))) (tnot (xtru (xcall 3 fis_whole (lcons (bin ixD (xvV 1) (xc (.int 2))) (lcons (xc (.int 0)) (lcons (xc (.int 1)) lnil)))))))) (startE 7 [encB b, .tuple [x, y, z]]) = .ok false := by
      simp [startE, w1]
    rw [sseq_ev, sif_f e1, snil_ev, then_nx, sseq_ev]
    have e2 : sasgT (gtup (gcons (gn 2) (gcons (gn 3) (gcons (gn 4) gnil)))) (xvE 1) (startE 7 [encB b, .tuple [x, y, z]]) = .nx [.dat (encB b), .dat (.tuple [x, y, z]), .dat x, .dat y, .dat z, .un, .un] := by
      simp [startE]
    rw [e2, then_nx, sseq_ev]
    by_cases hxt : ∃ ms, x = .tuple ms
    rotate_left
    · have h1 : isiD "tuple" x = some (.bool false) := by cases x <;> first | exact absurd ⟨_, rfl⟩ hxt | (cases hx; done) | simp
      have h2 : isSt b.n (.tuple [x, y, z]) = false := by
        unfold isSt
        split
        · rename_i e; injection e with e; injection e with e1 e2; exact absurd ⟨_, e1⟩ hxt
        · rfl
      rw [h2]
      simp [h1]
    obtain ⟨ms, rfl⟩ := hxt
    simp only [inS, Bool.and_eq_true, decide_eq_true_eq, List.all_eq_true] at ix
    have hb0 : ixD (encB b) (.int 0) = some (.int b.n) := rfl
    by_cases hn : (ms.length : Int) = b.n
    rotate_left
    · have h2 : isSt b.n (.tuple [.tuple ms, y, z]) = false := by
        unfold isSt
        split
        · rename_i e; injection e with e; injection e with e1 e2; injection e1 with e1; subst e1; rw [decide_eq_false hn]; simp
        · rfl
      rw [h2]
      simp [hb0, hn]
    have e3 : (tor (tnot (xtru (un1 (isiD "tuple") (xvV 2)))) (xbl (bin neD (un1 lenD (xvV 2)) (bin ixD (xvV 0) (xc (.int 0)))))) [.dat (encB b), .dat (.tuple [.tuple ms, y, z]), .dat (.tuple ms), .dat y, .dat z, .un, .un] = .ok false := by
      simp [hb0, hn]
    rw [sif_f e3, snil_ev, then_nx, sseq_ev]
    have q1 : qis_stand_1 [.dat (encB b), .dat (.tuple [.tuple ms, y, z]), .dat (.tuple ms), .dat y, .dat z, .un, .un] = .ok ((ms.map isM2).map PyData.bool) := by
      unfold qis_stand_1
      rw [xlc_all (enc := id) (xs := ms) (fun m => .bool (isM2 m)) (by simp) ix.2 fun m hm => ⟨[.dat (encB b), .dat (.tuple [.tuple ms, y, z]), .dat (.tuple ms), .dat y, .dat z, .dat m, .un], rfl, rfl, ?_⟩]
      · rw [List.map_map]; rfl
      · have w2 := is_whole_ev (lo := 0) (hi := 1) (ix.1 m hm)
        cases hnm : isNoneD m <;> simp [hnm, w2, isM2]
    have ha := all_bools (ms.map isM2)
    cases hall : (ms.all isM2) with
    | false =>
      have h2 : isSt b.n (.tuple [.tuple ms, y, z]) = false := by
        unfold isSt
        split
        · rename_i e; injection e with e; injection e with e1 e2; injection e1 with e1; subst e1; rw [hall]; simp
        · rfl
      rw [h2]
      rw [show ((ms.map isM2).all id) = ms.all isM2 by rw [List.all_map]; rfl, hall] at ha
      have e4 : (tnot (xtru (un1 allD (asL qis_stand_1)))) [.dat (encB b), .dat (.tuple [.tuple ms, y, z]), .dat (.tuple ms), .dat y, .dat z, .un, .un] = .ok true := by
        simp only [tnot_ev, xtru_ev, un1_ev, asL_ev, q1, bind_ok, ha, opt_some, tru_b]; rfl
      rw [sif_t e4]
      rfl
    | true =>
    rw [show ((ms.map isM2).all id) = ms.all isM2 by rw [List.all_map]; rfl, hall] at ha
    have e4 : (tnot (xtru (un1 allD (asL qis_stand_1)))) [.dat (encB b), .dat (.tuple [.tuple ms, y, z]), .dat (.tuple ms), .dat y, .dat z, .un, .un] = .ok false := by
      simp only [tnot_ev, xtru_ev, un1_ev, asL_ev, q1, bind_ok, ha, opt_some, tru_b]; rfl
    rw [sif_f e4, snil_ev, then_nx, sret_ev]
    simp only [fz_cons, frz1_dat, frz1_un, fz_nil]
    by_cases hyt : ∃ ls, y = .tuple ls
    rotate_left
    · have h1 : isiD "tuple" y = some (.bool false) := by cases y <;> first | exact absurd ⟨_, rfl⟩ hyt | (cases hy; done) | simp
      have h2 : isSt b.n (.tuple [.tuple ms, y, z]) = false := by
        unfold isSt
        split
        · rename_i e; injection e with e; injection e with e1 e2; injection e2 with e2 e3; exact absurd ⟨_, e2⟩ hyt
        · rfl
      rw [h2]
      simp [h1]
    obtain ⟨ls, rfl⟩ := hyt
    simp only [inS, Bool.and_eq_true, decide_eq_true_eq, List.all_eq_true] at iy
    have q2 : qis_stand_2 [.dat (encB b), .dat (.tuple [.tuple ms, .tuple ls, z]), .dat (.tuple ms), .dat (.tuple ls), .dat z, .un, .un] = .ok ((ls.map (isW 0 9)).map PyData.bool) := by
      unfold qis_stand_2
      rw [xlc_all (enc := id) (xs := ls) (fun m => .bool (isW 0 9 m)) (by simp) iy.2 fun m hm => ⟨[.dat (encB b), .dat (.tuple [.tuple ms, .tuple ls, z]), .dat (.tuple ms), .dat (.tuple ls), .dat z, .un, .dat m], rfl, rfl, ?_⟩]
      · rw [List.map_map]; rfl
      · have w2 := is_whole_ev (lo := 0) (hi := 9) (iy.1 m hm)
        simp [w2]
    have ha2 := all_bools (ls.map (isW 0 9))
    by_cases h2l : ls.length = 2
    rotate_left
    · have h2 : isSt b.n (.tuple [.tuple ms, .tuple ls, z]) = false := by
        unfold isSt
        split
        · rename_i e; injection e with e; injection e with e1 e2; injection e2 with e2 e3; injection e2 with e2; subst e2; exact absurd rfl h2l
        · rfl
      rw [h2]
      have : ¬ (ls.length : Int) = 2 := by omega
      simp [this]
    match ls, h2l with
    | [l0, l1], _ =>
      simp only [xandV_ev, un1_ev, xvV_ev, getV_s, getV_z, bind_ok, isi_tt, opt_some, tru_b, if_true, bin_ev, len_t, xc_ev, eq_ii, asL_ev, q2, ha2]
      simp [isSt, hz1, hn, hall]
end Pf
/-! Th2: threats, the mathematics; cuts; enumerate -/
namespace Pf
open PySem L2 Pu
theorem upto_sorted (n : Nat) : (upto n).Pairwise (· < ·) := by
  unfold upto
  rw [List.pairwise_map, List.pairwise_iff_getElem]
  intro i j hi hj hij
  rw [List.getElem_range, List.getElem_range]
  omega
theorem whr_eq (c : Option Int → Bool) (ms : List (Option Int)) : whr c ms = (upto ms.length).filter fun p => c (mAt ms p) := by
  refine lt_unique _ _ (whr_sorted c ms) ((upto_sorted _).filter _) fun p => ?_
  rw [whr_mem, List.mem_filter, upto_mem]
  constructor
  · rintro ⟨h0, h1, h2⟩; exact ⟨⟨h0, h1⟩, h2⟩
  · rintro ⟨⟨h0, h1⟩, h2⟩; exact ⟨h0, h1, h2⟩
/-! ### cuts -/
theorem cut_to {α : Type} (xs : List α) {p : Int} (h0 : 0 ≤ p) : cutD xs none (some p) = xs.take p.toNat := by
  unfold cutD
  have e : HT.sIx xs.length xs.length (some p) = min p.toNat xs.length := by
    show (if p < 0 then (p + (xs.length : Int)).toNat else min p.toNat xs.length) = _
    rw [if_neg (by omega)]
  rw [e, show HT.sIx xs.length 0 none = 0 from rfl, List.drop_zero, Nat.sub_zero]
  rw [List.take_eq_take_iff]
  omega
theorem cut_from {α : Type} (xs : List α) {p : Int} (h0 : 0 ≤ p) : cutD xs (some p) none = xs.drop p.toNat := by
  unfold cutD
  have e : HT.sIx xs.length 0 (some p) = min p.toNat xs.length := by
    show (if p < 0 then (p + (xs.length : Int)).toNat else min p.toNat xs.length) = _
    rw [if_neg (by omega)]
  rw [e, show HT.sIx xs.length xs.length none = xs.length from rfl]
  by_cases h : p.toNat ≤ xs.length
  · rw [Nat.min_eq_left h, List.take_of_length_le (by rw [List.length_drop]; exact Nat.le_refl _)]
  · rw [Nat.min_eq_right (by omega), List.drop_eq_nil_of_le (Nat.le_refl _), List.drop_eq_nil_of_le (by omega), List.take_nil]
theorem set_cut {α : Type} (xs : List α) {i : Nat} (h : i < xs.length) (x : α) : xs.take i ++ [x] ++ xs.drop (i + 1) = xs.set i x := by
  rw [List.set_eq_take_append_cons_drop, if_pos h, List.append_assoc]
  rfl
@[simp] theorem slice_t (ds : List D) (lo hi : Option Int) : sliceD (.tuple ds) lo hi = some (.tuple (cutD ds lo hi)) := rfl
@[simp] theorem slice_l (ds : List D) (lo hi : Option Int) : sliceD (.list ds) lo hi = some (.list (cutD ds lo hi)) := rfl
theorem add_tt {xs ys : List D} (h : xs.length + ys.length ≤ 1000000) : addD (.tuple xs) (.tuple ys) = some (.tuple (xs ++ ys)) := by
  show (if xs.length + ys.length ≤ many then some (PyData.tuple (xs ++ ys)) else none) = _
  rw [if_pos (show xs.length + ys.length ≤ many from h)]
theorem add_ll {xs ys : List D} (h : xs.length + ys.length ≤ 1000000) : addD (.list xs) (.list ys) = some (.list (xs ++ ys)) := by
  show (if xs.length + ys.length ≤ many then some (PyData.list (xs ++ ys)) else none) = _
  rw [if_pos (show xs.length + ys.length ≤ many from h)]
theorem addN_ll {xs ys : List D} (h : xs.length + ys.length ≤ 1000000) : addN (.list xs) (.list ys) = some (xs ++ ys) := by
  show (if xs.length + ys.length ≤ many then some (xs ++ ys) else none) = _
  rw [if_pos (show xs.length + ys.length ≤ many from h)]
/-! ### enumerate of anything -/
def enumX {α : Type} (xs : List α) : List (Int × α) := xs.mapIdx fun i x => ((i : Int), x)
theorem enum_any {α : Type} (enc : α → D) (xs : List α) : enumL (xs.map enc) = (enumX xs).map fun p => pairD (.int p.1) (enc p.2) := by
  unfold enumL enumX
  apply List.ext_getElem?
  intro i
  rw [List.getElem?_mapIdx, List.getElem?_map, List.getElem?_map, List.getElem?_mapIdx]
  cases xs[i]? <;> rfl
theorem enumX_upto {α : Type} (g : Int → α) (n : Nat) : enumX ((upto n).map g) = (upto n).map fun p => (p, g p) := by
  unfold enumX upto
  apply List.ext_getElem?
  intro i
  rw [List.getElem?_mapIdx, List.getElem?_map, List.getElem?_map, List.getElem?_map, List.getElem?_map]
  cases h : (List.range n)[i]? with
  | none => rfl
  | some k =>
    obtain ⟨hi, e⟩ := List.getElem?_eq_some_iff.mp h
    rw [List.getElem_range] at e
    subst e
    rfl
theorem enumX_length {α : Type} (xs : List α) : (enumX xs).length = xs.length := by unfold enumX; rw [List.length_mapIdx]
/-! ### tuples of ints compared -/
theorem tJ_eq (s t : List Int) : PyData.eqv (tJ s) (tJ t) = decide (s = t) := eqv_enc tJ_inj tJ_pl s t
theorem ne_tJ (s t : List Int) : neD (tJ s) (tJ t) = some (.bool (!decide (s = t))) := by rw [ne_ev ((tJ_shp s).shaped) ((tJ_shp t).shaped), tJ_eq]
theorem eq_tJ (s t : List Int) : eqD (tJ s) (tJ t) = some (.bool (decide (s = t))) := by rw [eq_ev ((tJ_shp s).shaped) ((tJ_shp t).shaped), tJ_eq]
theorem in_tJ (x : Int) (s : List Int) : inD (.int x) (tJ s) = some (.bool (decide (x ∈ s))) := by unfold inD tJ; rw [in_ints_t]; rfl
/-! ### a man more -/
section
variable {ms : List (Option Int)} {w p : Int} {r : Int × Int × Int}
theorem two_count (x y : Option Int) (w : Int) : decide ([x, y] = [some w, some w]) = decide (([x, y].count (some w)) = 2) := by
  by_cases g1 : x = some w <;> by_cases g2 : y = some w <;> simp [g1, g2, List.count_cons]
theorem opn_lop (hr : r.1 < r.2.1 ∧ r.2.1 < r.2.2) (hp : mAt ms p = none) : opnR ms w p r = lopR ms w p r := by
  obtain ⟨a, b, c⟩ := r
  simp only at hr
  unfold opnR lopR f3
  rw [hp]
  simp only [List.mem_cons, List.not_mem_nil, or_false, Option.isNone_none, Bool.and_true]
  by_cases h1 : p = a
  · subst h1
    have e1 : ¬ b = p := by omega
    have e2 : ¬ c = p := by omega
    have t := two_count (mAt ms b) (mAt ms c) w
    simp only [List.count_cons, List.count_nil] at t
    simp [e1, e2, hp, List.count_cons]
    simpa using t
  · by_cases h2 : p = b
    · subst h2
      have e1 : ¬ a = p := by omega
      have e2 : ¬ c = p := by omega
      have t := two_count (mAt ms a) (mAt ms c) w
      simp only [List.count_cons, List.count_nil] at t
      simp [e1, e2, hp, List.count_cons]
      simpa using t
    · by_cases h3 : p = c
      · subst h3
        have e1 : ¬ a = p := by omega
        have e2 : ¬ b = p := by omega
        have t := two_count (mAt ms a) (mAt ms b) w
        simp only [List.count_cons, List.count_nil] at t
        simp [e1, e2, hp, List.count_cons]
        simpa using t
      · simp [h1, h2, h3]
theorem full_more (hr : r.1 < r.2.1 ∧ r.2.1 < r.2.2) (hon : RowOn ms.length r) (h0 : 0 ≤ p) (hl : p < ms.length) (hp : mAt ms p = none) :
    fullR (ms.set p.toNat (some w)) w r = (fullR ms w r || opnR ms w p r) ∧ (fullR ms w r && opnR ms w p r) = false := by
  obtain ⟨a, b, c⟩ := r
  simp only at hr
  have ha := hon a (by simp [f3])
  have hb := hon b (by simp [f3])
  have hc := hon c (by simp [f3])
  unfold fullR opnR f3
  simp only [List.all_cons, List.all_nil, Bool.and_true, mAt_set h0 hl ha.1, mAt_set h0 hl hb.1, mAt_set h0 hl hc.1, List.mem_cons, List.not_mem_nil, or_false]
  by_cases h1 : p = a
  · subst h1
    have e1 : ¬ b = p := by omega
    have e2 : ¬ c = p := by omega
    simp [e1, e2, hp]
  · have h1' : ¬ a = p := fun z => h1 z.symm
    by_cases h2 : p = b
    · subst h2
      have e2 : ¬ c = p := by omega
      simp [h1', e2, hp]
    · have h2' : ¬ b = p := fun z => h2 z.symm
      by_cases h3 : p = c
      · subst h3
        simp [h1', h2', hp]
      · have h3' : ¬ c = p := fun z => h3 z.symm
        simp [h1, h2, h3, h1', h2', h3']
end
theorem filter_or_len {α : Type} {f g o : α → Bool} : ∀ {xs : List α}, (∀ x ∈ xs, f x = (g x || o x) ∧ (g x && o x) = false) → (xs.filter f).length = (xs.filter g).length + (xs.filter o).length
  | [], _ => rfl
  | x :: xs, h => by
    have ih := filter_or_len (f := f) (g := g) (o := o) (xs := xs) fun y hy => h y (List.mem_cons_of_mem _ hy)
    obtain ⟨h1, h2⟩ := h x List.mem_cons_self
    simp only [List.filter_cons, h1]
    cases hg : g x <;> cases ho : o x <;> simp_all <;> omega
/-- the other side -/
def flipM : Option Int → Option Int
  | none => none
  | some i => some (1 - i)
theorem flipM_none (m : Option Int) : (flipM m).isNone = m.isNone := by cases m <;> rfl
theorem flipM_eq (m : Option Int) (w : Int) : flipM m = some (1 - w) ↔ m = some w := by
  cases m with
  | none => simp [flipM]
  | some i => simp [flipM]
theorem mAt_flip (ms : List (Option Int)) (p : Int) : mAt (ms.map flipM) p = flipM (mAt ms p) := by
  unfold mAt
  rw [List.getD_eq_getElem?_getD, List.getD_eq_getElem?_getD, List.getElem?_map]
  cases ms[p.toNat]? <;> rfl
theorem opnR_flip (ms : List (Option Int)) (w p : Int) (r : Int × Int × Int) : opnR (ms.map flipM) (1 - w) p r = opnR ms w p r := by
  unfold opnR
  congr 1
  rw [decide_eq_decide]
  have e : (mAt (ms.map flipM)) = flipM ∘ mAt ms := funext fun q => mAt_flip ms q
  rw [e, ← List.map_map]
  generalize ((f3 r).filter fun q => !decide (q = p)).map (mAt ms) = L
  match L with
  | [] => simp
  | [x] => simp
  | [x, y] => simp [flipM_eq]
  | x :: y :: z :: t => simp
theorem opnP_flip (b : Bd) (ms : List (Option Int)) (w k : Int) : opnP b (ms.map flipM) (1 - w) k = opnP b ms w k := by
  unfold opnP
  rw [whr_eq, whr_eq, List.length_map, List.filter_filter, List.filter_filter]
  apply List.filter_congr
  intro p _
  rw [mAt_flip, flipM_none, show opnR (ms.map flipM) (1 - w) p = opnR ms w p from funext fun r => opnR_flip ms w p r]
theorem opnP_mem {b : Bd} {ms : List (Option Int)} {w k p : Int} : p ∈ opnP b ms w k ↔ (0 ≤ p ∧ p < ms.length ∧ (mAt ms p).isNone = true) ∧ k ≤ ((b.rows.filter (opnR ms w p)).length : Int) := by
  unfold opnP
  rw [List.mem_filter, whr_mem, decide_eq_true_eq]
theorem opnP_law {b : Bd} {ms : List (Option Int)} {w : Int} (k : Int) (hk : 1 ≤ k) (hr : ∀ r ∈ b.rows, r.1 < r.2.1 ∧ r.2.1 < r.2.2) : opnP b ms w k = (upto ms.length).filter fun p => decide (k ≤ ((b.rows.filter (lopR ms w p)).length : Int)) := by
  unfold opnP
  rw [whr_eq, List.filter_filter]
  apply List.filter_congr
  intro p _
  by_cases h : mAt ms p = none
  · rw [h]
    simp only [Option.isNone_none, Bool.and_true]
    have e : b.rows.filter (opnR ms w p) = b.rows.filter (lopR ms w p) := List.filter_congr fun r hh => opn_lop (hr r hh) h
    rw [e]
  · have h1 : (mAt ms p).isNone = false := by
      cases q : mAt ms p with
      | none => exact absurd q h
      | some _ => rfl
    rw [h1]
    have h2 : b.rows.filter (lopR ms w p) = [] := List.filter_eq_nil_iff.mpr fun r _ => by unfold lopR; rw [h1]; simp
    rw [h2]
    simp
    omega
end Pf
/-! Mv: what the program's moving computes -/
namespace Pf
open PySem L2 Pu
structure Sd.Wk (n : Int) (s : Sd) : Prop where
  len : (s.men.length : Int) = n
  turn : s.turn = 0 ∨ s.turn = 1
theorem Sd.Ok.wk {n : Int} {s : Sd} (h : s.Ok n) : s.Wk n := ⟨h.len, h.turn⟩
def Sd.left (s : Sd) (w : Int) : Int := if w = 0 then s.l0 else s.l1
def isM (w : Int) (m : Option Int) : Bool := decide (m = some w)
def nbrs (b : Bd) (p : Int) : List Int := b.ties.flatMap fun t => (if t.1 = p then [t.2] else []) ++ (if t.2 = p then [t.1] else [])
def encP (p : Int × Int) : D := e2 p
section
variable {b : Bd} {s : Sd} {w p : Int}
theorem points_of_ev (hl : s.men.length ≤ 1000) : fpoints_of [encS s, .int w] = .ok (.list ((whr (isM w) s.men).map PyData.int)) := by
  have h : qpoints_of_1 [.dat (encS s), .dat (.int w), .un, .un] = .ok ((whr (isM w) s.men).map PyData.int) := by
    unfold qpoints_of_1
    exact xlc_whr (isM w) (by simp [encS, encM]) (by omega) fun p m _ _ _ => ⟨_, rfl, by simp [wipeE, eq_oMi, isM], by simp [wipeE]⟩
  apply runD_rt
  simp [bpoints_of, startE, h]
theorem left_ix (hw : w = 0 ∨ w = 1) : atI [PyData.int s.l0, PyData.int s.l1] w = some (.int (s.left w)) := by
  unfold Sd.left
  rcases hw with rfl | rfl <;> simp
theorem count_ev (hl : s.men.length ≤ 1000) (hw : w = 0 ∨ w = 1) : fcount [encS s, .int w] = .ok (.int ((whr (isM w) s.men).length + s.left w)) := by
  have h := points_of_ev (s := s) (w := w) hl
  have h2 : ixD (encS s) (.int 1) = some (.tuple [.int s.l0, .int s.l1]) := rfl
  apply runD_rt
  simp [bcount, startE, h, h2, left_ix hw]
theorem neighbours_ev (hb : b.ties.length ≤ 1000) : fneighbours [encB b, .int p] = .ok (.list ((nbrs b p).map PyData.int)) := by
  have hlen : ∀ l : List (Int × Int), (l.flatMap fun t => (if t.1 = p then [t.2] else []) ++ (if t.2 = p then [t.1] else [])).length ≤ 2 * l.length := by
    intro l
    induction l with
    | nil => simp
    | cons t l ih =>
      rw [List.flatMap_cons, List.length_append, List.length_append, List.length_cons]
      have a1 : (if t.1 = p then [t.2] else []).length ≤ 1 := by split <;> simp
      have a2 : (if t.2 = p then [t.1] else []).length ≤ 1 := by split <;> simp
      omega
  obtain ⟨e', h1, s3, s4, hE⟩ := forL_inv (enc := e2) (f := gtup (gcons (gn 3) (gcons (gn 4) gnil))) (B := lbneighbours_1) (fun pre e => ∃ s3 s4, e = [.dat (encB b), .dat (.int p), .own ((pre.flatMap fun t => (if t.1 = p then [t.2] else []) ++ (if t.2 = p then [t.1] else [])).map PyData.int), s3, s4]) b.ties []
    [.dat (encB b), .dat (.int p), .own [], .un, .un] ⟨_, _, rfl⟩ fun pre t rest e q ⟨s3, s4, h⟩ => by
      subst h
      rw [List.nil_append] at q
      have hlp : pre.length < b.ties.length := by rw [q, List.length_append, List.length_cons]; omega
      have hl := hlen pre
      rw [List.flatMap_append, List.flatMap_cons, List.flatMap_nil, List.append_nil]
      generalize (pre.flatMap fun t => (if t.1 = p then [t.2] else []) ++ (if t.2 = p then [t.1] else [])) = acc at hl
      obtain ⟨x, y⟩ := t
      refine ⟨_, [.dat (encB b), .dat (.int p), .own ((acc ++ ((if x = p then [y] else []) ++ (if y = p then [x] else []))).map PyData.int), .dat (.int x), .dat (.int y)], rfl, .inl ?_, _, _, rfl⟩
      have al : ∀ (ds : List D) (z : Int) (u3 u4 : Sl) (i : Nat), ds.length ≤ 5000 → True := fun _ _ _ _ _ _ => trivial
      have s1 : ∀ {G : En → R D} {ds : List Int} {z : Int}, ds.length ≤ 5000 → G [.dat (encB b), .dat (.int p), .own (ds.map PyData.int), .dat (.int x), .dat (.int y)] = .ok (.int z) → sapp 2 G [.dat (encB b), .dat (.int p), .own (ds.map PyData.int), .dat (.int x), .dat (.int y)] = .nx [.dat (encB b), .dat (.int p), .own ((ds ++ [z]).map PyData.int), .dat (.int x), .dat (.int y)] := by
        intro G ds z hd hG
        rw [sapp_ev (ds := ds.map PyData.int) rfl hG (by rw [List.length_map]; omega), List.map_append]
        rfl
      unfold lbneighbours_1
      show sseq _ _ [.dat (encB b), .dat (.int p), .own (acc.map PyData.int), .dat (.int x), .dat (.int y)] = _
      by_cases hx : x = p
      · by_cases hy : y = p
        · rw [sseq_ev, sif_t (by simp [hx]), s1 (z := y) (by omega) (by simp), then_nx, sif_t (by simp [hy]), s1 (z := x) (by rw [List.length_append]; simp; omega) (by simp)]
          rw [if_pos hx, if_pos hy, List.append_assoc]
        · rw [sseq_ev, sif_t (by simp [hx]), s1 (z := y) (by omega) (by simp), then_nx, sif_f (by simp [hy])]
          rw [if_pos hx, if_neg hy, List.append_nil]
          rfl
      · by_cases hy : y = p
        · rw [sseq_ev, sif_f (by simp [hx]), snil_ev, then_nx, sif_t (by simp [hy]), s1 (z := x) (by omega) (by simp)]
          rw [if_neg hx, if_pos hy, List.nil_append]
        · rw [sseq_ev, sif_f (by simp [hx]), snil_ev, then_nx, sif_f (by simp [hy])]
          rw [if_neg hx, if_neg hy, List.append_nil, List.append_nil]
          rfl
  subst hE
  have hl' : lneighbours_1 [.dat (encB b), .dat (.int p), .own [], .un, .un] = .nx _ := sfor_nx (by simp [encB]) h1
  apply runD_rt
  simp [bneighbours, startE, hl', nbrs]
/-! ### steps -/
def emp (ms : List (Option Int)) : List Int := whr (·.isNone) ms
def goalsT (b : Bd) (ms : List (Option Int)) (m : Nat) (q : Int) : List Int := if 3 < m then (nbrs b q).filter fun g => (mAt ms g).isNone else emp ms
def stepsT (b : Bd) (s : Sd) : List (Int × Int) :=
  if 0 < s.left s.turn then (emp s.men).map fun g => (-1, g) else (whr (isM s.turn) s.men).flatMap fun q => (goalsT b s.men (whr (isM s.turn) s.men).length q).map fun g => (q, g)
/-- the points of ties are on the board -/
def TiesOn (b : Bd) : Prop := ∀ t ∈ b.ties, 0 ≤ t.1 ∧ t.1 < b.n ∧ 0 ≤ t.2 ∧ t.2 < b.n
theorem Bd.Ok.tiesOn (h : b.Ok) : TiesOn b := fun t ht => by have := h.tie t ht; omega
theorem nbrs_on (h : TiesOn b) {q g : Int} (hg : g ∈ nbrs b q) : 0 ≤ g ∧ g < b.n := by
  unfold nbrs at hg
  obtain ⟨t, ht, hg⟩ := List.mem_flatMap.mp hg
  have := h t ht
  rcases List.mem_append.mp hg with hg | hg
  · split at hg
    · simp at hg; omega
    · simp at hg
  · split at hg
    · simp at hg; omega
    · simp at hg
theorem nbrs_len (b : Bd) (q : Int) : (nbrs b q).length ≤ 2 * b.ties.length := by
  unfold nbrs
  generalize b.ties = l
  induction l with
  | nil => simp
  | cons t l ih =>
    rw [List.flatMap_cons, List.length_append, List.length_append, List.length_cons]
    have a1 : (if t.1 = q then [t.2] else []).length ≤ 1 := by split <;> simp
    have a2 : (if t.2 = q then [t.1] else []).length ≤ 1 := by split <;> simp
    omega
theorem goals_len (hb : b.ties.length ≤ 200) (ms : List (Option Int)) (hl : ms.length ≤ 24) (m : Nat) (q : Int) : (goalsT b ms m q).length ≤ 400 := by
  unfold goalsT
  split
  · have := List.length_filter_le (fun g => (mAt ms g).isNone) (nbrs b q)
    have := nbrs_len b q
    omega
  · have := whr_length (·.isNone) ms
    unfold emp
    omega
theorem flat_len {α β : Type} {f : α → List β} {k : Nat} : ∀ {l : List α}, (∀ x ∈ l, (f x).length ≤ k) → (l.flatMap f).length ≤ k * l.length
  | [], _ => by simp
  | x :: l, h => by
    have := h x List.mem_cons_self
    have := flat_len (f := f) (k := k) (l := l) fun y hy => h y (List.mem_cons_of_mem _ hy)
    rw [List.flatMap_cons, List.length_append, List.length_cons, Nat.mul_succ]
    omega
theorem steps_ev (hb : b.ties.length ≤ 200) (ht : TiesOn b) (hn : b.n ≤ 24) (hs : s.Wk b.n) : fsteps [encB b, encS s] = .ok (.list ((stepsT b s).map e2)) := by
  have hlen := hs.len
  have hl : s.men.length ≤ 24 := by omega
  have hq1 : ∀ {t0 t1 t3 t4 t5 t6 t7 t8 t9 t12 : Sl}, qsteps_1 [t0, t1, .dat (encM s.men), t3, t4, t5, t6, t7, t8, t9, .un, .un, t12] = .ok ((emp s.men).map PyData.int) := by
    intros
    unfold qsteps_1
    exact xlc_whr (fun m => m.isNone) (by simp [encM]) (by omega) fun p m _ _ _ => ⟨_, rfl, by simp [wipeE], by simp [wipeE]⟩
  have hel : (emp s.men).length ≤ 24 := by have := whr_length (·.isNone) s.men; unfold emp; omega
  have hlx : atI [PyData.int s.l0, PyData.int s.l1] s.turn = some (.int (s.left s.turn)) := left_ix hs.turn
  unfold stepsT
  by_cases h0 : 0 < s.left s.turn
  · rw [if_pos h0]
    have hq2 : qsteps_2 (fz [.dat (encB b), .dat (encS s), .dat (encM s.men), .dat (.tuple [.int s.l0, .int s.l1]), .dat (.int s.turn), .dat (.list ((emp s.men).map PyData.int)), .un, .un, .un, .un, .un, .un, .un]) = .ok (((emp s.men).map fun g => ((-1 : Int), g)).map e2) := by
      unfold qsteps_2
      rw [xlc_all (enc := PyData.int) (xs := emp s.men) (fun g => e2 (-1, g)) (by simp) (by omega) fun g hg => ⟨_, rfl, rfl, by simp [wipeE, e2, f2, tJ]⟩, List.map_map]
      rfl
    apply runD_rt
    simp only [fz_cons, frz1_dat, frz1_un, fz_nil] at hq2
    have es : gtup (gcons (gn 2) (gcons (gn 3) (gcons (gn 4) gnil))) (encS s) [.dat (encB b), .dat (encS s), .un, .un, .un, .un, .un, .un, .un, .un, .un, .un, .un] = some [.dat (encB b), .dat (encS s), .dat (encM s.men), .dat (.tuple [.int s.l0, .int s.l1]), .dat (.int s.turn), .un, .un, .un, .un, .un, .un, .un, .un] := rfl
    simp [-List.map_map, bsteps, startE, es, hq1, hlx, h0, hq2]
  · rw [if_neg h0]
    have hp := points_of_ev (s := s) (w := s.turn) (by omega)
    have hml : (whr (isM s.turn) s.men).length ≤ 24 := by have := whr_length (isM s.turn) s.men; omega
    have hmine : ∀ q ∈ whr (isM s.turn) s.men, 0 ≤ q := fun q hq => (whr_mem.mp hq).1
    generalize whr (isM s.turn) s.men = mine at hp hml hmine
    obtain ⟨e', h1, s8, s9, hE⟩ := forL_inv (enc := PyData.int) (f := gn 8) (B := lbsteps_1) (fun pre e => ∃ s8 s9, e = [.dat (encB b), .dat (encS s), .dat (encM s.men), .dat (.tuple [.int s.l0, .int s.l1]), .dat (.int s.turn), .dat (.list ((emp s.men).map PyData.int)), .dat (.list (mine.map PyData.int)), .own ((pre.flatMap fun q => (goalsT b s.men mine.length q).map fun g => (q, g)).map e2), s8, s9, .un, .un, .un]) mine []
      [.dat (encB b), .dat (encS s), .dat (encM s.men), .dat (.tuple [.int s.l0, .int s.l1]), .dat (.int s.turn), .dat (.list ((emp s.men).map PyData.int)), .dat (.list (mine.map PyData.int)), .own [], .un, .un, .un, .un, .un] ⟨_, _, rfl⟩ fun pre q rest e qq ⟨s8, s9, h⟩ => by
        subst h
        rw [List.nil_append] at qq
        have hlp : pre.length < mine.length := by rw [qq, List.length_append, List.length_cons]; omega
        have hfl := flat_len (f := fun q => (goalsT b s.men mine.length q).map fun g => (q, g)) (k := 400) (l := pre) fun x _ => by rw [List.length_map]; exact goals_len hb s.men hl _ _
        rw [List.flatMap_append, List.flatMap_cons, List.flatMap_nil, List.append_nil]
        generalize (pre.flatMap fun q => (goalsT b s.men mine.length q).map fun g => (q, g)) = acc at hfl
        refine ⟨_, [.dat (encB b), .dat (encS s), .dat (encM s.men), .dat (.tuple [.int s.l0, .int s.l1]), .dat (.int s.turn), .dat (.list ((emp s.men).map PyData.int)), .dat (.list (mine.map PyData.int)), .own ((acc ++ (goalsT b s.men mine.length q).map fun g => (q, g)).map e2), .dat (.int q), .dat (.list ((goalsT b s.men mine.length q).map PyData.int)), .un, .un, .un], rfl, .inl ?_, _, _, rfl⟩
        have hgl := goals_len hb s.men hl mine.length q
        -- the goals
        have hg : (sseq (sasg 9 (xvE 5)) (sif (xbl (bin gtD (un1 lenD (xvV 6)) (xc (.int 3)))) (sasg 9 (asL qsteps_3)) snil)) [.dat (encB b), .dat (encS s), .dat (encM s.men), .dat (.tuple [.int s.l0, .int s.l1]), .dat (.int s.turn), .dat (.list ((emp s.men).map PyData.int)), .dat (.list (mine.map PyData.int)), .own (acc.map e2), .dat (.int q), s9, .un, .un, .un] =
            .nx [.dat (encB b), .dat (encS s), .dat (encM s.men), .dat (.tuple [.int s.l0, .int s.l1]), .dat (.int s.turn), .dat (.list ((emp s.men).map PyData.int)), .dat (.list (mine.map PyData.int)), .own (acc.map e2), .dat (.int q), .dat (.list ((goalsT b s.men mine.length q).map PyData.int)), .un, .un, .un] := by
          unfold goalsT
          by_cases h3 : 3 < mine.length
          · have h3' : (3 : Int) < (mine.length : Int) := by omega
            rw [if_pos h3]
            have hq3 : qsteps_3 [.dat (encB b), .dat (encS s), .dat (encM s.men), .dat (.tuple [.int s.l0, .int s.l1]), .dat (.int s.turn), .dat (.list ((emp s.men).map PyData.int)), .dat (.list (mine.map PyData.int)), .own (acc.map e2), .dat (.int q), .dat (.list ((emp s.men).map PyData.int)), .un, .un, .un] = .ok (((nbrs b q).filter fun g => (mAt s.men g).isNone).map PyData.int) := by
              unfold qsteps_3
              refine xlc_map (enc := PyData.int) (xs := nbrs b q) (fun g => (mAt s.men g).isNone) PyData.int (by simp [neighbours_ev (b := b) (p := q) (by omega)]) (by have := nbrs_len b q; omega) fun g hg => ⟨_, rfl, ?_, fun _ => by simp [wipeE]⟩
              have := nbrs_on ht hg
              simp [wipeE, encM, atI_men this.1 (show g < s.men.length by omega)]
            simp [h3', hq3]
          · have h3' : ¬ (3 : Int) < (mine.length : Int) := by omega
            rw [if_neg h3]
            simp [h3']
        have hq4 : qsteps_4 [.dat (encB b), .dat (encS s), .dat (encM s.men), .dat (.tuple [.int s.l0, .int s.l1]), .dat (.int s.turn), .dat (.list ((emp s.men).map PyData.int)), .dat (.list (mine.map PyData.int)), .own (acc.map e2), .dat (.int q), .dat (.list ((goalsT b s.men mine.length q).map PyData.int)), .un, .un, .un] = .ok (((goalsT b s.men mine.length q).map fun g => (q, g)).map e2) := by
          unfold qsteps_4
          rw [xlc_all (enc := PyData.int) (xs := goalsT b s.men mine.length q) (fun g => e2 (q, g)) (by simp) (by omega) fun g hg => ⟨_, rfl, rfl, by simp [wipeE, e2, f2, tJ]⟩, List.map_map]
          rfl
        have assoc : lbsteps_1 = sseq (sasg 9 (xvE 5)) (sseq (sif (xbl (bin gtD (un1 lenD (xvV 6)) (xc (.int 3)))) (sasg 9 (asL qsteps_3)) snil) (sext 7 (asL qsteps_4))) := rfl
        have as2 : ∀ (A B C : En → Fl) (e : En), sseq A (sseq B C) e = (sseq A B e).andThen C := by
          intro A B C e
          rw [sseq_ev, sseq_ev]
          cases A e <;> simp [Fl.andThen]
        show lbsteps_1 [.dat (encB b), .dat (encS s), .dat (encM s.men), .dat (.tuple [.int s.l0, .int s.l1]), .dat (.int s.turn), .dat (.list ((emp s.men).map PyData.int)), .dat (.list (mine.map PyData.int)), .own (acc.map e2), .dat (.int q), s9, .un, .un, .un] = _
        rw [assoc, as2, hg, then_nx, sext_ev (ds := acc.map e2) (d := .list (((goalsT b s.men mine.length q).map fun g => (q, g)).map e2)) rfl (by simp [-List.map_map, hq4]) rfl (by rw [List.length_map, List.length_map, List.length_map]; have : 400 * pre.length ≤ 400 * 24 := Nat.mul_le_mul_left _ (by omega); omega), List.map_append]
        rfl
    subst hE
    have hl' : lsteps_1 [.dat (encB b), .dat (encS s), .dat (encM s.men), .dat (.tuple [.int s.l0, .int s.l1]), .dat (.int s.turn), .dat (.list ((emp s.men).map PyData.int)), .dat (.list (mine.map PyData.int)), .own [], .un, .un, .un, .un, .un] = .nx _ := sfor_nx (by simp) h1
    have es : gtup (gcons (gn 2) (gcons (gn 3) (gcons (gn 4) gnil))) (encS s) [.dat (encB b), .dat (encS s), .un, .un, .un, .un, .un, .un, .un, .un, .un, .un, .un] = some [.dat (encB b), .dat (encS s), .dat (encM s.men), .dat (.tuple [.int s.l0, .int s.l1]), .dat (.int s.turn), .un, .un, .un, .un, .un, .un, .un, .un] := rfl
    apply runD_rt
    simp [-List.map_map, bsteps, startE, es, hq1, hlx, h0, hp, hl']
end
end Pf
/-! Mv2: takings, moves, winner -/
namespace Pf
open PySem L2 Pu
section
variable {b : Bd} {s : Sd} {w : Int}
/-! ### a step made -/
def stepM (ms : List (Option Int)) (beg goal w : Int) : List (Option Int) := (if 0 ≤ beg then ms.set beg.toNat none else ms).set goal.toNat (some w)
theorem stepM_len (ms : List (Option Int)) (beg goal w : Int) : (stepM ms beg goal w).length = ms.length := by
  unfold stepM
  rw [List.length_set]
  split <;> simp
theorem with_step_ev {ms : List (Option Int)} {beg goal : Int} (hb : beg < ms.length) (hg0 : 0 ≤ goal) (hg : goal < ms.length) : fwith_step [encM ms, .int beg, .int goal, .int w] = .ok (encM (stepM ms beg goal w)) := by
  apply runD_rt
  have p2 : ∀ {ms' : List (Option Int)}, ms'.length = ms.length → sput 4 (xvE 2) (xvE 3) [.dat (encM ms), .dat (.int beg), .dat (.int goal), .dat (.int w), .own (ms'.map oM)] = .nx [.dat (encM ms), .dat (.int beg), .dat (.int goal), .dat (.int w), .own ((ms'.set goal.toNat (some w)).map oM)] := by
    intro ms' hl
    rw [sput_ev (d := .int w) (n := goal) (m := goal.toNat) (ds := ms'.map oM) (by simp) rfl (by simp) (by rw [List.length_map]; exact ixN_nat hg0 (by omega)), List.map_set]
    rfl
  have hlist : listN (encM ms) = some (ms.map oM) := rfl
  unfold stepM
  by_cases h0 : 0 ≤ beg
  · have p1 : sput 4 (xvE 1) (xc .none) [.dat (encM ms), .dat (.int beg), .dat (.int goal), .dat (.int w), .own (ms.map oM)] = .nx [.dat (encM ms), .dat (.int beg), .dat (.int goal), .dat (.int w), .own ((ms.set beg.toNat none).map oM)] := by
      rw [sput_ev (d := .none) (n := beg) (m := beg.toNat) (ds := ms.map oM) (by simp) rfl (by simp) (by rw [List.length_map]; exact ixN_nat h0 (by omega)), List.map_set]
      rfl
    rw [if_pos h0]
    have q2 := p2 (ms' := ms.set beg.toNat none) (by simp)
    simp [-List.map_set, bwith_step, startE, hlist, h0, p1, q2]
    rfl
  · rw [if_neg h0]
    have q2 := p2 (ms' := ms) rfl
    simp [-List.map_set, bwith_step, startE, hlist, h0, q2]
    rfl
/-! ### what may be taken -/
def anyRow (rs : List (Int × Int × Int)) (p : Int) : Bool := rs.any fun r => decide (p ∈ f3 r)
def freeT (b : Bd) (ms : List (Option Int)) (w : Int) : List Int := (whr (isM (1 - w)) ms).filter fun p => !anyRow (b.rows.filter (fullR ms (1 - w))) p
def takT (b : Bd) (ms : List (Option Int)) (goal w : Int) : List Int :=
  if anyRow (b.rows.filter (fullR ms w)) goal = true then (if freeT b ms w ≠ [] then freeT b ms w else if whr (isM (1 - w)) ms ≠ [] then whr (isM (1 - w)) ms else [-1]) else [-1]
theorem takings_ev {ms : List (Option Int)} {goal : Int} (hrow : ∀ r ∈ b.rows, RowOn ms.length r) (hr : b.rows.length ≤ 1000) (hl : ms.length ≤ 24) : ftakings [encB b, encM ms, .int goal, .int w] = .ok (.list ((takT b ms goal w).map PyData.int)) := by
  have f1 := full_rows_ev (b := b) (ms := ms) (w := w) hrow hr
  have f2' := full_rows_ev (b := b) (ms := ms) (w := 1 - w) hrow hr
  have l1 : (b.rows.filter (fullR ms w)).length ≤ 1000 := Nat.le_trans (List.length_filter_le _ _) hr
  have l2 : (b.rows.filter (fullR ms (1 - w))).length ≤ 1000 := Nat.le_trans (List.length_filter_le _ _) hr
  have inr : ∀ (p : Int) (r : Int × Int × Int), inD (.int p) (e3 r) = some (.bool (decide (p ∈ f3 r))) := fun p r => in_tJ p (f3 r)
  have q1 : qtakings_1 [.dat (encB b), .dat (encM ms), .dat (.int goal), .dat (.int w), .un, .un, .un, .un, .un, .un] = .ok (((b.rows.filter (fullR ms w)).map fun r => decide (goal ∈ f3 r)).map PyData.bool) := by
    unfold qtakings_1
    rw [xlc_all (enc := e3) (xs := b.rows.filter (fullR ms w)) (fun r => .bool (decide (goal ∈ f3 r))) (by simp [f1]) (by omega) fun r _ => ⟨_, rfl, rfl, by simp [wipeE, inr]⟩, List.map_map]
    rfl
  have a1 : anyD (.list (((b.rows.filter (fullR ms w)).map fun r => decide (goal ∈ f3 r)).map PyData.bool)) = some (.bool (anyRow (b.rows.filter (fullR ms w)) goal)) := by
    rw [any_bools]
    unfold anyRow
    rw [List.any_map]
    rfl
  unfold takT
  by_cases h1 : anyRow (b.rows.filter (fullR ms w)) goal = true
  · rw [if_pos h1]
    rw [h1] at a1
    have q2 : qtakings_2 [.dat (encB b), .dat (encM ms), .dat (.int goal), .dat (.int w), .un, .un, .un, .un, .un, .un] = .ok ((whr (isM (1 - w)) ms).map PyData.int) := by
      unfold qtakings_2
      exact xlc_whr (isM (1 - w)) (by simp [encM]) (by omega) fun p m _ _ _ => ⟨_, rfl, by simp [wipeE, eq_oMi, isM], by simp [wipeE]⟩
    have lo : (whr (isM (1 - w)) ms).length ≤ 24 := by have := whr_length (isM (1 - w)) ms; omega
    have q4 : qtakings_4 [.dat (encB b), .dat (encM ms), .dat (.int goal), .dat (.int w), .dat (.list ((whr (isM (1 - w)) ms).map PyData.int)), .dat (.list ((b.rows.filter (fullR ms (1 - w))).map e3)), .un, .un, .un, .un] = .ok ((freeT b ms w).map PyData.int) := by
      unfold qtakings_4 freeT
      refine xlc_map (enc := PyData.int) (xs := whr (isM (1 - w)) ms) _ PyData.int (by simp) (by omega) fun p _ => ⟨_, rfl, ?_, fun _ => by simp [wipeE]⟩
      have q3 : ∀ {t4 t6 t8 t9 : Sl}, qtakings_3 [.dat (encB b), .dat (encM ms), .dat (.int goal), .dat (.int w), t4, .dat (.list ((b.rows.filter (fullR ms (1 - w))).map e3)), t6, .dat (.int p), t8, t9] = .ok (((b.rows.filter (fullR ms (1 - w))).map fun r => decide (p ∈ f3 r)).map PyData.bool) := by
        intros
        unfold qtakings_3
        rw [xlc_all (enc := e3) (xs := b.rows.filter (fullR ms (1 - w))) (fun r => .bool (decide (p ∈ f3 r))) (by simp) (by omega) fun r _ => ⟨_, rfl, rfl, by simp [wipeE, inr]⟩, List.map_map]
        rfl
      have a3 : anyD (.list (((b.rows.filter (fullR ms (1 - w))).map fun r => decide (p ∈ f3 r)).map PyData.bool)) = some (.bool (anyRow (b.rows.filter (fullR ms (1 - w))) p)) := by
        rw [any_bools]
        unfold anyRow
        rw [List.any_map]
        rfl
      simp [-List.map_map, wipeE, q3, a3]
    apply runD_rt
    generalize whr (isM (1 - w)) ms = ot at q2 q4
    generalize freeT b ms w = fr at q4
    have htr : ∀ L : List Int, truD (.list (L.map PyData.int)) = some (!L.isEmpty) := fun L => by cases L <;> rfl
    cases fr with
    | nil =>
      cases ot with
      | nil =>
        simp only [List.map_nil] at q2 q4
        simp [-List.map_map, btakings, startE, q1, a1, q2, f2', q4]
      | cons x r =>
        simp only [List.map_cons, List.map_nil] at q2 q4
        simp [-List.map_map, btakings, startE, q1, a1, q2, f2', q4]
    | cons x r =>
      simp only [List.map_cons] at q4
      simp [-List.map_map, btakings, startE, q1, a1, q2, f2', q4]
  · rw [if_neg h1]
    rw [Bool.eq_false_iff.mpr h1] at a1
    apply runD_rt
    simp [-List.map_map, btakings, startE, q1, a1]
/-! ### all moves -/
def movesU (b : Bd) (s : Sd) : List (Int × Int × Int) := (stepsT b s).flatMap fun st => (takT b (stepM s.men st.1 st.2 s.turn) st.2 s.turn).map fun t => (st.1, st.2, t)
theorem emp_mem {ms : List (Option Int)} {p : Int} : p ∈ emp ms ↔ 0 ≤ p ∧ p < ms.length ∧ mAt ms p = none := by
  unfold emp
  rw [whr_mem]
  constructor
  · rintro ⟨h0, h1, h2⟩
    refine ⟨h0, h1, ?_⟩
    cases q : mAt ms p with
    | none => rfl
    | some _ => rw [q] at h2; cases h2
  · rintro ⟨h0, h1, h2⟩
    exact ⟨h0, h1, by rw [h2]; rfl⟩
/-- where steps lead -/
theorem steps_on (ht : TiesOn b) (hs : s.Wk b.n) {st : Int × Int} (h : st ∈ stepsT b s) : (st.1 = -1 ∨ (0 ≤ st.1 ∧ st.1 < s.men.length ∧ mAt s.men st.1 = some s.turn)) ∧ 0 ≤ st.2 ∧ st.2 < s.men.length ∧ mAt s.men st.2 = none := by
  have hl := hs.len
  unfold stepsT at h
  split at h
  · obtain ⟨g, hg, rfl⟩ := List.mem_map.mp h
    rw [emp_mem] at hg
    exact ⟨.inl rfl, hg.1, hg.2.1, hg.2.2⟩
  · obtain ⟨q, hq, h⟩ := List.mem_flatMap.mp h
    obtain ⟨g, hg, rfl⟩ := List.mem_map.mp h
    rw [whr_mem] at hq
    have hq2 : mAt s.men q = some s.turn := of_decide_eq_true hq.2.2
    refine ⟨.inr ⟨hq.1, hq.2.1, hq2⟩, ?_⟩
    unfold goalsT at hg
    split at hg
    · rw [List.mem_filter] at hg
      have := nbrs_on ht hg.1
      refine ⟨this.1, by omega, ?_⟩
      show mAt s.men g = none
      cases q : mAt s.men g with
      | none => rfl
      | some _ => have := hg.2; rw [q] at this; cases this
    · rw [emp_mem] at hg
      exact ⟨hg.1, hg.2.1, hg.2.2⟩
theorem steps_len (hb : b.ties.length ≤ 200) (hl : s.men.length ≤ 24) : (stepsT b s).length ≤ 9600 := by
  unfold stepsT
  split
  · rw [List.length_map]
    have := whr_length (·.isNone) s.men
    unfold emp
    omega
  · have hf := flat_len (f := fun q => (goalsT b s.men (whr (isM s.turn) s.men).length q).map fun g => (q, g)) (k := 400) (l := whr (isM s.turn) s.men) fun x _ => by rw [List.length_map]; exact goals_len hb s.men hl _ _
    have := whr_length (isM s.turn) s.men
    have : 400 * (whr (isM s.turn) s.men).length ≤ 400 * 24 := Nat.mul_le_mul_left _ (by omega)
    omega
theorem tak_len {ms : List (Option Int)} (hl : ms.length ≤ 24) (goal w : Int) : (takT b ms goal w).length ≤ 24 := by
  have h1 := whr_length (isM (1 - w)) ms
  have h2 : (freeT b ms w).length ≤ (whr (isM (1 - w)) ms).length := List.length_filter_le _ _
  unfold takT
  split
  · split
    · omega
    · split
      · omega
      · simp
  · simp
theorem all_moves_ev (hb : b.ties.length ≤ 200) (ht : TiesOn b) (hr : b.rows.length ≤ 1000) (hrow : ∀ r ∈ b.rows, RowOn b.n r) (hn : b.n ≤ 24) (hs : s.Wk b.n) : fall_moves [encB b, encS s] = .ok (.list ((movesU b s).map e3)) := by
  have hlen := hs.len
  have hl : s.men.length ≤ 24 := by omega
  have hst := steps_ev hb ht hn hs
  have hsl := steps_len (b := b) (s := s) hb hl
  have hon : ∀ st ∈ stepsT b s, (st.1 = -1 ∨ (0 ≤ st.1 ∧ st.1 < s.men.length ∧ mAt s.men st.1 = some s.turn)) ∧ 0 ≤ st.2 ∧ st.2 < s.men.length ∧ mAt s.men st.2 = none := fun st h => steps_on ht hs h
  unfold movesU
  generalize stepsT b s = sts at hst hsl hon
  obtain ⟨e', h1, s6, s7, s8, hE⟩ := forL_inv (enc := e2) (f := gtup (gcons (gn 6) (gcons (gn 7) gnil))) (B := lball_moves_1) (fun pre e => ∃ s6 s7 s8, e = [.dat (encB b), .dat (encS s), .dat (encM s.men), .dat (.tuple [.int s.l0, .int s.l1]), .dat (.int s.turn), .own ((pre.flatMap fun st => (takT b (stepM s.men st.1 st.2 s.turn) st.2 s.turn).map fun t => (st.1, st.2, t)).map e3), s6, s7, s8, .un]) sts []
    [.dat (encB b), .dat (encS s), .dat (encM s.men), .dat (.tuple [.int s.l0, .int s.l1]), .dat (.int s.turn), .own [], .un, .un, .un, .un] ⟨_, _, _, rfl⟩ fun pre st rest e q ⟨s6, s7, s8, h⟩ => by
      subst h
      rw [List.nil_append] at q
      have hst' : st ∈ sts := by rw [q]; simp
      obtain ⟨o1, o2, o3, o4⟩ := hon st hst'
      have hlp : pre.length < sts.length := by rw [q, List.length_append, List.length_cons]; omega
      have hfl := flat_len (f := fun st : Int × Int => (takT b (stepM s.men st.1 st.2 s.turn) st.2 s.turn).map fun t => (st.1, st.2, t)) (k := 24) (l := pre) fun x _ => by rw [List.length_map]; exact tak_len (by rw [stepM_len]; exact hl) _ _
      rw [List.flatMap_append, List.flatMap_cons, List.flatMap_nil, List.append_nil]
      generalize (pre.flatMap fun st : Int × Int => (takT b (stepM s.men st.1 st.2 s.turn) st.2 s.turn).map fun t => (st.1, st.2, t)) = acc at hfl
      obtain ⟨x, y⟩ := st
      simp only at o1 o2 o3 o4 ⊢
      have hw := with_step_ev (w := s.turn) (ms := s.men) (beg := x) (goal := y) (by omega) o2 o3
      have htk := takings_ev (b := b) (w := s.turn) (ms := stepM s.men x y s.turn) (goal := y) (fun r h => by rw [stepM_len, hlen]; exact hrow r h) hr (by rw [stepM_len]; exact hl)
      have htl := tak_len (b := b) (ms := stepM s.men x y s.turn) (by rw [stepM_len]; exact hl) y s.turn
      generalize takT b (stepM s.men x y s.turn) y s.turn = tk at htk htl
      refine ⟨_, [.dat (encB b), .dat (encS s), .dat (encM s.men), .dat (.tuple [.int s.l0, .int s.l1]), .dat (.int s.turn), .own ((acc ++ tk.map fun t => (x, y, t)).map e3), .dat (.int x), .dat (.int y), .dat (.list (tk.map PyData.int)), .un], rfl, .inl ?_, _, _, _, rfl⟩
      have hq1 : qall_moves_1 [.dat (encB b), .dat (encS s), .dat (encM s.men), .dat (.tuple [.int s.l0, .int s.l1]), .dat (.int s.turn), .own (acc.map e3), .dat (.int x), .dat (.int y), .dat (.list (tk.map PyData.int)), .un] = .ok ((tk.map fun t => (x, y, t)).map e3) := by
        unfold qall_moves_1
        rw [xlc_all (enc := PyData.int) (xs := tk) (fun t => e3 (x, y, t)) (by simp) (by omega) fun t _ => ⟨_, rfl, rfl, by simp [wipeE, e3, f3, tJ]⟩, List.map_map]
        rfl
      show lball_moves_1 [.dat (encB b), .dat (encS s), .dat (encM s.men), .dat (.tuple [.int s.l0, .int s.l1]), .dat (.int s.turn), .own (acc.map e3), .dat (.int x), .dat (.int y), s8, .un] = _
      unfold lball_moves_1
      rw [sseq_ev]
      have h8 : sasg 8 (xcall 4 ftakings (lcons (xvE 0) (lcons (xcall 4 fwith_step (lcons (xvE 2) (lcons (xvE 6) (lcons (xvE 7) (lcons (xvE 4) lnil))))) (lcons (xvE 7) (lcons (xvE 4) lnil))))) [.dat (encB b), .dat (encS s), .dat (encM s.men), .dat (.tuple [.int s.l0, .int s.l1]), .dat (.int s.turn), .own (acc.map e3), .dat (.int x), .dat (.int y), s8, .un] =
          .nx [.dat (encB b), .dat (encS s), .dat (encM s.men), .dat (.tuple [.int s.l0, .int s.l1]), .dat (.int s.turn), .own (acc.map e3), .dat (.int x), .dat (.int y), .dat (.list (tk.map PyData.int)), .un] := by
        simp [-List.map_map, hw, htk]
      rw [h8, then_nx, sext_ev (ds := acc.map e3) (d := .list ((tk.map fun t => (x, y, t)).map e3)) rfl (by simp [-List.map_map, hq1]) rfl (by rw [List.length_map, List.length_map, List.length_map]; have h3 : 24 * pre.length ≤ 24 * 9600 := Nat.mul_le_mul_left _ (by omega); omega), List.map_append]
      rfl
  subst hE
  have hl' : lall_moves_1 [.dat (encB b), .dat (encS s), .dat (encM s.men), .dat (.tuple [.int s.l0, .int s.l1]), .dat (.int s.turn), .own [], .un, .un, .un, .un] = .nx _ := sfor_nx (by simp [hst]) h1
  have es : gtup (gcons (gn 2) (gcons (gn 3) (gcons (gn 4) gnil))) (encS s) [.dat (encB b), .dat (encS s), .un, .un, .un, .un, .un, .un, .un, .un] = some [.dat (encB b), .dat (encS s), .dat (encM s.men), .dat (.tuple [.int s.l0, .int s.l1]), .dat (.int s.turn), .un, .un, .un, .un, .un] := rfl
  apply runD_rt
  simp [-List.map_map, ball_moves, startE, es, hl']
/-! ### who has won -/
def winT (b : Bd) (s : Sd) : Option Int := if ((whr (isM s.turn) s.men).length : Int) + s.left s.turn < 3 ∨ stepsT b s = [] then some (1 - s.turn) else none
theorem winner_ev (hb : b.ties.length ≤ 200) (ht : TiesOn b) (hn : b.n ≤ 24) (hs : s.Wk b.n) : fwinner [encB b, encS s] = .ok (oM (winT b s)) := by
  have hlen := hs.len
  have h1 := count_ev (s := s) (w := s.turn) (by omega) hs.turn
  have h2 := steps_ev hb ht hn hs
  have h3 : ixD (encS s) (.int 2) = some (.int s.turn) := rfl
  apply runD_rt
  unfold winT
  by_cases c1 : ((whr (isM s.turn) s.men).length : Int) + s.left s.turn < 3
  · rw [if_pos (.inl c1)]
    simp [bwinner, startE, h3, h1, c1]
  · by_cases c2 : stepsT b s = []
    · rw [if_pos (.inr c2)]
      rw [c2] at h2
      simp [bwinner, startE, h3, h1, c1, h2]
    · rw [if_neg (by rintro (z | z) <;> contradiction)]
      cases h : stepsT b s with
      | nil => exact absurd h c2
      | cons x r =>
        rw [h] at h2
        simp [bwinner, startE, h3, h1, c1, h2]
def movesT (b : Bd) (s : Sd) : List (Int × Int × Int) := if winT b s = none then sortT f3 (movesU b s) else []
theorem movesU_len (hb : b.ties.length ≤ 200) (hl : s.men.length ≤ 24) : (movesU b s).length ≤ 230400 := by
  unfold movesU
  have h1 := flat_len (f := fun st : Int × Int => (takT b (stepM s.men st.1 st.2 s.turn) st.2 s.turn).map fun t => (st.1, st.2, t)) (k := 24) (l := stepsT b s) fun x _ => by rw [List.length_map]; exact tak_len (by rw [stepM_len]; exact hl) _ _
  have h2 := steps_len (b := b) (s := s) hb hl
  have h3 : 24 * (stepsT b s).length ≤ 24 * 9600 := Nat.mul_le_mul_left _ h2
  omega
theorem moves_ev (hb : b.ties.length ≤ 200) (ht : TiesOn b) (hr : b.rows.length ≤ 1000) (hrow : ∀ r ∈ b.rows, RowOn b.n r) (hn : b.n ≤ 24) (hs : s.Wk b.n) : fmoves [encB b, encS s] = .ok (.tuple ((movesT b s).map e3)) := by
  have hlen := hs.len
  have h1 := winner_ev hb ht hn hs
  have h2 := all_moves_ev hb ht hr hrow hn hs
  have h3 : sortD ((movesU b s).map e3) = some ((sortT f3 (movesU b s)).map e3) := sort_tJ (f := f3) (fun a => by simp [f3]) (by have := movesU_len (b := b) (s := s) hb (by omega); omega)
  apply runD_rt
  unfold movesT
  cases hw : winT b s with
  | none =>
    rw [hw] at h1
    simp [bmoves, startE, h1, h2, h3]
  | some v =>
    rw [hw] at h1
    simp [bmoves, startE, h1]
theorem moves_ok (hb : b.Ok) (hs : s.Wk b.n) : fmoves [encB b, encS s] = .ok (.tuple ((movesT b s).map e3)) := moves_ev hb.nt hb.tiesOn hb.nr hb.on hb.hi hs
theorem winner_ok (hb : b.Ok) (hs : s.Wk b.n) : fwinner [encB b, encS s] = .ok (oM (winT b s)) := winner_ev hb.nt hb.tiesOn hb.hi hs
end
end Pf
/-! Lw: the law's own steps, moves, winner -/
namespace Pf
open PySem L2 Pu
section
variable {b : Bd} {s : Sd} {w : Int}
theorem e2_inj (p q : Int × Int) (h : e2 p = e2 q) : p = q := f2_inj p q (tJ_inj _ _ h)
theorem e3_inj (p q : Int × Int × Int) (h : e3 p = e3 q) : p = q := f3_inj p q (tJ_inj _ _ h)
theorem in_ties (p : Int × Int) (ts : List (Int × Int)) : inD (e2 p) (.tuple (ts.map e2)) = some (.bool (decide (p ∈ ts))) := by
  unfold inD
  rw [in_t (enc := e2) (k := 1) e2_inj (fun a => tJ_pl _) (fun a => tJ_shp _) (by decide)]
  exact congrArg (fun x => some (PyData.bool x)) (decide_eq_decide.mpr Iff.rfl)
theorem in_moves (p : Int × Int × Int) (ts : List (Int × Int × Int)) : inD (e3 p) (.tuple (ts.map e3)) = some (.bool (decide (p ∈ ts))) := by
  unfold inD
  rw [in_t (enc := e3) (k := 1) e3_inj (fun a => tJ_pl _) (fun a => tJ_shp _) (by decide)]
  exact congrArg (fun x => some (PyData.bool x)) (decide_eq_decide.mpr Iff.rfl)
theorem notIn_moves (p : Int × Int × Int) (ts : List (Int × Int × Int)) : notInD (e3 p) (.tuple (ts.map e3)) = some (.bool (!decide (p ∈ ts))) := by
  unfold notInD
  rw [in_t (enc := e3) (k := 1) e3_inj (fun a => tJ_pl _) (fun a => tJ_shp _) (by decide)]
  exact congrArg (fun x => some (PyData.bool (!x))) (decide_eq_decide.mpr Iff.rfl)
/-! ### steps -/
def lgC (b : Bd) (m : Nat) (q g : Int) : Bool := decide (m < 4) || decide ((min q g, max q g) ∈ b.ties)
def lgoals (b : Bd) (ms : List (Option Int)) (m : Nat) (q : Int) : List Int := (emp ms).filter (lgC b m q)
def lstepsT (b : Bd) (s : Sd) : List (Int × Int) :=
  if 0 < s.left s.turn then (emp s.men).map fun g => (-1, g) else (whr (isM s.turn) s.men).flatMap fun q => (lgoals b s.men (whr (isM s.turn) s.men).length q).map fun g => (q, g)
theorem lsteps_ev (hn : b.n ≤ 24) (hs : s.Wk b.n) : f_law_steps [encB b, encS s] = .ok (.list ((lstepsT b s).map e2)) := by
  have hlen := hs.len
  have hl : s.men.length ≤ 24 := by omega
  have hnn : b.n.toNat = s.men.length := by omega
  have hix : ixD (encB b) (.int 0) = some (.int b.n) := rfl
  have hix1 : ixD (encB b) (.int 1) = some (.tuple (b.ties.map e2)) := rfl
  have hrg : rng1 (.int b.n) = some ((upto b.n.toNat).map PyData.int) := rng1_ev (by omega) (by omega)
  have hq1 : ∀ {t1 t3 t4 t5 t6 t7 t8 t9 : Sl}, q_law_steps_1 [.dat (encB b), t1, .dat (encM s.men), t3, t4, t5, t6, t7, t8, t9, .un] = .ok ((emp s.men).map PyData.int) := by
    intros
    unfold q_law_steps_1 emp
    rw [whr_eq, ← hnn]
    refine xlc_map (enc := PyData.int) (xs := upto b.n.toNat) _ PyData.int (by simp [hix, hrg]) (by rw [upto_length]; omega) fun p hp => ⟨_, rfl, ?_, fun _ => by simp [wipeE]⟩
    rw [upto_mem] at hp
    simp [wipeE, encM, atI_men hp.1 (show p < s.men.length by omega)]
  have hel : (emp s.men).length ≤ 24 := by have := whr_length (·.isNone) s.men; unfold emp; omega
  have hlx : atI [PyData.int s.l0, PyData.int s.l1] s.turn = some (.int (s.left s.turn)) := left_ix hs.turn
  have es : gtup (gcons (gn 2) (gcons (gn 3) (gcons (gn 4) gnil))) (encS s) [.dat (encB b), .dat (encS s), .un, .un, .un, .un, .un, .un, .un, .un, .un] = some [.dat (encB b), .dat (encS s), .dat (encM s.men), .dat (.tuple [.int s.l0, .int s.l1]), .dat (.int s.turn), .un, .un, .un, .un, .un, .un] := rfl
  unfold lstepsT
  by_cases h0 : 0 < s.left s.turn
  · rw [if_pos h0]
    have hq2 : q_law_steps_2 (fz [.dat (encB b), .dat (encS s), .dat (encM s.men), .dat (.tuple [.int s.l0, .int s.l1]), .dat (.int s.turn), .dat (.list ((emp s.men).map PyData.int)), .un, .un, .un, .un, .un]) = .ok (((emp s.men).map fun g => ((-1 : Int), g)).map e2) := by
      unfold q_law_steps_2
      rw [xlc_all (enc := PyData.int) (xs := emp s.men) (fun g => e2 (-1, g)) (by simp) (by omega) fun g hg => ⟨_, rfl, rfl, by simp [wipeE, e2, f2, tJ]⟩, List.map_map]
      rfl
    simp only [fz_cons, frz1_dat, frz1_un, fz_nil] at hq2
    apply runD_rt
    simp [-List.map_map, b_law_steps, startE, es, hq1, hlx, h0, hq2]
  · rw [if_neg h0]
    have hq3 : ∀ {t1 t3 t5 t6 t7 t8 t9 : Sl}, q_law_steps_3 [.dat (encB b), t1, .dat (encM s.men), t3, .dat (.int s.turn), t5, t6, t7, t8, t9, .un] = .ok ((whr (isM s.turn) s.men).map PyData.int) := by
      intros
      unfold q_law_steps_3
      rw [whr_eq, ← hnn]
      refine xlc_map (enc := PyData.int) (xs := upto b.n.toNat) _ PyData.int (by simp [hix, hrg]) (by rw [upto_length]; omega) fun p hp => ⟨_, rfl, ?_, fun _ => by simp [wipeE]⟩
      rw [upto_mem] at hp
      simp [wipeE, encM, atI_men hp.1 (show p < s.men.length by omega), eq_oMi, isM]
    have hml : (whr (isM s.turn) s.men).length ≤ 24 := by have := whr_length (isM s.turn) s.men; omega
    generalize whr (isM s.turn) s.men = mine at hq3 hml
    have hgl : ∀ q, (lgoals b s.men mine.length q).length ≤ 24 := fun q => Nat.le_trans (List.length_filter_le _ _) hel
    -- the inner loop
    have inner : ∀ (q : Int) (acc : List (Int × Int)) (s9 : Sl), acc.length ≤ 2000 → ∃ s9', l_law_steps_1 [.dat (encB b), .dat (encS s), .dat (encM s.men), .dat (.tuple [.int s.l0, .int s.l1]), .dat (.int s.turn), .dat (.list ((emp s.men).map PyData.int)), .dat (.list (mine.map PyData.int)), .own (acc.map e2), .dat (.int q), s9, .un] =
        .nx [.dat (encB b), .dat (encS s), .dat (encM s.men), .dat (.tuple [.int s.l0, .int s.l1]), .dat (.int s.turn), .dat (.list ((emp s.men).map PyData.int)), .dat (.list (mine.map PyData.int)), .own ((acc ++ (lgoals b s.men mine.length q).map fun g => (q, g)).map e2), .dat (.int q), s9', .un] := by
      intro q acc s9 hacc
      obtain ⟨e', h1, s9', hE⟩ := forL_inv (enc := PyData.int) (f := gn 9) (B := lb_law_steps_1) (fun pre e => ∃ s9, e = [.dat (encB b), .dat (encS s), .dat (encM s.men), .dat (.tuple [.int s.l0, .int s.l1]), .dat (.int s.turn), .dat (.list ((emp s.men).map PyData.int)), .dat (.list (mine.map PyData.int)), .own ((acc ++ (pre.filter (lgC b mine.length q)).map fun g => (q, g)).map e2), .dat (.int q), s9, .un]) (emp s.men) []
        [.dat (encB b), .dat (encS s), .dat (encM s.men), .dat (.tuple [.int s.l0, .int s.l1]), .dat (.int s.turn), .dat (.list ((emp s.men).map PyData.int)), .dat (.list (mine.map PyData.int)), .own (acc.map e2), .dat (.int q), s9, .un] ⟨s9, by simp⟩ fun pre g rest e qq ⟨s9, h⟩ => by
          subst h
          rw [List.nil_append] at qq
          have hlp : pre.length < (emp s.men).length := by rw [qq, List.length_append, List.length_cons]; omega
          have hlf : (pre.filter (lgC b mine.length q)).length ≤ pre.length := List.length_filter_le _ _
          have htie : ∀ {t1 t2 t3 t4 t5 t6 t7 : Sl}, bin inD (xtup (lcons (bin min2D (xvV 8) (xvV 9)) (lcons (bin max2D (xvV 8) (xvV 9)) lnil))) (bin ixD (xvV 0) (xc (.int 1))) [.dat (encB b), t1, t2, t3, t4, t5, t6, t7, .dat (.int q), .dat (.int g), .un] = .ok (.bool (decide ((min q g, max q g) ∈ b.ties))) := by
            intros
            rw [bin_ev, show ∀ {t1 t2 t3 t4 t5 t6 t7 : Sl}, xtup (lcons (bin min2D (xvV 8) (xvV 9)) (lcons (bin max2D (xvV 8) (xvV 9)) lnil)) [.dat (encB b), t1, t2, t3, t4, t5, t6, t7, .dat (.int q), .dat (.int g), .un] = .ok (e2 (min q g, max q g)) from by intros; simp [e2, f2, tJ], bind_ok]
            simp [hix1, in_ties]
          by_cases hc : lgC b mine.length q g = true
          · refine ⟨_, [.dat (encB b), .dat (encS s), .dat (encM s.men), .dat (.tuple [.int s.l0, .int s.l1]), .dat (.int s.turn), .dat (.list ((emp s.men).map PyData.int)), .dat (.list (mine.map PyData.int)), .own ((acc ++ ((pre ++ [g]).filter (lgC b mine.length q)).map fun g => (q, g)).map e2), .dat (.int q), .dat (.int g), .un], rfl, .inl ?_, _, rfl⟩
            rw [List.filter_append, List.filter_cons_of_pos hc, List.filter_nil]
            unfold lb_law_steps_1
            show sif _ _ _ [.dat (encB b), .dat (encS s), .dat (encM s.men), .dat (.tuple [.int s.l0, .int s.l1]), .dat (.int s.turn), .dat (.list ((emp s.men).map PyData.int)), .dat (.list (mine.map PyData.int)), .own ((acc ++ (pre.filter (lgC b mine.length q)).map fun g => (q, g)).map e2), .dat (.int q), .dat (.int g), .un] = _
            rw [sif_t ?_]
            · rw [sapp_ev (d := e2 (q, g)) rfl (by simp [e2, f2, tJ]) (by rw [List.length_map, List.length_append, List.length_map]; omega)]
              rw [List.map_append, List.map_append, List.map_append, List.map_append, List.append_assoc]
              rfl
            · by_cases h4 : (mine.length : Int) < 4
              · simp [-List.map_append, -List.map_map, h4]
              · have h4' : ¬ mine.length < 4 := by omega
                have h5 : (min q g, max q g) ∈ b.ties := by simpa [lgC, h4'] using hc
                rw [tor_ev, xbl_ev, xbl_ev, htie]
                simp [-List.map_append, -List.map_map, h4, h5]
          · refine ⟨_, [.dat (encB b), .dat (encS s), .dat (encM s.men), .dat (.tuple [.int s.l0, .int s.l1]), .dat (.int s.turn), .dat (.list ((emp s.men).map PyData.int)), .dat (.list (mine.map PyData.int)), .own ((acc ++ ((pre ++ [g]).filter (lgC b mine.length q)).map fun g => (q, g)).map e2), .dat (.int q), .dat (.int g), .un], rfl, .inl ?_, _, rfl⟩
            rw [List.filter_append, List.filter_cons_of_neg hc, List.filter_nil, List.append_nil]
            unfold lb_law_steps_1
            show sif _ _ _ [.dat (encB b), .dat (encS s), .dat (encM s.men), .dat (.tuple [.int s.l0, .int s.l1]), .dat (.int s.turn), .dat (.list ((emp s.men).map PyData.int)), .dat (.list (mine.map PyData.int)), .own ((acc ++ (pre.filter (lgC b mine.length q)).map fun g => (q, g)).map e2), .dat (.int q), .dat (.int g), .un] = _
            rw [sif_f ?_]
            · rfl
            · have hc' : ¬ mine.length < 4 ∧ ¬ (min q g, max q g) ∈ b.ties := by
                unfold lgC at hc
                simp only [Bool.or_eq_true, decide_eq_true_eq, not_or] at hc
                exact hc
              have h4 : ¬ (mine.length : Int) < 4 := by omega
              rw [tor_ev, xbl_ev, xbl_ev, htie]
              simp [-List.map_append, -List.map_map, h4, hc'.2]
      subst hE
      refine ⟨s9', sfor_nx (by simp) h1⟩
    obtain ⟨e', h1, s8, s9, hE⟩ := forL_inv (enc := PyData.int) (f := gn 8) (B := lb_law_steps_2) (fun pre e => ∃ s8 s9, e = [.dat (encB b), .dat (encS s), .dat (encM s.men), .dat (.tuple [.int s.l0, .int s.l1]), .dat (.int s.turn), .dat (.list ((emp s.men).map PyData.int)), .dat (.list (mine.map PyData.int)), .own ((pre.flatMap fun q => (lgoals b s.men mine.length q).map fun g => (q, g)).map e2), s8, s9, .un]) mine []
      [.dat (encB b), .dat (encS s), .dat (encM s.men), .dat (.tuple [.int s.l0, .int s.l1]), .dat (.int s.turn), .dat (.list ((emp s.men).map PyData.int)), .dat (.list (mine.map PyData.int)), .own [], .un, .un, .un] ⟨_, _, rfl⟩ fun pre q rest e qq ⟨s8, s9, h⟩ => by
        subst h
        rw [List.nil_append] at qq
        have hlp : pre.length < mine.length := by rw [qq, List.length_append, List.length_cons]; omega
        have hfl := flat_len (f := fun q => (lgoals b s.men mine.length q).map fun g => (q, g)) (k := 24) (l := pre) fun x _ => by rw [List.length_map]; exact hgl x
        rw [List.flatMap_append, List.flatMap_cons, List.flatMap_nil, List.append_nil]
        obtain ⟨s9', hin⟩ := inner q (pre.flatMap fun q => (lgoals b s.men mine.length q).map fun g => (q, g)) s9 (by omega)
        exact ⟨_, _, rfl, .inl hin, _, _, rfl⟩
    subst hE
    have hl' : l_law_steps_2 [.dat (encB b), .dat (encS s), .dat (encM s.men), .dat (.tuple [.int s.l0, .int s.l1]), .dat (.int s.turn), .dat (.list ((emp s.men).map PyData.int)), .dat (.list (mine.map PyData.int)), .own [], .un, .un, .un] = .nx _ := sfor_nx (by simp) h1
    apply runD_rt
    simp [-List.map_map, b_law_steps, startE, es, hq1, hlx, h0, hq3, hl']
end
end Pf
/-! Tx: moves as texts -/
namespace Pf
open PySem L2 Pu SX
theorem str_S (s : String) : Str.ofString s = S (s.toList.map Char.toNat) := TL.ext_tl (TL.tl_ofString s)
theorem strD_nat {n : Nat} (h : n < 1000) : strD (.int (n : Int)) = some (.str (S (TL.numL n))) := by
  have hl : ((n : Int).natAbs).log2 < 1920 := by
    rw [Int.natAbs_natCast]
    exact Nat.lt_of_le_of_lt (Nat.log2_le_self n) (by omega)
  show (if ((n : Int).natAbs).log2 < 1920 then some (PyData.str (toString (n : Int) : String)) else none) = _
  rw [if_pos hl, ← num_S]
theorem add_SS {a b : List Nat} (h : a.length + b.length ≤ 1000000) : addD (.str (S a)) (.str (S b)) = some (.str (S (a ++ b))) := by
  show (if (S a).length + (S b).length ≤ many then some (PyData.str (S a ++ S b)) else none) = _
  rw [S_len, S_len, if_pos (show a.length + b.length ≤ many from h), S_cat]
def cLay : List Nat := [108, 97, 121, 32]
def cLead : List Nat := [108, 101, 97, 100, 32]
def cTake : List Nat := [32, 116, 97, 107, 101, 32]
theorem s_lay : Str.ofString "lay " = S cLay := str_S _
theorem s_lead : Str.ofString "lead " = S cLead := str_S _
theorem s_take : Str.ofString " take " = S cTake := str_S _
theorem s_sp : Str.ofString " " = S [32] := str_S _
theorem s_nil : Str.ofString "" = S [] := str_S _
theorem s_lay0 : Str.ofString "lay" = S [108, 97, 121] := str_S _
theorem s_lead0 : Str.ofString "lead" = S [108, 101, 97, 100] := str_S _
theorem s_dig : Str.ofString "0123456789" = S [48, 49, 50, 51, 52, 53, 54, 55, 56, 57] := str_S _
def tolL (m : Int × Int × Int) : List Nat := (if 0 ≤ m.1 then cLead ++ TL.numL m.1.toNat ++ [32] ++ TL.numL m.2.1.toNat else cLay ++ TL.numL m.2.1.toNat) ++ (if 0 ≤ m.2.2 then cTake ++ TL.numL m.2.2.toNat else [])
theorem num_len {n : Nat} (h : n < 1000) : (TL.numL n).length ≤ 3 := TL.numL_len (by decide) h
theorem strD_pos {i : Int} (h0 : 0 ≤ i) (h : i < 1000) : strD (.int i) = some (.str (S (TL.numL i.toNat))) := by
  have := strD_nat (n := i.toNat) (by omega)
  rwa [Int.toNat_of_nonneg h0] at this
theorem told_ev {m : Int × Int × Int} (h1 : m.1 < 1000) (h2 : 0 ≤ m.2.1) (h3 : m.2.1 < 1000) (h4 : m.2.2 < 1000) : ftold [e3 m] = .ok (.str (S (tolL m))) := by
  obtain ⟨x, y, z⟩ := m
  simp only at h1 h2 h3 h4
  have ny := num_len (n := y.toNat) (by omega)
  have nx := num_len (n := x.toNat) (by omega)
  have nz := num_len (n := z.toNat) (by omega)
  have gt : gtup (gcons (gn 1) (gcons (gn 2) (gcons (gn 3) gnil))) (e3 (x, y, z)) [.dat (e3 (x, y, z)), .un, .un, .un, .un] = some [.dat (e3 (x, y, z)), .dat (.int x), .dat (.int y), .dat (.int z), .un] := rfl
  have sy := strD_pos h2 h3
  have a1 : addD (.str (S cLay)) (.str (S (TL.numL y.toNat))) = some (.str (S (cLay ++ TL.numL y.toNat))) := add_SS (by simp [cLay]; omega)
  have tail : ∀ (u : List Nat), u.length ≤ 100 → (sseq (sif (xbl (bin geD (xvV 3) (xc (.int 0)))) (sasg 4 (bin addD (bin addD (xvE 4) (xc (.str " take "))) (un1 strD (xvV 3)))) snil) (sret (xvE 4))) [.dat (e3 (x, y, z)), .dat (.int x), .dat (.int y), .dat (.int z), .dat (.str (S u))] = .rt (.str (S (u ++ (if 0 ≤ z then cTake ++ TL.numL z.toNat else [])))) := fun u hu => by
    by_cases hz : 0 ≤ z
    · have sz := strD_pos hz h4
      have b1 : addD (.str (S u)) (.str (S cTake)) = some (.str (S (u ++ cTake))) := add_SS (by simp [cTake]; omega)
      have b2 : addD (.str (S (u ++ cTake))) (.str (S (TL.numL z.toNat))) = some (.str (S (u ++ cTake ++ TL.numL z.toNat))) := add_SS (by simp [cTake]; omega)
      simp [hz, sz, s_take, b1, b2]
    · simp [hz]
  apply runD_rt
  unfold btold tolL
  by_cases hx : 0 ≤ x
  · have sx := strD_pos hx h1
    have b1 : addD (.str (S cLead)) (.str (S (TL.numL x.toNat))) = some (.str (S (cLead ++ TL.numL x.toNat))) := add_SS (by simp [cLead]; omega)
    have b2 : addD (.str (S (cLead ++ TL.numL x.toNat))) (.str (S [32])) = some (.str (S (cLead ++ TL.numL x.toNat ++ [32]))) := add_SS (by simp [cLead]; omega)
    have b3 : addD (.str (S (cLead ++ TL.numL x.toNat ++ [32]))) (.str (S (TL.numL y.toNat))) = some (.str (S (cLead ++ TL.numL x.toNat ++ [32] ++ TL.numL y.toNat))) := add_SS (by simp [cLead]; omega)
    have t1 := tail (cLead ++ TL.numL x.toNat ++ [32] ++ TL.numL y.toNat) (by simp [cLead]; omega)
    simp only [sseq_ev] at t1
    simp only [if_pos hx]
    simp [-List.append_assoc, startE, gt, s_lay, s_lead, s_sp, sy, a1, hx, sx, b1, b2, b3, t1]
  · have t1 := tail (cLay ++ TL.numL y.toNat) (by simp [cLay]; omega)
    simp only [sseq_ev] at t1
    simp only [if_neg hx]
    simp [-List.append_assoc, startE, gt, s_lay, sy, a1, hx, t1]
/-! ### a point's word -/
def digs (a : List Nat) : Bool := a.all fun c => decide (48 ≤ c) && decide (c ≤ 57)
def ptOf (a : List Nat) : Option Nat := if (1 ≤ a.length ∧ a.length ≤ 2) ∧ digs a = true ∧ TL.numL (NumText.digitsVal a) = a ∧ NumText.digitsVal a ≤ 23 then some (NumText.digitsVal a) else none
theorem ptOf_num : ∀ n : Nat, n ≤ 23 → ptOf (TL.numL n) = some n := by
  have : (List.range 24).all (fun n => decide (ptOf (TL.numL n) = some n)) = true := by decide +kernel
  intro n hn
  exact of_decide_eq_true (List.all_eq_true.mp this n (List.mem_range.mpr (by omega)))
theorem ptOf_some {a : List Nat} {n : Nat} (h : ptOf a = some n) : a = TL.numL n ∧ n ≤ 23 := by
  unfold ptOf at h
  split at h
  · rename_i hh
    cases h
    exact ⟨hh.2.2.1.symm, hh.2.2.2⟩
  · cases h
theorem in_dig (c : Nat) : inD (.str ⟨#[c]⟩) (.str (S [48, 49, 50, 51, 52, 53, 54, 55, 56, 57])) = some (.bool (decide (48 ≤ c) && decide (c ≤ 57))) := by
  show some (PyData.bool (decide (c ∈ [48, 49, 50, 51, 52, 53, 54, 55, 56, 57]))) = _
  congr 2
  rw [Bool.eq_iff_iff, decide_eq_true_eq, Bool.and_eq_true, decide_eq_true_eq, decide_eq_true_eq]
  simp only [List.mem_cons, List.not_mem_nil, or_false]
  omega
theorem seq_S (a : List Nat) : seqD (.str (S a)) = some (a.map signD) := rfl
theorem xlc_bool {α : Type} {enc : α → D} {vs : List Nat} {L : En → R (List D)} {f : Tg} {E : En → R D} {e : En} {xs : List α} (g : α → Bool) (hL : L e = .ok (xs.map enc)) (hl : xs.length ≤ 1000000) (h : ∀ x ∈ xs, ∃ e1, f (enc x) (wipeE e vs) = some e1 ∧ E e1 = .ok (.bool (g x))) : xlc vs L f tyes E e = .ok ((xs.map g).map PyData.bool) := by
  rw [xlc_all (T := tyes) (enc := enc) (xs := xs) (fun x => .bool (g x)) hL hl fun x hx => let ⟨e1, h1, h2⟩ := h x hx; ⟨e1, h1, rfl, h2⟩, List.map_map]
  rfl
@[simp] theorem srai_ev (c : Str) (e : En) : srai c e = .ex c e := rfl
/-- signs that there are -/
def Sg (a : List Nat) : Prop := ∀ c ∈ a, c < 1114112
theorem Sg.app {a b : List Nat} (h : Sg a) (h' : Sg b) : Sg (a ++ b) := fun c hc => (List.mem_append.mp hc).elim (h c) (h' c)
theorem Sg.of {a : List Nat} (h : a.all (fun c => decide (c < 1114112)) = true) : Sg a := fun c hc => of_decide_eq_true (List.all_eq_true.mp h c hc)
theorem Sg.num (n : Nat) : Sg (TL.numL n) := fun c hc => by
  have := TL.numL_digits n c hc
  omega
theorem shp_S {a : List Nat} (h : Sg a) : shp 0 (.str (S a)) := by
  have : PyData.strOk (S a) = true := by
    unfold PyData.strOk
    rw [← Array.all_toList, List.all_eq_true]
    exact fun c hc => decide_eq_true (h c hc)
  exact ⟨by simp [PyData.canLay0, this], by simp [PyData.depth]⟩
theorem eqv_S (a b : List Nat) : PyData.eqv (.str (S a)) (.str (S b)) = decide (a = b) := by
  rw [← S_beq_eq]
  simp [PyData.eqv]
theorem eq_SS {a b : List Nat} (ha : Sg a) (hb : Sg b) : eqD (.str (S a)) (.str (S b)) = some (.bool (decide (a = b))) := by rw [eq_ev (shp_S ha).shaped (shp_S hb).shaped, eqv_S]
theorem ne_SS {a b : List Nat} (ha : Sg a) (hb : Sg b) : neD (.str (S a)) (.str (S b)) = some (.bool (!decide (a = b))) := by rw [ne_ev (shp_S ha).shaped (shp_S hb).shaped, eqv_S]
theorem point_of_ev {a : List Nat} (hg : Sg a) (hl : a.length ≤ 1000) : fpoint_of [.str (S a)] = match ptOf a with | some n => .ok (.int (n : Int)) | none => .ex "NoText" := by
  have q1 : qpoint_of_1 [.dat (.str (S a)), .un] = .ok ((a.map fun c => decide (48 ≤ c) && decide (c ≤ 57)).map PyData.bool) := by
    unfold qpoint_of_1
    exact xlc_bool (enc := signD) (fun c => decide (48 ≤ c) && decide (c ≤ 57)) (by simp [seq_S]) (by omega) fun c hc => ⟨_, rfl, by simp [wipeE, signD, s_dig, in_dig]⟩
  have hall : (a.map fun c => decide (48 ≤ c) && decide (c ≤ 57)).all id = digs a := by
    unfold digs
    rw [List.all_map]
    rfl
  have ln : lenD (.str (S a)) = some (.int a.length) := by
    show (if (S a).length ≤ many then some (PyData.int ((S a).length : Nat)) else none) = _
    rw [S_len, if_pos (show a.length ≤ many by unfold many; omega)]
  have al := all_bools (a.map fun c => decide (48 ≤ c) && decide (c ≤ 57))
  rw [hall] at al
  by_cases h1 : 1 ≤ a.length ∧ a.length ≤ 2
  · have h1' : (1 : Int) ≤ a.length ∧ (a.length : Int) ≤ 2 := by omega
    have c1 : chn leD leD (xc (.int 1)) (un1 lenD (xvV 0)) (xc (.int 2)) [.dat (.str (S a)), .un] = .ok (.bool true) := by
      simp [chn, ln, h1']
    by_cases h2 : digs a = true
    · have iv : intD (.str (S a)) = some (.int ((NumText.digitsVal a : Nat) : Int)) := by
        show (if (S a).length ≤ 640 then (intText? (S a)).map PyData.int else none) = _
        rw [S_len, if_pos (by omega), int_S h2 (by intro e; rw [e] at h1; simp at h1) (by omega)]
        rfl
      have small : NumText.digitsVal a < 1000 := by
        match a, h1, h2 with
        | [], h1, _ => simp at h1
        | [c], _, h2 =>
          simp [digs] at h2
          simp [NumText.digitsVal]
          omega
        | [c, d], _, h2 =>
          simp [digs] at h2
          simp [NumText.digitsVal]
          omega
        | c :: d :: e :: r, h1, _ => simp at h1
      have sv := strD_nat small
      have nv := ne_SS (Sg.num (NumText.digitsVal a)) hg
      by_cases h3 : TL.numL (NumText.digitsVal a) = a
      · by_cases h4 : NumText.digitsVal a ≤ 23
        · have e : ptOf a = some (NumText.digitsVal a) := by unfold ptOf; rw [if_pos ⟨h1, h2, h3, h4⟩]
          rw [e]
          have h4' : ¬ (23 : Int) < ((NumText.digitsVal a : Nat) : Int) := by omega
          rw [decide_eq_true h3] at nv
          apply runD_rt
          simp only [bpoint_of, startE]
          generalize NumText.digitsVal a = n at iv sv nv h4'
          simp [-List.map_map, c1, q1, al, h2, iv, sv, nv, h4']
        · have e : ptOf a = none := by unfold ptOf; rw [if_neg fun z => h4 z.2.2.2]
          rw [e]
          have h4' : (23 : Int) < ((NumText.digitsVal a : Nat) : Int) := by omega
          rw [decide_eq_true h3] at nv
          apply runD_ex (e := [.dat (.str (S a)), .un])
          simp only [bpoint_of, startE]
          generalize NumText.digitsVal a = n at iv sv nv h4'
          simp [-List.map_map, c1, q1, al, h2, iv, sv, nv, h4']
      · have e : ptOf a = none := by unfold ptOf; rw [if_neg fun z => h3 z.2.2.1]
        rw [e]
        rw [decide_eq_false h3] at nv
        apply runD_ex (e := [.dat (.str (S a)), .un])
        simp only [bpoint_of, startE]
        generalize NumText.digitsVal a = n at iv sv nv
        simp [-List.map_map, c1, q1, al, h2, iv, sv, nv]
    · have e : ptOf a = none := by unfold ptOf; rw [if_neg fun z => h2 z.2.1]
      rw [e]
      have h2' : digs a = false := by simpa using h2
      rw [h2'] at al
      apply runD_ex (e := [.dat (.str (S a)), .un])
      simp [-List.map_map, bpoint_of, startE, c1, q1, al]
  · have e : ptOf a = none := by unfold ptOf; rw [if_neg fun z => h1 z.1]
    rw [e]
    have c1 : chn leD leD (xc (.int 1)) (un1 lenD (xvV 0)) (xc (.int 2)) [.dat (.str (S a)), .un] = .ok (.bool false) := by
      by_cases h : 1 ≤ a.length
      · have h' : (1 : Int) ≤ a.length := by omega
        have h'' : ¬ (a.length : Int) ≤ 2 := by omega
        simp [chn, ln, h', h'']
      · have h' : ¬ (1 : Int) ≤ a.length := by omega
        simp [chn, ln, h']
    apply runD_ex (e := [.dat (.str (S a)), .un])
    simp [bpoint_of, startE, c1]
end Pf
/-! Tx2: heard -/
namespace Pf
open PySem L2 Pu SX
theorem spl_ne (p : List Nat) : ∀ (k : Nat) (acc l : List Nat), TL.spl p k acc l ≠ [] := by
  intro k acc l
  induction l generalizing k acc with
  | nil => rw [TL.spl_nil]; simp
  | cons c r ih =>
    cases k with
    | zero =>
      unfold TL.spl
      split
      · simp
      · exact ih 0 _
    | succ k => unfold TL.spl; exact ih k acc
theorem joinL_cons {p x : List Nat} {ps : List (List Nat)} (h : ps ≠ []) : TL.joinL p (x :: ps) = x ++ (p ++ TL.joinL p ps) := by
  cases ps with
  | nil => exact absurd rfl h
  | cons y ps => rfl
theorem pre_split {p l : List Nat} (h : TL.pre p l = true) : l = p ++ l.drop p.length := by
  unfold TL.pre at h
  have e := eq_of_beq h
  have := List.take_append_drop p.length l
  rw [e] at this
  exact this.symm
theorem join_spl {p : List Nat} (hp : p ≠ []) : ∀ (n : Nat) (l acc : List Nat), l.length ≤ n → TL.joinL p (TL.spl p 0 acc l) = acc ++ l := by
  intro n
  induction n with
  | zero =>
    intro l acc h
    obtain rfl := List.eq_nil_of_length_eq_zero (Nat.le_zero.mp h)
    rw [TL.spl_nil, List.append_nil]
    rfl
  | succ n ih =>
    intro l acc h
    cases l with
    | nil => rw [TL.spl_nil, List.append_nil]; rfl
    | cons c r =>
      rw [List.length_cons] at h
      cases hh : TL.pre p (c :: r) with
      | true =>
        rw [TL.spl_hit hh, joinL_cons (spl_ne _ _ _ _), TL.spl_pass, ih _ _ (by rw [List.length_drop]; omega), List.nil_append]
        have e := pre_split hh
        have e2 : (c :: r).drop p.length = r.drop (p.length - 1) := by
          cases p with
          | nil => exact absurd rfl hp
          | cons x p => simp
        rw [e2] at e
        rw [← e]
      | false => rw [TL.spl_miss hh, ih _ _ (by omega), List.append_assoc]; rfl
theorem par_join {p : List Nat} : ∀ (l acc x y : List Nat), TL.par p acc l = some (x, y) → acc ++ l = x ++ (p ++ y) := by
  intro l
  induction l with
  | nil => intro acc x y h; cases h
  | cons c r ih =>
    intro acc x y h
    cases hh : TL.pre p (c :: r) with
    | true =>
      rw [TL.par_hit hh] at h
      cases h
      rw [← pre_split hh]
    | false =>
      rw [TL.par_miss hh] at h
      have := ih _ _ _ h
      rw [List.append_assoc] at this
      exact this
theorem joinL_mem {p : List Nat} {c : Nat} : ∀ {ps : List (List Nat)} {x : List Nat}, x ∈ ps → c ∈ x → c ∈ TL.joinL p ps
  | [], _, h, _ => by cases h
  | [y], x, h, hc => by rw [List.mem_singleton.mp h] at hc; exact hc
  | y :: z :: r, x, h, hc => by
    show c ∈ y ++ (p ++ TL.joinL p (z :: r))
    rcases List.mem_cons.mp h with e | h
    · subst e; exact List.mem_append_left _ hc
    · exact List.mem_append_right _ (List.mem_append_right _ (joinL_mem h hc))
theorem spl_sg {p l x : List Nat} (hp : p ≠ []) (h : Sg l) (hx : x ∈ TL.spl p 0 [] l) : Sg x := fun c hc => h c (by
  have := joinL_mem (p := p) hx hc
  rwa [join_spl hp l.length l [] (Nat.le_refl _), List.nil_append] at this)
theorem joinL_len {p : List Nat} : ∀ {ps : List (List Nat)} {x : List Nat}, x ∈ ps → x.length ≤ (TL.joinL p ps).length
  | [], _, h => by cases h
  | [y], x, h => by rw [List.mem_singleton.mp h]; exact Nat.le_refl _
  | y :: z :: r, x, h => by
    show x.length ≤ (y ++ (p ++ TL.joinL p (z :: r))).length
    rw [List.length_append, List.length_append]
    rcases List.mem_cons.mp h with e | h
    · subst e; omega
    · have := joinL_len (p := p) h; omega
theorem spl_len {p l x : List Nat} (hp : p ≠ []) (hx : x ∈ TL.spl p 0 [] l) : x.length ≤ l.length := by
  have := joinL_len (p := p) hx
  rwa [join_spl hp l.length l [] (Nat.le_refl _), List.nil_append] at this
def encW (w : List Nat) : D := .str (S w)
theorem split_ev {a p : List Nat} (hp : p ≠ []) (hk : p.all (· < 256) = true) (hl : a.length ≤ 1000000) : splitN (.str (S a)) (.str (S p)) = some ((TL.spl p 0 [] a).map encW) := by
  show (if (S p).length ≠ 0 ∧ (S a).length ≤ many then some ((Txt.split (S a) (S p)).map PyData.str) else none) = _
  have h0 : p.length ≠ 0 := fun z => hp (List.eq_nil_of_length_eq_zero z)
  rw [S_len, S_len, if_pos ⟨h0, hl⟩, split_S hp hk, List.map_map]
  rfl
theorem part_ev {a p : List Nat} (hp : p ≠ []) (hl : a.length ≤ 1000000) : partD (.str (S a)) (.str (S p)) = some (match TL.par p [] a with | some (x, y) => .tuple [.str (S x), .str (S p), .str (S y)] | none => .tuple [.str (S a), .str (S []), .str (S [])]) := by
  show (if (S p).length ≠ 0 ∧ (S a).length ≤ many then some (PyData.tuple [.str (Txt.partition (S a) (S p)).1, .str (Txt.partition (S a) (S p)).2.1, .str (Txt.partition (S a) (S p)).2.2]) else none) = _
  have h0 : p.length ≠ 0 := fun z => hp (List.eq_nil_of_length_eq_zero z)
  rw [S_len, S_len, if_pos ⟨h0, hl⟩]
  cases h : TL.par p [] a with
  | none => rw [partition_none hp h]
  | some xy => obtain ⟨x, y⟩ := xy; rw [partition_some hp h]
theorem ix_l {ds : List D} {i : Int} {x : D} (h0 : 0 ≤ i) (h : ds[i.toNat]? = some x) : ixD (.list ds) (.int i) = some x := atI_some h0 h
def wLay : List Nat := [108, 97, 121]
def wLead : List Nat := [108, 101, 97, 100]
def heaW (ws : List (List Nat)) (k : Int) : Option (Int × Int × Int) := match ws with
  | [w, x] => if w = wLay then (ptOf x).map fun n => (-1, (n : Int), k) else none
  | [w, x, y] => if w = wLead then (ptOf x).bind fun m => (ptOf y).map fun n => ((m : Int), (n : Int), k) else none
  | _ => none
def heaL (t : List Nat) : Option (Int × Int × Int) := match TL.par cTake [] t with
  | some (p, q) => (ptOf q).bind fun k => heaW (TL.spl [32] 0 [] p) (k : Int)
  | none => heaW (TL.spl [32] 0 [] t) (-1)
def ansM (o : Option (Int × Int × Int)) : R D := match o with
  | some m => .ok (e3 m)
  | none => .ex "NoText"
theorem heard_tail {ws : List (List Nat)} {k : Int} (hne : ws ≠ []) (hg : ∀ w ∈ ws, Sg w) (hl : ∀ w ∈ ws, w.length ≤ 1000) {s0 s1 s2 s3 : Sl} (h0 : frz1 s0 = s0) (h1 : frz1 s1 = s1) (h2 : frz1 s2 = s2) (h3 : frz1 s3 = s3) : finR ((sseq (sif (tand (xbl (bin eqD (bin ixD (xvV 5) (xc (.int 0))) (xc (.str "lay")))) (xbl (bin eqD (un1 lenD (xvV 5)) (xc (.int 2))))) (sret (xtup (lcons (un1 negD (xc (.int 1))) (lcons (xcall 1 fpoint_of (lcons (bin ixD (xvV 5) (xc (.int 1))) lnil)) (lcons (xvE 4) lnil))))) snil)
  (sseq (sif (tor (xbl (bin neD (bin ixD (xvV 5) (xc (.int 0))) (xc (.str "lead")))) (xbl (bin neD (un1 lenD (xvV 5)) (xc (.int 3))))) (srai "NoText") snil)
  (sret (xtup (lcons (xcall 1 fpoint_of (lcons (bin ixD (xvV 5) (xc (.int 1))) lnil)) (lcons (xcall 1 fpoint_of (lcons (bin ixD (xvV 5) (xc (.int 2))) lnil)) (lcons (xvE 4) lnil))))))) [s0, s1, s2, s3, .dat (.int k), .dat (.list (ws.map encW))]) = ansM (heaW ws k) := by
  cases ws with
  | nil => exact absurd rfl hne
  | cons w r =>
    have i0 : ixD (.list ((w :: r).map encW)) (.int 0) = some (.str (S w)) := ix_l (by decide) rfl
    have e1 := eq_SS (hg w List.mem_cons_self) (Sg.of (a := wLay) (by decide))
    have e2 := ne_SS (hg w List.mem_cons_self) (Sg.of (a := wLead) (by decide))
    have sl : Str.ofString "lay" = S wLay := s_lay0
    have sd : Str.ofString "lead" = S wLead := s_lead0
    have ln : lenD (.list ((w :: r).map encW)) = some (.int ((r.length : Int) + 1)) := by simp
    have pt : ∀ x ∈ (w :: r), fpoint_of [.str (S x)] = match ptOf x with | some n => .ok (.int (n : Int)) | none => .ex "NoText" := fun x hx => point_of_ev (hg x hx) (hl x hx)
    by_cases hlay : w = wLay
    · rw [decide_eq_true hlay] at e1
      have hnl : ¬ w = wLead := fun z => by rw [hlay] at z; exact absurd z (by decide)
      rw [decide_eq_false hnl] at e2
      match r with
      | [] => simp [-List.map_cons, i0, sl, sd, e1, e2, ln, heaW, ansM, finR]
      | [x] =>
        have i1 : ixD (.list ([w, x].map encW)) (.int 1) = some (.str (S x)) := ix_l (by decide) rfl
        have p1 := pt x (by simp)
        have hw : heaW [w, x] k = (ptOf x).map fun n => (-1, (n : Int), k) := by simp [heaW, hlay]
        rw [hw]
        cases hx : ptOf x with
        | none =>
          rw [hx] at p1
          simp [-List.map_cons, i0, i1, sl, sd, e1, ln, p1, ansM, finR, h0, h1, h2, h3]
        | some n =>
          rw [hx] at p1
          simp [-List.map_cons, i0, i1, sl, sd, e1, ln, p1, ansM, finR, h0, h1, h2, h3]
          simp [e3, f3, tJ]
      | x :: y :: r' =>
        have l2 : ¬ (((x :: y :: r').length : Int) + 1 = 2) := by simp; omega
        have hw : heaW (w :: x :: y :: r') k = none := by
          cases r' with
          | nil => simp [heaW, hnl]
          | cons z r' => rfl
        rw [hw]
        simp [-List.map_cons, -List.length_cons, i0, sl, sd, e1, e2, ln, l2, ansM, finR]
    · rw [decide_eq_false hlay] at e1
      by_cases hlead : w = wLead
      · rw [decide_eq_true hlead] at e2
        match r with
        | [] => simp [-List.map_cons, i0, sl, sd, e1, e2, ln, heaW, ansM, finR]
        | [x] => simp [-List.map_cons, i0, sl, sd, e1, e2, ln, heaW, hlay, ansM, finR]
        | [x, y] =>
          have i1 : ixD (.list ([w, x, y].map encW)) (.int 1) = some (.str (S x)) := ix_l (by decide) rfl
          have i2 : ixD (.list ([w, x, y].map encW)) (.int 2) = some (.str (S y)) := ix_l (by decide) rfl
          have p1 := pt x (by simp)
          have p2 := pt y (by simp)
          have hw : heaW [w, x, y] k = (ptOf x).bind fun m => (ptOf y).map fun n => ((m : Int), (n : Int), k) := by simp [heaW, hlead]
          rw [hw]
          cases hx : ptOf x with
          | none =>
            rw [hx] at p1
            simp [-List.map_cons, i0, i1, i2, sl, sd, e1, e2, ln, p1, ansM, finR, h0, h1, h2, h3]
          | some n =>
            rw [hx] at p1
            cases hy : ptOf y with
            | none =>
              rw [hy] at p2
              simp [-List.map_cons, i0, i1, i2, sl, sd, e1, e2, ln, p1, p2, hy, ansM, finR, h0, h1, h2, h3]
            | some n' =>
              rw [hy] at p2
              simp [-List.map_cons, i0, i1, i2, sl, sd, e1, e2, ln, p1, p2, ansM, finR, h0, h1, h2, h3]
              simp [e3, f3, tJ]
        | x :: y :: z :: r' =>
          have l3 : ¬ (((x :: y :: z :: r').length : Int) + 1 = 3) := by simp; omega
          simp [-List.map_cons, -List.length_cons, i0, sl, sd, e1, e2, ln, l3, heaW, ansM, finR]
      · rw [decide_eq_false hlead] at e2
        have hw : heaW (w :: r) k = none := by
          match r with
          | [] => rfl
          | [x] => simp [heaW, hlay]
          | [x, y] => simp [heaW, hlead]
          | x :: y :: z :: r' => rfl
        rw [hw]
        simp [-List.map_cons, i0, sl, sd, e1, e2, ansM, finR]
theorem xmt_s {f : D → D → Option D} {F G : En → R D} {e : En} {x : Str} {y : D} (hF : F e = .ok (.str x)) (hG : G e = .ok y) : xmt ["str"] f F G e = opt (f (.str x) y) := by
  unfold xmt
  rw [hF]
  show (if "str" ∈ ["str"] then (G e).bind fun y => opt (f (.str x) y) else R.bad) = _
  rw [if_pos (by decide), hG]
  rfl
theorem xsplit_s {F G : En → R D} {e : En} {x : Str} {y : D} (hF : F e = .ok (.str x)) (hG : G e = .ok y) : xsplit F G e = opt (splitN (.str x) y) := by
  unfold xsplit
  rw [hF]
  show (G e).bind _ = _
  rw [hG]
  rfl
theorem sp_ne : ([32] : List Nat) ≠ [] := by decide
theorem heard_ev {t : List Nat} (hg : Sg t) (hl : t.length ≤ 1000) : fheard [.str (S t)] = ansM (heaL t) := by
  have hp := part_ev (a := t) (p := cTake) (by decide) (by omega)
  unfold fheard heaL
  rw [runD_fin]
  have e1 : xmt ["str"] partD (xvV 0) (xc (.str " take ")) [.dat (.str (S t)), .un, .un, .un, .un, .un] = opt (partD (.str (S t)) (.str (S cTake))) := by
    rw [xmt_s (x := S t) (y := .str (S cTake)) rfl (by rw [← s_take]; rfl)]
  have wds : ∀ {a : List Nat} {s0 s2 s3 s4 : Sl}, a.length ≤ 1000 → xsplit (xvV 1) (xc (.str " ")) [s0, .dat (.str (S a)), s2, s3, s4, .un] = .ok ((TL.spl [32] 0 [] a).map encW) := by
    intro a s0 s2 s3 s4 ha
    rw [xsplit_s (x := S a) (y := .str (S [32])) rfl (by rw [← s_sp]; rfl), split_ev sp_ne (by decide) (by omega)]
    rfl
  have tl : ∀ {a : List Nat} {k : Int} {d0 d2 d3 : D}, Sg a → a.length ≤ 1000 → finR ((sseq (sif (tand (xbl (bin eqD (bin ixD (xvV 5) (xc (.int 0))) (xc (.str "lay")))) (xbl (bin eqD (un1 lenD (xvV 5)) (xc (.int 2))))) (sret (xtup (lcons (un1 negD (xc (.int 1))) (lcons (xcall 1 fpoint_of (lcons (bin ixD (xvV 5) (xc (.int 1))) lnil)) (lcons (xvE 4) lnil))))) snil)
    (sseq (sif (tor (xbl (bin neD (bin ixD (xvV 5) (xc (.int 0))) (xc (.str "lead")))) (xbl (bin neD (un1 lenD (xvV 5)) (xc (.int 3))))) (srai "NoText") snil)
    (sret (xtup (lcons (xcall 1 fpoint_of (lcons (bin ixD (xvV 5) (xc (.int 1))) lnil)) (lcons (xcall 1 fpoint_of (lcons (bin ixD (xvV 5) (xc (.int 2))) lnil)) (lcons (xvE 4) lnil))))))) [.dat d0, .dat (.str (S a)), .dat d2, .dat d3, .dat (.int k), .dat (.list ((TL.spl [32] 0 [] a).map encW))]) = ansM (heaW (TL.spl [32] 0 [] a) k) := fun {a k d0 d2 d3} ha hla =>
    heard_tail (spl_ne _ _ _ _) (fun w hw => spl_sg sp_ne ha hw) (fun w hw => Nat.le_trans (spl_len sp_ne hw) hla) rfl rfl rfl rfl
  generalize hT : (sseq (sif (tand (xbl (bin eqD (bin ixD (xvV 5) (xc (.int 0))) (xc (.str "lay")))) (xbl (bin eqD (un1 lenD (xvV 5)) (xc (.int 2))))) (sret (xtup (lcons (un1 negD (xc (.int 1))) (lcons (xcall 1 fpoint_of (lcons (bin ixD (xvV 5) (xc (.int 1))) lnil)) (lcons (xvE 4) lnil))))) snil)
    (sseq (sif (tor (xbl (bin neD (bin ixD (xvV 5) (xc (.int 0))) (xc (.str "lead")))) (xbl (bin neD (un1 lenD (xvV 5)) (xc (.int 3))))) (srai "NoText") snil)
    (sret (xtup (lcons (xcall 1 fpoint_of (lcons (bin ixD (xvV 5) (xc (.int 1))) lnil)) (lcons (xcall 1 fpoint_of (lcons (bin ixD (xvV 5) (xc (.int 2))) lnil)) (lcons (xvE 4) lnil))))))) = T at tl
  unfold bheard
  rw [hT]
  show finR (sseq _ _ [.dat (.str (S t)), .un, .un, .un, .un, .un]) = _
  cases hpar : TL.par cTake [] t with
  | none =>
    rw [hpar] at hp
    have nv := ne_SS (a := []) (b := []) (Sg.of (by decide)) (Sg.of (by decide))
    have g := tl (a := t) (k := -1) (d0 := .str (S t)) (d2 := .str (S [])) (d3 := .str (S [])) hg hl
    rw [hp] at e1
    simp [e1, s_nil, nv, wds hl, g]
  | some xy =>
    obtain ⟨x, y⟩ := xy
    rw [hpar] at hp
    have hj := par_join _ _ _ _ hpar
    rw [List.nil_append] at hj
    have hx : Sg x := fun c hc => hg c (by rw [hj]; exact List.mem_append_left _ hc)
    have hy : Sg y := fun c hc => hg c (by rw [hj]; exact List.mem_append_right _ (List.mem_append_right _ hc))
    have hlx : x.length ≤ 1000 := by rw [hj, List.length_append] at hl; omega
    have hly : y.length ≤ 1000 := by rw [hj, List.length_append, List.length_append] at hl; omega
    have nv : neD (.str (S cTake)) (.str (S [])) = some (.bool true) := ne_SS (Sg.of (by decide)) (Sg.of (by decide))
    have pv := point_of_ev hy hly
    rw [hp] at e1
    cases hpt : ptOf y with
    | none =>
      rw [hpt] at pv
      simp [e1, s_nil, nv, pv, hpt, finR, ansM]
    | some k =>
      rw [hpt] at pv
      have g := tl (a := x) (k := (k : Int)) (d0 := .str (S t)) (d2 := .str (S cTake)) (d3 := .str (S y)) hx hlx
      simp [e1, s_nil, nv, pv, hpt, wds hlx, g]
end Pf
/-! Tx3: stands as texts -/
namespace Pf
open PySem L2 Pu SX
/-! ### heard and told are each other's way back -/
theorem heaW_some {ws : List (List Nat)} {k : Int} {m : Int × Int × Int} (h : heaW ws k = some m) : TL.joinL [32] ws = (if 0 ≤ m.1 then cLead ++ TL.numL m.1.toNat ++ [32] ++ TL.numL m.2.1.toNat else cLay ++ TL.numL m.2.1.toNat) ∧ m.2.2 = k ∧ -1 ≤ m.1 ∧ m.1 ≤ 23 ∧ 0 ≤ m.2.1 ∧ m.2.1 ≤ 23 := by
  unfold heaW at h
  split at h
  · rename_i w x
    split at h
    · rename_i hw
      cases hx : ptOf x with
      | none => rw [hx] at h; cases h
      | some n =>
        rw [hx] at h
        cases h
        obtain ⟨e, hn⟩ := ptOf_some hx
        subst e hw
        refine ⟨?_, rfl, by simp only; omega, by simp only; omega, by simp only; omega, by simp only; omega⟩
        simp only [show ¬ (0 : Int) ≤ -1 by decide, if_false, Int.toNat_natCast]
        rfl
    · cases h
  · rename_i w x y
    split at h
    · rename_i hw
      cases hx : ptOf x with
      | none => rw [hx] at h; cases h
      | some n =>
        rw [hx] at h
        cases hy : ptOf y with
        | none => rw [hy] at h; cases h
        | some n' =>
          rw [hy] at h
          cases h
          obtain ⟨e, hn⟩ := ptOf_some hx
          obtain ⟨e', hn'⟩ := ptOf_some hy
          subst e e' hw
          refine ⟨?_, rfl, by simp only; omega, by simp only; omega, by simp only; omega, by simp only; omega⟩
          have : (0 : Int) ≤ (n : Int) := by omega
          simp only [this, if_true, Int.toNat_natCast, List.append_assoc]
          rfl
    · cases h
  · cases h
theorem heaL_some {t : List Nat} {m : Int × Int × Int} (h : heaL t = some m) : tolL m = t ∧ -1 ≤ m.1 ∧ m.1 ≤ 23 ∧ 0 ≤ m.2.1 ∧ m.2.1 ≤ 23 ∧ -1 ≤ m.2.2 ∧ m.2.2 ≤ 23 := by
  unfold heaL at h
  cases hp : TL.par cTake [] t with
  | none =>
    rw [hp] at h
    obtain ⟨e, ek, b1, b2, b3, b4⟩ := heaW_some h
    rw [join_spl sp_ne t.length t [] (Nat.le_refl _), List.nil_append] at e
    refine ⟨?_, b1, b2, b3, b4, by omega, by omega⟩
    unfold tolL
    rw [← e, if_neg (by omega), List.append_nil]
  | some xy =>
    obtain ⟨x, y⟩ := xy
    rw [hp] at h
    have h' : ((ptOf y).bind fun k => heaW (TL.spl [32] 0 [] x) (k : Int)) = some m := h
    cases hy : ptOf y with
    | none => rw [hy] at h'; cases h'
    | some k =>
      rw [hy] at h'
      obtain ⟨e, ek, b1, b2, b3, b4⟩ := heaW_some h'
      obtain ⟨ey, hk⟩ := ptOf_some hy
      rw [join_spl sp_ne x.length x [] (Nat.le_refl _), List.nil_append] at e
      have hj := par_join _ _ _ _ hp
      rw [List.nil_append] at hj
      refine ⟨?_, b1, b2, b3, b4, by omega, by omega⟩
      unfold tolL
      rw [← e, ek, if_pos (by omega), Int.toNat_natCast, ← ey, hj]
theorem par_lay : (List.range 24).all (fun n => decide (TL.par cTake [] (cLay ++ TL.numL n) = none) && free cTake (cLay ++ TL.numL n)) = true := by decide +kernel
theorem par_lead : (List.range 24).all (fun m => (List.range 24).all fun n => decide (TL.par cTake [] (cLead ++ TL.numL m ++ [32] ++ TL.numL n) = none) && free cTake (cLead ++ TL.numL m ++ [32] ++ TL.numL n)) = true := by decide +kernel
/-- what stands ahead of " take " -/
def aheadL (m : Int × Int × Int) : List Nat := if 0 ≤ m.1 then cLead ++ TL.numL m.1.toNat ++ [32] ++ TL.numL m.2.1.toNat else cLay ++ TL.numL m.2.1.toNat
theorem ahead_par {m : Int × Int × Int} (h2 : m.1 ≤ 23) (h3 : 0 ≤ m.2.1) (h4 : m.2.1 ≤ 23) : TL.par cTake [] (aheadL m) = none ∧ free cTake (aheadL m) = true := by
  unfold aheadL
  by_cases h : 0 ≤ m.1
  · rw [if_pos h]
    have := List.all_eq_true.mp par_lead m.1.toNat (List.mem_range.mpr (by omega))
    have := List.all_eq_true.mp this m.2.1.toNat (List.mem_range.mpr (by omega))
    rw [Bool.and_eq_true] at this
    exact ⟨of_decide_eq_true this.1, this.2⟩
  · rw [if_neg h]
    have := List.all_eq_true.mp par_lay m.2.1.toNat (List.mem_range.mpr (by omega))
    rw [Bool.and_eq_true] at this
    exact ⟨of_decide_eq_true this.1, this.2⟩
theorem ahead_words {m : Int × Int × Int} (h1 : -1 ≤ m.1) (h2 : m.1 ≤ 23) (h3 : 0 ≤ m.2.1) (h4 : m.2.1 ≤ 23) (k : Int) : heaW (TL.spl [32] 0 [] (aheadL m)) k = some (m.1, m.2.1, k) := by
  have fr : ∀ n, 32 ∉ TL.numL n := fun n => TL.numL_free (by omega)
  unfold aheadL
  by_cases h : 0 ≤ m.1
  · rw [if_pos h]
    have e : cLead ++ TL.numL m.1.toNat ++ [32] ++ TL.numL m.2.1.toNat = TL.joinL [32] [wLead, TL.numL m.1.toNat, TL.numL m.2.1.toNat] := by
      simp [TL.joinL, cLead, wLead]
    rw [e, spl_join (by simp) (fun p hp => by
      simp only [List.mem_cons, List.not_mem_nil, or_false] at hp
      rcases hp with rfl | rfl | rfl
      · decide
      · exact fr _
      · exact fr _)]
    have p1 := ptOf_num m.1.toNat (by omega)
    have p2 := ptOf_num m.2.1.toNat (by omega)
    simp [heaW, p1, p2]
    constructor <;> omega
  · rw [if_neg h]
    have e : cLay ++ TL.numL m.2.1.toNat = TL.joinL [32] [wLay, TL.numL m.2.1.toNat] := by
      simp [TL.joinL, cLay, wLay]
    rw [e, spl_join (by simp) (fun p hp => by
      simp only [List.mem_cons, List.not_mem_nil, or_false] at hp
      rcases hp with rfl | rfl
      · decide
      · exact fr _)]
    have p2 := ptOf_num m.2.1.toNat (by omega)
    simp [heaW, p2]
    constructor <;> omega
theorem heaL_tol {m : Int × Int × Int} (h1 : -1 ≤ m.1) (h2 : m.1 ≤ 23) (h3 : 0 ≤ m.2.1) (h4 : m.2.1 ≤ 23) (h5 : -1 ≤ m.2.2) (h6 : m.2.2 ≤ 23) : heaL (tolL m) = some m := by
  obtain ⟨p1, p2⟩ := ahead_par h2 h3 h4
  have e : tolL m = aheadL m ++ (if 0 ≤ m.2.2 then cTake ++ TL.numL m.2.2.toNat else []) := rfl
  unfold heaL
  by_cases h : 0 ≤ m.2.2
  · rw [e, if_pos h, par_free _ (by decide) p2]
    have p3 := ptOf_num m.2.2.toNat (by omega)
    show ((ptOf (TL.numL m.2.2.toNat)).bind fun k => heaW (TL.spl [32] 0 [] (aheadL m)) (k : Int)) = _
    rw [p3]
    show heaW _ ((m.2.2.toNat : Nat) : Int) = _
    rw [ahead_words h1 h2 h3 h4, Int.toNat_of_nonneg h]
  · rw [e, if_neg h, List.append_nil, p1]
    show heaW _ (-1) = _
    rw [ahead_words h1 h2 h3 h4]
    have : m.2.2 = -1 := by omega
    rw [← this]
theorem tol_sg (m : Int × Int × Int) : Sg (tolL m) := by
  unfold tolL
  have l1 : Sg cLead := Sg.of (by decide)
  have l2 : Sg cLay := Sg.of (by decide)
  have l3 : Sg cTake := Sg.of (by decide)
  have l4 : Sg [32] := Sg.of (by decide)
  have l5 : Sg [] := Sg.of (by decide)
  refine Sg.app ?_ ?_
  · split
    · exact ((l1.app (Sg.num _)).app l4).app (Sg.num _)
    · exact l2.app (Sg.num _)
  · split
    · exact l3.app (Sg.num _)
    · exact l5
theorem tol_len {m : Int × Int × Int} (h2 : m.1 ≤ 23) (h4 : m.2.1 ≤ 23) (h6 : m.2.2 ≤ 23) : (tolL m).length ≤ 30 := by
  have l : ∀ n : Int, n ≤ 23 → (TL.numL n.toNat).length ≤ 3 := fun n hn => num_len (by omega)
  have l1 := l _ h2
  have l2 := l _ h4
  have l3 := l _ h6
  unfold tolL
  split <;> split <;> simp [cLead, cLay, cTake] <;> omega
end Pf
/-! Rd: records (k29) -/
namespace M29
open PySem L2 Pu Pf SX
abbrev Mv := Int × Int × Int
structure MvB (m : Mv) : Prop where
  a1 : -1 ≤ m.1
  a2 : m.1 ≤ 23
  b1 : 0 ≤ m.2.1
  b2 : m.2.1 ≤ 23
  c1 : -1 ≤ m.2.2
  c2 : m.2.2 ≤ 23
def cDot : List Nat := [46, 32]
def cCom : List Nat := [44, 32]
theorem s_dot : Str.ofString ". " = S cDot := str_S _
theorem s_com : Str.ofString ", " = S cCom := str_S _
theorem s_nl : Str.ofString "\n" = S [10] := str_S _
/-- a row without its end -/
def lineL (ms : List Mv) (j : Nat) : List Nat := TL.numL (j + 1) ++ (cDot ++ TL.joinL cCom (((ms.drop (2 * j)).take 2).map tolL))
def recL (ms : List Mv) (n : Nat) : List Nat := (List.range n).flatMap fun j => lineL ms j ++ [10]
def rows (ms : List Mv) : Nat := (ms.length + 1) / 2
theorem cut_two {α : Type} (xs : List α) (j : Nat) (h : 2 * j ≤ xs.length) : cutD xs (some ((2 * j : Nat) : Int)) (some (((2 * j : Nat) : Int) + 2)) = (xs.drop (2 * j)).take 2 := by
  unfold cutD
  have e : (((2 * j : Nat) : Int) + 2) = ((2 * j + 2 : Nat) : Int) := by omega
  rw [e, HT.sIx_nat, HT.sIx_nat, Nat.min_eq_left h, List.take_eq_take_iff, List.length_drop]
  omega
theorem rg_size (n : Nat) : (Builtin.Range.rangeSize 0 (n : Int) 2).toNat = (n + 1) / 2 := by
  unfold Builtin.Range.rangeSize
  rw [if_pos (by decide)]
  split <;> omega
theorem rg_size' (n : Nat) : Builtin.Range.rangeSize 0 (n : Int) 2 = (((n + 1) / 2 : Nat) : Int) := by
  unfold Builtin.Range.rangeSize
  rw [if_pos (by decide)]
  split <;> omega
theorem fits_long {i : Int} (h0 : -1000000 ≤ i) (h : i ≤ 1000000) : Builtin.Range.rangeFitsLong i = true := by
  unfold Builtin.Range.rangeFitsLong
  rw [Bool.and_eq_true]
  exact ⟨decide_eq_true (by omega), decide_eq_true (by omega)⟩
theorem rg_small {n : Nat} (h : n ≤ 1000) : Builtin.Range.small 0 (n : Int) 2 = true := by
  have f1 : Builtin.Range.rangeFitsLong 0 = true := fits_long (by omega) (by omega)
  have f2 : Builtin.Range.rangeFitsLong (n : Int) = true := fits_long (by omega) (by omega)
  have f3 : Builtin.Range.rangeFitsLong 2 = true := fits_long (by omega) (by omega)
  have f4 : Builtin.Range.rangeFitsLong (((n + 1) / 2 : Nat) : Int) = true := fits_long (by omega) (by omega)
  have f5 : Builtin.Range.rangeFitsLong ((n : Int) + (2 - 1)) = true := fits_long (by omega) (by omega)
  unfold Builtin.Range.small
  rw [rg_size', f1, f2, f3, f4, if_pos (by omega), f5, Bool.or_true]
  rfl
theorem rng3_ev {n : Nat} (h : n ≤ 1000) : rng3 (.int 0) (.int (n : Int)) (.int 2) = some ((List.range ((n + 1) / 2)).map fun j => PyData.int ((2 * j : Nat) : Int)) := by
  show (if (decide ((0 : Int) < 2) && decide ((2 : Int) < 1000)) && Builtin.Range.small 0 (n : Int) 2 then some (rangeC 0 2 (Builtin.Range.rangeSize 0 (n : Int) 2).toNat) else none) = _
  rw [rg_small h, if_pos (by decide), rg_size]
  unfold rangeC
  congr 1
  refine List.map_congr_left fun j _ => ?_
  congr 1
  omega
theorem irng3_of {F G J : En → R D} {e : En} {i j c : Int} {L : List D} (hF : F e = .ok (.int i)) (hG : G e = .ok (.int j)) (hJ : J e = .ok (.int c)) (h : rng3 (.int i) (.int j) (.int c) = some L) : irng3 F G J e = .ok L := by
  unfold irng3
  rw [hF, bind_ok, hG, bind_ok, hJ, bind_ok, h]
  rfl
theorem tol_len' {m : Mv} (h : MvB m) : (tolL m).length ≤ 30 := tol_len h.a2 h.b2 h.c2
theorem told_ok {m : Mv} (h : MvB m) : ftold [e3 m] = .ok (.str (S (tolL m))) := told_ev (by have := h.a2; omega) h.b1 (by have := h.b2; omega) (by have := h.c2; omega)
theorem lineL_len {ms : List Mv} (h : ∀ m ∈ ms, MvB m) {j : Nat} (hj : j ≤ 500) : (lineL ms j).length ≤ 80 := by
  have hn := num_len (n := j + 1) (by omega)
  unfold lineL
  rw [List.length_append, List.length_append]
  have hs : ∀ m ∈ (ms.drop (2 * j)).take 2, MvB m := fun m hm => h m (List.mem_of_mem_drop (List.mem_of_mem_take hm))
  have hl : ((ms.drop (2 * j)).take 2).length ≤ 2 := by rw [List.length_take]; omega
  have hc : cDot.length = 2 := rfl
  generalize (ms.drop (2 * j)).take 2 = xs at hs hl
  match xs, hl with
  | [], _ => simp [TL.joinL]; omega
  | [m], _ => have := tol_len' (hs m (by simp)); simp [TL.joinL]; omega
  | [m, m'], _ =>
    have := tol_len' (hs m (by simp))
    have := tol_len' (hs m' (by simp))
    simp [TL.joinL, cCom]
    omega
  | a :: b :: c :: r, hl => simp at hl
theorem recL_succ (ms : List Mv) (n : Nat) : recL ms (n + 1) = recL ms n ++ (lineL ms n ++ [10]) := by
  unfold recL
  rw [List.range_succ, List.flatMap_append]
  simp
theorem recL_len {ms : List Mv} (h : ∀ m ∈ ms, MvB m) : ∀ n : Nat, n ≤ 500 → (recL ms n).length ≤ 81 * n
  | 0, _ => by simp [recL]
  | n + 1, hn => by
    rw [recL_succ, List.length_append, List.length_append]
    have := recL_len h n (by omega)
    have := lineL_len h (j := n) (by omega)
    simp
    omega
theorem fdiv_two (j : Nat) : fdivD (.int ((2 * j : Nat) : Int)) (.int 2) = some (.int (j : Int)) := by
  rw [fdiv_ii (by decide) (by decide)]
  congr 2
  omega
/-- a list or a tuple of moves -/
structure Cont (C : List D → D) : Prop where
  len : ∀ ds, lenD (C ds) = some (.int ds.length)
  cut : ∀ ds lo hi, sliceD (C ds) lo hi = some (C (cutD ds lo hi))
  seq : ∀ ds, seqD (C ds) = some ds
theorem contT : Cont PyData.tuple := ⟨fun _ => rfl, fun _ _ _ => rfl, fun _ => rfl⟩
theorem contL : Cont PyData.list := ⟨fun _ => rfl, fun _ _ _ => rfl, fun _ => rfl⟩
theorem join_texts {p : List Nat} {ys : List (List Nat)} (hs : (ys.map (·.length)).sum + ys.length * p.length ≤ 16777216) : joinD (.str (S p)) (.list (ys.map encW)) = some (.str (S (TL.joinL p ys))) := by
  show (strsOf _).bind _ = _
  have e : ys.map encW = (ys.map S).map PyData.str := by rw [List.map_map]; rfl
  rw [e, strsOf_map]
  show (if ((ys.map S).map (·.length)).sum + (ys.map S).length * (S p).length ≤ 16777216 then some (PyData.str (Txt.join (S p) (ys.map S))) else none) = _
  rw [lens, List.length_map, S_len, if_pos hs, join_S]
theorem record_ev {C : List D → D} (hC : Cont C) {ms : List Mv} (h : ∀ m ∈ ms, MvB m) (hl : ms.length ≤ 1000) : frecord_text [C (ms.map e3)] = .ok (.str (S (recL ms (rows ms)))) := by
  obtain ⟨e', h1, s2, hE⟩ := forL_inv (enc := fun j : Nat => PyData.int ((2 * j : Nat) : Int)) (f := gn 2) (B := lbrecord_text_1) (fun pre e => ∃ s2, e = [.dat (C (ms.map e3)), .dat (.str (S (recL ms pre.length))), s2, .un]) (List.range (rows ms)) []
    [.dat (C (ms.map e3)), .dat (.str (S [])), .un, .un] ⟨_, rfl⟩ fun pre j rest e q ⟨s2, he⟩ => by
      subst he
      rw [List.nil_append] at q
      have hj : j = pre.length := by
        have := congrArg (fun l => l[pre.length]?) q
        simp only [List.getElem?_append_right (Nat.le_refl _), Nat.sub_self, List.getElem?_cons_zero] at this
        rw [List.getElem?_range (by
          have := congrArg List.length q
          rw [List.length_range, List.length_append, List.length_cons] at this
          omega)] at this
        exact (Option.some.inj this).symm
      have hjl : j < rows ms := by
        have : j ∈ List.range (rows ms) := by rw [q]; simp
        exact List.mem_range.mp this
      have h2j : 2 * j ≤ ms.length := by unfold rows at hjl; omega
      have hj5 : j ≤ 500 := by omega
      subst hj
      refine ⟨_, [.dat (C (ms.map e3)), .dat (.str (S (recL ms (pre.length + 1)))), .dat (.int ((2 * pre.length : Nat) : Int)), .un], rfl, .inl ?_, _, by rw [List.length_append]; rfl⟩
      generalize pre.length = j at *
      have hs : ∀ m ∈ (ms.drop (2 * j)).take 2, MvB m := fun m hm => h m (List.mem_of_mem_drop (List.mem_of_mem_take hm))
      have cu : cutD (ms.map e3) (some ((2 * j : Nat) : Int)) (some (((2 * j : Nat) : Int) + 2)) = ((ms.drop (2 * j)).take 2).map e3 := by
        rw [cut_two _ _ (by rw [List.length_map]; exact h2j), ← List.map_drop, ← List.map_take]
      have fd := fdiv_two j
      generalize ((2 * j : Nat) : Int) = I at cu fd ⊢
      have q1 : qrecord_text_1 [.dat (C (ms.map e3)), .dat (.str (S (recL ms j))), .dat (.int I), .un] = .ok ((((ms.drop (2 * j)).take 2).map tolL).map encW) := by
        unfold qrecord_text_1
        rw [xlc_all (enc := e3) (xs := (ms.drop (2 * j)).take 2) (fun m => .str (S (tolL m))) (by simp [-List.map_take, -List.map_drop, hC.cut, cu, hC.seq]) (by rw [List.length_take]; omega) fun m hm => ⟨_, rfl, rfl, by
          have := told_ok (hs m hm)
          generalize ftold = F1 at this ⊢
          simp [wipeE, this]⟩, List.map_map]
        rfl
      have hlt : ((ms.drop (2 * j)).take 2).length ≤ 2 := by rw [List.length_take]; omega
      have jn : xmt ["str"] joinD (xc (.str ", ")) (asL qrecord_text_1) [.dat (C (ms.map e3)), .dat (.str (S (recL ms j))), .dat (.int I), .un] = .ok (.str (S (TL.joinL cCom (((ms.drop (2 * j)).take 2).map tolL)))) := by
        rw [xmt_s (x := S cCom) (y := .list ((((ms.drop (2 * j)).take 2).map tolL).map encW)) (by rw [← s_com]; rfl) (by rw [asL_ev, q1]; rfl), join_texts ?_]
        · rfl
        · have : ((((ms.drop (2 * j)).take 2).map tolL).map (·.length)).sum ≤ 60 := by
            generalize (ms.drop (2 * j)).take 2 = xs at hs hlt
            match xs, hlt with
            | [], _ => simp
            | [m], _ => have := tol_len' (hs m (by simp)); simp; omega
            | [m, m'], _ =>
              have := tol_len' (hs m (by simp))
              have := tol_len' (hs m' (by simp))
              simp; omega
            | a :: b :: c :: r, hl => simp at hl
          rw [List.length_map, show cCom.length = 2 from rfl]
          omega
      have ll := lineL_len h hj5
      have rl := recL_len h j hj5
      have sn := strD_nat (n := j + 1) (by omega)
      have nn : ((j + 1 : Nat) : Int) = (j : Int) + 1 := by omega
      rw [nn] at sn
      rw [recL_succ]
      unfold lineL at ll ⊢
      generalize TL.joinL cCom (((ms.drop (2 * j)).take 2).map tolL) = J at jn ll
      generalize recL ms j = R at rl q1 jn
      generalize TL.numL (j + 1) = N at sn ll
      rw [List.length_append, List.length_append] at ll
      have a1 : addD (.str (S R)) (.str (S N)) = some (.str (S (R ++ N))) := add_SS (by omega)
      have a2 : addD (.str (S (R ++ N))) (.str (S cDot)) = some (.str (S (R ++ N ++ cDot))) := add_SS (by rw [List.length_append]; omega)
      have a3 : addD (.str (S (R ++ N ++ cDot))) (.str (S J)) = some (.str (S (R ++ N ++ cDot ++ J))) := add_SS (by rw [List.length_append, List.length_append]; omega)
      have a4 : addD (.str (S (R ++ N ++ cDot ++ J))) (.str (S [10])) = some (.str (S (R ++ N ++ cDot ++ J ++ [10]))) := add_SS (by simp only [List.length_append, List.length_singleton]; omega)
      have fin : R ++ N ++ cDot ++ J ++ [10] = R ++ (N ++ (cDot ++ J) ++ [10]) := by simp only [List.append_assoc]
      rw [fin] at a4
      generalize R ++ (N ++ (cDot ++ J) ++ [10]) = out at a4 ⊢
      generalize R ++ N ++ cDot ++ J = p3 at a3 a4
      generalize R ++ N ++ cDot = p2 at a2 a3
      generalize R ++ N = p1 at a1 a2
      unfold lbrecord_text_1
      simp [fd, sn, s_dot, s_nl, a1, a2, a3, a4, jn]
  subst hE
  have hl' : lrecord_text_1 [.dat (C (ms.map e3)), .dat (.str (S [])), .un, .un] = .nx _ := sfor_nx (irng3_of (i := 0) (j := (ms.length : Int)) (c := 2) rfl (by rw [un1_ev, xvV_ev, getV_z, bind_ok, hC.len, List.length_map]; rfl) rfl (rng3_ev hl)) h1
  apply runD_rt
  rw [List.nil_append, List.length_range] at hl'
  simp [brecord_text, startE, s_nil, hl']
theorem tol_free {m : Mv} {c : Nat} (hc : c < 48 ∨ 57 < c) (h1 : c ∉ cLay) (h2 : c ∉ cLead) (h3 : c ∉ cTake) (h4 : c ≠ 32) : c ∉ tolL m := by
  have fr : ∀ n, c ∉ TL.numL n := fun n hn => by
    have := TL.numL_digits n c hn
    omega
  unfold tolL
  intro hm
  rcases List.mem_append.mp hm with hm | hm
  · split at hm
    · rcases List.mem_append.mp hm with hm | hm
      · rcases List.mem_append.mp hm with hm | hm
        · rcases List.mem_append.mp hm with hm | hm
          · exact h2 hm
          · exact fr _ hm
        · exact h4 (List.mem_singleton.mp hm)
      · exact fr _ hm
    · rcases List.mem_append.mp hm with hm | hm
      · exact h1 hm
      · exact fr _ hm
  · split at hm
    · rcases List.mem_append.mp hm with hm | hm
      · exact h3 hm
      · exact fr _ hm
    · cases hm
theorem tol_com (m : Mv) : 44 ∉ tolL m := tol_free (by omega) (by decide) (by decide) (by decide) (by decide)
theorem tol_nl (m : Mv) : 10 ∉ tolL m := tol_free (by omega) (by decide) (by decide) (by decide) (by decide)
theorem join_free {c : Nat} {p : List Nat} (hp : c ∉ p) : ∀ {xs : List (List Nat)}, (∀ x ∈ xs, c ∉ x) → c ∉ TL.joinL p xs
  | [], _ => by simp [TL.joinL]
  | [x], h => by simpa [TL.joinL] using h x (by simp)
  | x :: y :: r, h => by
    rw [joinL_cons (by simp)]
    intro hm
    rcases List.mem_append.mp hm with hm | hm
    · exact h x (by simp) hm
    · rcases List.mem_append.mp hm with hm | hm
      · exact hp hm
      · exact join_free hp (fun z hz => h z (List.mem_cons_of_mem _ hz)) hm
theorem line_nl (ms : List Mv) (j : Nat) : 10 ∉ lineL ms j := by
  unfold lineL
  intro hm
  rcases List.mem_append.mp hm with hm | hm
  · have := TL.numL_digits _ _ hm
    omega
  · rcases List.mem_append.mp hm with hm | hm
    · exact absurd hm (by decide)
    · refine join_free (by decide) (fun x hx => ?_) hm
      obtain ⟨m, _, rfl⟩ := List.mem_map.mp hx
      exact tol_nl m
theorem join_sg {p : List Nat} (hp : Sg p) : ∀ {xs : List (List Nat)}, (∀ x ∈ xs, Sg x) → Sg (TL.joinL p xs)
  | [], _ => fun c hc => absurd hc (by simp [TL.joinL])
  | [x], h => h x (by simp)
  | x :: y :: r, h => by
    rw [joinL_cons (by simp)]
    exact (h x (by simp)).app (hp.app (join_sg hp fun z hz => h z (List.mem_cons_of_mem _ hz)))
theorem line_sg (ms : List Mv) (j : Nat) : Sg (lineL ms j) := by
  unfold lineL
  refine (Sg.num _).app (Sg.app (Sg.of (by decide)) (join_sg (Sg.of (by decide)) fun x hx => ?_))
  obtain ⟨m, _, rfl⟩ := List.mem_map.mp hx
  exact tol_sg m
theorem rec_sg (ms : List Mv) (n : Nat) : Sg (recL ms n) := fun c hc => by
  unfold recL at hc
  obtain ⟨j, _, hj⟩ := List.mem_flatMap.mp hc
  exact ((line_sg ms j).app (Sg.of (a := [10]) (by decide))) c hj
theorem rec_join (ms : List Mv) (n : Nat) : recL ms n = TL.joinL [10] ((List.range n).map (lineL ms) ++ [[]]) := by
  have gen : ∀ xs : List (List Nat), (xs.flatMap fun x => x ++ [10]) = TL.joinL [10] (xs ++ [[]]) := by
    intro xs
    induction xs with
    | nil => rfl
    | cons x xs ih =>
      rw [List.flatMap_cons, ih, List.cons_append, joinL_cons (by simp), List.append_assoc]
  rw [← gen, List.flatMap_map]
  rfl
theorem cut_end {α : Type} (xs : List α) (x : α) : cutD (xs ++ [x]) none (some (-1)) = xs := by
  unfold cutD
  rw [HT.sIx_none, List.length_append, List.length_singleton]
  have : HT.sIx (xs.length + 1) (xs.length + 1) (some (-1)) = xs.length := by
    unfold HT.sIx
    simp
    omega
  rw [this, List.drop_zero, Nat.sub_zero, List.take_left']
  rfl
theorem rr_spl (ms : List Mv) (n : Nat) : TL.spl [10] 0 [] (TL.joinL [10] ((List.range n).map (lineL ms) ++ [[]])) = (List.range n).map (lineL ms) ++ [[]] := by
  refine spl_join (c := 10) (sep := []) (by simp) fun p hp => ?_
  rcases List.mem_append.mp hp with hp | hp
  · obtain ⟨j, _, rfl⟩ := List.mem_map.mp hp
    exact line_nl ms j
  · rw [List.mem_singleton.mp hp]; simp
theorem rr_split {ms : List Mv} (h : ∀ m ∈ ms, MvB m) (hl : ms.length ≤ 1000) : splitN (.str (S (recL ms (rows ms)))) (.str (S [10])) = some (((List.range (rows ms)).map (lineL ms) ++ [[]]).map encW) := by
  have hr : rows ms ≤ 500 := by unfold rows; omega
  have rl := recL_len h (rows ms) hr
  have hl : (recL ms (rows ms)).length ≤ 1000000 := by omega
  have sj : TL.spl [10] 0 [] (recL ms (rows ms)) = (List.range (rows ms)).map (lineL ms) ++ [[]] := (congrArg (TL.spl [10] 0 []) (rec_join ms (rows ms))).trans (rr_spl ms (rows ms))
  rw [← sj]
  exact split_ev (by decide) (by decide) hl
theorem lmove_ev (c : Int) : ∃ m : Mv, MvB m ∧ f_law_move [.int c] = .ok (e3 m) := by
  have m1 := mix_ev (c := c) (p := 9619) (m := 25) (by decide) (by decide) (by decide)
  have l1 := mix_lo (c := c) (p := 9619) (m := 25) (by decide)
  have u1 := mix_hi (c := c) (p := 9619) (m := 25) (by decide)
  have m2 := mix_ev (c := c) (p := 9613) (m := 24) (by decide) (by decide) (by decide)
  have l2 := mix_lo (c := c) (p := 9613) (m := 24) (by decide)
  have u2 := mix_hi (c := c) (p := 9613) (m := 24) (by decide)
  have m3 := mix_ev (c := c) (p := 9587) (m := 3) (by decide) (by decide) (by decide)
  have m4 := mix_ev (c := c) (p := 9601) (m := 24) (by decide) (by decide) (by decide)
  have l4 := mix_lo (c := c) (p := 9601) (m := 24) (by decide)
  have u4 := mix_hi (c := c) (p := 9601) (m := 24) (by decide)
  have m5 := mix_ev (c := c) (p := 9551) (m := 2) (by decide) (by decide) (by decide)
  generalize mixI c 9619 25 = a at *
  generalize mixI c 9613 24 = b at *
  generalize mixI c 9587 3 = k at *
  generalize mixI c 9601 24 = t at *
  generalize mixI c 9551 2 = g at *
  refine ⟨(if g = 0 then -1 else a - 1, b, if k = 0 then t else -1), ⟨?_, ?_, l2, by simp only; omega, ?_, ?_⟩, ?_⟩
  · simp only; split <;> omega
  · simp only; split <;> omega
  · simp only; split <;> omega
  · simp only; split <;> omega
  · apply runD_rt
    unfold b_law_move
    generalize f_law_mix = F1 at *
    by_cases hg : g = 0 <;> by_cases hk : k = 0 <;> simp [startE, m1, m2, m3, m4, m5, hg, hk, e3, f3, tJ, spar2]
end M29
/-! Tx4: written, read -/
namespace Pf
open PySem L2 Pu SX
def sgn : Option Int → Nat
  | none => 46
  | some i => if i = 0 then 120 else 111
def wrL (s : Sd) : List Nat := s.men.map sgn ++ ([32] ++ TL.numL s.l0.toNat ++ [32] ++ TL.numL s.l1.toNat ++ [32] ++ [sgn (some s.turn)])
theorem look_sgn {m : Option Int} (h : ManOk m) : lookT tSIGNS (oM m) = some (.str (S [sgn m])) := by
  rcases h with rfl | rfl | rfl
  · show some (PyData.str (Str.ofString ".")) = _
    rw [str_S]; rfl
  · show some (PyData.str (Str.ofString "x")) = _
    rw [str_S]; rfl
  · show some (PyData.str (Str.ofString "o")) = _
    rw [str_S]; rfl
theorem joinL_one (l : List Nat) : TL.joinL [] (l.map fun c => [c]) = l := by
  induction l with
  | nil => rfl
  | cons c l ih =>
    cases l with
    | nil => rfl
    | cons d l =>
      rw [List.map_cons, joinL_cons (by simp), ih]
      rfl
theorem join_signs (l : List Nat) (hl : l.length ≤ 1000) : joinD (.str (S [])) (.list (l.map fun c => .str (S [c]))) = some (.str (S l)) := by
  show (strsOf _).bind _ = _
  have e : (l.map fun c => (PyData.str (S [c]))) = ((l.map fun c => [c]).map S).map PyData.str := by rw [List.map_map, List.map_map]; rfl
  rw [e, strsOf_map]
  show (if ((((l.map fun c => [c]).map S).map (·.length)).sum + ((l.map fun c => [c]).map S).length * (S []).length ≤ 16777216) then some (PyData.str (Txt.join (S []) ((l.map fun c => [c]).map S))) else none) = _
  have hs : (((l.map fun c => [c]).map S).map (·.length)).sum ≤ 1000 := by
    rw [lens, List.map_map]
    have : (l.map ((fun x => x.length) ∘ fun c : Nat => [c])).sum = l.length := by
      clear hl e
      induction l with
      | nil => rfl
      | cons c l ih => rw [List.map_cons, List.sum_cons, ih, List.length_cons]; simp; omega
    omega
  rw [if_pos (by rw [S_len, List.length_nil, Nat.mul_zero]; omega), join_S, joinL_one]
theorem written_ev {s : Sd} (hm : ∀ m ∈ s.men, ManOk m) (hl : s.men.length ≤ 100) (h0 : 0 ≤ s.l0 ∧ s.l0 ≤ 9) (h1 : 0 ≤ s.l1 ∧ s.l1 ≤ 9) (ht : s.turn = 0 ∨ s.turn = 1) : fwritten [encS s] = .ok (.str (S (wrL s))) := by
  have q1 : qwritten_1 [.dat (encS s), .dat (encM s.men), .dat (.tuple [.int s.l0, .int s.l1]), .dat (.int s.turn), .un, .un] = .ok ((s.men.map sgn).map fun c => .str (S [c])) := by
    unfold qwritten_1
    rw [xlc_all (enc := oM) (xs := s.men) (fun m => .str (S [sgn m])) (by simp [encM]) (by omega) fun m hm' => ⟨_, rfl, rfl, by simp [wipeE, look_sgn (hm m hm')]⟩, List.map_map]
    rfl
  have jn : xmt ["str"] joinD (xc (.str "")) (asL qwritten_1) [.dat (encS s), .dat (encM s.men), .dat (.tuple [.int s.l0, .int s.l1]), .dat (.int s.turn), .un, .un] = .ok (.str (S (s.men.map sgn))) := by
    rw [xmt_s (x := S []) (y := .list ((s.men.map sgn).map fun c => .str (S [c]))) (by rw [← s_nil]; rfl) (by simp [-List.map_map, q1]), join_signs _ (by rw [List.length_map]; omega)]
    rfl
  have gt : gtup (gcons (gn 1) (gcons (gn 2) (gcons (gn 3) gnil))) (encS s) [.dat (encS s), .un, .un, .un, .un, .un] = some [.dat (encS s), .dat (encM s.men), .dat (.tuple [.int s.l0, .int s.l1]), .dat (.int s.turn), .un, .un] := rfl
  have tk : ManOk (some s.turn) := by rcases ht with h | h <;> rw [h] <;> simp [ManOk]
  have lt : lookT tSIGNS (.int s.turn) = some (.str (S [sgn (some s.turn)])) := look_sgn tk
  have d0 := strD_pos h0.1 (by omega)
  have d1 := strD_pos h1.1 (by omega)
  have n0 := num_len (n := s.l0.toNat) (by omega)
  have n1 := num_len (n := s.l1.toNat) (by omega)
  have hg : (s.men.map sgn).length ≤ 100 := by rw [List.length_map]; exact hl
  have e : wrL s = s.men.map sgn ++ [32] ++ TL.numL s.l0.toNat ++ [32] ++ TL.numL s.l1.toNat ++ [32] ++ [sgn (some s.turn)] := by
    unfold wrL
    simp only [List.append_assoc]
  generalize s.men.map sgn = g at hg jn e
  have a1 : addD (.str (S g)) (.str (S [32])) = some (.str (S (g ++ [32]))) := add_SS (by simp; omega)
  have a2 : addD (.str (S (g ++ [32]))) (.str (S (TL.numL s.l0.toNat))) = some (.str (S (g ++ [32] ++ TL.numL s.l0.toNat))) := add_SS (by simp; omega)
  have a3 : addD (.str (S (g ++ [32] ++ TL.numL s.l0.toNat))) (.str (S [32])) = some (.str (S (g ++ [32] ++ TL.numL s.l0.toNat ++ [32]))) := add_SS (by simp; omega)
  have a4 : addD (.str (S (g ++ [32] ++ TL.numL s.l0.toNat ++ [32]))) (.str (S (TL.numL s.l1.toNat))) = some (.str (S (g ++ [32] ++ TL.numL s.l0.toNat ++ [32] ++ TL.numL s.l1.toNat))) := add_SS (by simp; omega)
  have a5 : addD (.str (S (g ++ [32] ++ TL.numL s.l0.toNat ++ [32] ++ TL.numL s.l1.toNat))) (.str (S [32])) = some (.str (S (g ++ [32] ++ TL.numL s.l0.toNat ++ [32] ++ TL.numL s.l1.toNat ++ [32]))) := add_SS (by simp; omega)
  have a6 : addD (.str (S (g ++ [32] ++ TL.numL s.l0.toNat ++ [32] ++ TL.numL s.l1.toNat ++ [32]))) (.str (S [sgn (some s.turn)])) = some (.str (S (g ++ [32] ++ TL.numL s.l0.toNat ++ [32] ++ TL.numL s.l1.toNat ++ [32] ++ [sgn (some s.turn)]))) := add_SS (by simp; omega)
  rw [e]
  apply runD_rt
  simp only [bwritten, startE]
  simp [-List.append_assoc, gt, jn, s_sp, d0, d1, lt, a1, a2, a3, a4, a5, a6]
/-! ### read -/
def isMan (c : Nat) : Bool := c == 46 || c == 120 || c == 111
def manO (c : Nat) : Option Int := if c = 46 then none else if c = 120 then some 0 else some 1
def dig1 (w : List Nat) : Bool := decide (w.length = 1) && digs w
theorem men_eq : tMEN = [(.str (S [46]), .none), (.str (S [120]), .int 0), (.str (S [111]), .int 1)] := by
  unfold tMEN
  rw [str_S, str_S, str_S]
  rfl
theorem seek_men (c : Nat) : seekT tMEN (some (.inr (S [c]))) = if c = 46 then some .none else if c = 120 then some (.int 0) else if c = 111 then some (.int 1) else none := by
  rw [men_eq]
  have k : ∀ d : Nat, decide (keyV (.str (S [d])) = some (some (.inr (S [c])))) = decide (d = c) := fun d => by
    rw [decide_eq_decide]
    constructor
    · intro h
      have h1 : (some (some (Sum.inr (S [d]))) : Option (Option Key)) = some (some (.inr (S [c]))) := h
      injection h1 with h1
      injection h1 with h1
      injection h1 with h1
      have := S_inj h1
      injection this
    · intro h; rw [h]; rfl
  unfold seekT
  simp only [List.find?_cons, k]
  by_cases h1 : c = 46
  · subst h1; rfl
  · have h1' : ¬ 46 = c := fun z => h1 z.symm
    simp only [h1, h1', decide_false, if_false]
    by_cases h2 : c = 120
    · subst h2; rfl
    · have h2' : ¬ 120 = c := fun z => h2 z.symm
      simp only [h2, h2', decide_false, if_false]
      by_cases h3 : c = 111
      · subst h3; rfl
      · have h3' : ¬ 111 = c := fun z => h3 z.symm
        simp only [h3, h3', decide_false, if_false]
        rfl
theorem has_men (c : Nat) : hasT tMEN (.str ⟨#[c]⟩) = some (.bool (isMan c)) := by
  show some (PyData.bool (seekT tMEN (some (.inr (S [c])))).isSome) = _
  rw [seek_men]
  congr 2
  unfold isMan
  by_cases h1 : c = 46
  · simp [h1]
  · by_cases h2 : c = 120
    · simp [h2]
    · by_cases h3 : c = 111
      · simp [h3]
      · simp [h1, h2, h3]
theorem look_men {c : Nat} (h : isMan c = true) : lookT tMEN (.str ⟨#[c]⟩) = some (oM (manO c)) := by
  show seekT tMEN (some (.inr (S [c]))) = _
  rw [seek_men]
  unfold manO
  unfold isMan at h
  simp at h
  rcases h with (h | h) | h <;> subst h <;> rfl
def rdW (n : Int) (ws : List (List Nat)) : Option Sd := match ws with
  | [w, x, y, z] => if (w.all isMan = true ∧ (z = [120] ∨ z = [111])) ∧ (dig1 x = true ∧ dig1 y = true) ∧ (w.length : Int) = n then some ⟨w.map manO, (NumText.digitsVal x : Nat), (NumText.digitsVal y : Nat), if z = [120] then 0 else 1⟩ else none
  | _ => none
def rdL (n : Int) (t : List Nat) : Option Sd := rdW n (TL.spl [32] 0 [] t)
def ansS (o : Option Sd) : R D := match o with
  | some s => .ok (encS s)
  | none => .ex "NoText"
theorem manO_ok (c : Nat) : ManOk (manO c) := by
  unfold manO ManOk
  split
  · exact .inl rfl
  · split
    · exact .inr (.inl rfl)
    · exact .inr (.inr rfl)
theorem dig1_of {x : List Nat} (h : dig1 x = true) : ∃ c, x = [c] ∧ 48 ≤ c ∧ c ≤ 57 ∧ NumText.digitsVal x = c - 48 := by
  unfold dig1 at h
  rw [Bool.and_eq_true] at h
  match x, of_decide_eq_true h.1 with
  | [c], _ =>
    have := h.2
    simp [digs] at this
    exact ⟨c, rfl, this.1, this.2, by simp [NumText.digitsVal]⟩
theorem in_dig1 {x : List Nat} (hx : x.length = 1) : inD (.str (S x)) (.str (S [48, 49, 50, 51, 52, 53, 54, 55, 56, 57])) = some (.bool (digs x)) := by
  match x, hx with
  | [c], _ =>
    rw [show (S [c] : Str) = ⟨#[c]⟩ from rfl, in_dig]
    simp [digs]
theorem not_in_xo {z : List Nat} (hz : Sg z) : notInD (.str (S z)) (.tuple [.str (S [120]), .str (S [111])]) = some (.bool (!(decide (z = [120]) || decide (z = [111])))) := by
  have sh : SeqAt.shaped (.tuple [.str (S [120]), .str (S [111])]) = true := (shp_tup (k := 0) fun d hd => by
    simp only [List.mem_cons, List.not_mem_nil, or_false] at hd
    rcases hd with rfl | rfl
    · exact shp_S (Sg.of (by decide))
    · exact shp_S (Sg.of (by decide))).shaped
  show ((if SeqAt.shaped (.str (S z)) && SeqAt.shaped (.tuple [.str (S [120]), .str (S [111])]) then some ([PyData.str (S [120]), .str (S [111])].any fun y => PyData.eqv y (.str (S z))) else none).map fun b => PyData.bool (!b)) = _
  rw [(shp_S hz).shaped, sh]
  simp only [Bool.and_self, if_true, List.any_cons, List.any_nil, Bool.or_false, eqv_S, Option.map_some]
  congr 3
  rw [Bool.eq_iff_iff]
  simp only [Bool.or_eq_true, decide_eq_true_eq]
  exact ⟨fun h => h.elim (fun e => .inl e.symm) fun e => .inr e.symm, fun h => h.elim (fun e => .inl e.symm) fun e => .inr e.symm⟩
end Pf
/-! Tx5: read -/
namespace Pf
open PySem L2 Pu SX
theorem ok_S (s : Sd) (hl : s.men.length ≤ 1000000) : okS (encS s) = true := by
  have h1 : (s.men.map oM).all noDc = true := by
    rw [List.all_eq_true]
    intro d hd
    obtain ⟨m, _, rfl⟩ := List.mem_map.mp hd
    cases m <;> rfl
  simp [okS, encS, encM, noDc, inS, -List.all_map, h1, hl]
theorem isSt_S {s : Sd} {n : Int} (hm : ∀ m ∈ s.men, ManOk m) (h0 : 0 ≤ s.l0 ∧ s.l0 ≤ 9) (h1 : 0 ≤ s.l1 ∧ s.l1 ≤ 9) (ht : s.turn = 0 ∨ s.turn = 1) : isSt n (encS s) = decide ((s.men.length : Int) = n) := by
  have a : (s.men.map oM).all isM2 = true := by
    rw [List.all_eq_true]
    intro d hd
    obtain ⟨m, hm', rfl⟩ := List.mem_map.mp hd
    rcases hm m hm' with rfl | rfl | rfl <;> rfl
  have t : isW 0 1 (.int s.turn) = true := by rcases ht with h | h <;> rw [h] <;> rfl
  have x : isW 0 9 (.int s.l0) = true := by simp [isW, h0]
  have y : isW 0 9 (.int s.l1) = true := by simp [isW, h1]
  show (isW 0 1 (.int s.turn) && decide (((s.men.map oM).length : Int) = n) && (s.men.map oM).all isM2 && isW 0 9 (.int s.l0) && isW 0 9 (.int s.l1)) = _
  rw [a, t, x, y, List.length_map]
  simp
theorem read_four {b : Bd} {t w x y z : List Nat} (hw : w.length ≤ 1000) (hx : x.length ≤ 1000) (hy : y.length ≤ 1000) (sz : Sg z) : finR ((sseq (sif (tor (xbl (bin neD (un1 lenD (xvV 2)) (xc (.int 4)))) (tor (tnot (xtru (un1 allD (asL qread_1)))) (xbl (bin notInD (bin ixD (xvV 2) (xc (.int 3))) (xtup (lcons (xc (.str "x")) (lcons (xc (.str "o")) lnil))))))) (srai "NoText") snil)
  (sseq (sif (tnot (xtru (un1 allD (asL qread_2)))) (srai "NoText") snil)
  (sseq (sasg 3 (xtup (lcons (un1 tupleD (asL qread_3)) (lcons (xtup (lcons (un1 intD (bin ixD (xvV 2) (xc (.int 1)))) (lcons (un1 intD (bin ixD (xvV 2) (xc (.int 2)))) lnil))) (lcons (un1 (lookT tMEN) (bin ixD (xvV 2) (xc (.int 3)))) lnil)))))
  (sseq (sif (tnot (xtru (xcall 2 fis_stand (lcons (xvE 0) (lcons (xvE 3) lnil))))) (srai "NoText") snil)
  (sret (xvE 3)))))) [.dat (encB b), .dat (.str (S t)), .dat (.list ([w, x, y, z].map encW)), .un, .un, .un]) = ansS (rdW b.n [w, x, y, z]) := by
  have i0 : ixD (.list ([w, x, y, z].map encW)) (.int 0) = some (.str (S w)) := ix_l (by decide) rfl
  have i1 : ixD (.list ([w, x, y, z].map encW)) (.int 1) = some (.str (S x)) := ix_l (by decide) rfl
  have i2 : ixD (.list ([w, x, y, z].map encW)) (.int 2) = some (.str (S y)) := ix_l (by decide) rfl
  have i3 : ixD (.list ([w, x, y, z].map encW)) (.int 3) = some (.str (S z)) := ix_l (by decide) rfl
  have sl : sliceD (.list ([w, x, y, z].map encW)) (some 1) (some 3) = some (.list ([x, y].map encW)) := rfl
  have ln : lenD (.list ([w, x, y, z].map encW)) = some (.int 4) := rfl
  have lx : ∀ {a : List Nat}, a.length ≤ 1000 → lenD (.str (S a)) = some (.int a.length) := fun {a} ha => by
    show (if (S a).length ≤ many then some (PyData.int ((S a).length : Nat)) else none) = _
    rw [S_len, if_pos (show a.length ≤ many by unfold many; omega)]
  have q1 : qread_1 [.dat (encB b), .dat (.str (S t)), .dat (.list ([w, x, y, z].map encW)), .un, .un, .un] = .ok ((w.map isMan).map PyData.bool) := by
    unfold qread_1
    exact xlc_bool (enc := signD) isMan (by simp [-List.map_cons, i0, seq_S]) (by omega) fun c hc => ⟨_, rfl, by simp [wipeE, signD, has_men]⟩
  have q2 : qread_2 [.dat (encB b), .dat (.str (S t)), .dat (.list ([w, x, y, z].map encW)), .un, .un, .un] = .ok (([x, y].map dig1).map PyData.bool) := by
    unfold qread_2
    refine xlc_bool (enc := encW) (xs := [x, y]) dig1 (by simp [-List.map_cons, sl]) (by simp) fun a ha => ⟨_, rfl, ?_⟩
    have hla : a.length ≤ 1000 := by
      simp only [List.mem_cons, List.not_mem_nil, or_false] at ha
      rcases ha with rfl | rfl <;> assumption
    by_cases h1 : a.length = 1
    · have h1' : (a.length : Int) = 1 := by omega
      simp [wipeE, encW, lx hla, h1', s_dig, in_dig1 h1, dig1, h1]
    · have h1' : ¬ (a.length : Int) = 1 := by omega
      simp [wipeE, encW, lx hla, h1', dig1, h1]
  have q3 : w.all isMan = true → qread_3 [.dat (encB b), .dat (.str (S t)), .dat (.list ([w, x, y, z].map encW)), .un, .un, .un] = .ok ((w.map manO).map oM) := by
    intro h
    unfold qread_3
    rw [xlc_all (enc := signD) (xs := w) (fun c => oM (manO c)) (by simp [-List.map_cons, i0, seq_S]) (by omega) fun c hc => ⟨_, rfl, rfl, by simp [wipeE, signD, look_men (List.all_eq_true.mp h c hc)]⟩, List.map_map]
    rfl
  have a1 := all_bools (w.map isMan)
  have e1 : (w.map isMan).all id = w.all isMan := by rw [List.all_map]; rfl
  rw [e1] at a1
  have a2 := all_bools ([x, y].map dig1)
  have e2 : ([x, y].map dig1).all id = (dig1 x && dig1 y) := by simp
  rw [e2] at a2
  have sx : Str.ofString "x" = S [120] := str_S _
  have so : Str.ofString "o" = S [111] := str_S _
  have nz := not_in_xo sz
  have hrE : rdW b.n [w, x, y, z] = if (w.all isMan = true ∧ (z = [120] ∨ z = [111])) ∧ (dig1 x = true ∧ dig1 y = true) ∧ (w.length : Int) = b.n then some (⟨w.map manO, (NumText.digitsVal x : Nat), (NumText.digitsVal y : Nat), if z = [120] then 0 else 1⟩ : Sd) else none := rfl
  generalize hL : [w, x, y, z].map encW = L at i0 i1 i2 i3 sl ln q1 q2 q3 ⊢
  generalize (w.map isMan).map PyData.bool = B1 at q1 a1
  generalize ([x, y].map dig1).map PyData.bool = B2 at q2 a2
  by_cases h1 : w.all isMan = true
  · rw [h1] at a1
    by_cases h2 : z = [120] ∨ z = [111]
    · have h2' : (!(decide (z = [120]) || decide (z = [111]))) = false := by
        rcases h2 with h | h <;> simp [h]
      rw [h2'] at nz
      by_cases h3 : dig1 x = true ∧ dig1 y = true
      · rw [h3.1, h3.2] at a2
        have q3' := q3 h1
        obtain ⟨c, ex, c1, c2, cv⟩ := dig1_of h3.1
        obtain ⟨d, ey, d1, d2, dv⟩ := dig1_of h3.2
        have ix : ∀ {a : List Nat}, dig1 a = true → intD (.str (S a)) = some (.int ((NumText.digitsVal a : Nat) : Int)) := fun {a} ha => by
          obtain ⟨c, e, _, _, _⟩ := dig1_of ha
          unfold dig1 at ha
          rw [Bool.and_eq_true] at ha
          show (if (S a).length ≤ 640 then (intText? (S a)).map PyData.int else none) = _
          rw [S_len, if_pos (by rw [e]; simp), int_S ha.2 (by rw [e]; simp) (by rw [e]; simp)]
          rfl
        have lz : lookT tMEN (.str (S z)) = some (.int (if z = [120] then 0 else 1)) := by
          rcases h2 with h | h
          · subst h; exact look_men (c := 120) (by decide)
          · subst h; exact look_men (c := 111) (by decide)
        have hst := is_stand_ev (b := b) (d := encS ⟨w.map manO, (NumText.digitsVal x : Nat), (NumText.digitsVal y : Nat), if z = [120] then 0 else 1⟩) (ok_S _ (by show (w.map manO).length ≤ 1000000; rw [List.length_map]; omega))
        rw [isSt_S (fun m hm => by obtain ⟨c, _, rfl⟩ := List.mem_map.mp hm; exact manO_ok c) (by simp only; omega) (by simp only; omega) (by simp only; split <;> simp)] at hst
        have es : encS ⟨w.map manO, (NumText.digitsVal x : Nat), (NumText.digitsVal y : Nat), if z = [120] then 0 else 1⟩ = .tuple [.tuple ((w.map manO).map oM), .tuple [.int (NumText.digitsVal x : Nat), .int (NumText.digitsVal y : Nat)], .int (if z = [120] then 0 else 1)] := rfl
        have ix1 := ix h3.1
        have ix2 := ix h3.2
        have hr : rdW b.n [w, x, y, z] = if (w.length : Int) = b.n then some ⟨w.map manO, (NumText.digitsVal x : Nat), (NumText.digitsVal y : Nat), if z = [120] then 0 else 1⟩ else none := by
          show (if (w.all isMan = true ∧ (z = [120] ∨ z = [111])) ∧ (dig1 x = true ∧ dig1 y = true) ∧ (w.length : Int) = b.n then some (⟨w.map manO, (NumText.digitsVal x : Nat), (NumText.digitsVal y : Nat), if z = [120] then 0 else 1⟩ : Sd) else none) = _
          by_cases h4 : (w.length : Int) = b.n
          · rw [if_pos h4, if_pos ⟨⟨h1, h2⟩, h3, h4⟩]
          · rw [if_neg h4, if_neg (fun q => h4 q.2.2)]
        rw [hr]
        have hlm : ((w.map manO).length : Int) = w.length := by rw [List.length_map]
        simp only [hlm] at hst
        generalize (if z = [120] then (0 : Int) else 1) = tn at lz hst es
        generalize ((NumText.digitsVal x : Nat) : Int) = vx at ix1 hst es
        generalize ((NumText.digitsVal y : Nat) : Int) = vy at ix2 hst es
        by_cases h4 : (w.length : Int) = b.n
        · rw [decide_eq_true h4] at hst
          rw [if_pos h4]
          simp [-List.map_map, i0, i1, i2, i3, ln, q1, a1, sx, so, nz, q2, a2, q3', ix1, ix2, lz, ← es, hst, finR, ansS]
        · rw [decide_eq_false h4] at hst
          rw [if_neg h4]
          simp [-List.map_map, i0, i1, i2, i3, ln, q1, a1, sx, so, nz, q2, a2, q3', ix1, ix2, lz, ← es, hst, finR, ansS]
      · have h3' : (dig1 x && dig1 y) = false := by
          cases hx1 : dig1 x <;> cases hy1 : dig1 y <;> simp_all
        rw [h3'] at a2
        have hr : rdW b.n [w, x, y, z] = none := by rw [hrE, if_neg fun q => h3 q.2.1]
        rw [hr]
        simp [-List.map_map, i3, ln, q1, a1, sx, so, nz, q2, a2, finR, ansS]
    · have h2' : (!(decide (z = [120]) || decide (z = [111]))) = true := by
        have n1 : ¬ z = [120] := fun q => h2 (.inl q)
        have n2 : ¬ z = [111] := fun q => h2 (.inr q)
        simp [n1, n2]
      rw [h2'] at nz
      have hr : rdW b.n [w, x, y, z] = none := by rw [hrE, if_neg fun q => h2 q.1.2]
      rw [hr]
      simp [-List.map_map, i3, ln, q1, a1, sx, so, nz, finR, ansS]
  · have h1' : w.all isMan = false := by simpa using h1
    rw [h1'] at a1
    have hr : rdW b.n [w, x, y, z] = none := by rw [hrE, if_neg fun q => h1 q.1.1]
    rw [hr]
    simp [-List.map_map, ln, q1, a1, finR, ansS]
theorem read_ev {b : Bd} {t : List Nat} (hg : Sg t) (hl : t.length ≤ 1000) : fread [encB b, .str (S t)] = ansS (rdL b.n t) := by
  have sp : xsplit (xvV 1) (xc (.str " ")) [.dat (encB b), .dat (.str (S t)), .un, .un, .un, .un] = .ok ((TL.spl [32] 0 [] t).map encW) := by
    rw [xsplit_s (x := S t) (y := .str (S [32])) rfl (by rw [← s_sp]; rfl), split_ev sp_ne (by decide) (by omega)]
    rfl
  have sg : ∀ w ∈ TL.spl [32] 0 [] t, Sg w := fun w hw => spl_sg sp_ne hg hw
  have ln : ∀ w ∈ TL.spl [32] 0 [] t, w.length ≤ 1000 := fun w hw => Nat.le_trans (spl_len sp_ne hw) hl
  unfold fread rdL
  rw [runD_fin]
  unfold bread
  generalize TL.spl [32] 0 [] t = ws at sp sg ln
  show finR (sseq _ _ [.dat (encB b), .dat (.str (S t)), .un, .un, .un, .un]) = _
  rw [sseq_ev]
  have e : sasg 2 (asL (xsplit (xvV 1) (xc (.str " ")))) [.dat (encB b), .dat (.str (S t)), .un, .un, .un, .un] = .nx [.dat (encB b), .dat (.str (S t)), .dat (.list (ws.map encW)), .un, .un, .un] := by
    simp [sp]
  rw [e, then_nx]
  have other : ws.length ≠ 4 → finR ((sseq (sif (tor (xbl (bin neD (un1 lenD (xvV 2)) (xc (.int 4)))) (tor (tnot (xtru (un1 allD (asL qread_1)))) (xbl (bin notInD (bin ixD (xvV 2) (xc (.int 3))) (xtup (lcons (xc (.str "x")) (lcons (xc (.str "o")) lnil))))))) (srai "NoText") snil)
    (sseq (sif (tnot (xtru (un1 allD (asL qread_2)))) (srai "NoText") snil)
    (sseq (sasg 3 (xtup (lcons (un1 tupleD (asL qread_3)) (lcons (xtup (lcons (un1 intD (bin ixD (xvV 2) (xc (.int 1)))) (lcons (un1 intD (bin ixD (xvV 2) (xc (.int 2)))) lnil))) (lcons (un1 (lookT tMEN) (bin ixD (xvV 2) (xc (.int 3)))) lnil)))))
    (sseq (sif (tnot (xtru (xcall 2 fis_stand (lcons (xvE 0) (lcons (xvE 3) lnil))))) (srai "NoText") snil)
    (sret (xvE 3)))))) [.dat (encB b), .dat (.str (S t)), .dat (.list (ws.map encW)), .un, .un, .un]) = .ex "NoText" := fun h => by
    have h' : ¬ (ws.length : Int) = 4 := by omega
    simp [h', finR]
  match ws, sg, ln, other with
  | [], _, _, other => exact other (by simp)
  | [w], _, _, other => exact other (by simp)
  | [w, x], _, _, other => exact other (by simp)
  | [w, x, y], _, _, other => exact other (by simp)
  | [w, x, y, z], sg, ln, _ => exact read_four (ln w (by simp)) (ln x (by simp)) (ln y (by simp)) (sg z (by simp))
  | w :: x :: y :: z :: v :: r, _, _, other => exact other (by simp)
/-! ### the way back -/
theorem sgn_manO {c : Nat} (h : isMan c = true) : sgn (manO c) = c := by
  unfold isMan at h
  simp at h
  rcases h with (h | h) | h <;> subst h <;> rfl
theorem manO_sgn {m : Option Int} (h : ManOk m) : manO (sgn m) = m := by
  rcases h with rfl | rfl | rfl <;> rfl
theorem isMan_sgn (m : Option Int) : isMan (sgn m) = true := by
  cases m with
  | none => rfl
  | some i => show isMan (if i = 0 then 120 else 111) = true; split <;> rfl
theorem num_dig {c : Nat} (h1 : 48 ≤ c) (h2 : c ≤ 57) : TL.numL (c - 48) = [c] := by
  rw [TL.numL_lt (by omega)]
  congr 1
  omega
structure Sd.Rd (n : Int) (s : Sd) : Prop where
  len : (s.men.length : Int) = n
  man : ∀ m ∈ s.men, ManOk m
  l0 : 0 ≤ s.l0 ∧ s.l0 ≤ 9
  l1 : 0 ≤ s.l1 ∧ s.l1 ≤ 9
  turn : s.turn = 0 ∨ s.turn = 1
theorem rdL_some {n : Int} {t : List Nat} {s : Sd} (h : rdL n t = some s) : wrL s = t ∧ s.Rd n := by
  unfold rdL rdW at h
  split at h
  · rename_i w x y z hw
    split at h
    · rename_i c
      cases h
      obtain ⟨⟨c1, c2⟩, ⟨c3, c4⟩, c5⟩ := c
      obtain ⟨cx, ex, x1, x2, xv⟩ := dig1_of c3
      obtain ⟨cy, ey, y1, y2, yv⟩ := dig1_of c4
      have hj := join_spl sp_ne t.length t [] (Nat.le_refl _)
      rw [hw, List.nil_append] at hj
      refine ⟨?_, by simp only [List.length_map]; exact c5, fun m hm => by obtain ⟨c, _, rfl⟩ := List.mem_map.mp hm; exact manO_ok c, by simp only; omega, by simp only; omega, by simp only; split <;> simp⟩
      rw [← hj]
      unfold wrL
      have e1 : (w.map manO).map sgn = w := by
        rw [List.map_map]
        conv => rhs; rw [← List.map_id w]
        exact List.map_congr_left fun c hc => sgn_manO (List.all_eq_true.mp c1 c hc)
      have e2 : sgn (some (if z = [120] then (0 : Int) else 1)) = z.headD 0 ∧ z = [z.headD 0] := by
        rcases c2 with h | h <;> subst h <;> exact ⟨rfl, rfl⟩
      simp only [e1, Int.toNat_natCast, e2.1]
      rw [xv, yv, num_dig x1 x2, num_dig y1 y2, ex, ey]
      simp only [TL.joinL]
      conv => rhs; rw [e2.2]
      simp
    · cases h
  · cases h
theorem rdL_wr {n : Int} {s : Sd} (h : s.Rd n) : rdL n (wrL s) = some s := by
  have fr : ∀ k, 32 ∉ TL.numL k := fun k => TL.numL_free (by omega)
  have n0 : TL.numL s.l0.toNat = [48 + s.l0.toNat] := TL.numL_lt (by have := h.l0; omega)
  have n1 : TL.numL s.l1.toNat = [48 + s.l1.toNat] := TL.numL_lt (by have := h.l1; omega)
  have e : wrL s = TL.joinL [32] [s.men.map sgn, TL.numL s.l0.toNat, TL.numL s.l1.toNat, [sgn (some s.turn)]] := by
    unfold wrL
    simp [TL.joinL]
  have ns : ∀ m : Option Int, sgn m ≠ 32 := fun m => by
    cases m with
    | none => decide
    | some i => show (if i = 0 then 120 else 111) ≠ 32; split <;> decide
  unfold rdL
  rw [e, spl_join (by simp) (fun p hp => by
    simp only [List.mem_cons, List.not_mem_nil, or_false] at hp
    rcases hp with rfl | rfl | rfl | rfl
    · intro hc; obtain ⟨m, _, hm⟩ := List.mem_map.mp hc; exact ns m hm
    · exact fr _
    · exact fr _
    · intro hc; exact ns _ (List.mem_singleton.mp hc).symm)]
  have d : ∀ k : Int, 0 ≤ k ∧ k ≤ 9 → dig1 [48 + k.toNat] = true ∧ NumText.digitsVal [48 + k.toNat] = k.toNat := fun k hk => by
    constructor
    · simp [dig1, digs]; omega
    · simp [NumText.digitsVal]
  obtain ⟨d0, v0⟩ := d _ h.l0
  obtain ⟨d1, v1⟩ := d _ h.l1
  rw [n0, n1]
  have tz : ([sgn (some s.turn)] : List Nat) = [120] ∨ ([sgn (some s.turn)] : List Nat) = [111] := by
    rcases h.turn with q | q <;> rw [q] <;> simp [sgn]
  have tv : (if ([sgn (some s.turn)] : List Nat) = [120] then (0 : Int) else 1) = s.turn := by
    rcases h.turn with q | q <;> rw [q] <;> simp [sgn]
  have em : (s.men.map sgn).map manO = s.men := by
    rw [List.map_map]
    conv => rhs; rw [← List.map_id s.men]
    exact List.map_congr_left fun m hm => manO_sgn (h.man m hm)
  have al : (s.men.map sgn).all isMan = true := by
    rw [List.all_eq_true]
    intro c hc
    obtain ⟨m, _, rfl⟩ := List.mem_map.mp hc
    exact isMan_sgn m
  show (if ((s.men.map sgn).all isMan = true ∧ (([sgn (some s.turn)] : List Nat) = [120] ∨ ([sgn (some s.turn)] : List Nat) = [111])) ∧ (dig1 [48 + s.l0.toNat] = true ∧ dig1 [48 + s.l1.toNat] = true) ∧ (((s.men.map sgn).length : Nat) : Int) = n then some (⟨(s.men.map sgn).map manO, (NumText.digitsVal [48 + s.l0.toNat] : Nat), (NumText.digitsVal [48 + s.l1.toNat] : Nat), if ([sgn (some s.turn)] : List Nat) = [120] then 0 else 1⟩ : Sd) else none) = _
  rw [if_pos ⟨⟨al, tz⟩, ⟨d0, d1⟩, by rw [List.length_map]; exact h.len⟩, em, tv, v0, v1, Int.toNat_of_nonneg h.l0.1, Int.toNat_of_nonneg h.l1.1]
theorem wr_sg (s : Sd) : Sg (wrL s) := by
  have a : ∀ m : Option Int, sgn m < 1114112 := fun m => by
    cases m with
    | none => decide
    | some i => show (if i = 0 then 120 else 111) < 1114112; split <;> decide
  have l4 : Sg [32] := Sg.of (by decide)
  unfold wrL
  refine Sg.app (fun c hc => by obtain ⟨m, _, rfl⟩ := List.mem_map.mp hc; exact a m) ?_
  exact ((((l4.app (Sg.num _)).app l4).app (Sg.num _)).app l4).app fun c hc => by rw [List.mem_singleton.mp hc]; exact a _
theorem wr_len {n : Int} {s : Sd} (h : s.Rd n) : ((wrL s).length : Int) = n + 6 := by
  have n0 : TL.numL s.l0.toNat = [48 + s.l0.toNat] := TL.numL_lt (by have := h.l0; omega)
  have n1 : TL.numL s.l1.toNat = [48 + s.l1.toNat] := TL.numL_lt (by have := h.l1; omega)
  have := h.len
  unfold wrL
  rw [n0, n1]
  simp
  omega
end Pf
/-! Re: any text read as a record -/
namespace M29
open PySem L2 Pu Pf SX
/-! ### parts of texts -/
theorem spl_many (sep : List Nat) : ∀ (t : List Nat) (k : Nat) (acc : List Nat), (TL.spl sep k acc t).length ≤ t.length + 1
  | [], k, acc => by rw [TL.spl_nil]; simp
  | c :: r, 0, acc => by
    cases h : TL.pre sep (c :: r) with
    | true => rw [TL.spl_hit h, List.length_cons, List.length_cons]; have := spl_many sep r (sep.length - 1) []; omega
    | false => rw [TL.spl_miss h, List.length_cons]; have := spl_many sep r 0 (acc ++ [c]); omega
  | c :: r, k + 1, acc => by
    show (TL.spl sep k acc r).length ≤ _
    have := spl_many sep r k acc
    rw [List.length_cons]
    omega
theorem spl_has (sep : List Nat) : ∀ (t : List Nat) (k : Nat) (acc : List Nat), ∀ p ∈ TL.spl sep k acc t, ∀ c ∈ p, c ∈ acc ∨ c ∈ t
  | [], k, acc => by
    rw [TL.spl_nil]
    intro p hp c hc
    rw [List.mem_singleton.mp hp] at hc
    exact .inl hc
  | d :: r, 0, acc => by
    intro p hp c hc
    cases h : TL.pre sep (d :: r) with
    | true =>
      rw [TL.spl_hit h] at hp
      rcases List.mem_cons.mp hp with rfl | hp
      · exact .inl hc
      · rcases spl_has sep r _ [] p hp c hc with z | z
        · cases z
        · exact .inr (List.mem_cons_of_mem _ z)
    | false =>
      rw [TL.spl_miss h] at hp
      rcases spl_has sep r 0 _ p hp c hc with z | z
      · rcases List.mem_append.mp z with z | z
        · exact .inl z
        · rw [List.mem_singleton.mp z]; exact .inr List.mem_cons_self
      · exact .inr (List.mem_cons_of_mem _ z)
  | d :: r, k + 1, acc => by
    intro p hp c hc
    rcases spl_has sep r k acc p hp c hc with z | z
    · exact .inl z
    · exact .inr (List.mem_cons_of_mem _ z)
theorem spl_short (sep : List Nat) : ∀ (t : List Nat) (k : Nat) (acc : List Nat), ∀ p ∈ TL.spl sep k acc t, p.length ≤ acc.length + t.length
  | [], k, acc => by
    rw [TL.spl_nil]
    intro p hp
    rw [List.mem_singleton.mp hp]
    omega
  | d :: r, 0, acc => by
    intro p hp
    rw [List.length_cons]
    cases h : TL.pre sep (d :: r) with
    | true =>
      rw [TL.spl_hit h] at hp
      rcases List.mem_cons.mp hp with rfl | hp
      · omega
      · have := spl_short sep r _ [] p hp
        simp at this
        omega
    | false =>
      rw [TL.spl_miss h] at hp
      have := spl_short sep r 0 _ p hp
      rw [List.length_append] at this
      simp at this
      omega
  | d :: r, k + 1, acc => by
    intro p hp
    have := spl_short sep r k acc p hp
    rw [List.length_cons]
    omega
/-- lines and their ends are the text -/
theorem nl_sum : ∀ (t acc : List Nat), ((TL.spl [10] 0 acc t).map fun p => p.length + 1).sum = acc.length + t.length + 1
  | [], acc => by rw [TL.spl_nil]; simp
  | c :: r, acc => by
    cases h : TL.pre [10] (c :: r) with
    | true =>
      rw [TL.spl_hit h, List.map_cons, List.sum_cons]
      have := nl_sum r []
      simp only [List.length_nil, List.length_cons, Nat.sub_self, Nat.zero_add] at this ⊢
      omega
    | false =>
      rw [TL.spl_miss h, nl_sum r (acc ++ [c]), List.length_append, List.length_cons]
      simp
      omega
theorem par_has (sep : List Nat) : ∀ (t acc a b : List Nat), TL.par sep acc t = some (a, b) → b.length ≤ t.length ∧ ∀ c ∈ b, c ∈ t
  | [], acc, a, b, h => by cases h
  | d :: r, acc, a, b, h => by
    cases q : TL.pre sep (d :: r) with
    | true =>
      rw [TL.par_hit q] at h
      injection h with h
      injection h with h1 h2
      subst h2
      exact ⟨by rw [List.length_drop]; omega, fun c hc => List.mem_of_mem_drop hc⟩
    | false =>
      rw [TL.par_miss q] at h
      obtain ⟨h1, h2⟩ := par_has sep r _ a b h
      exact ⟨by rw [List.length_cons]; omega, fun c hc => List.mem_cons_of_mem _ (h2 c hc)⟩
/-! ### a row's moves, whatever it is -/
theorem heard_any {t : List Nat} (hg : Sg t) (hl : t.length ≤ 1000) : fheard [.str (S t)] = .ex "NoText" ∨ ∃ m, MvB m ∧ fheard [.str (S t)] = .ok (e3 m) := by
  have h := heard_ev hg hl
  cases q : heaL t with
  | none => rw [q] at h; exact .inl h
  | some m =>
    rw [q] at h
    obtain ⟨_, b1, b2, b3, b4, b5, b6⟩ := heaL_some q
    exact .inr ⟨m, ⟨b1, b2, b3, b4, b5, b6⟩, h⟩
theorem lcx_any {e : En} {E : En → R D} : ∀ ws : List (List Nat), (∀ w ∈ ws, ∃ e1, gn 4 (encW w) e = some e1 ∧ (E e1 = .ex "NoText" ∨ ∃ m, MvB m ∧ E e1 = .ok (e3 m))) → lcX (gn 4) E e (ws.map encW) = .ex "NoText" ∨ ∃ ms : List Mv, (∀ m ∈ ms, MvB m) ∧ ms.length = ws.length ∧ lcX (gn 4) E e (ws.map encW) = .ok (ms.map e3)
  | [], _ => .inr ⟨[], fun m hm => (by cases hm), rfl, rfl⟩
  | w :: ws, h => by
    obtain ⟨e1, h1, h2⟩ := h w List.mem_cons_self
    have ih := lcx_any ws fun x hx => h x (List.mem_cons_of_mem _ hx)
    rw [List.map_cons]
    have z : lcX (gn 4) E e (encW w :: ws.map encW) = (E e1).bind fun x => (lcX (gn 4) E e (ws.map encW)).bind fun xs => .ok (x :: xs) := by
      show (opt (gn 4 (encW w) e)).bind _ = _
      rw [h1]
      rfl
    rw [z]
    rcases h2 with h2 | ⟨m, hm, h2⟩
    · left; rw [h2]; rfl
    · rw [h2]
      rcases ih with ih | ⟨ms, b, l, ih⟩
      · left; rw [ih]; rfl
      · right
        refine ⟨m :: ms, fun x hx => ?_, by rw [List.length_cons, List.length_cons, l], by rw [ih]; rfl⟩
        rcases List.mem_cons.mp hx with rfl | hx
        · exact hm
        · exact b x hx
theorem moves_any {L : List Nat} (hg : Sg L) (hl : L.length ≤ 1000) : fmoves_in [.str (S L)] = .ex "NoText" ∨ ∃ ms : List Mv, (∀ m ∈ ms, MvB m) ∧ ms.length ≤ L.length + 1 ∧ fmoves_in [.str (S L)] = .ok (.list (ms.map e3)) := by
  have hp := part_ev (a := L) (p := cDot) (by decide) (by omega)
  cases q : TL.par cDot [] L with
  | none =>
    left
    rw [q] at hp
    have hp : partD (.str (S L)) (.str (S cDot)) = some (.tuple [.str (S L), .str (S []), .str (S [])]) := hp
    have e1 : xmt ["str"] partD (xvV 0) (xc (.str ". ")) [.dat (.str (S L)), .un, .un, .un, .un] = .ok (.tuple [.str (S L), .str (S []), .str (S [])]) := by
      rw [xmt_s (x := S L) (y := .str (S cDot)) rfl (by rw [← s_dot]; rfl), hp]
      rfl
    have ne : eqD (.str (S [])) (.str (S [])) = some (.bool true) := eq_SS (Sg.of (by decide)) (Sg.of (by decide))
    unfold fmoves_in
    refine runD_ex (e := [.dat (.str (S L)), .dat (.str (S L)), .dat (.str (S [])), .dat (.str (S [])), .un]) ?_
    unfold bmoves_in
    generalize qmoves_in_1 = F
    simp [startE, e1, s_nil, ne]
  | some ab =>
    obtain ⟨N, J⟩ := ab
    rw [q] at hp
    have hp : partD (.str (S L)) (.str (S cDot)) = some (.tuple [.str (S N), .str (S cDot), .str (S J)]) := hp
    obtain ⟨lj, mj⟩ := par_has _ _ _ _ _ q
    have gj : Sg J := fun c hc => hg c (mj c hc)
    have sp := split_ev (a := J) (p := cCom) (by decide) (by decide) (by omega)
    have few := spl_many cCom J 0 []
    have ln := spl_short cCom J 0 []
    have hs := spl_has cCom J 0 []
    generalize TL.spl cCom 0 [] J = ws at *
    have e1 : xmt ["str"] partD (xvV 0) (xc (.str ". ")) [.dat (.str (S L)), .un, .un, .un, .un] = .ok (.tuple [.str (S N), .str (S cDot), .str (S J)]) := by
      rw [xmt_s (x := S L) (y := .str (S cDot)) rfl (by rw [← s_dot]; rfl), hp]
      rfl
    have ne : eqD (.str (S cDot)) (.str (S [])) = some (.bool false) := eq_SS (Sg.of (by decide)) (Sg.of (by decide))
    have e : iseq (asL (xsplit (xvV 3) (xc (.str ", ")))) [.dat (.str (S L)), .dat (.str (S N)), .dat (.str (S cDot)), .dat (.str (S J)), .un] = .ok (ws.map encW) := by
      have : xsplit (xvV 3) (xc (.str ", ")) [.dat (.str (S L)), .dat (.str (S N)), .dat (.str (S cDot)), .dat (.str (S J)), .un] = .ok (ws.map encW) := by
        rw [xsplit_s (x := S J) (y := .str (S cCom)) rfl (by rw [← s_com]; rfl), sp]
        rfl
      generalize ws.map encW = X at *
      simp [this]
    have any := lcx_any (e := wipeE [.dat (.str (S L)), .dat (.str (S N)), .dat (.str (S cDot)), .dat (.str (S J)), .un] [4]) (E := xcall 1 fheard (lcons (xvE 4) lnil)) ws fun w hw => by
      refine ⟨[.dat (.str (S L)), .dat (.str (S N)), .dat (.str (S cDot)), .dat (.str (S J)), .dat (encW w)], rfl, ?_⟩
      have hw1 := ln w hw
      simp at hw1
      have := heard_any (t := w) (fun c hc => (hs w hw c hc).elim (fun z => (by cases z)) (gj c)) (by omega)
      generalize fheard = F at this ⊢
      rcases this with h | ⟨m, hm, h⟩
      · left; simp [encW, h]
      · right; exact ⟨m, hm, by simp [encW, h]⟩
    have q1 : qmoves_in_1 [.dat (.str (S L)), .dat (.str (S N)), .dat (.str (S cDot)), .dat (.str (S J)), .un] = lcX (gn 4) (xcall 1 fheard (lcons (xvE 4) lnil)) (wipeE [.dat (.str (S L)), .dat (.str (S N)), .dat (.str (S cDot)), .dat (.str (S J)), .un] [4]) (ws.map encW) := by
      unfold qmoves_in_1 xlx
      rw [e, bind_ok, if_pos]
      show (ws.map encW).length ≤ 1000000
      rw [List.length_map]
      omega
    rw [← q1] at any
    rcases any with any | ⟨ms, hb, hm, any⟩
    · left
      unfold fmoves_in
      refine runD_ex (e := [.dat (.str (S L)), .dat (.str (S N)), .dat (.str (S cDot)), .dat (.str (S J)), .un]) ?_
      unfold bmoves_in
      generalize qmoves_in_1 = F at *
      simp [startE, e1, s_nil, ne, any]
    · right
      refine ⟨ms, hb, by omega, ?_⟩
      apply runD_rt
      unfold bmoves_in
      generalize qmoves_in_1 = F at *
      generalize ms.map e3 = M at *
      simp [startE, e1, s_nil, ne, any]
/-! ### a record, whatever it is -/
theorem rd_loop {d0 d1 : Sl} : ∀ (ls : List (List Nat)) (acc : List Mv) (s3 : Sl), (∀ l ∈ ls, Sg l ∧ l.length ≤ 1000) → (∀ m ∈ acc, MvB m) → acc.length + (ls.map fun p => p.length + 1).sum ≤ 1000 →
    (∃ e', forL (gn 3) lbread_record_1 (ls.map encW) [d0, d1, .own (acc.map e3), s3] = .ex "NoText" e') ∨ ∃ (ms : List Mv) (t3 : Sl), (∀ m ∈ ms, MvB m) ∧ ms.length ≤ 1000 ∧ forL (gn 3) lbread_record_1 (ls.map encW) [d0, d1, .own (acc.map e3), s3] = .nx [d0, d1, .own (ms.map e3), t3]
  | [], acc, s3, _, hb, hl => .inr ⟨acc, s3, hb, by simp at hl; omega, rfl⟩
  | l :: ls, acc, s3, h, hb, hl => by
    rw [List.map_cons, List.sum_cons] at hl
    obtain ⟨g, len⟩ := h l List.mem_cons_self
    have gt : gn 3 (encW l) [d0, d1, .own (acc.map e3), s3] = some [d0, d1, .own (acc.map e3), .dat (.str (S l))] := rfl
    rcases moves_any g len with mv | ⟨ms, b, few, mv⟩
    · left
      refine ⟨[d0, d1, .own (acc.map e3), .dat (.str (S l))], ?_⟩
      have bx : lbread_record_1 [d0, d1, .own (acc.map e3), .dat (.str (S l))] = .ex "NoText" [d0, d1, .own (acc.map e3), .dat (.str (S l))] := by
        unfold lbread_record_1
        generalize fmoves_in = F at mv ⊢
        generalize acc.map e3 = A
        simp [sext, mv]
      rw [List.map_cons]
      simp only [forL, gt, bx]
    · have bx : lbread_record_1 [d0, d1, .own (acc.map e3), .dat (.str (S l))] = .nx [d0, d1, .own ((acc ++ ms).map e3), .dat (.str (S l))] := by
        unfold lbread_record_1
        generalize fmoves_in = F at mv ⊢
        rw [sext_ev (ds := acc.map e3) (d := .list (ms.map e3)) (es := ms.map e3) rfl (by
          generalize ms.map e3 = M at *
          simp [mv]) rfl (by rw [List.length_map, List.length_map]; omega), List.map_append]
        rfl
      have ih := rd_loop (d0 := d0) (d1 := d1) ls (acc ++ ms) (.dat (.str (S l))) (fun x hx => h x (List.mem_cons_of_mem _ hx)) (fun m hm => (List.mem_append.mp hm).elim (hb m) (b m)) (by rw [List.length_append]; omega)
      rw [List.map_cons]
      simp only [forL, gt, bx]
      exact ih
theorem sum_drop (ls : List (List Nat)) : ((ls.dropLast).map fun p => p.length + 1).sum ≤ (ls.map fun p => p.length + 1).sum := by
  induction ls with
  | nil => simp
  | cons l ls ih =>
    cases ls with
    | nil => simp
    | cons k ls =>
      rw [List.dropLast_cons_cons, List.map_cons, List.sum_cons, List.map_cons, List.sum_cons]
      omega
theorem cut_last {α : Type} (xs : List α) : cutD xs none (some (-1)) = xs.dropLast := by
  cases h : xs with
  | nil => rfl
  | cons a l =>
    rw [← h]
    have hne : xs ≠ [] := by rw [h]; simp
    conv => lhs; rw [← List.dropLast_concat_getLast hne]
    exact cut_end _ _
theorem rd_test {T U : List Nat} {X Z : List D} {s3 : Sl} {F1 : List D → R D} {v : Bool} (rc : F1 [.list Z] = .ok (.str (S U))) (nn : neD (.str (S U)) (.str (S T)) = some (.bool v)) : xbl (bin neD (xcall 1 F1 (lcons (xvE 2) lnil)) (xvV 0)) [.dat (.str (S T)), .dat (.list X), .dat (.list Z), s3] = .ok v := by
  simp [rc, nn]
theorem rd_fz {B : En → Fl} {d0 d1 s3 : Sl} {M : List D} : sfz 2 B [d0, d1, .own M, s3] = B [d0, d1, .dat (.list M), s3] := rfl
theorem read_any {T : List Nat} (hg : Sg T) (hl : T.length ≤ 900) : fread_record [.str (S T)] = .ex "NoText" ∨ ∃ ms : List Mv, (∀ m ∈ ms, MvB m) ∧ ms.length ≤ 1000 ∧ recL ms (rows ms) = T ∧ fread_record [.str (S T)] = .ok (.tuple (ms.map e3)) := by
  have sp := split_ev (a := T) (p := [10]) (by decide) (by decide) (by omega)
  have sm := nl_sum T []
  have hs := spl_has [10] T 0 []
  have ln := spl_short [10] T 0 []
  generalize TL.spl [10] 0 [] T = ls at *
  have s1 : sasg 1 (asL (xsplit (xvV 0) (xc (.str "\n")))) [.dat (.str (S T)), .un, .un, .un] = .nx [.dat (.str (S T)), .dat (.list (ls.map encW)), .un, .un] := by
    have : xsplit (xvV 0) (xc (.str "\n")) [.dat (.str (S T)), .un, .un, .un] = .ok (ls.map encW) := by
      rw [xsplit_s (x := S T) (y := .str (S [10])) rfl (by rw [← s_nl]; rfl), sp]
      rfl
    generalize ls.map encW = X at *
    simp [this]
  have s2 : sasgN 2 (xlst lnil) [.dat (.str (S T)), .dat (.list (ls.map encW)), .un, .un] = .nx [.dat (.str (S T)), .dat (.list (ls.map encW)), .own [], .un] := rfl
  have cu : cutD (ls.map encW) none (some (-1)) = ls.dropLast.map encW := by rw [cut_last, List.map_dropLast]
  have it : iseq (xsl (xvV 1) onone (osome (un1 negD (xc (.int 1))))) [.dat (.str (S T)), .dat (.list (ls.map encW)), .own [], .un] = .ok (ls.dropLast.map encW) := by
    rw [← cu]
    generalize ls.map encW = X
    simp
  have lp := rd_loop (d0 := .dat (.str (S T))) (d1 := .dat (.list (ls.map encW))) ls.dropLast [] .un (fun l hlm => by
    have hm := List.dropLast_subset _ hlm
    have := ln l hm
    simp at this
    exact ⟨fun c hc => (hs l hm c hc).elim (fun z => (by cases z)) (hg c), by omega⟩) (fun m hm => (by cases hm)) (by have := sum_drop ls; rw [sm] at this; simp only [List.length_nil] at this ⊢; omega)
  rcases lp with ⟨e', lp⟩ | ⟨ms, t3, hb, hm, lp⟩
  · left
    have l1 : lread_record_1 [.dat (.str (S T)), .dat (.list (ls.map encW)), .own [], .un] = .ex "NoText" e' := sfor_is it lp
    unfold fread_record
    refine runD_ex (e := e') ?_
    show bread_record [.dat (.str (S T)), .un, .un, .un] = _
    unfold bread_record
    rw [sseq_ev, s1, then_nx, sseq_ev, s2, then_nx, sseq_ev, l1]
    rfl
  · have l1 : lread_record_1 [.dat (.str (S T)), .dat (.list (ls.map encW)), .own [], .un] = .nx [.dat (.str (S T)), .dat (.list (ls.map encW)), .own (ms.map e3), t3] := sfor_is it lp
    have rc := record_ev contL hb hm
    have rg := rec_sg ms (rows ms)
    have nn := ne_SS rg hg
    by_cases c : recL ms (rows ms) = T
    · right
      refine ⟨ms, hb, hm, c, ?_⟩
      rw [decide_eq_true c] at nn
      have hb2 : bread_record [.dat (.str (S T)), .un, .un, .un] = .rt (.tuple (ms.map e3)) := by
        unfold bread_record
        rw [sseq_ev, s1, then_nx, sseq_ev, s2, then_nx, sseq_ev, l1, then_nx]
        generalize ls.map encW = X at *
        generalize ms.map e3 = M at *
        rw [sseq_ev, rd_fz, sif_f (rd_test rc nn), snil_ev, then_nx]
        rfl
      exact runD_rt hb2
    · left
      rw [decide_eq_false c] at nn
      unfold fread_record
      refine runD_ex (e := [.dat (.str (S T)), .dat (.list (ls.map encW)), .dat (.list (ms.map e3)), t3]) ?_
      show bread_record [.dat (.str (S T)), .un, .un, .un] = _
      unfold bread_record
      rw [sseq_ev, s1, then_nx, sseq_ev, s2, then_nx, sseq_ev, l1, then_nx]
      generalize ls.map encW = X at *
      generalize ms.map e3 = M at *
      rw [sseq_ev, rd_fz, sif_t (rd_test rc nn)]
      rfl
theorem plAll_of {α : Type} {enc : α → D} (h : ∀ a, plD (enc a) = true) : ∀ xs : List α, plAll (xs.map enc) = true
  | [] => rfl
  | x :: xs => by
    rw [List.map_cons]
    unfold plAll
    rw [h x, plAll_of h xs]; rfl
theorem pl_e3 (m : Int × Int × Int) : plD (e3 m) = true := plAll_of (enc := PyData.int) int_pl _
theorem map_e3_inj : ∀ xs ys : List (Int × Int × Int), xs.map e3 = ys.map e3 → xs = ys
  | [], [], _ => rfl
  | [], _ :: _, h => by cases h
  | _ :: _, [], h => by cases h
  | x :: xs, y :: ys, h => by
    rw [List.map_cons, List.map_cons, List.cons.injEq] at h
    rw [e3_inj x y h.1, map_e3_inj xs ys h.2]
theorem shT (xs : List (Int × Int × Int)) : SeqAt.shaped (.tuple (xs.map e3)) = true := (shp_tup (k := 1) fun d hd => by
  obtain ⟨m, _, rfl⟩ := List.mem_map.mp hd
  exact tJ_shp _).shaped
theorem shL (xs : List (Int × Int × Int)) : SeqAt.shaped (.list (xs.map e3)) = true := (shp_list (k := 1) fun d hd => by
  obtain ⟨m, _, rfl⟩ := List.mem_map.mp hd
  exact tJ_shp _).shaped
theorem eqv_T3 (xs ys : List (Int × Int × Int)) : PyData.eqv (.tuple (xs.map e3)) (.tuple (ys.map e3)) = decide (xs = ys) :=
  eqv_enc (enc := fun xs : List (Int × Int × Int) => PyData.tuple (xs.map e3)) (fun a b h => map_e3_inj a b (by injection h)) (fun a => by simp only [plD]; exact plAll_of pl_e3 a) xs ys
theorem eqv_L3 (xs ys : List (Int × Int × Int)) : PyData.eqv (.list (xs.map e3)) (.list (ys.map e3)) = decide (xs = ys) :=
  eqv_enc (enc := fun xs : List (Int × Int × Int) => PyData.list (xs.map e3)) (fun a b h => map_e3_inj a b (by injection h)) (fun a => by simp only [plD]; exact plAll_of pl_e3 a) xs ys
theorem eq_T3 (xs ys : List (Int × Int × Int)) : eqD (.tuple (xs.map e3)) (.tuple (ys.map e3)) = some (.bool (decide (xs = ys))) := by rw [eq_ev (shT xs) (shT ys), eqv_T3]
theorem ne_T3 (xs ys : List (Int × Int × Int)) : neD (.tuple (xs.map e3)) (.tuple (ys.map e3)) = some (.bool (!decide (xs = ys))) := by rw [ne_ev (shT xs) (shT ys), eqv_T3]
theorem eq_L3 (xs ys : List (Int × Int × Int)) : eqD (.list (xs.map e3)) (.list (ys.map e3)) = some (.bool (decide (xs = ys))) := by rw [eq_ev (shL xs) (shL ys), eqv_L3]
theorem cut_to_S {t : List Nat} {i : Int} (h0 : 0 ≤ i) (hl : t.length ≤ 1000000) : sliceD (.str (S t)) none (some i) = some (.str (S (t.take i.toNat))) := by
  show (if (S t).length ≤ many then some (PyData.str (cutS (S t) none (some i))) else none) = _
  rw [S_len, if_pos (show t.length ≤ many from hl), C8.cutS_slice, slice_to h0]
theorem cut_from_S {t : List Nat} {i : Int} (h0 : 0 ≤ i) (hl : t.length ≤ 1000000) : sliceD (.str (S t)) (some i) none = some (.str (S (t.drop i.toNat))) := by
  show (if (S t).length ≤ many then some (PyData.str (cutS (S t) (some i) none)) else none) = _
  rw [S_len, if_pos (show t.length ≤ many from hl), C8.cutS_slice, slice_from h0]
end M29
namespace M29
open PySem L2 Pu Pf SX
/-! ### what is right -/
theorem rt_one {T : D} {X : D} {F1 : List D → R D} (h : F1 [T] = .ex "NoText") : sasg 2 (xcall 1 F1 (lcons (xvE 0) lnil)) [.dat T, .dat X, .un, .un, .un, .un] = .ex "NoText" [.dat T, .dat X, .un, .un, .un, .un] := by
  simp [h]
theorem rt_two {T : D} {X Y : D} {F1 : List D → R D} (h : F1 [T] = .ok Y) : sasg 2 (xcall 1 F1 (lcons (xvE 0) lnil)) [.dat T, .dat X, .un, .un, .un, .un] = .nx [.dat T, .dat X, .dat Y, .un, .un, .un] := by
  simp [h]
theorem rt_test {T : D} {X Y : D} {F1 : List D → R D} (e1 : eqD Y X = some (.bool false)) (rc : F1 [Y] = .ok T) (nn : neD T T = some (.bool false)) : tor (xbl (bin eqD (xvV 2) (xvV 1))) (xbl (bin neD (xcall 1 F1 (lcons (xvE 2) lnil)) (xvV 0))) [.dat T, .dat X, .dat Y, .un, .un, .un] = .ok false := by
  simp [e1, rc, nn]
theorem rt_end {T : D} {X Y : D} {F2 : En → R (List D)} (q : F2 [.dat T, .dat X, .dat Y, .un, .un, .un] = .ok []) (e2 : eqD (.list []) (.list []) = some (.bool true)) : sret (bin eqD (asL F2) (asL (xlst lnil))) [.dat T, .dat X, .dat Y, .un, .un, .un] = .rt (.bool true) := by
  simp [q, e2]
theorem rt_q {T X : D} {ms : List Mv} (hb : ∀ m ∈ ms, MvB m) (hm : ms.length ≤ 1000) : q_law_is_right_1 [.dat T, .dat X, .dat (.tuple (ms.map e3)), .un, .un, .un] = .ok [] := by
  unfold q_law_is_right_1
  rw [xlc_map (enc := e3) (xs := ms) (fun _ => false) e3 (by
    generalize ms.map e3 = Y
    simp) (by omega) fun m hmm => ⟨_, rfl, ?_, fun z => (by cases z)⟩]
  · simp
  · obtain ⟨x, y, z⟩ := m
    obtain ⟨b1, b2, b3, b4, b5, b6⟩ := hb _ hmm
    simp only at b1 b2 b3 b4 b5 b6
    have i0 : ixD (e3 (x, y, z)) (.int 0) = some (.int x) := rfl
    have i1 : ixD (e3 (x, y, z)) (.int 1) = some (.int y) := rfl
    have i2 : ixD (e3 (x, y, z)) (.int 2) = some (.int z) := rfl
    generalize e3 (x, y, z) = M at *
    generalize ms.map e3 = Y
    simp [wipeE, chn, i0, i1, i2, b1, b2, b3, b4, b5, b6]
theorem rt_ex {T X : D} (h : fread_record [T] = .ex "NoText") : f_law_is_right [T, X] = .ok (.bool true) := by
  have h3 : lt_law_is_right_1 [.dat T, .dat X, .un, .un, .un, .un] = .ex "NoText" [.dat T, .dat X, .un, .un, .un, .un] := rt_one h
  have hb : b_law_is_right [.dat T, .dat X, .un, .un, .un, .un] = .rt (.bool true) := by
    unfold b_law_is_right
    rw [sseq_ev]
    unfold stryA
    rw [h3]
    rfl
  exact runD_rt hb
theorem rt_ok {T X : D} {ms : List Mv} (h : fread_record [T] = .ok (.tuple (ms.map e3))) (hb : ∀ m ∈ ms, MvB m) (hm : ms.length ≤ 1000) (e1 : eqD (.tuple (ms.map e3)) X = some (.bool false)) (rc : frecord_text [.tuple (ms.map e3)] = .ok T) (nn : neD T T = some (.bool false)) : f_law_is_right [T, X] = .ok (.bool true) := by
  have h3 : lt_law_is_right_1 [.dat T, .dat X, .un, .un, .un, .un] = .nx [.dat T, .dat X, .dat (.tuple (ms.map e3)), .un, .un, .un] := rt_two h
  have h4 : ∀ l, stryA 3 l lt_law_is_right_1 [.dat T, .dat X, .un, .un, .un, .un] = .nx [.dat T, .dat X, .dat (.tuple (ms.map e3)), .un, .un, .un] := fun l => by
    unfold stryA
    rw [h3]
  have hb2 : b_law_is_right [.dat T, .dat X, .un, .un, .un, .un] = .rt (.bool true) := by
    unfold b_law_is_right
    rw [sseq_ev, h4, then_nx, sseq_ev, sif_f (rt_test e1 rc nn), snil_ev, then_nx]
    exact rt_end (rt_q hb hm) (eq_L3 [] [])
  exact runD_rt hb2
theorem right_ev {T : List Nat} {row : List Mv} (hg : Sg T) (hl : T.length ≤ 900) (ne : T ≠ recL row (rows row)) : f_law_is_right [.str (S T), .tuple (row.map e3)] = .ok (.bool true) := by
  rcases read_any hg hl with h | ⟨ms, hb, hm, hT, h⟩
  · exact rt_ex h
  · have rc := record_ev contT hb hm
    rw [hT] at rc
    have nn := ne_SS hg hg
    rw [decide_eq_true rfl] at nn
    have e1 := eq_T3 ms row
    rw [decide_eq_false (fun z => ne (by rw [← hT, z]))] at e1
    exact rt_ok h hb hm e1 rc nn
/-! ### texts near a record -/
abbrev E13 (s0 s1 s2 s3 s4 s5 s6 s7 s8 s9 : Sl) : En := [s0, s1, s2, s3, s4, s5, s6, s7, s8, s9, .un, .un, .un]
section
variable {row : List Mv} {T : List Nat} {s0 s1 s2 s5 s6 s7 s8 s9 : Sl}
theorem filt_eq {e : En} {w T : D} {F : List D → R D} (v11 : getV e 11 = .ok w) (v4 : getV e 4 = .ok T) (nn : neD w T = some (.bool false)) : tand (xbl (bin neD (xvV 11) (xvV 4))) (tnot (xtru (xcall 2 F (lcons (xvE 11) (lcons (xvE 3) lnil))))) e = .ok false := by
  simp [v11, v4, nn]
theorem filt_ne {e : En} {w T X : D} {F : List D → R D} (v11 : getV e 11 = .ok w) (v4 : getV e 4 = .ok T) (nn : neD w T = some (.bool true)) (e11 : getE e 11 = .ok w) (e3 : getE e 3 = .ok X) (r : F [w, X] = .ok (.bool true)) : tand (xbl (bin neD (xvV 11) (xvV 4))) (tnot (xtru (xcall 2 F (lcons (xvE 11) (lcons (xvE 3) lnil))))) e = .ok false := by
  simp [v11, v4, nn, e11, e3, r]
theorem filt (hT : T = recL row (rows row)) (gT : Sg T) {w : List Nat} (hw : Sg w ∧ w.length ≤ 900) {e : En} (h3 : e[3]? = some (.dat (.tuple (row.map e3)))) (h4 : e[4]? = some (.dat (.str (S T)))) (h11 : e[11]? = some (.dat (.str (S w)))) :
    tand (xbl (bin neD (xvV 11) (xvV 4))) (tnot (xtru (xcall 2 f_law_is_right (lcons (xvE 11) (lcons (xvE 3) lnil))))) e = .ok false := by
  have nn := ne_SS hw.1 gT
  have v11 : getV e 11 = .ok (.str (S w)) := by unfold getV; rw [h11]
  have v4 : getV e 4 = .ok (.str (S T)) := by unfold getV; rw [h4]
  have e11 : getE e 11 = .ok (.str (S w)) := by unfold getE; rw [h11]
  have e3' : getE e 3 = .ok (.tuple (row.map e3)) := by unfold getE; rw [h3]
  by_cases c : w = T
  · rw [decide_eq_true c] at nn
    exact filt_eq v11 v4 nn
  · rw [decide_eq_false c] at nn
    exact filt_ne v11 v4 nn e11 e3' (right_ev (row := row) hw.1 hw.2 (fun z => c (by rw [hT]; exact z)))
theorem q2_ok (hT : T = recL row (rows row)) (gT : Sg T) {ws : List (List Nat)} (hl : ws.length ≤ 1000) (hw : ∀ w ∈ ws, Sg w ∧ w.length ≤ 900) : qlaw_2 (E13 s0 s1 s2 (.dat (.tuple (row.map e3))) (.dat (.str (S T))) s5 s6 (.own (ws.map encW)) s8 s9) = .ok [] := by
  unfold qlaw_2
  rw [xlc_map (enc := encW) (xs := ws) (fun _ => false) encW (by
    generalize ws.map encW = X
    generalize row.map e3 = Y
    simp) (by omega) fun w hm => ⟨_, rfl, filt hT gT (hw w hm) rfl rfl rfl, fun z => (by cases z)⟩]
  simp
theorem q5_ok (hT : T = recL row (rows row)) (gT : Sg T) {ws : List (List Nat)} (hl : ws.length ≤ 1000) (hw : ∀ w ∈ ws, Sg w ∧ w.length ≤ 900) : qlaw_5 (E13 s0 s1 s2 (.dat (.tuple (row.map e3))) (.dat (.str (S T))) s5 s6 s7 s8 (.own (ws.map encW))) = .ok [] := by
  unfold qlaw_5
  rw [xlc_map (enc := encW) (xs := ws) (fun _ => false) encW (by
    generalize ws.map encW = X
    generalize row.map e3 = Y
    simp) (by omega) fun w hm => ⟨_, rfl, filt hT gT (hw w hm) rfl rfl rfl, fun z => (by cases z)⟩]
  simp
theorem ne_l0 : neD (.list []) (.list []) = some (.bool false) := by
  have : SeqAt.shaped (.list []) = true := (shp_list (k := 0) (ds := []) fun d hd => nomatch hd).shaped
  rw [ne_ev this this]
  rfl
theorem Sg.tk {t : List Nat} (h : Sg t) (n : Nat) : Sg (t.take n) := fun c hc => h c (List.mem_of_mem_take hc)
theorem Sg.dr {t : List Nat} (h : Sg t) (n : Nat) : Sg (t.drop n) := fun c hc => h c (List.mem_of_mem_drop hc)
theorem lb1_ok (hT : T = recL row (rows row)) (gT : Sg T) (lT : T.length ≤ 400) {c : Nat} (hc : c < 1114112) {p : Int} (p0 : 0 ≤ p) : ∃ t7, lblaw_1 (E13 s0 s1 s2 (.dat (.tuple (row.map e3))) (.dat (.str (S T))) (.dat (.str (S [c]))) (.dat (.int p)) s7 s8 s9) = .nx (E13 s0 s1 s2 (.dat (.tuple (row.map e3))) (.dat (.str (S T))) (.dat (.str (S [c]))) (.dat (.int p)) t7 s8 s9) := by
  have sT := cut_to_S (t := T) p0 (by omega)
  have sD := cut_from_S (t := T) p0 (by omega)
  have sD1 := cut_from_S (t := T) (i := p + 1) (by omega) (by omega)
  have l1 : (T.take p.toNat).length ≤ 400 := by rw [List.length_take]; omega
  have l2 : (T.drop p.toNat).length ≤ 400 := by rw [List.length_drop]; omega
  have l3 : (T.drop (p + 1).toNat).length ≤ 400 := by rw [List.length_drop]; omega
  have g1 := Sg.tk gT p.toNat
  have g2 := Sg.dr gT p.toNat
  have g3 := Sg.dr gT (p + 1).toNat
  have gc : Sg [c] := fun d hd => by rw [List.mem_singleton.mp hd]; exact hc
  generalize T.take p.toNat = A at *
  generalize T.drop p.toNat = B at *
  generalize T.drop (p + 1).toNat = C at *
  have a1 : addD (.str (S A)) (.str (S C)) = some (.str (S (A ++ C))) := add_SS (by omega)
  have a2 : addD (.str (S A)) (.str (S [c])) = some (.str (S (A ++ [c]))) := add_SS (by simp; omega)
  have a3 : addD (.str (S (A ++ [c]))) (.str (S B)) = some (.str (S (A ++ [c] ++ B))) := add_SS (by simp; omega)
  have a4 : addD (.str (S (A ++ [c]))) (.str (S C)) = some (.str (S (A ++ [c] ++ C))) := add_SS (by simp; omega)
  have q := q2_ok (s0 := s0) (s1 := s1) (s2 := s2) (s5 := .dat (.str (S [c]))) (s6 := .dat (.int p)) (s8 := s8) (s9 := s9) hT gT (ws := [A ++ C, A ++ [c] ++ B, A ++ [c] ++ C]) (by simp) fun w hw => by
    simp only [List.mem_cons, List.not_mem_nil, or_false] at hw
    rcases hw with rfl | rfl | rfl
    · exact ⟨g1.app g3, by rw [List.length_append]; omega⟩
    · exact ⟨(g1.app gc).app g2, by simp; omega⟩
    · exact ⟨(g1.app gc).app g3, by simp; omega⟩
  have f1 : sasgN 7 (xlst (lcons (bin addD (xsl (xvV 4) onone (osome (xvE 6))) (xsl (xvV 4) (osome (bin addD (xvE 6) (xc (.int 1)))) onone)) (lcons (bin addD (bin addD (xsl (xvV 4) onone (osome (xvE 6))) (xvE 5)) (xsl (xvV 4) (osome (xvE 6)) onone)) lnil))) (E13 s0 s1 s2 (.dat (.tuple (row.map e3))) (.dat (.str (S T))) (.dat (.str (S [c]))) (.dat (.int p)) s7 s8 s9) = .nx (E13 s0 s1 s2 (.dat (.tuple (row.map e3))) (.dat (.str (S T))) (.dat (.str (S [c]))) (.dat (.int p)) (.own [.str (S (A ++ C)), .str (S (A ++ [c] ++ B))]) s8 s9) := by
    generalize row.map e3 = X at *
    generalize A ++ [c] ++ C = U2 at *
    generalize A ++ [c] ++ B = U1 at *
    generalize A ++ [c] = U0 at *
    generalize A ++ C = U at *
    simp [sT, sD, sD1, a1, a2, a3]
  have f2 : sapp 7 (bin addD (bin addD (xsl (xvV 4) onone (osome (xvE 6))) (xvE 5)) (xsl (xvV 4) (osome (bin addD (xvE 6) (xc (.int 1)))) onone)) (E13 s0 s1 s2 (.dat (.tuple (row.map e3))) (.dat (.str (S T))) (.dat (.str (S [c]))) (.dat (.int p)) (.own [.str (S (A ++ C)), .str (S (A ++ [c] ++ B))]) s8 s9) = .nx (E13 s0 s1 s2 (.dat (.tuple (row.map e3))) (.dat (.str (S T))) (.dat (.str (S [c]))) (.dat (.int p)) (.own [.str (S (A ++ C)), .str (S (A ++ [c] ++ B)), .str (S (A ++ [c] ++ C))]) s8 s9) := by
    rw [sapp_ev (ds := [.str (S (A ++ C)), .str (S (A ++ [c] ++ B))]) (d := .str (S (A ++ [c] ++ C))) rfl ?_ (by simp)]
    · rfl
    · generalize row.map e3 = X at *
      generalize A ++ [c] ++ C = U2 at *
      generalize A ++ [c] ++ B = U1 at *
      generalize A ++ [c] = U0 at *
      simp [sT, sD1, a2, a4]
  refine ⟨.own [.str (S (A ++ C)), .str (S (A ++ [c] ++ B)), .str (S (A ++ [c] ++ C))], ?_⟩
  unfold lblaw_1
  have q : qlaw_2 (E13 s0 s1 s2 (.dat (.tuple (row.map e3))) (.dat (.str (S T))) (.dat (.str (S [c]))) (.dat (.int p)) (.own [.str (S (A ++ C)), .str (S (A ++ [c] ++ B)), .str (S (A ++ [c] ++ C))]) s8 s9) = .ok [] := q
  rw [sseq_ev, f1, then_nx, sseq_ev, f2, then_nx, sif_f, snil_ev]
  generalize row.map e3 = X at *
  generalize qlaw_2 = F at *
  generalize [PyData.str (S (A ++ C)), .str (S (A ++ [c] ++ B)), .str (S (A ++ [c] ++ C))] = Y at *
  simp [q, ne_l0]
theorem join_len0 : ∀ ys : List (List Nat), (TL.joinL [] ys).length = (ys.map (·.length)).sum
  | [] => rfl
  | [p] => by simp [TL.joinL]
  | p :: q :: r => by
    show (p ++ ([] ++ TL.joinL [] (q :: r))).length = _
    rw [List.nil_append, List.length_append, join_len0 (q :: r)]
    simp
theorem sum_le {ys : List (List Nat)} {n : Nat} (h : ∀ y ∈ ys, y.length ≤ n) : (ys.map (·.length)).sum ≤ n * ys.length := by
  induction ys with
  | nil => simp
  | cons y ys ih =>
    rw [List.map_cons, List.sum_cons, List.length_cons, Nat.mul_succ]
    have := h y List.mem_cons_self
    have := ih fun x hx => h x (List.mem_cons_of_mem _ hx)
    omega
theorem rep_S (gT : Sg T) (lT : T.length ≤ 400) (y : PySem.Str) {z : PySem.Str} (gz : Sg z.cps.toList) (lz : z.cps.toList.length ≤ 1) : ∃ w, rep1D y z (.str (S T)) = some (.str (S w)) ∧ Sg w ∧ w.length ≤ 801 := by
  have e : (S T).cps.toList = T := rfl
  refine ⟨(rep1 (S T) y z).cps.toList, ?_, fun c hc => ?_, ?_⟩
  · show (if (S T).length ≤ 1000000 then some (PyData.str (rep1 (S T) y z)) else none) = _
    rw [S_len, if_pos (by omega)]
  · rcases rep1_mem (S T) y z c hc with h | h
    · exact gT c h
    · exact gz c h
  · have := rep1_len (S T) y z
    rw [e] at this
    omega
/-- line by line, with an end of another kind -/
theorem joined {Ls : List (List Nat)} {t : List Nat} (hL : ∀ l ∈ Ls, Sg l ∧ l.length ≤ 80) (few : Ls.length ≤ 4) (gt : Sg t) (lt : t.length ≤ 10) : ∃ w, joinD (.str (S [])) (.list ((Ls.map fun l => l ++ t).map encW)) = some (.str (S w)) ∧ Sg w ∧ w.length ≤ 400 := by
  have len : ∀ y ∈ Ls.map fun l => l ++ t, y.length ≤ 90 := fun y hy => by
    obtain ⟨l, hl, rfl⟩ := List.mem_map.mp hy
    have := (hL l hl).2
    rw [List.length_append]
    omega
  have sm := sum_le len
  rw [List.length_map] at sm
  refine ⟨TL.joinL [] (Ls.map fun l => l ++ t), join_texts (by rw [List.length_nil, Nat.mul_zero]; omega), join_sg (fun c hc => (by cases hc)) fun x hx => ?_, by rw [join_len0]; omega⟩
  obtain ⟨l, hl, rfl⟩ := List.mem_map.mp hx
  exact (hL l hl).1.app gt
end
theorem s_sig : Str.ofString "1., 0ltk2\n" = S [49, 46, 44, 32, 48, 108, 116, 107, 50, 10] := str_S _
theorem s_lay1 : Str.ofString ", lay 1\n" = S [44, 32, 108, 97, 121, 32, 49, 10] := str_S _
theorem ix_S {t : List Nat} {i : Int} {c : Nat} (h0 : 0 ≤ i) (h : t[i.toNat]? = some c) (hl : t.length ≤ 1000000) : ixD (.str (S t)) (.int i) = some (.str (S [c])) := by
  show (if (S t).length ≤ many then (atI t i).map fun c => PyData.str ⟨#[c]⟩ else none) = _
  rw [S_len, if_pos (show t.length ≤ many from hl), atI_some h0 h]
  rfl
theorem sig_at {i : Int} (h0 : 0 ≤ i) (h1 : i < 10) : ∃ c, c < 1114112 ∧ ixD (.str "1., 0ltk2\n") (.int i) = some (.str (S [c])) := by
  rw [s_sig]
  obtain ⟨c, hc, hl⟩ : ∃ c, ([49, 46, 44, 32, 48, 108, 116, 107, 50, 10] : List Nat)[i.toNat]? = some c ∧ c < 1114112 := by
    have : i.toNat < 10 := by omega
    generalize i.toNat = n at this
    match n, this with
    | 0, _ => exact ⟨_, rfl, by decide⟩
    | 1, _ => exact ⟨_, rfl, by decide⟩
    | 2, _ => exact ⟨_, rfl, by decide⟩
    | 3, _ => exact ⟨_, rfl, by decide⟩
    | 4, _ => exact ⟨_, rfl, by decide⟩
    | 5, _ => exact ⟨_, rfl, by decide⟩
    | 6, _ => exact ⟨_, rfl, by decide⟩
    | 7, _ => exact ⟨_, rfl, by decide⟩
    | 8, _ => exact ⟨_, rfl, by decide⟩
    | 9, _ => exact ⟨_, rfl, by decide⟩
    | n + 10, h => omega
  exact ⟨c, hl, ix_S h0 hc (by decide)⟩
theorem len_T {T : List Nat} (hl : T.length ≤ 1000000) : lenD (.str (S T)) = some (.int T.length) := by
  show (if (S T).length ≤ many then some (PyData.int ((S T).length : Nat)) else none) = _
  rw [S_len, if_pos (show T.length ≤ many from hl)]
theorem but_last {T : List Nat} (h : T ≠ []) (hl : T.length ≤ 1000000) : sliceD (.str (S T)) none (some (-1)) = some (.str (S (T.take (T.length - 1)))) := by
  show (if (S T).length ≤ many then some (PyData.str (cutS (S T) none (some (-1)))) else none) = _
  rw [S_len, if_pos (show T.length ≤ many from hl), C8.cutS_slice, slice_butlast h]
theorem odd_gen {s0 s1 s2 s3 s5 s6 s7 s8 s9 : Sl} {T N a b c d e f : D} {F5 F6 : D → Option D} (h1 : addD T N = some a) (h2 : addD N T = some b) (h3 : sliceD T none (some (-1)) = some c) (h4 : addD T T = some d) (h5 : F5 T = some e) (h6 : F6 T = some f) :
    sasgN 9 (xlst (lcons (bin addD (xvE 4) (xc N)) (lcons (bin addD (xc N) (xvE 4)) (lcons (xsl (xvV 4) onone (osome (un1 negD (xc (.int 1))))) (lcons (bin addD (xvE 4) (xvE 4)) (lcons (un1 F5 (xvE 4)) (lcons (un1 F6 (xvE 4)) lnil))))))) (E13 s0 s1 s2 s3 (.dat T) s5 s6 s7 s8 s9) = .nx (E13 s0 s1 s2 s3 (.dat T) s5 s6 s7 s8 (.own [a, b, c, d, e, f])) := by
  simp [h1, h2, h3, h4, h5, h6]
theorem odd_app {s0 s1 s2 s3 s4 s5 s6 s7 s8 : Sl} {ds : List D} {y : D} {Q : En → R (List D)} {ys : List D} (hl : ds.length ≤ 100) (q : Q (E13 s0 s1 s2 s3 s4 s5 s6 s7 s8 (.own ds)) = .ok ys) (j : joinD (.str (S [])) (.list ys) = some y) : sapp 9 (xmt ["str"] joinD (xc (.str "")) (asL Q)) (E13 s0 s1 s2 s3 s4 s5 s6 s7 s8 (.own ds)) = .nx (E13 s0 s1 s2 s3 s4 s5 s6 s7 s8 (.own (ds ++ [y]))) := by
  rw [sapp_ev (ds := ds) (d := y) rfl ?_ (by omega)]
  · rfl
  · rw [xmt_s (x := S []) (y := .list ys) (by rw [← s_nil]; rfl) (by rw [asL_ev, q]; rfl), j]
    rfl
theorem g_cell {s0 s1 s2 s3 s4 s5 s6 s7 s8 s9 : Sl} {Z : D} {k c cc : Int} {F1 : List D → R D} (hc : F1 [Z, .int k] = .ok (.int c)) (m : mulD (.int 71) (.int k) = some (.int (71 * k))) (e : c + 71 * k = cc) : sasg 2 (bin addD (xcall 2 F1 (lcons (xvE 0) (lcons (xvE 1) lnil))) (bin mulD (xc (.int 71)) (xvE 1))) (E13 (.dat Z) (.dat (.int k)) s2 s3 s4 s5 s6 s7 s8 s9) = .nx (E13 (.dat Z) (.dat (.int k)) (.dat (.int cc)) s3 s4 s5 s6 s7 s8 s9) := by
  simp [hc, m, e]
theorem g_row {s0 s1 s2 s3 s4 s5 s6 s7 s8 s9 : Sl} {X : List D} {Q : En → R (List D)} (q : Q (E13 s0 s1 s2 s3 s4 s5 s6 s7 s8 s9) = .ok X) : sasg 3 (un1 tupleD (asL Q)) (E13 s0 s1 s2 s3 s4 s5 s6 s7 s8 s9) = .nx (E13 s0 s1 s2 (.dat (.tuple X)) s4 s5 s6 s7 s8 s9) := by
  simp [q]
theorem g_two {s0 s1 s4 s5 s6 s7 s8 s9 : Sl} {X Y Y2 Y3 : D} {cc n2 : Int} {F1 F2 : List D → R D} (rcd : F1 [X] = .ok Y) (mx2 : F2 [.int cc, .int 9539, .int 10] = .ok (.int n2)) (sg : ixD Y3 (.int n2) = some Y2) : sasgT (gtup (gcons (gn 4) (gcons (gn 5) gnil))) (xtup (lcons (xcall 1 F1 (lcons (xvE 3) lnil)) (lcons (bin ixD (xc Y3) (xcall 3 F2 (lcons (xvE 2) (lcons (xc (.int 9539)) (lcons (xc (.int 10)) lnil))))) lnil))) (E13 s0 s1 (.dat (.int cc)) (.dat X) s4 s5 s6 s7 s8 s9) = .nx (E13 s0 s1 (.dat (.int cc)) (.dat X) (.dat Y) (.dat Y2) s6 s7 s8 s9) := by
  have : xtup (lcons (xcall 1 F1 (lcons (xvE 3) lnil)) (lcons (bin ixD (xc Y3) (xcall 3 F2 (lcons (xvE 2) (lcons (xc (.int 9539)) (lcons (xc (.int 10)) lnil))))) lnil)) (E13 s0 s1 (.dat (.int cc)) (.dat X) s4 s5 s6 s7 s8 s9) = .ok (.tuple [Y, Y2]) := by
    simp [rcd, mx2, sg]
  rw [sasgT_ev, this, liftE_ok]
  rfl
theorem g_len {s0 s1 s2 s3 s5 s6 s7 s8 s9 : Sl} {T : D} {n : Int} (h : lenD T = some (.int n)) : un1 lenD (xvV 4) (E13 s0 s1 s2 s3 (.dat T) s5 s6 s7 s8 s9) = .ok (.int n) := by
  simp [h]
theorem g_lines {s0 s1 s2 s3 s4 s5 s6 s7 s8 s9 : Sl} {A A2 : List D} {Q : En → R (List D)} (e : Q (E13 s0 s1 s2 s3 s4 s5 s6 s7 s8 s9) = .ok A) (sl : sliceD (.list A) none (some (-1)) = some (.list A2)) : sasg 8 (xsl (asL Q) onone (osome (un1 negD (xc (.int 1))))) (E13 s0 s1 s2 s3 s4 s5 s6 s7 s8 s9) = .nx (E13 s0 s1 s2 s3 s4 s5 s6 s7 (.dat (.list A2)) s9) := by
  simp [-slice_l, e, sl]
theorem g_none {s0 s1 s2 s3 s4 s5 s6 s7 s8 s9 : Sl} {Q : En → R (List D)} (q : Q (E13 s0 s1 s2 s3 s4 s5 s6 s7 s8 s9) = .ok []) : sif (xbl (bin neD (asL Q) (asL (xlst lnil)))) (sret (xc (.bool false))) snil (E13 s0 s1 s2 s3 s4 s5 s6 s7 s8 s9) = .nx (E13 s0 s1 s2 s3 s4 s5 s6 s7 s8 s9) := by
  refine (sif_f ?_).trans (snil_ev _)
  simp [q, ne_l0]
theorem g_add {e : En} {l a r : D} {i : Nat} (hv : getE e i = .ok l) (h : addD l a = some r) : bin addD (xvE i) (xc a) e = .ok r := by
  simp [hv, h]
theorem lb2_ok {ns : List Int} {k : Int} (hk0 : 0 ≤ k) {s2 s3 s4 s5 s6 s7 s8 s9 : Sl} : ∃ t2 t3 t4 t5 t6 t7 t8 t9, lblaw_2 (E13 (.dat (scrD ns)) (.dat (.int k)) s2 s3 s4 s5 s6 s7 s8 s9) = .nx (E13 (.dat (scrD ns)) (.dat (.int k)) t2 t3 t4 t5 t6 t7 t8 t9) := by
  have hc := cell_ev (ns := ns) (k := k) hk0
  have m71 : mulD (.int 71) (.int k) = some (.int (71 * k)) := mul_ii (.inl (by decide))
  generalize hcc : cellI ns k + 71 * k = cc
  have mx := mix_ev (c := cc) (p := 9547) (m := 7) (by decide) (by decide) (by decide)
  have lo := mix_lo (c := cc) (p := 9547) (m := 7) (by decide)
  have hi := mix_hi (c := cc) (p := 9547) (m := 7) (by decide)
  generalize mixI cc 9547 7 = n at mx lo hi
  have mx2 := mix_ev (c := cc) (p := 9539) (m := 10) (by decide) (by decide) (by decide)
  have lo2 := mix_lo (c := cc) (p := 9539) (m := 10) (by decide)
  have hi2 := mix_hi (c := cc) (p := 9539) (m := 10) (by decide)
  generalize mixI cc 9539 10 = n2 at mx2 lo2 hi2
  obtain ⟨c, hcs, sg⟩ := sig_at lo2 hi2
  have hf : ∀ i : Int, ∃ m : Mv, MvB m ∧ f_law_move [.int (cc + 11 * i)] = .ok (e3 m) := fun i => lmove_ev _
  let mv : Int → Mv := fun i => Classical.choose (hf i)
  have mvB : ∀ i, MvB (mv i) := fun i => (Classical.choose_spec (hf i)).1
  have mvE : ∀ i, f_law_move [.int (cc + 11 * i)] = .ok (e3 (mv i)) := fun i => (Classical.choose_spec (hf i)).2
  generalize mv = mv at mvB mvE
  have q1 : qlaw_1 (E13 (.dat (scrD ns)) (.dat (.int k)) (.dat (.int cc)) s3 s4 s5 s6 s7 s8 s9) = .ok (((upto (1 + n).toNat).map mv).map e3) := by
    unfold qlaw_1
    rw [xlc_all (enc := PyData.int) (xs := upto (1 + n).toNat) (fun i => e3 (mv i)) (irng1_of (j := 1 + n) (by
      generalize f_law_mix = F1 at *
      simp [mx]) (rng1_ev (by omega) (by omega))) (by rw [upto_length]; omega) fun i _ => ⟨_, rfl, rfl, by
      have := mvE i
      have m11 : mulD (.int 11) (.int i) = some (.int (11 * i)) := mul_ii (.inl (by decide))
      generalize f_law_move = F1 at this ⊢
      simp [wipeE, m11, this]⟩, List.map_map]
    rfl
  generalize hms : (upto (1 + n).toNat).map mv = row at q1
  have hB : ∀ m ∈ row, MvB m := fun m hm => by rw [← hms] at hm; obtain ⟨i, _, rfl⟩ := List.mem_map.mp hm; exact mvB i
  have hl : row.length = (1 + n).toNat := by rw [← hms, List.length_map, upto_length]
  have hr1 : 1 ≤ rows row := by unfold rows; omega
  have hr4 : rows row ≤ 4 := by unfold rows; omega
  have rcd := record_ev contT hB (by omega)
  have gT := rec_sg row (rows row)
  have lT := recL_len hB (rows row) (by omega)
  have sp := rr_split hB (by omega)
  have neT : recL row (rows row) ≠ [] := fun z => by
    obtain ⟨j, hj⟩ : ∃ j, rows row = j + 1 := ⟨rows row - 1, by omega⟩
    rw [hj, recL_succ] at z
    simp at z
  have hL : ∀ l ∈ (List.range (rows row)).map (lineL row), Sg l ∧ l.length ≤ 80 := fun l hl => by
    obtain ⟨j, hj, rfl⟩ := List.mem_map.mp hl
    have := List.mem_range.mp hj
    exact ⟨line_sg row j, lineL_len hB (by omega)⟩
  have few : ((List.range (rows row)).map (lineL row)).length ≤ 4 := by rw [List.length_map, List.length_range]; exact hr4
  generalize hTT : recL row (rows row) = T at *
  have lT : T.length ≤ 400 := by omega
  generalize (List.range (rows row)).map (lineL row) = Ls at *
  have f1 : sasg 2 (bin addD (xcall 2 f_law_cell (lcons (xvE 0) (lcons (xvE 1) lnil))) (bin mulD (xc (.int 71)) (xvE 1))) (E13 (.dat (scrD ns)) (.dat (.int k)) s2 s3 s4 s5 s6 s7 s8 s9) = .nx (E13 (.dat (scrD ns)) (.dat (.int k)) (.dat (.int cc)) s3 s4 s5 s6 s7 s8 s9) := g_cell (s0 := .un) (s1 := .un) hc m71 hcc
  have f2 : sasg 3 (un1 tupleD (asL qlaw_1)) (E13 (.dat (scrD ns)) (.dat (.int k)) (.dat (.int cc)) s3 s4 s5 s6 s7 s8 s9) = .nx (E13 (.dat (scrD ns)) (.dat (.int k)) (.dat (.int cc)) (.dat (.tuple (row.map e3))) s4 s5 s6 s7 s8 s9) := g_row q1
  have f3' : sasgT (gtup (gcons (gn 4) (gcons (gn 5) gnil))) (xtup (lcons (xcall 1 frecord_text (lcons (xvE 3) lnil)) (lcons (bin ixD (xc (.str "1., 0ltk2\n")) (xcall 3 f_law_mix (lcons (xvE 2) (lcons (xc (.int 9539)) (lcons (xc (.int 10)) lnil))))) lnil))) (E13 (.dat (scrD ns)) (.dat (.int k)) (.dat (.int cc)) (.dat (.tuple (row.map e3))) s4 s5 s6 s7 s8 s9) = .nx (E13 (.dat (scrD ns)) (.dat (.int k)) (.dat (.int cc)) (.dat (.tuple (row.map e3))) (.dat (.str (S T))) (.dat (.str (S [c]))) s6 s7 s8 s9) := g_two rcd mx2 sg
  obtain ⟨e4, h4, t6, t7, rfl⟩ := forL_stay (enc := PyData.int) (f := gn 6) (B := lblaw_1) (fun e => ∃ t6 t7, e = E13 (.dat (scrD ns)) (.dat (.int k)) (.dat (.int cc)) (.dat (.tuple (row.map e3))) (.dat (.str (S T))) (.dat (.str (S [c]))) t6 t7 s8 s9) (upto T.length)
    (E13 (.dat (scrD ns)) (.dat (.int k)) (.dat (.int cc)) (.dat (.tuple (row.map e3))) (.dat (.str (S T))) (.dat (.str (S [c]))) s6 s7 s8 s9) ⟨_, _, rfl⟩ fun p e hp ⟨u6, u7, he⟩ => by
      subst he
      rw [upto_mem] at hp
      obtain ⟨v7, h⟩ := lb1_ok (s0 := .dat (scrD ns)) (s1 := .dat (.int k)) (s2 := .dat (.int cc)) (s7 := u7) (s8 := s8) (s9 := s9) hTT.symm gT lT hcs hp.1
      exact ⟨_, _, rfl, .inl h, _, _, rfl⟩
  have f4 : llaw_1 (E13 (.dat (scrD ns)) (.dat (.int k)) (.dat (.int cc)) (.dat (.tuple (row.map e3))) (.dat (.str (S T))) (.dat (.str (S [c]))) s6 s7 s8 s9) = .nx (E13 (.dat (scrD ns)) (.dat (.int k)) (.dat (.int cc)) (.dat (.tuple (row.map e3))) (.dat (.str (S T))) (.dat (.str (S [c]))) t6 t7 s8 s9) := by
    exact sfor_nx (irng1_of (j := (T.length : Int)) (g_len (len_T (T := T) (by omega))) (rng1_ev (by omega) (by omega))) (by rw [Int.toNat_natCast]; exact h4)
  have cu : cutD ((Ls ++ [[]]).map encW) none (some (-1)) = Ls.map encW := by rw [List.map_append]; exact cut_end _ _
  have f5 : sasg 8 (xsl (asL (xsplit (xvV 4) (xc (.str "\n")))) onone (osome (un1 negD (xc (.int 1))))) (E13 (.dat (scrD ns)) (.dat (.int k)) (.dat (.int cc)) (.dat (.tuple (row.map e3))) (.dat (.str (S T))) (.dat (.str (S [c]))) t6 t7 s8 s9) = .nx (E13 (.dat (scrD ns)) (.dat (.int k)) (.dat (.int cc)) (.dat (.tuple (row.map e3))) (.dat (.str (S T))) (.dat (.str (S [c]))) t6 t7 (.dat (.list (Ls.map encW))) s9) := by
    have e : xsplit (xvV 4) (xc (.str "\n")) (E13 (.dat (scrD ns)) (.dat (.int k)) (.dat (.int cc)) (.dat (.tuple (row.map e3))) (.dat (.str (S T))) (.dat (.str (S [c]))) t6 t7 s8 s9) = .ok ((Ls ++ [[]]).map encW) := by
      rw [xsplit_s (x := S T) (y := .str (S [10])) rfl (by rw [← s_nl]; rfl), sp]
      rfl
    have sl : sliceD (.list ((Ls ++ [[]]).map encW)) none (some (-1)) = some (.list (Ls.map encW)) := by rw [← cu]; rfl
    exact g_lines e sl
  have g10 : Sg [10] := Sg.of (by decide)
  have a1 : addD (.str (S T)) (.str "\n") = some (.str (S (T ++ [10]))) := by rw [s_nl]; exact add_SS (by simp; omega)
  have a2 : addD (.str "\n") (.str (S T)) = some (.str (S ([10] ++ T))) := by rw [s_nl]; exact add_SS (by simp; omega)
  have a3 := but_last (T := T) neT (by omega)
  have a4 : addD (.str (S T)) (.str (S T)) = some (.str (S (T ++ T))) := add_SS (by omega)
  obtain ⟨w5, a5, g5, l5⟩ := rep_S gT lT (Str.ofString ". ") (z := Str.ofString ".") (by rw [str_S]; exact Sg.of (by decide)) (by rw [str_S]; decide)
  obtain ⟨w6, a6, g6, l6⟩ := rep_S gT lT (Str.ofString "1") (z := Str.ofString "2") (by rw [str_S]; exact Sg.of (by decide)) (by rw [str_S]; decide)
  have f6 := odd_gen (N := .str "\n") (F5 := rep1D ". " ".") (F6 := rep1D "1" "2") (s0 := .dat (scrD ns)) (s1 := .dat (.int k)) (s2 := .dat (.int cc)) (s3 := .dat (.tuple (row.map e3))) (s5 := .dat (.str (S [c]))) (s6 := t6) (s7 := t7) (s8 := .dat (.list (Ls.map encW))) (s9 := s9) a1 a2 a3 a4 a5 a6
  obtain ⟨w7, j7, g7, l7⟩ := joined (Ls := Ls.reverse) (t := [10]) (fun l hl => hL l (List.mem_reverse.mp hl)) (by rw [List.length_reverse]; exact few) g10 (by simp)
  have g8' : Sg [44, 32, 108, 97, 121, 32, 49, 10] := Sg.of (by decide)
  obtain ⟨w8, j8, g8, l8⟩ := joined (Ls := Ls) (t := [44, 32, 108, 97, 121, 32, 49, 10]) hL few g8' (by simp)
  have q3 : ∀ s9, qlaw_3 (E13 (.dat (scrD ns)) (.dat (.int k)) (.dat (.int cc)) (.dat (.tuple (row.map e3))) (.dat (.str (S T))) (.dat (.str (S [c]))) t6 t7 (.dat (.list (Ls.map encW))) s9) = .ok ((Ls.reverse.map fun l => l ++ [10]).map encW) := fun s9 => by
    unfold qlaw_3
    have rv : revLD (.list (Ls.map encW)) = some (.list (Ls.reverse.map encW)) := by rw [List.map_reverse]; rfl
    rw [xlc_all (enc := encW) (xs := Ls.reverse) (fun l => encW (l ++ [10])) (by
      generalize Ls.reverse.map encW = A2 at *
      generalize Ls.map encW = A at *
      generalize row.map e3 = X at *
      simp [rv]) (by rw [List.length_reverse]; omega) fun l hl => ⟨_, rfl, rfl, by
      have hh := hL l (List.mem_reverse.mp hl)
      have ad : addD (.str (S l)) (.str "\n") = some (.str (S (l ++ [10]))) := by rw [s_nl]; exact add_SS (by simp; omega)
      exact g_add rfl ad⟩, List.map_map]
    rfl
  have q4 : ∀ s9, qlaw_4 (E13 (.dat (scrD ns)) (.dat (.int k)) (.dat (.int cc)) (.dat (.tuple (row.map e3))) (.dat (.str (S T))) (.dat (.str (S [c]))) t6 t7 (.dat (.list (Ls.map encW))) s9) = .ok ((Ls.map fun l => l ++ [44, 32, 108, 97, 121, 32, 49, 10]).map encW) := fun s9 => by
    unfold qlaw_4
    rw [xlc_all (enc := encW) (xs := Ls) (fun l => encW (l ++ [44, 32, 108, 97, 121, 32, 49, 10])) (by
      generalize Ls.map encW = A at *
      generalize row.map e3 = X at *
      simp) (by omega) fun l hl => ⟨_, rfl, rfl, by
      have hh := hL l hl
      have ad : addD (.str (S l)) (.str ", lay 1\n") = some (.str (S (l ++ [44, 32, 108, 97, 121, 32, 49, 10]))) := by rw [s_lay1]; exact add_SS (by simp; omega)
      exact g_add rfl ad⟩, List.map_map]
    rfl
  have f7 := odd_app (by simp) (q3 (.own [.str (S (T ++ [10])), .str (S ([10] ++ T)), .str (S (T.take (T.length - 1))), .str (S (T ++ T)), .str (S w5), .str (S w6)])) j7
  have f8 := odd_app (by simp) (q4 (.own ([.str (S (T ++ [10])), .str (S ([10] ++ T)), .str (S (T.take (T.length - 1))), .str (S (T ++ T)), .str (S w5), .str (S w6)] ++ [.str (S w7)]))) j8
  have q5 := q5_ok (s0 := .dat (scrD ns)) (s1 := .dat (.int k)) (s2 := .dat (.int cc)) (s5 := .dat (.str (S [c]))) (s6 := t6) (s7 := t7) (s8 := .dat (.list (Ls.map encW))) hTT.symm gT (ws := [T ++ [10], [10] ++ T, T.take (T.length - 1), T ++ T, w5, w6, w7, w8]) (by simp) fun w hw => by
    simp only [List.mem_cons, List.not_mem_nil, or_false] at hw
    rcases hw with rfl | rfl | rfl | rfl | rfl | rfl | rfl | rfl
    · exact ⟨gT.app g10, by simp; omega⟩
    · exact ⟨g10.app gT, by simp; omega⟩
    · exact ⟨Sg.tk gT _, by rw [List.length_take]; omega⟩
    · exact ⟨gT.app gT, by simp; omega⟩
    · exact ⟨g5, by omega⟩
    · exact ⟨g6, by omega⟩
    · exact ⟨g7, by omega⟩
    · exact ⟨g8, by omega⟩
  have f9 : sif (xbl (bin neD (asL qlaw_5) (asL (xlst lnil)))) (sret (xc (.bool false))) snil (E13 (.dat (scrD ns)) (.dat (.int k)) (.dat (.int cc)) (.dat (.tuple (row.map e3))) (.dat (.str (S T))) (.dat (.str (S [c]))) t6 t7 (.dat (.list (Ls.map encW))) (.own ([T ++ [10], [10] ++ T, T.take (T.length - 1), T ++ T, w5, w6, w7, w8].map encW))) = .nx (E13 (.dat (scrD ns)) (.dat (.int k)) (.dat (.int cc)) (.dat (.tuple (row.map e3))) (.dat (.str (S T))) (.dat (.str (S [c]))) t6 t7 (.dat (.list (Ls.map encW))) (.own ([T ++ [10], [10] ++ T, T.take (T.length - 1), T ++ T, w5, w6, w7, w8].map encW))) := g_none q5
  refine ⟨_, _, _, _, _, _, _, _, Eq.trans ?_ f9⟩
  unfold lblaw_2
  rw [sseq_ev, f1, then_nx, sseq_ev, f2, then_nx, sseq_ev, f3', then_nx, sseq_ev, f4, then_nx, sseq_ev, f5, then_nx, sseq_ev, f6, then_nx, sseq_ev, f7, then_nx, sseq_ev, f8, then_nx]
  rfl
theorem law_true : ∀ ns : List Int, ns.length ≤ 63 → flaw [scrD ns] = .ok (.bool true) := fun ns _ => by
  obtain ⟨e', h1, s1, s2, s3, s4, s5, s6, s7, s8, s9, rfl⟩ := forL_stay (enc := PyData.int) (f := gn 1) (B := lblaw_2) (fun e => ∃ s1 s2 s3 s4 s5 s6 s7 s8 s9, e = E13 (.dat (scrD ns)) s1 s2 s3 s4 s5 s6 s7 s8 s9) (upto 8)
    (E13 (.dat (scrD ns)) .un .un .un .un .un .un .un .un .un) ⟨_, _, _, _, _, _, _, _, _, rfl⟩ fun k e hk ⟨s1, s2, s3, s4, s5, s6, s7, s8, s9, he⟩ => by
      subst he
      rw [upto_mem] at hk
      obtain ⟨t2, t3, t4, t5, t6, t7, t8, t9, h⟩ := lb2_ok (ns := ns) hk.1 (s2 := s2) (s3 := s3) (s4 := s4) (s5 := s5) (s6 := s6) (s7 := s7) (s8 := s8) (s9 := s9)
      exact ⟨_, _, rfl, .inl h, _, _, _, _, _, _, _, _, _, rfl⟩
  have hll : llaw_2 (E13 (.dat (scrD ns)) .un .un .un .un .un .un .un .un .un) = .nx _ := sfor_nx (irng1_of (j := 8) rfl (rng1_ev (by decide) (by decide))) h1
  have hb : blaw (E13 (.dat (scrD ns)) .un .un .un .un .un .un .un .un .un) = .rt (.bool true) := by
    unfold blaw
    rw [sseq_ev, hll, then_nx]
    rfl
  exact runD_rt hb
end M29
namespace M29
open PySem L2 Pu Pf
def top (i : Nat) : Stmt := PySem.Challenge.pw_millrows_k29_whole_no_other_records.main.body.getD i (.Pass ⟨0, 0, 0, 0⟩)
abbrev st__law_cell : Stmt := top 14
abbrev st_told : Stmt := top 6
abbrev st_record_text : Stmt := top 10
abbrev st__law_mix : Stmt := top 15
abbrev st__law_move : Stmt := top 16
abbrev st_point_of : Stmt := top 7
abbrev st_heard : Stmt := top 8
abbrev st_moves_in : Stmt := top 11
abbrev st_read_record : Stmt := top 12
abbrev st__law_is_right : Stmt := top 17
abbrev st_law : Stmt := top 18
structure Top (w : World) (K : PySem.W.Frag) (mg : Str → Option Value) : Prop where
  d__law_cell : Def K mg "_law_cell" st__law_cell ["script", "k"]
  d_told : Def K mg "told" st_told ["move"]
  d_record_text : Def K mg "record_text" st_record_text ["moves"]
  d__law_mix : Def K mg "_law_mix" st__law_mix ["cell", "prime", "many"]
  d__law_move : Def K mg "_law_move" st__law_move ["cell"]
  d_point_of : Def K mg "point_of" st_point_of ["word"]
  d_heard : Def K mg "heard" st_heard ["text"]
  d_moves_in : Def K mg "moves_in" st_moves_in ["line"]
  d_read_record : Def K mg "read_record" st_read_record ["text"]
  d__law_is_right : Def K mg "_law_is_right" st__law_is_right ["text", "row"]
  d_law : Def K mg "law" st_law ["script"]
  m_ValueError : mg "ValueError" = none
  m_all : mg "all" = none
  m_int : mg "int" = none
  m_isinstance : mg "isinstance" = none
  m_len : mg "len" = none
  m_range : mg "range" = none
  m_str : mg "str" = none
  m_tuple : mg "tuple" = none
  e_NoText : ∃ C, ExD K mg "NoText" C
  g_MillError : ∃ D, mg "MillError" = some (.ref D)
  h_MillError_NoText : Hit K mg "MillError" "NoText"
  k_NoText_NoMove : Kit K mg "NoText" "NoMove" false
  k_NoText_NoStep : Kit K mg "NoText" "NoStep" false
  k_NoText_NoText : Kit K mg "NoText" "NoText" true
  v_NoText_ValueError : KitT K mg "NoText" "ValueError" true
theorem sc__law_cell : FnScope ["script", "k"] ["script", "k"] (defScope st__law_cell) := ⟨rfl, rfl, rfl, by decide +kernel, rfl, by decide +kernel, by decide +kernel⟩
theorem sc_told : FnScope ["move", "begin", "goal", "taken", "text"] ["move"] (defScope st_told) := ⟨rfl, rfl, rfl, by decide +kernel, rfl, by decide +kernel, by decide +kernel⟩
theorem sc_record_text : FnScope ["moves", "found", "k", "move"] ["moves"] (defScope st_record_text) := ⟨rfl, rfl, rfl, by decide +kernel, rfl, by decide +kernel, by decide +kernel⟩
theorem sc__law_mix : FnScope ["cell", "prime", "many", "blend"] ["cell", "prime", "many"] (defScope st__law_mix) := ⟨rfl, rfl, rfl, by decide +kernel, rfl, by decide +kernel, by decide +kernel⟩
theorem sc__law_move : FnScope ["cell", "begin", "goal", "taken"] ["cell"] (defScope st__law_move) := ⟨rfl, rfl, rfl, by decide +kernel, rfl, by decide +kernel, by decide +kernel⟩
theorem sc_point_of : FnScope ["word", "sign"] ["word"] (defScope st_point_of) := ⟨rfl, rfl, rfl, by decide +kernel, rfl, by decide +kernel, by decide +kernel⟩
theorem sc_heard : FnScope ["text", "ahead", "sign", "behind", "taken", "words"] ["text"] (defScope st_heard) := ⟨rfl, rfl, rfl, by decide +kernel, rfl, by decide +kernel, by decide +kernel⟩
theorem sc_moves_in : FnScope ["line", "number", "sign", "rest", "one"] ["line"] (defScope st_moves_in) := ⟨rfl, rfl, rfl, by decide +kernel, rfl, by decide +kernel, by decide +kernel⟩
theorem sc_read_record : FnScope ["text", "lines", "found", "line"] ["text"] (defScope st_read_record) := ⟨rfl, rfl, rfl, by decide +kernel, rfl, by decide +kernel, by decide +kernel⟩
theorem sc__law_is_right : FnScope ["text", "row", "found", "e", "others", "one"] ["text", "row"] (defScope st__law_is_right) := ⟨rfl, rfl, rfl, by decide +kernel, rfl, by decide +kernel, by decide +kernel⟩
theorem sc_law : FnScope ["script", "k", "cell", "row", "text", "sign", "place", "others", "lines", "odd", "n", "one", "line"] ["script"] (defScope st_law) := ⟨rfl, rfl, rfl, by decide +kernel, rfl, by decide +kernel, by decide +kernel⟩
section
variable {P : Program} {w : World} {K : PySem.W.Frag} {mg : Str → Option Value} {base : Heap}
theorem ok__law_cell (T : Top w K mg) : OkF P w K mg base "_law_cell" ["script", "k"] 1 f_law_cell :=
  okO T.d__law_cell sc__law_cell fun f cdv A outer s H E z =>
  (sCons (sIf (tCmp (op_ltB z.rm) (pxV 1 (pv 1)) (e2v (xLen T.m_len (pxV 0 (pv 0)))) (nomark _)) (sOne (sRet (xIx (pxV 0 (pv 0)) (pxV 1 (pv 1)) (fun _ _ => rfl)))) sNil)
  (sOne (sRet xInt)))
theorem ok_told (T : Top w K mg) : OkF P w K mg base "told" ["move"] 1 ftold :=
  okO T.d_told sc_told fun f cdv A outer s H E z =>
  (sCons (sUnp (pxE 0 (pv 0)) (gT z (gcons_len (gcons_len (gcons_len gnil_len))) (gC (gN 1 z) (gC (gN 2 z) (gC (gN 3 z) gNil')))))
  (sCons (sLet 4 z (xBin op_addB xStr (xStr1 T.m_str (pxV 2 (pv 2)))))
  (sCons (sIf (tCmp op_geB (pxV 1 (pv 1)) (e2v xInt) (nomark _)) (sOne (sLet 4 z (xBin op_addB (xBin op_addB (xBin op_addB xStr (xStr1 T.m_str (pxV 1 (pv 1)))) xStr) (xStr1 T.m_str (pxV 2 (pv 2)))))) sNil)
  (sCons (sIf (tCmp op_geB (pxV 3 (pv 3)) (e2v xInt) (nomark _)) (sOne (sLet 4 z (xBin op_addB (xBin op_addB (pxE 4 (pv 4)) xStr) (xStr1 T.m_str (pxV 3 (pv 3)))))) sNil)
  (sOne (sRet (pxE 4 (pv 4))))))))
theorem ok_record_text (T : Top w K mg) : OkF P w K mg base "record_text" ["moves"] 2 frecord_text :=
  okO T.d_record_text sc_record_text fun f cdv A outer s H E z =>
  (sCons (sLet 1 z xStr)
  (sCons (sFor z.po z.calm (iRange3 (by rfl) T.m_range xInt (xLen T.m_len (pxV 0 (pv 0))) xInt) (gN 2 z) (sOne (sLet 1 z (xBin op_addB (xBin op_addB (xBin op_addB (xBin op_addB (pxE 1 (pv 1)) (xStr1 T.m_str (e2v (xBin op_addB (xBin op_fdivB (pxE 2 (pv 2)) xInt) xInt)))) xStr) (xJoin (e2v xStr) (e2v (n2e (xLc (own := [("move", 3)]) z.calm z.nd (iSeqV (e2v (xSl (pxV 0 (pv 0)) (oSome (pxE 2 (pv 2))) (oSome (xBin op_addB (pxE 2 (pv 2)) xInt))))) (blkOk_by (by kernel_rfl)) (by decide) (fun _ _ _ _ _ => (gN 3 (z.blk _ _ _ _ _))) (fun _ _ _ _ _ => tsNil) (fun _ _ _ _ _ => (xC1 (z.blk _ _ _ _ _) (ok_told T) (by decide) (aCons (pxE 3 (pv 3)) aNil)))))))) xStr))))
  (sOne (sRet (pxE 1 (pv 1))))))
theorem ok__law_mix (T : Top w K mg) : OkF P w K mg base "_law_mix" ["cell", "prime", "many"] 1 f_law_mix :=
  okO T.d__law_mix sc__law_mix fun f cdv A outer s H E z =>
  (sCons (sLet 3 z (xBin op_modB (xBin op_mulB (pxE 0 (pv 0)) xInt) (pxE 1 (pv 1))))
  (sOne (sRet (xBin op_modB (xBin op_modB (xBin op_mulB (pxE 3 (pv 3)) (xBin op_addB (pxE 3 (pv 3)) xInt)) (pxE 1 (pv 1))) (pxE 2 (pv 2))))))
theorem ok__law_move (T : Top w K mg) : OkF P w K mg base "_law_move" ["cell"] 2 f_law_move :=
  okO T.d__law_move sc__law_move fun f cdv A outer s H E z =>
  (sCons (sPar2 (i := 1) (j := 2) z rfl rfl (by decide) rfl rfl (aCons (xBin op_subB (xC1 z (ok__law_mix T) (by decide) (aCons (pxE 0 (pv 0)) (aCons xInt (aCons xInt aNil)))) xInt) (aCons (xC1 z (ok__law_mix T) (by decide) (aCons (pxE 0 (pv 0)) (aCons xInt (aCons xInt aNil)))) aNil)) (by rfl))
  (sCons (sLet 3 z (xIf (tCmp (op_eqB z.rm) (e2v (xC1 z (ok__law_mix T) (by decide) (aCons (pxE 0 (pv 0)) (aCons xInt (aCons xInt aNil))))) (e2v xInt) (nomark _)) (xC1 z (ok__law_mix T) (by decide) (aCons (pxE 0 (pv 0)) (aCons xInt (aCons xInt aNil)))) (xUn un_negB xInt)))
  (sOne (sRet (xTup (aCons (xIf (tCmp (op_eqB z.rm) (e2v (xC1 z (ok__law_mix T) (by decide) (aCons (pxE 0 (pv 0)) (aCons xInt (aCons xInt aNil))))) (e2v xInt) (nomark _)) (xUn un_negB xInt) (pxE 1 (pv 1))) (aCons (pxE 2 (pv 2)) (aCons (pxE 3 (pv 3)) aNil))))))))
theorem ok_point_of (T : Top w K mg) : OkF P w K mg base "point_of" ["word"] 1 fpoint_of :=
  okO T.d_point_of sc_point_of fun f cdv A outer s H E z =>
  (sCons (sIf (tW (tOr (tNot (tChn op_leB op_leB (e2v xInt) (e2v (xLen T.m_len (pxV 0 (pv 0)))) (e2v xInt))) (tOr (tNot (tTru (e2v (xAll z T.m_all (e2v (n2e (xLc (own := [("sign", 1)]) z.calm z.nd (iSeqV (pxV 0 (pv 0))) (blkOk_by (by kernel_rfl)) (by decide) (fun _ _ _ _ _ => (gN 1 (z.blk _ _ _ _ _))) (fun _ _ _ _ _ => tsNil) (fun _ _ _ _ _ => (xCmp (op_inB (z.blk _ _ _ _ _).rm) (pxV 1 (pv 1)) (e2v xStr) (by rfl)))))))))) (tOr1 (tCmp (op_neB z.rm) (e2v (xStr1 T.m_str (e2v (xInt1 T.m_int (pxV 0 (pv 0)))))) (pxV 0 (pv 0)) (nomark _)))))) (sOne (sRaise z T.e_NoText)) sNil)
  (sCons (sIf (tCmp op_gtB (e2v (xInt1 T.m_int (pxV 0 (pv 0)))) (e2v xInt) (nomark _)) (sOne (sRaise z T.e_NoText)) sNil)
  (sOne (sRet (xInt1 T.m_int (pxV 0 (pv 0)))))))
theorem ok_heard (T : Top w K mg) : OkF P w K mg base "heard" ["text"] 2 fheard :=
  okO T.d_heard sc_heard fun f cdv A outer s H E z =>
  (sCons (sUnp (xPart (pxV 0 (pv 0)) (e2v xStr)) (gT z (gcons_len (gcons_len (gcons_len gnil_len))) (gC (gN 1 z) (gC (gN 2 z) (gC (gN 3 z) gNil')))))
  (sCons (sLet 4 z (xUn un_negB xInt))
  (sCons (sIf (tCmp (op_neB z.rm) (pxV 2 (pv 2)) (e2v xStr) (nomark _)) (sOne (sLet 4 z (xC1 z (ok_point_of T) (by decide) (aCons (pxE 3 (pv 3)) aNil)))) sNil)
  (sCons (sLet 5 z (n2e (xSplit (pxV 1 (pv 1)) (e2v xStr))))
  (sCons (sIf (tW (tAnd (tCmp (op_eqB z.rm) (e2v (xIx (pxV 5 (pv 5)) (e2v xInt) (fun _ _ => rfl))) (e2v xStr) (nomark _)) (tAnd1 (tCmp (op_eqB z.rm) (e2v (xLen T.m_len (pxV 5 (pv 5)))) (e2v xInt) (nomark _))))) (sOne (sRet (xTup (aCons (xUn un_negB xInt) (aCons (xC1 z (ok_point_of T) (by decide) (aCons (xIx (pxV 5 (pv 5)) (e2v xInt) (fun _ _ => rfl)) aNil)) (aCons (pxE 4 (pv 4)) aNil)))))) sNil)
  (sCons (sIf (tW (tOr (tCmp (op_neB z.rm) (e2v (xIx (pxV 5 (pv 5)) (e2v xInt) (fun _ _ => rfl))) (e2v xStr) (nomark _)) (tOr1 (tCmp (op_neB z.rm) (e2v (xLen T.m_len (pxV 5 (pv 5)))) (e2v xInt) (nomark _))))) (sOne (sRaise z T.e_NoText)) sNil)
  (sOne (sRet (xTup (aCons (xC1 z (ok_point_of T) (by decide) (aCons (xIx (pxV 5 (pv 5)) (e2v xInt) (fun _ _ => rfl)) aNil)) (aCons (xC1 z (ok_point_of T) (by decide) (aCons (xIx (pxV 5 (pv 5)) (e2v xInt) (fun _ _ => rfl)) aNil)) (aCons (pxE 4 (pv 4)) aNil))))))))))))
theorem ok_moves_in (T : Top w K mg) : OkF P w K mg base "moves_in" ["line"] 3 fmoves_in :=
  okO T.d_moves_in sc_moves_in fun f cdv A outer s H E z =>
  (sCons (sUnp (xPart (pxV 0 (pv 0)) (e2v xStr)) (gT z (gcons_len (gcons_len (gcons_len gnil_len))) (gC (gN 1 z) (gC (gN 2 z) (gC (gN 3 z) gNil')))))
  (sCons (sIf (tCmp (op_eqB z.rm) (pxV 2 (pv 2)) (e2v xStr) (nomark _)) (sOne (sRaise z T.e_NoText)) sNil)
  (sOne (sRet (n2e (xLx (own := [("one", 4)]) z rfl rfl (iSeqV (e2v (n2e (xSplit (pxV 3 (pv 3)) (e2v xStr))))) (blkOk_by (by kernel_rfl)) (by decide) (fun _ _ _ _ _ => (gN 4 (z.blk _ _ _ _ _))) (fun _ _ _ _ _ _ _ hx => (xC1P (ok_heard T) z.rm (by decide) hx (aCons (pxE 4 (pv 4)) aNil)))))))))
theorem ok_read_record (T : Top w K mg) : OkF P w K mg base "read_record" ["text"] 4 fread_record :=
  okO T.d_read_record sc_read_record fun f cdv A outer s H E z =>
  (sCons (sLet 1 z (n2e (xSplit (pxV 0 (pv 0)) (e2v xStr))))
  (sCons (sLetN 2 z (xLst aNil))
  (sCons (sFor z.po z.calm (iSeqF (xSl (pxV 1 (pv 1)) oNone (oSome (xUn un_negB xInt)))) (gN 3 z) (sOne (sExtend 2 (pv 2) (xC1 z (ok_moves_in T) (by decide) (aCons (pxE 3 (pv 3)) aNil)))))
  (sCons (sFz 2 (sIf (tCmp (op_neB z.rm) (e2v (xC1 z (ok_record_text T) (by decide) (aCons (pxE 2 (pv 2)) aNil))) (pxV 0 (pv 0)) (nomark _)) (sOne (sRaise z T.e_NoText)) sNil))
  (sOne (sRet (xTuple T.m_tuple (pxV 2 (pv 2)))))))))
theorem ok__law_is_right (T : Top w K mg) : OkF P w K mg base "_law_is_right" ["text", "row"] 5 f_law_is_right :=
  okO T.d__law_is_right sc__law_is_right fun f cdv A outer s H E z =>
  (sCons (sTryA 3 z (hsCons z T.h_MillError_NoText (fun a oe pn cs => (sCons (sLetS 4 cs.nd (xOr (xIsO cs T.k_NoText_NoMove (pv 3) T.m_isinstance) (xOne (xIsO cs T.k_NoText_NoStep (pv 3) T.m_isinstance))))
  (sOne (sRet (xAnd (xIsO cs T.k_NoText_NoText (pv 3) T.m_isinstance) (xAnd (xIsB cs T.v_NoText_ValueError bt_ValueError T.m_ValueError (pv 3) T.m_isinstance) (xOne (xNot (pxV 4 (pv 4)))))))))) hsNil) (fun _ _ _ zt => (sOne (sLet 2 zt (xC1 zt (ok_read_record T) (by decide) (aCons (pxE 0 (pv 0)) aNil))))) T.g_MillError)
  (sCons (sIf (tW (tOr (tCmp (op_eqB z.rm) (pxV 2 (pv 2)) (pxV 1 (pv 1)) (nomark _)) (tOr1 (tCmp (op_neB z.rm) (e2v (xC1 z (ok_record_text T) (by decide) (aCons (pxE 2 (pv 2)) aNil))) (pxV 0 (pv 0)) (nomark _))))) (sOne (sRet xBool)) sNil)
  (sOne (sRet (xCmp (op_eqB z.rm) (e2v (n2e (xLc (own := [("one", 5)]) z.calm z.nd (iSeqV (pxV 2 (pv 2))) (blkOk_by (by kernel_rfl)) (by decide) (fun _ _ _ _ _ => (gN 5 (z.blk _ _ _ _ _))) (fun _ _ _ _ _ => (tsOne (tNot (tW (tAnd (tChn op_leB op_leB (e2v (xUn un_negB xInt)) (e2v (xIx (pxV 5 (pv 5)) (e2v xInt) (fun _ _ => rfl))) (e2v xInt)) (tAnd (tChn op_leB op_leB (e2v xInt) (e2v (xIx (pxV 5 (pv 5)) (e2v xInt) (fun _ _ => rfl))) (e2v xInt)) (tAnd1 (tChn op_leB op_leB (e2v (xUn un_negB xInt)) (e2v (xIx (pxV 5 (pv 5)) (e2v xInt) (fun _ _ => rfl))) (e2v xInt))))))))) (fun _ _ _ _ _ => (pxE 5 (pv 5)))))) (e2v (n2e (xLst aNil))) (nomark _))))))
theorem ok_law (T : Top w K mg) : OkF P w K mg base "law" ["script"] 6 flaw :=
  okO T.d_law sc_law fun f cdv A outer s H E z =>
  (sCons (sFor z.po z.calm (iRange1 (by rfl) T.m_range xInt) (gN 1 z) (sCons (sLet 2 z (xBin op_addB (xC1 z (ok__law_cell T) (by decide) (aCons (pxE 0 (pv 0)) (aCons (pxE 1 (pv 1)) aNil))) (xBin op_mulB xInt (pxE 1 (pv 1)))))
  (sCons (sLet 3 z (xTuple T.m_tuple (e2v (n2e (xLc (own := [("n", 10)]) z.calm z.nd (iRange1 (by rfl) T.m_range (xBin op_addB xInt (xC1 z (ok__law_mix T) (by decide) (aCons (pxE 2 (pv 2)) (aCons xInt (aCons xInt aNil)))))) (blkOk_by (by kernel_rfl)) (by decide) (fun _ _ _ _ _ => (gN 10 (z.blk _ _ _ _ _))) (fun _ _ _ _ _ => tsNil) (fun _ _ _ _ _ => (xC1 (z.blk _ _ _ _ _) (ok__law_move T) (by decide) (aCons (xBin op_addB (pxE 2 (pv 2)) (xBin op_mulB xInt (pxE 10 (pv 10)))) aNil))))))))
  (sCons (sUnp (xTup (aCons (xC1 z (ok_record_text T) (by decide) (aCons (pxE 3 (pv 3)) aNil)) (aCons (xIx (e2v xStr) (e2v (xC1 z (ok__law_mix T) (by decide) (aCons (pxE 2 (pv 2)) (aCons xInt (aCons xInt aNil))))) (fun _ _ => rfl)) aNil))) (gT z (gcons_len (gcons_len gnil_len)) (gC (gN 4 z) (gC (gN 5 z) gNil'))))
  (sCons (sFor z.po z.calm (iRange1 (by rfl) T.m_range (xLen T.m_len (pxV 4 (pv 4)))) (gN 6 z) (sCons (sLetN 7 z (xLst (aCons (xBin op_addB (xSl (pxV 4 (pv 4)) oNone (oSome (pxE 6 (pv 6)))) (xSl (pxV 4 (pv 4)) (oSome (xBin op_addB (pxE 6 (pv 6)) xInt)) oNone)) (aCons (xBin op_addB (xBin op_addB (xSl (pxV 4 (pv 4)) oNone (oSome (pxE 6 (pv 6)))) (pxE 5 (pv 5))) (xSl (pxV 4 (pv 4)) (oSome (pxE 6 (pv 6))) oNone)) aNil))))
  (sCons (sAppend 7 (pv 7) (xBin op_addB (xBin op_addB (xSl (pxV 4 (pv 4)) oNone (oSome (pxE 6 (pv 6)))) (pxE 5 (pv 5))) (xSl (pxV 4 (pv 4)) (oSome (xBin op_addB (pxE 6 (pv 6)) xInt)) oNone)))
  (sOne (sIf (tCmp (op_neB z.rm) (e2v (n2e (xLc (own := [("one", 11)]) z.calm z.nd (iSeqV (pxV 7 (pv 7))) (blkOk_by (by kernel_rfl)) (by decide) (fun _ _ _ _ _ => (gN 11 (z.blk _ _ _ _ _))) (fun _ _ _ _ _ => (tsOne (tW (tAnd (tCmp (op_neB (z.blk _ _ _ _ _).rm) (pxV 11 (pv 11)) (pxV 4 (pv 4)) (nomark _)) (tAnd1 (tNot (tTru (e2v (xC1 (z.blk _ _ _ _ _) (ok__law_is_right T) (by decide) (aCons (pxE 11 (pv 11)) (aCons (pxE 3 (pv 3)) aNil))))))))))) (fun _ _ _ _ _ => (pxE 11 (pv 11)))))) (e2v (n2e (xLst aNil))) (nomark _)) (sOne (sRet xBool)) sNil)))))
  (sCons (sLet 8 z (xSl (e2v (n2e (xSplit (pxV 4 (pv 4)) (e2v xStr)))) oNone (oSome (xUn un_negB xInt))))
  (sCons (sLetN 9 z (xLst (aPCons op_addB (pxE 4 (pv 4)) (aTCons (aTE (xBin op_addB xStr (pxE 4 (pv 4)))) (aTCons (aTE (xSl (pxV 4 (pv 4)) oNone (oSome (xUn un_negB xInt)))) (aTCons (aTE (xBin op_addB (pxE 4 (pv 4)) (pxE 4 (pv 4)))) (aTCons (tRep (pxE 4 (pv 4))) (aTCons (tRep (pxE 4 (pv 4))) aTNil))))))))
  (sCons (sAppend 9 (pv 9) (xJoin (e2v xStr) (e2v (n2e (xLc (own := [("line", 12)]) z.calm z.nd (iSeqV (e2v (xRevL (pxV 8 (pv 8))))) (blkOk_by (by kernel_rfl)) (by decide) (fun _ _ _ _ _ => (gN 12 (z.blk _ _ _ _ _))) (fun _ _ _ _ _ => tsNil) (fun _ _ _ _ _ => (xBin op_addB (pxE 12 (pv 12)) xStr)))))))
  (sCons (sAppend 9 (pv 9) (xJoin (e2v xStr) (e2v (n2e (xLc (own := [("line", 12)]) z.calm z.nd (iSeqV (pxV 8 (pv 8))) (blkOk_by (by kernel_rfl)) (by decide) (fun _ _ _ _ _ => (gN 12 (z.blk _ _ _ _ _))) (fun _ _ _ _ _ => tsNil) (fun _ _ _ _ _ => (xBin op_addB (pxE 12 (pv 12)) xStr)))))))
  (sOne (sIf (tCmp (op_neB z.rm) (e2v (n2e (xLc (own := [("one", 11)]) z.calm z.nd (iSeqV (pxV 9 (pv 9))) (blkOk_by (by kernel_rfl)) (by decide) (fun _ _ _ _ _ => (gN 11 (z.blk _ _ _ _ _))) (fun _ _ _ _ _ => (tsOne (tW (tAnd (tCmp (op_neB (z.blk _ _ _ _ _).rm) (pxV 11 (pv 11)) (pxV 4 (pv 4)) (nomark _)) (tAnd1 (tNot (tTru (e2v (xC1 (z.blk _ _ _ _ _) (ok__law_is_right T) (by decide) (aCons (pxE 11 (pv 11)) (aCons (pxE 3 (pv 3)) aNil))))))))))) (fun _ _ _ _ _ => (pxE 11 (pv 11)))))) (e2v (n2e (xLst aNil))) (nomark _)) (sOne (sRet xBool)) sNil)))))))))))
  (sOne (sRet xBool)))
end
theorem top_mk {w : World} {K : PySem.W.Frag} {h : Heap} {mg : Str → Option Value} (X : K.In h) (G : h.Ns mainGlobals mg)
    {f0 : Addr} {od0 an0 : Option Addr} {sl0 : Array (Option Value)} {oc0 kV0 dc0 pm0 cd0 ct0 : Value}
    {f1 : Addr} {od1 an1 : Option Addr} {sl1 : Array (Option Value)} {oc1 kV1 dc1 pm1 cd1 ct1 : Value}
    {f2 : Addr} {od2 an2 : Option Addr} {sl2 : Array (Option Value)} {oc2 kV2 dc2 pm2 cd2 ct2 : Value}
    {f3 : Addr} {od3 an3 : Option Addr} {sl3 : Array (Option Value)} {oc3 kV3 dc3 pm3 cd3 ct3 : Value}
    {f4 : Addr} {od4 an4 : Option Addr} {sl4 : Array (Option Value)} {oc4 kV4 dc4 pm4 cd4 ct4 : Value}
    {f5 : Addr} {od5 an5 : Option Addr} {sl5 : Array (Option Value)} {oc5 kV5 dc5 pm5 cd5 ct5 : Value}
    {f6 : Addr} {od6 an6 : Option Addr} {sl6 : Array (Option Value)} {oc6 kV6 dc6 pm6 cd6 ct6 : Value}
    {f7 : Addr} {od7 an7 : Option Addr} {sl7 : Array (Option Value)} {oc7 kV7 dc7 pm7 cd7 ct7 : Value}
    {f8 : Addr} {od8 an8 : Option Addr} {sl8 : Array (Option Value)} {oc8 kV8 dc8 pm8 cd8 ct8 : Value}
    {f9 : Addr} {od9 an9 : Option Addr} {sl9 : Array (Option Value)} {oc9 kV9 dc9 pm9 cd9 ct9 : Value}
    {f10 : Addr} {od10 an10 : Option Addr} {sl10 : Array (Option Value)} {oc10 kV10 dc10 pm10 cd10 ct10 : Value}
    {CNoText : Addr}
    {CMillError : Addr}
    {CNoMove : Addr}
    {CNoStep : Addr}
    (a0 : PySem.W.nsIn K mainGlobals "_law_cell" = some (some (.ref f0))) (l0 : K.lookup f0 = some ⟨oc0, od0, .func (PySem.W.fnOf "_law_cell" "_law_cell" (defArgs st__law_cell) (defBody st__law_cell) (defScope st__law_cell) .none kV0 dc0 pm0 an0 cd0 ct0), sl0⟩) (c0 : PySem.W.codeIn K cd0 "_law_cell" = true) (k0 : PySem.W.keepIn K (.ref f0) = true)
    (a1 : PySem.W.nsIn K mainGlobals "told" = some (some (.ref f1))) (l1 : K.lookup f1 = some ⟨oc1, od1, .func (PySem.W.fnOf "told" "told" (defArgs st_told) (defBody st_told) (defScope st_told) .none kV1 dc1 pm1 an1 cd1 ct1), sl1⟩) (c1 : PySem.W.codeIn K cd1 "told" = true) (k1 : PySem.W.keepIn K (.ref f1) = true)
    (a2 : PySem.W.nsIn K mainGlobals "record_text" = some (some (.ref f2))) (l2 : K.lookup f2 = some ⟨oc2, od2, .func (PySem.W.fnOf "record_text" "record_text" (defArgs st_record_text) (defBody st_record_text) (defScope st_record_text) .none kV2 dc2 pm2 an2 cd2 ct2), sl2⟩) (c2 : PySem.W.codeIn K cd2 "record_text" = true) (k2 : PySem.W.keepIn K (.ref f2) = true)
    (a3 : PySem.W.nsIn K mainGlobals "_law_mix" = some (some (.ref f3))) (l3 : K.lookup f3 = some ⟨oc3, od3, .func (PySem.W.fnOf "_law_mix" "_law_mix" (defArgs st__law_mix) (defBody st__law_mix) (defScope st__law_mix) .none kV3 dc3 pm3 an3 cd3 ct3), sl3⟩) (c3 : PySem.W.codeIn K cd3 "_law_mix" = true) (k3 : PySem.W.keepIn K (.ref f3) = true)
    (a4 : PySem.W.nsIn K mainGlobals "_law_move" = some (some (.ref f4))) (l4 : K.lookup f4 = some ⟨oc4, od4, .func (PySem.W.fnOf "_law_move" "_law_move" (defArgs st__law_move) (defBody st__law_move) (defScope st__law_move) .none kV4 dc4 pm4 an4 cd4 ct4), sl4⟩) (c4 : PySem.W.codeIn K cd4 "_law_move" = true) (k4 : PySem.W.keepIn K (.ref f4) = true)
    (a5 : PySem.W.nsIn K mainGlobals "point_of" = some (some (.ref f5))) (l5 : K.lookup f5 = some ⟨oc5, od5, .func (PySem.W.fnOf "point_of" "point_of" (defArgs st_point_of) (defBody st_point_of) (defScope st_point_of) .none kV5 dc5 pm5 an5 cd5 ct5), sl5⟩) (c5 : PySem.W.codeIn K cd5 "point_of" = true) (k5 : PySem.W.keepIn K (.ref f5) = true)
    (a6 : PySem.W.nsIn K mainGlobals "heard" = some (some (.ref f6))) (l6 : K.lookup f6 = some ⟨oc6, od6, .func (PySem.W.fnOf "heard" "heard" (defArgs st_heard) (defBody st_heard) (defScope st_heard) .none kV6 dc6 pm6 an6 cd6 ct6), sl6⟩) (c6 : PySem.W.codeIn K cd6 "heard" = true) (k6 : PySem.W.keepIn K (.ref f6) = true)
    (a7 : PySem.W.nsIn K mainGlobals "moves_in" = some (some (.ref f7))) (l7 : K.lookup f7 = some ⟨oc7, od7, .func (PySem.W.fnOf "moves_in" "moves_in" (defArgs st_moves_in) (defBody st_moves_in) (defScope st_moves_in) .none kV7 dc7 pm7 an7 cd7 ct7), sl7⟩) (c7 : PySem.W.codeIn K cd7 "moves_in" = true) (k7 : PySem.W.keepIn K (.ref f7) = true)
    (a8 : PySem.W.nsIn K mainGlobals "read_record" = some (some (.ref f8))) (l8 : K.lookup f8 = some ⟨oc8, od8, .func (PySem.W.fnOf "read_record" "read_record" (defArgs st_read_record) (defBody st_read_record) (defScope st_read_record) .none kV8 dc8 pm8 an8 cd8 ct8), sl8⟩) (c8 : PySem.W.codeIn K cd8 "read_record" = true) (k8 : PySem.W.keepIn K (.ref f8) = true)
    (a9 : PySem.W.nsIn K mainGlobals "_law_is_right" = some (some (.ref f9))) (l9 : K.lookup f9 = some ⟨oc9, od9, .func (PySem.W.fnOf "_law_is_right" "_law_is_right" (defArgs st__law_is_right) (defBody st__law_is_right) (defScope st__law_is_right) .none kV9 dc9 pm9 an9 cd9 ct9), sl9⟩) (c9 : PySem.W.codeIn K cd9 "_law_is_right" = true) (k9 : PySem.W.keepIn K (.ref f9) = true)
    (a10 : PySem.W.nsIn K mainGlobals "law" = some (some (.ref f10))) (l10 : K.lookup f10 = some ⟨oc10, od10, .func (PySem.W.fnOf "law" "law" (defArgs st_law) (defBody st_law) (defScope st_law) .none kV10 dc10 pm10 an10 cd10 ct10), sl10⟩) (c10 : PySem.W.codeIn K cd10 "law" = true) (k10 : PySem.W.keepIn K (.ref f10) = true)
    (z0 : PySem.W.nsIn K mainGlobals "ValueError" = some none)
    (z1 : PySem.W.nsIn K mainGlobals "all" = some none)
    (z2 : PySem.W.nsIn K mainGlobals "int" = some none)
    (z3 : PySem.W.nsIn K mainGlobals "isinstance" = some none)
    (z4 : PySem.W.nsIn K mainGlobals "len" = some none)
    (z5 : PySem.W.nsIn K mainGlobals "range" = some none)
    (z6 : PySem.W.nsIn K mainGlobals "str" = some none)
    (z7 : PySem.W.nsIn K mainGlobals "tuple" = some none)
    (xx0 : PySem.W.nsIn K mainGlobals "NoText" = some (some (.ref CNoText)))
    (xx1 : PySem.W.nsIn K mainGlobals "MillError" = some (some (.ref CMillError)))
    (xx2 : PySem.W.nsIn K mainGlobals "NoMove" = some (some (.ref CNoMove)))
    (xx3 : PySem.W.nsIn K mainGlobals "NoStep" = some (some (.ref CNoStep)))
    (xx4 : PySem.W.excIn K CNoText [.type "ValueError", .type "Exception", .type "BaseException", .type "object"] "ValueError.__new__" = true)
    (xx5 : PySem.W.keepIn K (.ref CNoText) = true)
    (xx6 : PySem.W.subIn K (.ref CNoText) (.type "BaseException") = some true)
    (xx7 : PySem.W.typeIn K (.ref CNoText) = some (.type "type"))
    (xx8 : PySem.W.findIn K (.ref CNoText) "__getattribute__" = some (some (.builtin "BaseException.__getattribute__")))
    (xx9 : PySem.W.findIn K (.ref CNoText) "__getattr__" = some none)
    (xx10 : PySem.W.hasDictIn K CNoText = true)
    (xx11 : PySem.W.findIn K (.ref CNoText) "__class__" = some (some (.builtin "object.__class__")))
    (xx12 : PySem.W.specialIn K (.builtin "object.__class__") "__get__" = some (some (.builtin "getset_descriptor.__get__")))
    (xx13 : PySem.W.takesIn K (.builtin "object.__class__") = some true)
    (xx14 : PySem.W.mroIn K CNoText (.type "object") = some true)
    (xx15 : PySem.W.subIn K (.ref CMillError) (.type "BaseException") = some true)
    (xx16 : PySem.W.hasDictIn K CMillError = true)
    (xx17 : PySem.W.typeIn K (.ref CMillError) = some (.type "type"))
    (xx18 : PySem.W.subIn K (.ref CNoText) (.ref CMillError) = some true)
    (xx19 : PySem.W.isClsIn K CNoMove = true)
    (xx20 : PySem.W.typeIn K (.ref CNoMove) = some (.type "type"))
    (xx21 : PySem.W.subIn K (.ref CNoText) (.ref CNoMove) = some false)
    (xx22 : PySem.W.subIn K (.ref CNoMove) (.ref CNoMove) = some true)
    (xx23 : PySem.W.isClsIn K CNoStep = true)
    (xx24 : PySem.W.typeIn K (.ref CNoStep) = some (.type "type"))
    (xx25 : PySem.W.subIn K (.ref CNoText) (.ref CNoStep) = some false)
    (xx26 : PySem.W.subIn K (.ref CNoStep) (.ref CNoStep) = some true)
    (xx27 : PySem.W.isClsIn K CNoText = true)
    (xx28 : PySem.W.subIn K (.ref CNoText) (.ref CNoText) = some true)
    (xx29 : PySem.W.subIn K (.ref CNoText) (.type "ValueError") = some true) :
    Top w K mg := by
  have F0 := fun_mk (st := st__law_cell) l0 c0 k0
  have F1 := fun_mk (st := st_told) l1 c1 k1
  have F2 := fun_mk (st := st_record_text) l2 c2 k2
  have F3 := fun_mk (st := st__law_mix) l3 c3 k3
  have F4 := fun_mk (st := st__law_move) l4 c4 k4
  have F5 := fun_mk (st := st_point_of) l5 c5 k5
  have F6 := fun_mk (st := st_heard) l6 c6 k6
  have F7 := fun_mk (st := st_moves_in) l7 c7 k7
  have F8 := fun_mk (st := st_read_record) l8 c8 k8
  have F9 := fun_mk (st := st__law_is_right) l9 c9 k9
  have F10 := fun_mk (st := st_law) l10 c10 k10
  exact ⟨⟨_, _, F0, fun us hl => match us, hl with | [_, _], _ => rfl, PySem.W.mg_of X G a0⟩, ⟨_, _, F1, fun us hl => match us, hl with | [_], _ => rfl, PySem.W.mg_of X G a1⟩, ⟨_, _, F2, fun us hl => match us, hl with | [_], _ => rfl, PySem.W.mg_of X G a2⟩, ⟨_, _, F3, fun us hl => match us, hl with | [_, _, _], _ => rfl, PySem.W.mg_of X G a3⟩, ⟨_, _, F4, fun us hl => match us, hl with | [_], _ => rfl, PySem.W.mg_of X G a4⟩, ⟨_, _, F5, fun us hl => match us, hl with | [_], _ => rfl, PySem.W.mg_of X G a5⟩, ⟨_, _, F6, fun us hl => match us, hl with | [_], _ => rfl, PySem.W.mg_of X G a6⟩, ⟨_, _, F7, fun us hl => match us, hl with | [_], _ => rfl, PySem.W.mg_of X G a7⟩, ⟨_, _, F8, fun us hl => match us, hl with | [_], _ => rfl, PySem.W.mg_of X G a8⟩, ⟨_, _, F9, fun us hl => match us, hl with | [_, _], _ => rfl, PySem.W.mg_of X G a9⟩, ⟨_, _, F10, fun us hl => match us, hl with | [_], _ => rfl, PySem.W.mg_of X G a10⟩, PySem.W.mg_none_of X G z0, PySem.W.mg_none_of X G z1, PySem.W.mg_none_of X G z2, PySem.W.mg_none_of X G z3, PySem.W.mg_none_of X G z4, PySem.W.mg_none_of X G z5, PySem.W.mg_none_of X G z6, PySem.W.mg_none_of X G z7, ⟨_, PySem.W.mg_of X G xx0, xx4, xx5, xx6, xx7⟩, ⟨_, PySem.W.mg_of X G xx1⟩, ⟨_, _, PySem.W.mg_of X G xx0, PySem.W.mg_of X G xx1, PySem.W.exm_ref xx15 xx16 xx17 xx18, ⟨xx8, xx9, xx6, xx10, xx11, xx12, xx13, xx14⟩⟩, ⟨_, _, PySem.W.mg_of X G xx0, PySem.W.mg_of X G xx2, kit_own xx19 xx20 xx21 xx22⟩, ⟨_, _, PySem.W.mg_of X G xx0, PySem.W.mg_of X G xx3, kit_own xx23 xx24 xx25 xx26⟩, ⟨_, _, PySem.W.mg_of X G xx0, PySem.W.mg_of X G xx0, kit_own xx27 xx7 xx28 xx28⟩, ⟨_, PySem.W.mg_of X G xx0, kit_blt (by decide +kernel) xx29⟩⟩
theorem fin {w : World} {K : PySem.W.Frag} {h : Heap} {mg : Str → Option Value} {fa : Addr} (KX : K.In h) (hmg : mg "law" = some (.ref fa)) (T : Top w K mg) :
    ∃ fd : FuncData, (∀ (s : Shared) (u : Value), BindsTo s fd ⟨[u], []⟩ [("script", u)]) ∧ ∀ base : Heap, K.In base → base.Ns mainGlobals mg → FnOk PySem.Challenge.rw_millrows_k29_whole_no_other_records.prog w K mg base (L2.CX PySem.Challenge.rw_millrows_k29_whole_no_other_records.prog w) 6 fa fd ["script"] (spLaw K) :=
  law_top hmg T.d_law (fun base => ok_law T) law_true
end M29
open PySem PySem.W PyProof.Rows
set_option maxRecDepth 100000 in
set_option maxHeartbeats 0 in
theorem PySem.Challenge.cw_millrows_k29_whole_no_other_records_holds : PySem.Challenge.rw_millrows_k29_whole_no_other_records.Holds := by
  w_on; o_law; k_head; (case hw => w_witness2)
  k_fill
  refine L2.walk_of (l := PySem.Challenge.rw_millrows_k29_whole_no_other_records) (n := 63) (k := 6) (x := "script") (CX := fun w => L2.CX PySem.Challenge.rw_millrows_k29_whole_no_other_records.prog w) (sp := fun w => Pu.spLaw _) rfl (by decide) rfl ⟨rfl, by decide, by decide⟩ (fun w h Y => PySem.W.kIn_of Y) ?F (fun _ _ a ns hl _ hS => ⟨a, ns, rfl, hS, hl, fun _ => rfl⟩) (fun w H s e s' h => Pu.noCX h)
  case F =>
    intro w mg fa h KX G hmg
    refine' M29.fin KX hmg (M29.top_mk (w := w) KX G ?a0 ?l0 ?c0 ?k0 ?a1 ?l1 ?c1 ?k1 ?a2 ?l2 ?c2 ?k2 ?a3 ?l3 ?c3 ?k3 ?a4 ?l4 ?c4 ?k4 ?a5 ?l5 ?c5 ?k5 ?a6 ?l6 ?c6 ?k6 ?a7 ?l7 ?c7 ?k7 ?a8 ?l8 ?c8 ?k8 ?a9 ?l9 ?c9 ?k9 ?a10 ?l10 ?c10 ?k10 ?z0 ?z1 ?z2 ?z3 ?z4 ?z5 ?z6 ?z7 ?xx0 ?xx1 ?xx2 ?xx3 ?xx4 ?xx5 ?xx6 ?xx7 ?xx8 ?xx9 ?xx10 ?xx11 ?xx12 ?xx13 ?xx14 ?xx15 ?xx16 ?xx17 ?xx18 ?xx19 ?xx20 ?xx21 ?xx22 ?xx23 ?xx24 ?xx25 ?xx26 ?xx27 ?xx28 ?xx29)
    (case a0 => k_is); (case l0 => k_is); (case c0 => k_is); (case k0 => k_is); (case a1 => k_is); (case l1 => k_is); (case c1 => k_is); (case k1 => k_is); (case a2 => k_is); (case l2 => k_is); (case c2 => k_is); (case k2 => k_is); (case a3 => k_is); (case l3 => k_is); (case c3 => k_is); (case k3 => k_is); (case a4 => k_is); (case l4 => k_is); (case c4 => k_is); (case k4 => k_is); (case a5 => k_is); (case l5 => k_is); (case c5 => k_is); (case k5 => k_is); (case a6 => k_is); (case l6 => k_is); (case c6 => k_is); (case k6 => k_is); (case a7 => k_is); (case l7 => k_is); (case c7 => k_is); (case k7 => k_is); (case a8 => k_is); (case l8 => k_is); (case c8 => k_is); (case k8 => k_is); (case a9 => k_is); (case l9 => k_is); (case c9 => k_is); (case k9 => k_is); (case a10 => k_is); (case l10 => k_is); (case c10 => k_is); (case k10 => k_is); (case z0 => k_is); (case z1 => k_is); (case z2 => k_is); (case z3 => k_is); (case z4 => k_is); (case z5 => k_is); (case z6 => k_is); (case z7 => k_is); (case xx0 => k_is); (case xx1 => k_is); (case xx2 => k_is); (case xx3 => k_is); (case xx4 => k_exc); (case xx5 => k_is); (case xx6 => k_is); (case xx7 => k_is); (case xx8 => k_is); (case xx9 => k_is); (case xx10 => k_is); (case xx11 => k_is); (case xx12 => k_is); (case xx13 => k_is); (case xx14 => k_is); (case xx15 => k_is); (case xx16 => k_is); (case xx17 => k_is); (case xx18 => k_is); (case xx19 => k_is); (case xx20 => k_is); (case xx21 => k_is); (case xx22 => k_is); (case xx23 => k_is); (case xx24 => k_is); (case xx25 => k_is); (case xx26 => k_is); (case xx27 => k_is); (case xx28 => k_is); (case xx29 => k_is)
