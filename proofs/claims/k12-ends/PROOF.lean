import PyProof.Rows.All
import Wide.All
import OpenK.AllK
import Wide.FinOn
import HandS.ForMost
import HandS.ForExc
import HandS.Deep
import HandS.TupAny
import HandS.TupMul
import HandS.Zip
import HandS.Conv
import HandS.CallSlots
import HandS.Flow
import HandS.Style
import HandS.IsInst
import KE.SortData
import KE.KDictKeyed
import KE.GoesMore
import KE.GoesEnum
import PyProof.EnumMake
import HandS.SetFor
import HandS.Strs
import HandS.Text
import KE.KRevSl
import HandS.ExcIs
import HandS.TryOnly
import HandS.TupSets
import HandS.NoneIn
import KE.DatumOrd
import KE.GoesComp
import KE.GoesRaise
import HandS.ReplaceLit
import PySem.Challenge.RW_millrows_k12_whole_ends
set_option Elab.async false
set_option linter.all false
set_option maxRecDepth 100000
set_option maxHeartbeats 4000000
/-! PuA: data, results, slots; what a value stands for; the frozen part of the heap; readings by data -/
namespace Pu
open PySem L2

abbrev D := PyData
/-- a result: a value, an error of the class so named, or nothing told -/
inductive R (α : Type) where
  | ok (a : α)
  | ex (c : Str)
  | bad
def R.bind {α β : Type} (r : R α) (f : α → R β) : R β :=
  match r with
  | .ok a => f a
  | .ex c => .ex c
  | .bad => .bad
@[simp] theorem bind_ok {α β : Type} (a : α) (f : α → R β) : (R.ok a).bind f = f a := rfl
@[simp] theorem bind_ex {α β : Type} (c : Str) (f : α → R β) : (R.ex c).bind f = .ex c := rfl
@[simp] theorem bind_bad {α β : Type} (f : α → R β) : (R.bad).bind f = .bad := rfl

/-- what a name holds: nothing that is told; data that is never changed; a list of its own; a dict of its own, tuple keys, every value True -/
inductive Sl where
  | un
  | dat (d : D)
  | own (ds : List D)
  | dic (kvs : List (D × D))
  | exc
abbrev En := List Sl
inductive Fl where
  | nx (e : En)
  | rt (d : D)
  | bk (e : En)
  | ct (e : En)
  | ex (c : Str) (e : En)
  | bad

/-- the frozen frame's constants, the world; where the caught error stands -/
structure Kw where
  K : PySem.W.Frag
  w : World
  ea : Addr
instance : Coe Kw PySem.W.Frag := ⟨Kw.K⟩
@[reducible] def _root_.L2.Cx.kw (X : Cx) (ea : Addr) : Kw := ⟨X.K, X.w, ea⟩
/-- a dict whose keys are tuples: what its one object is -/
def entW (w : World) (x : NestedKey × Addr × Value) : DictEntry := ⟨x.1.hash w, .ref x.2.1, x.2.2⟩
/-- its rows, and the count of its changes -/
abbrev DX := List (NestedKey × Addr × Value) × Nat
def DicF (w : World) (a : Addr) (xs : DX) (h : Heap) : Prop :=
  xs.1.length ≤ sizeLine ∧ (a == sysModules) = false ∧ ∃ o es ep, h.get? a = some o ∧ o.ExactDict ∧ o.data = .dict es ep ∧ es.toList = xs.1.map (entW w) ∧ (xs.1.map (·.1)).Nodup ∧ ep = xs.2
def DicO (w : World) (a : Addr) (xs : DX) : HO := .ext (DicF w a xs)
/-! data as a key -/
mutual
def nk : D → Option NestedKey
  | .none => some .none
  | .bool b => some (.num (if b then 1 else 0))
  | .int i => some (.num i)
  | .str x => some (.text x)
  | .tuple ds => (nkAll ds).map NestedKey.tup
  | .list _ => none
  | .dict _ => none
def nkAll : List D → Option (List NestedKey)
  | [] => some []
  | d :: ds => (nk d).bind fun k => (nkAll ds).map fun ks => k :: ks
end

/-- the script: a list of ints that is read alone -/
def scrD (ns : List Int) : D := .dict [(.none, .list (ns.map PyData.int))]
/-! a dict of constants, by what its one object is -/
/-- a key as it is looked up -/
def keyV : D → Option (Option Key)
  | .none => some none
  | .int i => some (some (.inl i))
  | .str x => some (some (.inr x))
  | _ => none
def keyC : Value → Option (Option Key)
  | .none => some none
  | .int i _ => some (some (.inl i))
  | .str x _ => some (some (.inr x))
  | _ => none
def valC : Value → Option D
  | .none => some .none
  | .int i _ => some (.int i)
  | .str x _ => some (.str x)
  | _ => none
def hashP (P : Params) : Option Key → Int
  | none => reduceHash 0xFCA86420
  | some (.inl i) => hashInt i
  | some (.inr x) => PyData.keyHash P x
def entC (e : DictEntry) : Option (Option Key) × Int × Option D := (keyC e.key, e.hash, valC e.val)
def rowC (P : Params) (p : D × D) : Option (Option Key) × Int × Option D := (keyV p.1, ((keyV p.1).map (hashP P)).getD 0, some p.2)
def TabF (w : World) (a : Addr) (tab : List (D × D)) (h : Heap) : Prop := ∃ o es ep, h.get? a = some o ∧ o.ExactDict ∧ o.data = .dict es ep ∧ es.toList.map entC = tab.map (rowC w.params)
def TabO (w : World) (a : Addr) (tab : List (D × D)) : HO := .ext (TabF w a tab)
/-- such a dict as data: a mark ahead of its rows -/
def tabD (tab : List (D × D)) : D := .dict ((.none, .none) :: tab)
/-- a tuple, by its object -/
def SqF (H : Hp) (a : Addr) (xs : List V) : Prop := ∃ o : Obj, H a = some (.frz o (.tup xs)) ∧ o.dict = none
mutual
inductive Rp (K : Kw) (H : Hp) : V → D → Prop
  | non : Rp K H .non .none
  | bl (b : Bool) : Rp K H (.bl b) (.bool b)
  | int (i : Int) : Rp K H (.int i) (.int i)
  | str (x : Str) : Rp K H (.str x) (.str x)
  | lst {a : Addr} {xs : List V} {ds : List D} : H a = some (.lst xs) → RpAll K H xs ds → Rp K H (.ref a) (.list ds)
  | tup {a : Addr} {xs : List V} {ds : List D} : SqF H a xs → RpAll K H xs ds → Rp K H (.ref a) (.tuple ds)
  | dct {a : Addr} {xs : DX} {kvs : List (D × D)} : H a = some (DicO K.w a xs) → RpDct K H xs.1 kvs → Rp K H (.ref a) (.dict kvs)
  | scr {a : Addr} {ns : List Int} : SqL K H a (ns.map V.int) → Rp K H (.ref a) (scrD ns)
  | tab {a : Addr} {t : List (D × D)} : H a = some (TabO K.w a t) → Rp K H (.ref a) (tabD t)
inductive RpAll (K : Kw) (H : Hp) : List V → List D → Prop
  | nil : RpAll K H [] []
  | cons {v : V} {vs : List V} {d : D} {ds : List D} : Rp K H v d → RpAll K H vs ds → RpAll K H (v :: vs) (d :: ds)
inductive RpDct (K : Kw) (H : Hp) : List (NestedKey × Addr × Value) → List (D × D) → Prop
  | nil : RpDct K H [] []
  | cons {k : NestedKey} {b : Addr} {u : Value} {v : V} {d e : D} {xs : List (NestedKey × Addr × Value)} {kvs : List (D × D)} : nk d = some k → k.depth ≤ 8 → Rp K H (.ref b) d → RelV v u → Rp K H v e → RpDct K H xs kvs → RpDct K H ((k, b, u) :: xs) ((d, e) :: kvs)
end
theorem RpDct.none_no {K : Kw} {H : Hp} {xs : List (NestedKey × Addr × Value)} {z : D} {kvs : List (D × D)} (r : RpDct K H xs ((.none, z) :: kvs)) : False := by
  cases r with
  | cons _ _ hb _ _ _ => cases hb
theorem SqF.sq {K : PySem.W.Frag} {H : Hp} {a : Addr} {xs : List V} (h : SqF H a xs) : SqT K H a xs := by
  obtain ⟨o, h, _⟩ := h
  exact .inl (.inr ⟨o, h⟩)
theorem SqF.mono {H H' : Hp} {a : Addr} {xs : List V} (e : Same H H') (h : SqF H a xs) : SqF H' a xs := by
  obtain ⟨o, h, d⟩ := h
  exact ⟨o, e _ _ h, d⟩

theorem Same.rd {H H' : Hp} {a : Addr} {u : HO} (e : Same H H') (h : Rd H a u) : Rd H' a u := by
  rcases h with h | ⟨o, h⟩
  · exact .inl (e _ _ h)
  · exact .inr ⟨o, e _ _ h⟩
theorem Same.sqT {K : PySem.W.Frag} {H H' : Hp} {a : Addr} {xs : List V} (e : Same H H') (h : SqT K H a xs) : SqT K H' a xs := by
  rcases h with h | h
  · exact .inl (Same.rd e h)
  · exact .inr h
section
variable {K : Kw} {H H' : Hp}
mutual
theorem Rp.mono (e : Same H H') : ∀ {d : D} {v : V}, Rp K H v d → Rp K H' v d
  | _, _, .non => .non
  | _, _, .bl b => .bl b
  | _, _, .int i => .int i
  | _, _, .str x => .str x
  | _, _, .lst h r => .lst (e _ _ h) (RpAll.mono e r)
  | _, _, .tup h r => .tup (h.mono e) (RpAll.mono e r)
  | _, _, .dct h r => .dct (e _ _ h) (RpDct.mono e r)
  | _, _, .scr h => .scr (e.seq h)
  | _, _, .tab h => .tab (e _ _ h)
theorem RpAll.mono (e : Same H H') : ∀ {ds : List D} {vs : List V}, RpAll K H vs ds → RpAll K H' vs ds
  | _, _, .nil => .nil
  | _, _, .cons h r => .cons (Rp.mono e h) (RpAll.mono e r)
theorem RpDct.mono (e : Same H H') : ∀ {kvs : List (D × D)} {xs : List (NestedKey × Addr × Value)}, RpDct K H xs kvs → RpDct K H' xs kvs
  | _, _, .nil => .nil
  | _, _, .cons hk hd h rv h' r => .cons hk hd (Rp.mono e h) rv (Rp.mono e h') (RpDct.mono e r)
end
mutual
theorem Rp.dp : ∀ {d : D} {v : V}, Rp K H v d → d.canLay0 = true → Dp K H v d
  | _, _, .non, _ => .non
  | _, _, .bl b, _ => .bl b
  | _, _, .int i, _ => .int i
  | _, _, .str x, _ => .str x
  | _, _, .lst h r, c => .lst (.inl (.inl h)) (RpAll.dp r (by simpa [PyData.canLay0] using c))
  | _, _, .tup h r, c => .tup h.sq (RpAll.dp r (by simpa [PyData.canLay0] using c))
  | _, _, .dct h _, c => by simp [PyData.canLay0] at c
  | _, _, .scr h, c => by simp [scrD, PyData.canLay0] at c
  | _, _, .tab h, c => by simp [tabD, PyData.canLay0] at c
theorem RpAll.dp : ∀ {ds : List D} {vs : List V}, RpAll K H vs ds → PyData.canLayAll0 ds = true → DpAll K H vs ds
  | _, _, .nil, _ => .nil
  | _, _, .cons h r, c => by
    simp only [PyData.canLayAll0, Bool.and_eq_true] at c
    exact .cons (Rp.dp h c.1) (RpAll.dp r c.2)
end
theorem RpAll.length : ∀ {ds : List D} {vs : List V}, RpAll K H vs ds → vs.length = ds.length
  | _, _, .nil => rfl
  | _, _, .cons _ r => by rw [List.length_cons, List.length_cons, RpAll.length r]
theorem RpAll.get {ds : List D} {vs : List V} {i : Nat} {d : D} (r : RpAll K H vs ds) (e : ds[i]? = some d) : ∃ v, vs[i]? = some v ∧ Rp K H v d := by
  induction ds generalizing vs i with
  | nil => cases e
  | cons c ds ih =>
    cases r with
    | cons h t =>
      cases i with
      | zero => cases e; exact ⟨_, List.getElem?_cons_zero, h⟩
      | succ i =>
        rw [List.getElem?_cons_succ] at e
        obtain ⟨v, g, w⟩ := ih t e
        exact ⟨v, by rw [List.getElem?_cons_succ]; exact g, w⟩
theorem RpAll.get' {ds : List D} {vs : List V} {i : Nat} {v : V} (r : RpAll K H vs ds) (e : vs[i]? = some v) : ∃ d, ds[i]? = some d ∧ Rp K H v d := by
  have lt : i < ds.length := by rw [← r.length]; exact (List.getElem?_eq_some_iff.mp e).1
  obtain ⟨w, g, h⟩ := r.get (List.getElem?_eq_getElem lt)
  obtain rfl : v = w := Option.some.inj (e.symm.trans g)
  exact ⟨ds[i], List.getElem?_eq_getElem lt, h⟩
theorem RpAll.append : ∀ {ds es : List D} {vs us : List V}, RpAll K H vs ds → RpAll K H us es → RpAll K H (vs ++ us) (ds ++ es)
  | _, _, _, _, .nil, s => s
  | _, _, _, _, .cons r t, s => .cons r (RpAll.append t s)
theorem RpAll.take : ∀ {ds : List D} {vs : List V} (n : Nat), RpAll K H vs ds → RpAll K H (vs.take n) (ds.take n)
  | _, _, 0, _ => .nil
  | _, _, _ + 1, .nil => .nil
  | _, _, n + 1, .cons r t => .cons r (RpAll.take n t)
theorem RpAll.drop : ∀ {ds : List D} {vs : List V} (n : Nat), RpAll K H vs ds → RpAll K H (vs.drop n) (ds.drop n)
  | _, _, 0, r => r
  | _, _, _ + 1, .nil => .nil
  | _, _, n + 1, .cons _ t => RpAll.drop n t
theorem RpAll.reverse {ds : List D} {vs : List V} (r : RpAll K H vs ds) : RpAll K H vs.reverse ds.reverse := by
  induction ds generalizing vs with
  | nil => cases r; exact .nil
  | cons d ds ih =>
    cases r with
    | cons h t =>
      rw [List.reverse_cons, List.reverse_cons]
      exact (ih t).append (.cons h .nil)
theorem RpAll.set {v : V} {d : D} (r : Rp K H v d) : ∀ {ds : List D} {vs : List V} (i : Nat), RpAll K H vs ds → RpAll K H (vs.set i v) (ds.set i d)
  | _, _, _, .nil => .nil
  | _, _, 0, .cons _ t => .cons r t
  | _, _, i + 1, .cons q t => .cons q (RpAll.set r i t)
theorem RpAll.one {v : V} {d : D} (r : Rp K H v d) : RpAll K H [v] [d] := .cons r .nil
theorem RpAll.snoc {ds : List D} {vs : List V} {v : V} {d : D} (t : RpAll K H vs ds) (r : Rp K H v d) : RpAll K H (vs ++ [v]) (ds ++ [d]) := t.append (.one r)
theorem RpAll.rep {ds : List D} {vs : List V} (r : RpAll K H vs ds) : ∀ n : Nat, RpAll K H (List.replicate n vs).flatten (List.replicate n ds).flatten
  | 0 => .nil
  | n + 1 => by
    rw [List.replicate_succ, List.replicate_succ, List.flatten_cons, List.flatten_cons]
    exact r.append (RpAll.rep r n)
theorem RpAll.isEmpty {ds : List D} {vs : List V} (r : RpAll K H vs ds) : vs.isEmpty = ds.isEmpty := by cases r <;> rfl
theorem RpAll.ints : ∀ {ns : List Int} {vs : List V}, RpAll K H vs (ns.map PyData.int) → vs = ns.map V.int
  | [], _, .nil => rfl
  | n :: ns, _, .cons h t => by
    cases h
    rw [RpAll.ints (ns := ns) t]
    rfl
theorem RpAll.bools : ∀ {ns : List Bool} {vs : List V}, RpAll K H vs (ns.map PyData.bool) → vs = ns.map V.bl
  | [], _, .nil => rfl
  | n :: ns, _, .cons h t => by
    cases h
    rw [RpAll.bools (ns := ns) t]
    rfl
theorem RpAll.strs_ : ∀ {ns : List Str} {vs : List V}, RpAll K H vs (ns.map PyData.str) → vs = ns.map V.str
  | [], _, .nil => rfl
  | n :: ns, _, .cons h t => by
    cases h
    rw [RpAll.strs_ (ns := ns) t]
    rfl
theorem RpAll.ofInts : ∀ (ns : List Int), RpAll K H (ns.map V.int) (ns.map PyData.int)
  | [] => .nil
  | n :: ns => .cons (.int n) (RpAll.ofInts ns)
theorem RpAll.ofStrs : ∀ (ns : List Str), RpAll K H (ns.map V.str) (ns.map PyData.str)
  | [] => .nil
  | n :: ns => .cons (.str n) (RpAll.ofStrs ns)
end

/-! ### the frozen part of the heap -/
/-- what may be changed -/
def Mu : HO → Bool
  | .tup _ => false
  | _ => true
structure Grow (Hf H Hf' H' : Hp) : Prop where
  hh : Same H H'
  ff : Same Hf Hf'
  fh : Same Hf' H'
  nf : ∀ a o, H a = some o → Mu o = true → Hf a = none → Hf' a = none
theorem Grow.refl {Hf H : Hp} (h : Same Hf H) : Grow Hf H Hf H := ⟨Same.refl _, Same.refl _, h, fun _ _ _ _ n => n⟩
theorem Grow.trans {Hf H Hf1 H1 Hf2 H2 : Hp} (a : Grow Hf H Hf1 H1) (b : Grow Hf1 H1 Hf2 H2) : Grow Hf H Hf2 H2 :=
  ⟨a.hh.trans b.hh, a.ff.trans b.ff, b.fh, fun x o h m n => b.nf x o (a.hh x o h) m (a.nf x o h m n)⟩
theorem same_upd {H : Hp} {p : Addr} {o : HO} (h : H p = none) : Same H (upd H p o) := fun b x e => by
  rw [upd_ne (ne_of_none e h)]
  exact e
/-- what H does not know may be laid over -/
theorem Same.upd {H H' : Hp} {p : Addr} {o : HO} (e : Same H H') (h : H p = none) : Same H (upd H' p o) := fun a u ha => by
  rw [upd_ne (ne_of_none ha h)]
  exact e a u ha
/-- a new object, frozen -/
theorem Grow.new {Hf H : Hp} {p : Addr} {o : HO} (h : Same Hf H) (hp : H p = none) : Grow Hf H (upd Hf p o) (upd H p o) := by
  have hf : Hf p = none := h.free hp
  refine ⟨same_upd hp, same_upd hf, fun a u e => ?_, fun a u e _ n => ?_⟩
  · by_cases z : a = p
    · subst z; rw [upd_same] at e ⊢; exact e
    · rw [upd_ne z] at e ⊢; exact h a u e
  · rw [upd_ne (ne_of_none e hp)]; exact n
/-- a new object, not frozen -/
theorem Grow.lay {Hf H : Hp} {p : Addr} {o : HO} (h : Same Hf H) (hp : H p = none) : Grow Hf H Hf (upd H p o) := by
  have hf : Hf p = none := h.free hp
  exact ⟨same_upd hp, Same.refl _, Same.upd h hf, fun a u e _ n => n⟩
/-- an object that stands outside is frozen -/
theorem Grow.freeze {Hf H : Hp} {p : Addr} {o : HO} (h : Same Hf H) (hp : H p = some o) (hf : Hf p = none) : Same Hf (upd Hf p o) ∧ Same (upd Hf p o) H := by
  refine ⟨same_upd hf, fun a u e => ?_⟩
  by_cases z : a = p
  · subst z; rw [upd_same] at e; rw [hp]; exact e
  · rw [upd_ne z] at e; exact h a u e

/-! ### slots -/
def Sl.isOwn : Sl → Bool
  | .own _ => true
  | .dic _ => true
  | _ => false
def SlOk (K : Kw) (H0 Hf H : Hp) (v : Option V) : Sl → Prop
  | .un => True
  | .dat d => ∃ x, v = some x ∧ Rp K Hf x d
  | .own ds => ∃ a xs, v = some (.ref a) ∧ H a = some (.lst xs) ∧ H0 a = none ∧ Hf a = none ∧ RpAll K Hf xs ds
  | .dic kvs => ∃ a xs, v = some (.ref a) ∧ H a = some (DicO K.w a xs) ∧ H0 a = none ∧ Hf a = none ∧ RpDct K Hf xs.1 kvs
  | .exc => v = some (.ref K.ea)
theorem SlOk.addr {K : Kw} {H0 Hf H : Hp} {v : Option V} {s : Sl} (h : SlOk K H0 Hf H v s) (o : s.isOwn = true) : ∃ a u, v = some (.ref a) ∧ H a = some u ∧ H0 a = none ∧ Hf a = none := by
  cases s with
  | un => cases o
  | dat d => cases o
  | own ds => obtain ⟨a, xs, e, h1, h2, h3, _⟩ := h; exact ⟨a, _, e, h1, h2, h3⟩
  | dic ks => obtain ⟨a, xs, e, h1, h2, h3, _⟩ := h; exact ⟨a, _, e, h1, h2, h3⟩
  | exc => cases o
structure SR (K : Kw) (H0 Hf0 Hf H : Hp) (σ : L2.St) (e : En) : Prop where
  gr : Grow Hf0 H0 Hf H
  len : σ.length = e.length
  sl : ∀ (i : Nat) (s : Sl) (v : Option V), e[i]? = some s → σ[i]? = some v → SlOk K H0 Hf H v s
  sep : ∀ (i j : Nat) (s t : Sl) (a : Addr), i ≠ j → e[i]? = some s → e[j]? = some t → s.isOwn = true → t.isOwn = true → σ[i]? = some (some (.ref a)) → σ[j]? ≠ some (some (.ref a))
section
variable {K : Kw} {H0 Hf0 Hf H Hf' H' : Hp} {σ : L2.St} {e : En}
theorem SR.grow (S : SR K H0 Hf0 Hf H σ e) (g : Grow Hf H Hf' H') : SR K H0 Hf0 Hf' H' σ e := by
  refine ⟨S.gr.trans g, S.len, fun i s v h1 h2 => ?_, S.sep⟩
  have q := S.sl i s v h1 h2
  cases s with
  | un => trivial
  | dat d => obtain ⟨x, ev, r⟩ := q; exact ⟨x, ev, r.mono g.ff⟩
  | own ds => obtain ⟨a, xs, ev, h, h0, hf, r⟩ := q; exact ⟨a, xs, ev, g.hh _ _ h, h0, g.nf _ _ h rfl hf, r.mono g.ff⟩
  | dic ks => obtain ⟨a, xs, ev, h, h0, hf, r⟩ := q; exact ⟨a, xs, ev, g.hh _ _ h, h0, g.nf _ _ h rfl hf, r.mono g.ff⟩
  | exc => exact q
theorem SR.lt (S : SR K H0 Hf0 Hf H σ e) {i : Nat} {s : Sl} (h : e[i]? = some s) : ∃ v, σ[i]? = some v := by
  have hi : i < e.length := (List.getElem?_eq_some_iff.mp h).1
  exact ⟨_, List.getElem?_eq_getElem (by rw [S.len]; exact hi)⟩
/-- a slot is set to a value -/
theorem SR.put (S : SR K H0 Hf0 Hf H σ e) (i : Nat) (v : Option V) (s : Sl) (h : SlOk K H0 Hf H v s)
    (hs : s.isOwn = true → ∀ (a : Addr), v = some (.ref a) → ∀ (j : Nat) (t : Sl), j ≠ i → e[j]? = some t → t.isOwn = true → σ[j]? ≠ some (some (.ref a))) : SR K H0 Hf0 Hf H (σ.set i v) (e.set i s) := by
  refine ⟨S.gr, by rw [List.length_set, List.length_set]; exact S.len, fun j t u h1 h2 => ?_, fun j k t u a hjk h1 h2 o1 o2 q1 q2 => ?_⟩
  · by_cases z : i = j
    · subst z
      by_cases hi : i < e.length
      · rw [List.getElem?_set_self hi] at h1
        rw [List.getElem?_set_self (by rw [S.len]; exact hi)] at h2
        cases h1; cases h2; exact h
      · rw [List.getElem?_eq_none (by rw [List.length_set]; omega)] at h1; cases h1
    · rw [List.getElem?_set_ne z] at h1 h2
      exact S.sl j t u h1 h2
  · by_cases z1 : i = j
    · subst z1
      rw [List.getElem?_set_ne hjk] at h2 q2
      by_cases hi : i < e.length
      · rw [List.getElem?_set_self hi] at h1
        rw [List.getElem?_set_self (by rw [S.len]; exact hi)] at q1
        cases h1
        exact hs o1 a (Option.some.inj q1) k u (fun z => hjk z.symm) h2 o2 q2
      · rw [List.getElem?_eq_none (by rw [List.length_set]; omega)] at h1; cases h1
    · rw [List.getElem?_set_ne z1] at h1 q1
      by_cases z2 : i = k
      · subst z2
        by_cases hi : i < e.length
        · rw [List.getElem?_set_self hi] at h2
          rw [List.getElem?_set_self (by rw [S.len]; exact hi)] at q2
          cases h2
          exact hs o2 a (Option.some.inj q2) j t hjk h1 o1 q1
        · rw [List.getElem?_eq_none (by rw [List.length_set]; omega)] at h2; cases h2
      · rw [List.getElem?_set_ne z2] at h2 q2
        exact S.sep j k t u a hjk h1 h2 o1 o2 q1 q2
theorem SR.dat (S : SR K H0 Hf0 Hf H σ e) (i : Nat) {v : V} {d : D} (r : Rp K Hf v d) : SR K H0 Hf0 Hf H (σ.set i (some v)) (e.set i (.dat d)) :=
  S.put i (some v) (.dat d) ⟨v, rfl, r⟩ fun o => by cases o
def NoOwn (σ : L2.St) (e : En) (p : Addr) : Prop := ∀ (j : Nat) (t : Sl), e[j]? = some t → t.isOwn = true → σ[j]? ≠ some (some (V.ref p))
/-- an object that no slot of its own holds is changed or made -/
theorem SR.other (S : SR K H0 Hf0 Hf H σ e) {p : Addr} {o : HO} (h0 : H0 p = none) (hf : Hf p = none) (hs : NoOwn σ e p) : SR K H0 Hf0 Hf (upd H p o) σ e := by
  refine ⟨⟨Same.upd S.gr.hh h0, S.gr.ff, Same.upd S.gr.fh hf, S.gr.nf⟩, S.len, fun i s v h1 h2 => ?_, S.sep⟩
  have q := S.sl i s v h1 h2
  cases s with
  | un => trivial
  | dat d => exact q
  | own ds =>
    obtain ⟨a, xs, ev, h, h0', hf', r⟩ := q
    have : a ≠ p := fun z => hs i _ h1 rfl (by rw [h2, ev, z])
    exact ⟨a, xs, ev, by rw [upd_ne this]; exact h, h0', hf', r⟩
  | dic ks =>
    obtain ⟨a, xs, ev, h, h0', hf', r⟩ := q
    have : a ≠ p := fun z => hs i _ h1 rfl (by rw [h2, ev, z])
    exact ⟨a, xs, ev, by rw [upd_ne this]; exact h, h0', hf', r⟩
  | exc => exact q
/-- the place of a new object is no slot's own -/
theorem SR.fresh (S : SR K H0 Hf0 Hf H σ e) {p : Addr} (hp : H p = none) : NoOwn σ e p := fun j t h o q => by
  obtain ⟨a, u, ev, ha, _⟩ := (S.sl j t _ h q).addr o
  injection ev with ev; injection ev with ev
  subst ev
  rw [hp] at ha; cases ha
/-- a slot's own object is changed -/
theorem SR.mut (S : SR K H0 Hf0 Hf H σ e) {i : Nat} {s t : Sl} {a : Addr} {u : HO} (he : e[i]? = some s) (ho : s.isOwn = true) (hv : σ[i]? = some (some (.ref a))) (ht : t.isOwn = true) (hn : SlOk K H0 Hf (upd H a u) (some (.ref a)) t) :
    SR K H0 Hf0 Hf (upd H a u) σ (e.set i t) := by
  obtain ⟨a', u', ev, hA, h0, hf⟩ := (S.sl i s _ he hv).addr ho
  injection ev with ev; injection ev with ev
  subst ev
  have hi : i < e.length := (List.getElem?_eq_some_iff.mp he).1
  have other : ∀ (j : Nat) (w : Sl), j ≠ i → e[j]? = some w → w.isOwn = true → σ[j]? ≠ some (some (.ref a)) := fun j w hj h1 o q => S.sep i j s w a (fun z => hj z.symm) he h1 ho o hv q
  refine ⟨⟨Same.upd S.gr.hh h0, S.gr.ff, Same.upd S.gr.fh hf, S.gr.nf⟩, by rw [List.length_set]; exact S.len, fun j w v h1 h2 => ?_, fun j k w x b hjk h1 h2 o1 o2 q1 q2 => ?_⟩
  · by_cases z : i = j
    · subst z
      rw [List.getElem?_set_self hi] at h1
      cases h1
      rw [hv] at h2
      cases h2
      exact hn
    · rw [List.getElem?_set_ne z] at h1
      have q := S.sl j w v h1 h2
      cases w with
      | un => trivial
      | dat d => exact q
      | own ds =>
        obtain ⟨b, xs, ev, h, h0', hf', r⟩ := q
        have : b ≠ a := fun y => other j _ (fun y => z y.symm) h1 rfl (by rw [h2, ev, y])
        exact ⟨b, xs, ev, by rw [upd_ne this]; exact h, h0', hf', r⟩
      | dic ks =>
        obtain ⟨b, xs, ev, h, h0', hf', r⟩ := q
        have : b ≠ a := fun y => other j _ (fun y => z y.symm) h1 rfl (by rw [h2, ev, y])
        exact ⟨b, xs, ev, by rw [upd_ne this]; exact h, h0', hf', r⟩
      | exc => exact q
  · by_cases z1 : i = j
    · subst z1
      rw [List.getElem?_set_ne hjk] at h2
      rw [hv] at q1
      have eb : a = b := V.ref.inj (Option.some.inj (Option.some.inj q1))
      subst eb
      exact other k x (fun z => hjk z.symm) h2 o2 q2
    · rw [List.getElem?_set_ne z1] at h1
      by_cases z2 : i = k
      · subst z2
        rw [hv] at q2
        have eb : a = b := V.ref.inj (Option.some.inj (Option.some.inj q2))
        subst eb
        exact other j w hjk h1 o1 q1
      · rw [List.getElem?_set_ne z2] at h2
        exact S.sep j k w x b hjk h1 h2 o1 o2 q1 q2
/-- a new object goes to a slot -/
theorem SR.own (S : SR K H0 Hf0 Hf H σ e) (i : Nat) {p : Addr} {t : Sl} (hp : ∃ u, H p = some u) (hs : NoOwn σ e p) (hn : SlOk K H0 Hf H (some (.ref p)) t) :
    SR K H0 Hf0 Hf H (σ.set i (some (.ref p))) (e.set i t) :=
  S.put i _ t hn fun _ a ev j w _ h o q => by
    injection ev with ev; injection ev with ev
    subst ev
    exact hs j w h o q
end
end Pu
/-! PuB: readings of expressions, tests, statements by what they compute -/
namespace Pu
open PySem L2

theorem PE_weak {X : Cx} {e : Expr} {t t' : TE} (h : PE X e t) (k : ∀ σ H Q, t' σ H Q → t σ H Q) : PE X e t' :=
  ⟨fun pins s σ H Q I q => h.run pins s σ H Q I (k σ H Q q)⟩
theorem PT_weak {X : Cx} {e : Expr} {t t' : TT} (h : PT X e t) (k : ∀ σ H Q, t' σ H Q → t σ H Q) : PT X e t' :=
  ⟨fun pins s σ H Q I q => h.run pins s σ H Q I (k σ H Q q)⟩
theorem PW_weak {X : Cx} {e : Expr} {t t' : TT} (h : PW X e t) (k : ∀ σ H Q, t' σ H Q → t σ H Q) : PW X e t' :=
  ⟨fun wh pins s σ H Q I q => h.run wh pins s σ H Q I (k σ H Q q)⟩
theorem PTs_weak {X : Cx} {e : List Expr} {t t' : TT} (h : PTs X e t) (k : ∀ σ H Q, t' σ H Q → t σ H Q) : PTs X e t' :=
  ⟨fun pins s σ H Q I q => h.run pins s σ H Q I (k σ H Q q)⟩
theorem PA_weak {X : Cx} {e : List Expr} {t t' : TA} (h : PA X e t) (k : ∀ σ H Q, t' σ H Q → t σ H Q) : PA X e t' :=
  ⟨fun pos pins s σ H Q I q => h.run pos pins s σ H Q I (k σ H Q q)⟩
theorem PS_weak {X : Cx} {e : Stmt} {t t' : TS} (h : PS X e t) (k : ∀ D σ H, t' D σ H → t D σ H) : PS X e t' :=
  ⟨fun pins s σ H D I q => h.run pins s σ H D I (k D σ H q)⟩
theorem PSs_weak {X : Cx} {e : List Stmt} {t t' : TS} (h : PSs X e t) (k : ∀ D σ H, t' D σ H → t D σ H) : PSs X e t' :=
  ⟨fun pins s σ H D I q => h.run pins s σ H D I (k D σ H q)⟩
theorem PI_weak {X : Cx} {tg e : Expr} {t t' : TI} (h : PI X tg e t) (k : ∀ σ H Q, t' σ H Q → t σ H Q) : PI X tg e t' :=
  ⟨fun pins s σ H Q I q => h.run pins s σ H Q I (k σ H Q q)⟩
theorem PG_weak {X : Cx} {e : Expr} {t t' : TG} (h : PG X e t) (k : ∀ v σ H Q, t' v σ H Q → t v σ H Q) : PG X e t' :=
  ⟨fun pins s σ H v u Q I r q => h.run pins s σ H v u Q I r (k v σ H Q q)⟩

/-- what is wished of an error of the class so named -/
abbrev WE := Str → L2.St → Hp → Prop
def opt {α : Type} : Option α → R α
  | some a => .ok a
  | none => .bad
@[simp] theorem opt_some {α : Type} (a : α) : opt (some a) = .ok a := rfl
@[simp] theorem opt_none {α : Type} : opt (none : Option α) = .bad := rfl

/-- a value seen: frozen data, or a list or dict of frozen data -/
inductive VRp (K : Kw) (Hf H : Hp) : V → D → Prop
  | e {v : V} {d : D} : Rp K Hf v d → VRp K Hf H v d
  | l {a : Addr} {xs : List V} {ds : List D} : H a = some (.lst xs) → RpAll K Hf xs ds → VRp K Hf H (.ref a) (.list ds)
  | d {a : Addr} {xs : DX} {kvs : List (D × D)} : H a = some (DicO K.w a xs) → RpDct K Hf xs.1 kvs → VRp K Hf H (.ref a) (.dict kvs)
abbrev ERp (K : Kw) (Hf _H : Hp) (v : V) (d : D) : Prop := Rp K Hf v d
section
variable {K : Kw} {Hf H Hf' H' : Hp} {v : V} {d : D}
theorem VRp.mono (g : Grow Hf H Hf' H') (h : VRp K Hf H v d) : VRp K Hf' H' v d := by
  cases h with
  | e h => exact .e (h.mono g.ff)
  | l h r => exact .l (g.hh _ _ h) (r.mono g.ff)
  | d h r => exact .d (g.hh _ _ h) (r.mono g.ff)
theorem VRp.full (f : Same Hf H) (h : VRp K Hf H v d) : Rp K H v d := by
  cases h with
  | e h => exact h.mono f
  | l h r => exact .lst h (r.mono f)
  | d h r => exact .dct h (r.mono f)
theorem VRp.list {ds : List D} (f : Same Hf H) (h : VRp K Hf H v (.list ds)) : ∃ a xs, v = .ref a ∧ H a = some (.lst xs) ∧ RpAll K Hf xs ds := by
  cases h with
  | e h =>
    cases h with
    | lst h r => exact ⟨_, _, rfl, f _ _ h, r⟩
  | l h r => exact ⟨_, _, rfl, h, r⟩
theorem VRp.tup {ds : List D} (h : VRp K Hf H v (.tuple ds)) : Rp K Hf v (.tuple ds) := by
  cases h with
  | e h => exact h
theorem VRp.tuple {ds : List D} (f : Same Hf H) (h : VRp K Hf H v (.tuple ds)) : ∃ a xs, v = .ref a ∧ SqF H a xs ∧ RpAll K Hf xs ds := by
  cases h with
  | e h =>
    cases h with
    | tup h r => exact ⟨_, _, rfl, h.mono f, r⟩
theorem VRp.str {x : Str} (h : VRp K Hf H v (.str x)) : v = .str x := by
  cases h with
  | e h => cases h; rfl
theorem VRp.int {x : Int} (h : VRp K Hf H v (.int x)) : v = .int x := by
  cases h with
  | e h => cases h; rfl
theorem Rp.dict {K : Kw} {H : Hp} {v : V} {kvs : List (D × D)} (r : Rp K H v (.dict kvs)) (hs : ∀ z l, kvs ≠ (.none, z) :: l) : ∃ a xs, v = .ref a ∧ H a = some (DicO K.w a xs) ∧ RpDct K H xs.1 kvs := by
  have gen : ∀ {d : D}, Rp K H v d → d = .dict kvs → ∃ a xs, v = .ref a ∧ H a = some (DicO K.w a xs) ∧ RpDct K H xs.1 kvs := by
    intro d r e
    cases r with
    | dct h r => cases e; exact ⟨_, _, rfl, h, r⟩
    | scr h =>
      unfold scrD at e
      injection e with e
      exact absurd e.symm (hs _ _)
    | tab h =>
      unfold tabD at e
      injection e with e
      exact absurd e.symm (hs _ _)
    | _ => cases e
  exact gen r rfl
theorem VRp.dict {kvs : List (D × D)} (f : Same Hf H) (h : VRp K Hf H v (.dict kvs)) (hs : ∀ z l, kvs ≠ (.none, z) :: l) : ∃ a xs, v = .ref a ∧ H a = some (DicO K.w a xs) ∧ RpDct K Hf xs.1 kvs := by
  cases h with
  | e h => obtain ⟨a, xs, e, h, r⟩ := h.dict hs; exact ⟨a, xs, e, f _ _ h, r⟩
  | d h r => exact ⟨_, _, rfl, h, r⟩
end

section
variable (K : Kw) (Rel : Hp → Hp → V → D → Prop) (W : WE)
/-- what is asked of a result -/
def Po (Q : VK) (σ : L2.St) (Hf H : Hp) : R D → Prop
  | .ok d => ∀ v Hf' H', Grow Hf H Hf' H' → Rel Hf' H' v d → Q v H'
  | .ex c => ∀ Hf' H', Grow Hf H Hf' H' → W c σ H'
  | .bad => False
/-- an expression's reading: it computes F of the slots -/
def tX (F : En → R D) : TE := fun σ H Q => ∃ H0 Hf0 Hf e, SR K H0 Hf0 Hf H σ e ∧ Po Rel W Q σ Hf H (F e)
abbrev tE (F : En → R D) : TE := tX K (ERp K) W F
abbrev tV (F : En → R D) : TE := tX K (VRp K) W F
/-- a new list of frozen data, not frozen itself -/
def PoN (Q : VK) (σ : L2.St) (Hf H : Hp) : R (List D) → Prop
  | .ok ds => ∀ p xs Hf' H', Grow Hf H Hf' H' → H p = none → Hf' p = none → H' p = some (.lst xs) → RpAll K Hf' xs ds → Q (.ref p) H'
  | .ex c => ∀ Hf' H', Grow Hf H Hf' H' → W c σ H'
  | .bad => False
def tN (F : En → R (List D)) : TE := fun σ H Q => ∃ H0 Hf0 Hf e, SR K H0 Hf0 Hf H σ e ∧ PoN K W Q σ Hf H (F e)
/-- a test -/
def PoT (Q : Bool → Hp → Prop) (σ : L2.St) (Hf H : Hp) : R Bool → Prop
  | .ok b => ∀ Hf' H', Grow Hf H Hf' H' → Q b H'
  | .ex c => ∀ Hf' H', Grow Hf H Hf' H' → W c σ H'
  | .bad => False
def tT (F : En → R Bool) : TT := fun σ H Q => ∃ H0 Hf0 Hf e, SR K H0 Hf0 Hf H σ e ∧ PoT W Q σ Hf H (F e)
/-- arguments -/
def PoA (Rel : Hp → Hp → List V → List D → Prop) (Q : List V → Hp → Prop) (σ : L2.St) (Hf H : Hp) : R (List D) → Prop
  | .ok ds => ∀ vs Hf' H', Grow Hf H Hf' H' → Rel Hf' H' vs ds → Q vs H'
  | .ex c => ∀ Hf' H', Grow Hf H Hf' H' → W c σ H'
  | .bad => False
inductive VAll (K : Kw) (Hf H : Hp) : List V → List D → Prop
  | nil : VAll K Hf H [] []
  | cons {v : V} {vs : List V} {d : D} {ds : List D} : VRp K Hf H v d → VAll K Hf H vs ds → VAll K Hf H (v :: vs) (d :: ds)
def tA (F : En → R (List D)) : TA := fun σ H Q => ∃ H0 Hf0 Hf e, SR K H0 Hf0 Hf H σ e ∧ PoA W (fun Hf _ vs ds => RpAll K Hf vs ds) Q σ Hf H (F e)
def tAV (F : En → R (List D)) : TA := fun σ H Q => ∃ H0 Hf0 Hf e, SR K H0 Hf0 Hf H σ e ∧ PoA W (VAll K) Q σ Hf H (F e)
/-- what is asked behind a statement -/
def PoS (D : Ends) (H0 Hf0 Hf : Hp) : Fl → Prop
  | .nx e => ∀ σ Hf' H', SR K H0 Hf0 Hf' H' σ e → Same Hf Hf' → D.nx σ H'
  | .rt d => ∀ v Hf' H', Grow Hf0 H0 Hf' H' → Rp K Hf' v d → D.rt v H'
  | .bk e => ∀ σ Hf' H', SR K H0 Hf0 Hf' H' σ e → Same Hf Hf' → D.bk σ H'
  | .ct e => ∀ σ Hf' H', SR K H0 Hf0 Hf' H' σ e → Same Hf Hf' → D.ct σ H'
  | .ex c e => ∀ σ Hf' H', SR K H0 Hf0 Hf' H' σ e → Same Hf Hf' → W c σ H'
  | .bad => False
def tS (G : En → Fl) : TS := fun D σ H => ∃ H0 Hf0 Hf e, SR K H0 Hf0 Hf H σ e ∧ PoS K W D H0 Hf0 Hf (G e)
end

section
variable {K : Kw} {Rel : Hp → Hp → V → D → Prop} {W : WE} {σ : L2.St} {Hf H Hf' H' : Hp}
theorem PoS.same {D : Ends} {H0 Hf0 Hf1 : Hp} {r : Fl} (p : PoS K W D H0 Hf0 Hf r) (h : Same Hf Hf1) : PoS K W D H0 Hf0 Hf1 r := by
  cases r with
  | nx e => exact fun σ Hf' H' S s => p σ Hf' H' S (h.trans s)
  | rt d => exact p
  | bk e => exact fun σ Hf' H' S s => p σ Hf' H' S (h.trans s)
  | ct e => exact fun σ Hf' H' S s => p σ Hf' H' S (h.trans s)
  | ex c e => exact fun σ Hf' H' S s => p σ Hf' H' S (h.trans s)
  | bad => exact p
theorem VAll.mono (g : Grow Hf H Hf' H') : ∀ {vs : List V} {ds : List D}, VAll K Hf H vs ds → VAll K Hf' H' vs ds
  | _, _, .nil => .nil
  | _, _, .cons h t => .cons (h.mono g) (VAll.mono g t)
theorem Po.grow {Q : VK} {r : R D} (p : Po Rel W Q σ Hf H r) (g : Grow Hf H Hf' H') : Po Rel W Q σ Hf' H' r := by
  cases r with
  | ok d => exact fun v Hf2 H2 g2 q => p v Hf2 H2 (g.trans g2) q
  | ex c => exact fun Hf2 H2 g2 => p Hf2 H2 (g.trans g2)
  | bad => exact p
theorem PoN.grow {Q : VK} {r : R (List D)} (p : PoN K W Q σ Hf H r) (g : Grow Hf H Hf' H') : PoN K W Q σ Hf' H' r := by
  cases r with
  | ok d => exact fun v xs Hf2 H2 g2 hn => p v xs Hf2 H2 (g.trans g2) (g.hh.free hn)
  | ex c => exact fun Hf2 H2 g2 => p Hf2 H2 (g.trans g2)
  | bad => exact p
theorem PoT.grow {Q : Bool → Hp → Prop} {r : R Bool} (p : PoT W Q σ Hf H r) (g : Grow Hf H Hf' H') : PoT W Q σ Hf' H' r := by
  cases r with
  | ok d => exact fun Hf2 H2 g2 => p Hf2 H2 (g.trans g2)
  | ex c => exact fun Hf2 H2 g2 => p Hf2 H2 (g.trans g2)
  | bad => exact p
theorem PoA.grow {R2 : Hp → Hp → List V → List D → Prop} {Q : List V → Hp → Prop} {r : R (List D)} (p : PoA W R2 Q σ Hf H r) (g : Grow Hf H Hf' H') : PoA W R2 Q σ Hf' H' r := by
  cases r with
  | ok d => exact fun v Hf2 H2 g2 q => p v Hf2 H2 (g.trans g2) q
  | ex c => exact fun Hf2 H2 g2 => p Hf2 H2 (g.trans g2)
  | bad => exact p
/-- first this, then that -/
theorem Po.bind {Rel2 : Hp → Hp → V → D → Prop} {Q : VK} {r : R D} {f : D → R D} (p : Po Rel W Q σ Hf H (r.bind f)) : Po Rel2 W (fun v H1 => ∃ Hf1 d, Grow Hf H Hf1 H1 ∧ Rel2 Hf1 H1 v d ∧ Po Rel W Q σ Hf1 H1 (f d)) σ Hf H r := by
  cases r with
  | ok d => exact fun v Hf2 H2 g2 q => ⟨Hf2, d, g2, q, p.grow g2⟩
  | ex c => exact p
  | bad => exact p
theorem Po.bindT {Q : VK} {r : R Bool} {f : Bool → R D} (p : Po Rel W Q σ Hf H (r.bind f)) : PoT W (fun b H1 => ∃ Hf1, Grow Hf H Hf1 H1 ∧ Po Rel W Q σ Hf1 H1 (f b)) σ Hf H r := by
  cases r with
  | ok d => exact fun Hf2 H2 g2 => ⟨Hf2, g2, p.grow g2⟩
  | ex c => exact p
  | bad => exact p
theorem Po.bindA {R2 : Hp → Hp → List V → List D → Prop} {Q : VK} {r : R (List D)} {f : List D → R D} (p : Po Rel W Q σ Hf H (r.bind f)) : PoA W R2 (fun v H1 => ∃ Hf1 d, Grow Hf H Hf1 H1 ∧ R2 Hf1 H1 v d ∧ Po Rel W Q σ Hf1 H1 (f d)) σ Hf H r := by
  cases r with
  | ok d => exact fun v Hf2 H2 g2 q => ⟨Hf2, d, g2, q, p.grow g2⟩
  | ex c => exact p
  | bad => exact p
theorem PoN.bind {Rel2 : Hp → Hp → V → D → Prop} {Q : VK} {r : R D} {f : D → R (List D)} (p : PoN K W Q σ Hf H (r.bind f)) : Po Rel2 W (fun v H1 => ∃ Hf1 d, Grow Hf H Hf1 H1 ∧ Rel2 Hf1 H1 v d ∧ PoN K W Q σ Hf1 H1 (f d)) σ Hf H r := by
  cases r with
  | ok d => exact fun v Hf2 H2 g2 q => ⟨Hf2, d, g2, q, p.grow g2⟩
  | ex c => exact p
  | bad => exact p
theorem PoN.bindA {R2 : Hp → Hp → List V → List D → Prop} {Q : VK} {r : R (List D)} {f : List D → R (List D)} (p : PoN K W Q σ Hf H (r.bind f)) : PoA W R2 (fun v H1 => ∃ Hf1 d, Grow Hf H Hf1 H1 ∧ R2 Hf1 H1 v d ∧ PoN K W Q σ Hf1 H1 (f d)) σ Hf H r := by
  cases r with
  | ok d => exact fun v Hf2 H2 g2 q => ⟨Hf2, d, g2, q, p.grow g2⟩
  | ex c => exact p
  | bad => exact p
theorem PoT.bind {Rel2 : Hp → Hp → V → D → Prop} {Q : Bool → Hp → Prop} {r : R D} {f : D → R Bool} (p : PoT W Q σ Hf H (r.bind f)) : Po Rel2 W (fun v H1 => ∃ Hf1 d, Grow Hf H Hf1 H1 ∧ Rel2 Hf1 H1 v d ∧ PoT W Q σ Hf1 H1 (f d)) σ Hf H r := by
  cases r with
  | ok d => exact fun v Hf2 H2 g2 q => ⟨Hf2, d, g2, q, p.grow g2⟩
  | ex c => exact p
  | bad => exact p
theorem PoT.bindT {Q : Bool → Hp → Prop} {r : R Bool} {f : Bool → R Bool} (p : PoT W Q σ Hf H (r.bind f)) : PoT W (fun b H1 => ∃ Hf1, Grow Hf H Hf1 H1 ∧ PoT W Q σ Hf1 H1 (f b)) σ Hf H r := by
  cases r with
  | ok d => exact fun Hf2 H2 g2 => ⟨Hf2, g2, p.grow g2⟩
  | ex c => exact p
  | bad => exact p
theorem PoA.bind {R2 : Hp → Hp → List V → List D → Prop} {Rel2 : Hp → Hp → V → D → Prop} {Q : List V → Hp → Prop} {r : R D} {f : D → R (List D)} (p : PoA W R2 Q σ Hf H (r.bind f)) : Po Rel2 W (fun v H1 => ∃ Hf1 d, Grow Hf H Hf1 H1 ∧ Rel2 Hf1 H1 v d ∧ PoA W R2 Q σ Hf1 H1 (f d)) σ Hf H r := by
  cases r with
  | ok d => exact fun v Hf2 H2 g2 q => ⟨Hf2, d, g2, q, p.grow g2⟩
  | ex c => exact p
  | bad => exact p
theorem PoA.bindA {R2 R3 : Hp → Hp → List V → List D → Prop} {Q : List V → Hp → Prop} {r : R (List D)} {f : List D → R (List D)} (p : PoA W R2 Q σ Hf H (r.bind f)) : PoA W R3 (fun v H1 => ∃ Hf1 d, Grow Hf H Hf1 H1 ∧ R3 Hf1 H1 v d ∧ PoA W R2 Q σ Hf1 H1 (f d)) σ Hf H r := by
  cases r with
  | ok d => exact fun v Hf2 H2 g2 q => ⟨Hf2, d, g2, q, p.grow g2⟩
  | ex c => exact p
  | bad => exact p
theorem Po.mono {Q Q' : VK} {r : R D} (p : Po Rel W Q σ Hf H r) (k : ∀ v H1, Q v H1 → Q' v H1) : Po Rel W Q' σ Hf H r := by
  cases r with
  | ok d => exact fun v Hf2 H2 g2 q => k _ _ (p v Hf2 H2 g2 q)
  | ex c => exact p
  | bad => exact p
theorem PoT.mono {Q Q' : Bool → Hp → Prop} {r : R Bool} (p : PoT W Q σ Hf H r) (k : ∀ v H1, Q v H1 → Q' v H1) : PoT W Q' σ Hf H r := by
  cases r with
  | ok d => exact fun Hf2 H2 g2 => k _ _ (p Hf2 H2 g2)
  | ex c => exact p
  | bad => exact p
theorem PoA.mono {R2 : Hp → Hp → List V → List D → Prop} {Q Q' : List V → Hp → Prop} {r : R (List D)} (p : PoA W R2 Q σ Hf H r) (k : ∀ v H1, Q v H1 → Q' v H1) : PoA W R2 Q' σ Hf H r := by
  cases r with
  | ok d => exact fun v Hf2 H2 g2 q => k _ _ (p v Hf2 H2 g2 q)
  | ex c => exact p
  | bad => exact p
theorem PoN.mono {Q Q' : VK} {r : R (List D)} (p : PoN K W Q σ Hf H r) (k : ∀ v H1, Q v H1 → Q' v H1) : PoN K W Q' σ Hf H r := by
  cases r with
  | ok d => exact fun v xs Hf2 H2 g2 a b c q => k _ _ (p v xs Hf2 H2 g2 a b c q)
  | ex c => exact p
  | bad => exact p
/-- a plain value is told -/
theorem Po.of_opt {Q : VK} {o : Option D} (p : Po Rel W Q σ Hf H (opt o)) : ∃ d, o = some d ∧ ∀ v Hf' H', Grow Hf H Hf' H' → Rel Hf' H' v d → Q v H' := by
  cases o with
  | some d => exact ⟨d, rfl, p⟩
  | none => exact p.elim
theorem PoT.of_opt {Q : Bool → Hp → Prop} {o : Option Bool} (p : PoT W Q σ Hf H (opt o)) : ∃ d, o = some d ∧ ∀ Hf' H', Grow Hf H Hf' H' → Q d H' := by
  cases o with
  | some d => exact ⟨d, rfl, p⟩
  | none => exact p.elim
theorem PoN.of_opt {Q : VK} {o : Option (List D)} (p : PoN K W Q σ Hf H (opt o)) : ∃ ds, o = some ds ∧ ∀ v xs Hf' H', Grow Hf H Hf' H' → H v = none → Hf' v = none → H' v = some (.lst xs) → RpAll K Hf' xs ds → Q (.ref v) H' := by
  cases o with
  | some d => exact ⟨d, rfl, p⟩
  | none => exact p.elim
end
section
variable {X : Cx} {W : WE} {a : Expr} {F : En → R D}
/-- frozen data may be looked at -/
theorem e2v (h : PE X a (tE (X.kw ea) W F)) : PE X a (tV (X.kw ea) W F) := PE_weak h fun σ H Q ⟨H0, Hf0, Hf, e, S, p⟩ => ⟨H0, Hf0, Hf, e, S, by
  revert p
  cases F e with
  | ok d => exact fun p v Hf' H' g r => p v Hf' H' g (.e r)
  | ex c => exact fun p => p
  | bad => exact fun p => p⟩
def asL (F : En → R (List D)) : En → R D := fun e => (F e).bind fun ds => .ok (.list ds)
/-- a new list is frozen -/
theorem n2e {F : En → R (List D)} (h : PE X a (tN (X.kw ea) W F)) : PE X a (tE (X.kw ea) W (asL F)) := PE_weak h fun σ H Q ⟨H0, Hf0, Hf, e, S, p⟩ => ⟨H0, Hf0, Hf, e, S, by
  revert p
  unfold asL
  cases F e with
  | ok ds =>
    intro p q xs Hf' H' g hn hf hl r
    have z := Grow.freeze g.fh hl hf
    exact p (.ref q) (upd Hf' q (.lst xs)) H' ⟨g.hh, g.ff.trans z.1, z.2, fun b o hb m nb => by rw [upd_ne (ne_of_none hb hn)]; exact g.nf b o hb m nb⟩ (.lst upd_same (r.mono z.1))
  | ex c => exact fun p => p
  | bad => exact fun p => p⟩
end
end Pu
/-! PuB2: new tuples, known by their objects -/
namespace Pu
open PySem L2
/-- a new tuple of xs goes on -/
def TupN (H : Hp) (Q : VK) (xs : List V) : Prop := ∀ (p : Addr) (o : Obj), H p = none → o.dict = none → Q (.ref p) (upd H p (.frz o (.tup xs)))
section
variable {X : Cx} {pins : List (Addr × Obj)} {σ : L2.St} {H : Hp} {s : Shared}
theorem tup_new {Q : VK} {xs : List V} {us : List Value} {tk : Nat} (I : Inv X pins σ H s) (r : Vals xs us) (hz : xs.length ≤ sizeLine) (q : TupN H Q xs) :
    EP X pins σ Q (.ref s.heap.objs.size) { s with heap := s.heap.push { cls := .type "tuple", data := .seq us.toArray }, toks := tk } :=
  ⟨.ref s.heap.objs.size, _, I.laid (t' := tk) (o := .frz { cls := .type "tuple", data := .seq us.toArray } (.tup xs)) (fun b ob e => Heap.get?_push_of_some _ e) (Nat.le_refl _)
    ⟨Heap.get?_push_size _ rfl, hz, us, r, ⟨_, Heap.get?_push_size _ rfl, rfl, _, rfl⟩⟩, rfl, q _ _ (I.hok.fresh (Nat.le_refl _)) rfl⟩
def tTupF (t : TA) : TE := fun σ H Q => t σ H fun xs H1 => xs.length ≤ sizeLine ∧ TupN H1 Q xs
theorem pe_tupF {es : List Expr} {t : TA} {pos : Pos} {x1} (h : PA X es t) : PE X (.Tuple es x1 pos) (tTupF t) :=
  ⟨fun pins s σ H Q I hq => wpAny_Tuple_spliced (thn (h.run pos pins s σ H _ I hq) fun us s1 ⟨xs, H1, I1, r, z, q⟩ => ⟨by rw [← r.length]; exact z, tup_new (tk := s1.toks) I1 r z q⟩)⟩
/-- the values of a tuple that H knows -/
theorem tup_at {a : Addr} {xs : List V} (I : Inv X pins σ H s) (h : SqT X.K H a xs) : ∃ us : List Value, Vals xs us ∧ PyProof.Rows.IsTup s.heap a us.toArray ∧ us.length = xs.length ∧ us.length ≤ sizeLine :=
  let ⟨us, r, t, z⟩ := I.tuple h
  ⟨us, r, t, r.length.symm, Nat.le_trans (Nat.le_of_eq r.length.symm) z⟩
theorem call_tupleF : CallR X (.type "tuple") (fun xs H Q => ∃ p ys, xs = [.ref p] ∧ ((SqL X.K H p ys ∧ TupN H Q ys) ∨ (SqT X.K H p ys ∧ Q (.ref p) H))) :=
  fun pins s σ H _ _ Q I rs ⟨p, ys, ex, alt⟩ => by
    subst ex
    obtain ⟨_, rfl, rfl⟩ := vals1 rs
    exact alt.elim
      (fun ⟨hq, q⟩ =>
        let ⟨us, r, pl, z⟩ := I.list hq
        call_tuple_list pl.isList (fun h' kp => tup_new (s := { s with heap := h' }) (I.kept (t' := s.toks) kp) r z q) (by rw [List.size_toArray, ← r.length]; exact z))
      (fun ⟨hq, q⟩ =>
        let ⟨us, _, t, _⟩ := tup_at I hq
        call_tuple_same t ⟨.ref p, H, I, rfl, q⟩)
def rCatF (K : PySem.W.Frag) : R2 := fun x y H Q => ∃ a b xs ys, x = .ref a ∧ y = .ref b ∧ SqT K H a xs ∧ SqT K H b ys ∧ xs.length + ys.length ≤ sizeLine ∧
  (xs = [] → Q (.ref b) H) ∧ (xs ≠ [] → ys = [] → Q (.ref a) H) ∧ (xs ≠ [] → ys ≠ [] → TupN H Q (xs ++ ys))
theorem op_catF : OpR X (binaryOp .Add) (rCatF X.K) := fun pins s σ H _ _ v u Q I rx ry ⟨a, b, xs, ys, ex, ey, ha, hb, hz, q0, q1, q2⟩ => by
  subst ex ey
  obtain rfl : v = .ref a := rx
  obtain rfl : u = .ref b := ry
  obtain ⟨us, ru, ta, _, _⟩ := tup_at I ha
  obtain ⟨ws, rs, tb, _, _⟩ := tup_at I hb
  cases ru with
  | nil => exact cat_tup0 ta tb ⟨.ref b, H, I, rfl, q0 rfl⟩
  | cons r1 ru =>
    have all := Vals.append (.cons r1 ru) rs
    refine HT.cat_tup ta tb (List.cons_ne_nil _ _) (fun z => ?_) (fun z => ?_) ?_
    · subst z
      cases rs
      exact ⟨.ref a, H, I, rfl, q1 (List.cons_ne_nil _ _) rfl⟩
    · exact tup_new (tk := s.toks) I all (by rw [List.length_append]; exact hz) (q2 (List.cons_ne_nil _ _) fun e => by subst e; cases rs; exact z rfl)
    · rw [List.length_cons, ← ru.length, ← rs.length]
      exact hz
def rSlF (K : PySem.W.Frag) : V → Option Int → Option Int → Hp → VK → Prop := fun x lo hi H Q => ∃ a xs, x = .ref a ∧ SqT K H a xs ∧
  (HT.sIx xs.length 0 lo = 0 ∧ HT.sIx xs.length xs.length hi = xs.length → Q (.ref a) H) ∧ (¬ (HT.sIx xs.length 0 lo = 0 ∧ HT.sIx xs.length xs.length hi = xs.length) → TupN H Q (cutV xs lo hi))
theorem sl_tupF : SlR X (rSlF X.K) := fun pins s σ H _ v vl vu lo hi sl Q I rx hs pl pu ⟨a, xs, ex, hx, whole, part⟩ => by
  subst ex
  obtain rfl : v = .ref a := rx
  obtain ⟨us, ru, ta, el, zl⟩ := tup_at I hx
  have en : us.toArray.size = xs.length := by rw [List.size_toArray, el]
  refine ⟨_, _, PyProof.Rows.slot_tuple_getitem.lookup, ta.typeIs, ?_⟩
  rcases Classical.em (HT.sIx xs.length 0 lo = 0 ∧ HT.sIx xs.length xs.length hi = xs.length) with y | n
  · exact getItem_tuple_whole ta hs pl pu (by rw [en]; exact y) ⟨.ref a, H, I, rfl, whole y⟩
  · have cut := (ru.drop (HT.sIx xs.length 0 lo)).take (HT.sIx xs.length xs.length hi - HT.sIx xs.length 0 lo)
    have zc : (cutV xs lo hi).length ≤ sizeLine := Nat.le_trans (cutV_length xs lo hi) (el ▸ zl)
    have fin := tup_new (tk := s.toks) I cut zc (part n)
    rw [← en] at fin n
    exact HT.getItem_tuple_cut ta hs pl pu n fin (by rw [List.size_toArray]; exact zl)
end
end Pu
namespace L2
open PySem PySem.Spec PyProof.Rows
def rRepF (K : PySem.W.Frag) : R2 := fun x y H Q => ∃ (l : Addr) (k : Int) (xs : List V), x = .ref l ∧ y = .int k ∧ SqT K H l xs ∧ xs ≠ [] ∧ 2 ≤ k ∧ k ≤ 1000 ∧ xs.length ≤ 1000 ∧ Pu.TupN H Q (List.replicate k.toNat xs).flatten
/-- t * k of a tuple that is not empty, k from 2 on -/
theorem mul_tup {P : Program} {w : World} {A : Around} {E : Value → Shared → Prop} {s : Shared} {l : Addr} {u : Value} {us : List Value} {m : Nat} {t : Tok} {Q : Value → Shared → Prop} (ht : IsTup s.heap l (u :: us).toArray) (hm : 2 ≤ m) (hb : m * (u :: us).length ≤ 1000000)
    (h : Q (.ref s.heap.objs.size) { s with heap := s.heap.push { cls := .type "tuple", data := .seq (List.replicate m (u :: us)).flatten.toArray } }) : wpAny (model P w) A (binaryOp .Mult (.ref l) (.int (m : Int) t)) Q E s := by
  obtain ⟨⟨cl, dd, da, sl⟩, ho, ec, n, ed⟩ := ht
  obtain rfl : cl = .type "tuple" := ec
  obtain rfl : da = .seq (u :: us).toArray n := ed
  have big : (((u :: us).toArray.size : Nat) : Int) * (m : Int) ≤ 1000000 := by
    rw [List.size_toArray, ← Int.natCast_mul, Nat.mul_comm]
    exact Int.ofNat_le.mpr hb
  have m63 : (m : Int) ≤ 1000000 := by
    have : m * 1 ≤ m * (u :: us).length := Nat.mul_le_mul_left _ (Nat.succ_le_succ (Nat.zero_le _))
    omega
  have len : (List.foldl (fun x1 x2 => x1 ++ x2) #[] (List.replicate m (u :: us).toArray)) = (List.replicate m (u :: us)).flatten.toArray := size_rep _ m
  have small : (List.replicate m (u :: us)).flatten.length ≤ sizeLine := by
    rw [lm_len_rep_flat, sizeLine_eq]
    omega
  have body := tuple_mulW l (u :: us).toArray n dd sl (m : Int) t (by simp; omega) (by simp; omega) (by simp; omega) (by omega) (by unfold Builtin.Tuple.tupleTooMany; rw [sizeLine_eq]; exact decide_eq_false (by omega)) (by rw [Int.toNat_natCast, len, List.size_toArray]; exact small)
  rw [Int.toNat_natCast, len] at body
  have isT : s.TypeIs (.ref l) "tuple" := ⟨_, ho, rfl⟩
  refine wpAny_binaryOp_repeat_ref (by decide) isT (fun z => typeIs_int z _ t) noFill_tuple_mul F.fills_int_mul F.slot_int_rmul repeat_tuple F.slot_int_index.lookup ?_
  refine call_meets F.slot_int_rmul (typeIs_int s _ t) F.entry_int_rmul (F.args_int_rmul_2 _ _) (int_rmul_tuple _ t l _ n dd sl) ⟨ho, rfl, isT, ?_⟩
  exact call_meets F.slot_tuple_mul isT F.entry_tuple_mul (F.args_tuple_mul_2 _ _) body ⟨ho, h⟩
theorem op_repF {X : Cx} : OpR X (binaryOp .Mult) (rRepF X.K) := fun pins s σ H _ _ v u Q I rx ry ⟨l, k, xs, ex, ey, hT, hne, k2, kz, hz, q⟩ => by
  subst ex ey
  obtain rfl : v = .ref l := rx
  obtain ⟨t, rfl⟩ := ry
  obtain ⟨us, ru, tu, el, _⟩ := Pu.tup_at I hT
  obtain ⟨m, rfl⟩ : ∃ m : Nat, k = m := ⟨k.toNat, by omega⟩
  rw [Int.toNat_natCast] at q
  have room : m * xs.length ≤ 1000000 := Nat.mul_le_mul (show m ≤ 1000 by omega) hz
  have rr := ru.rep m
  have zr : (List.replicate m xs).flatten.length ≤ sizeLine := by
    rw [lm_len_rep_flat, sizeLine_eq]
    omega
  cases us with
  | nil => exact absurd (List.eq_nil_of_length_eq_zero (el.symm.trans List.length_nil)) hne
  | cons a us => exact mul_tup tu (by omega) (by rw [el]; exact room) (Pu.tup_new (tk := s.toks) I rr zr q)
end L2
namespace Pu
open PySem L2
section
variable {K : Kw} {Hf H : Hp} {xs : List V} {ds : List D} {p : Addr} {o : Obj}
/-- a new tuple stands for its data -/
theorem Rp.new (f : Same Hf H) (hp : H p = none) (ho : o.dict = none) (r : RpAll K Hf xs ds) : Grow Hf H (upd Hf p (.frz o (.tup xs))) (upd H p (.frz o (.tup xs))) ∧ Rp K (upd Hf p (.frz o (.tup xs))) (.ref p) (.tuple ds) :=
  ⟨Grow.new f hp, .tup ⟨o, upd_same, ho⟩ (r.mono (same_upd (f.free hp)))⟩
/-- what is wished of a new tuple -/
theorem TupN.of {Q : VK} (f : Same Hf H) (r : RpAll K Hf xs ds) (q : ∀ v Hf' H', Grow Hf H Hf' H' → Rp K Hf' v (.tuple ds) → Q v H') : TupN H Q xs := fun p o hp ho =>
  let ⟨g, r'⟩ := Rp.new f hp ho r
  q _ _ _ g r'
end
end Pu
/-! PuB3: data as keys of dicts -/
namespace Pu
open PySem L2
def isTup : D → Bool
  | .tuple _ => true
  | _ => false
/-- data as a key -/
def keyD (d : D) : Option NestedKey := if isTup d then (nk d).bind fun k => if k.depth ≤ 8 then some k else none else none
theorem keyD_of {d : D} {k : NestedKey} (h : keyD d = some k) : nk d = some k ∧ k.depth ≤ 8 ∧ ∃ ds, d = .tuple ds := by
  unfold keyD at h
  split at h
  · rename_i ht
    cases q : nk d with
    | none => rw [q] at h; cases h
    | some k' =>
      rw [q] at h
      have h : (if k'.depth ≤ 8 then some k' else none) = some k := h
      split at h
      · rename_i hd
        cases h
        refine ⟨rfl, hd, ?_⟩
        cases d with
        | tuple ds => exact ⟨ds, rfl⟩
        | _ => cases ht
      · cases h
  · cases h
def dget : List (D × D) → NestedKey → Option D
  | [], _ => none
  | (d, e) :: r, k => if nk d = some k then some e else dget r k
/-- d[k] = e; x is the key's data -/
def dput (kvs : List (D × D)) (k : NestedKey) (x e : D) : List (D × D) :=
  if (dget kvs k).isSome then kvs.map fun p => if nk p.1 = some k then (p.1, e) else p else kvs ++ [(x, e)]
section
variable {X : Cx} {pins : List (Addr × Obj)} {σ : L2.St} {H : Hp} {s : Shared}
mutual
theorem Rp.nested (I : L2.Inv X pins σ H s) : ∀ {d : D} {v : V} {u : Value} {k : NestedKey}, Rp (X.kw ea) H v d → RelV v u → nk d = some k → NestedIs s.heap k u
  | _, _, _, _, .non, r, h => by cases h; cases r; exact .none
  | _, _, _, _, .bl b, r, h => by cases h; cases r; exact .bool rfl
  | _, _, _, _, .int i, r, h => by cases h; obtain ⟨t, rfl⟩ := r; exact .int _ _
  | _, _, _, _, .str x, r, h => by cases h; obtain ⟨t, rfl⟩ := r; exact .text _ _
  | _, _, _, _, .lst _ _, r, h => by cases h
  | _, _, _, _, .tup hl ra, r, h => by
    cases r
    rename_i a xs ds
    have h : (nkAll ds).map NestedKey.tup = _ := h
    cases q : nkAll ds with
    | none => rw [q] at h; cases h
    | some ks =>
      rw [q] at h
      cases h
      obtain ⟨its, rv, ⟨o, ho, hc, n, hd⟩, _⟩ := I.tuple hl.sq
      exact .tup ho hc hd (by simpa using RpAll.nested I ra rv q)
  | _, _, _, _, .dct _ _, r, h => by cases h
  | _, _, _, _, .scr _, r, h => by cases h
  | _, _, _, _, .tab _, r, h => by cases h
theorem RpAll.nested (I : L2.Inv X pins σ H s) : ∀ {ds : List D} {vs : List V} {us : List Value} {ks : List NestedKey}, RpAll (X.kw ea) H vs ds → Vals vs us → nkAll ds = some ks → NestedAll s.heap ks us
  | _, _, _, _, .nil, .nil, h => by cases h; exact .nil
  | _, _, _, _, .cons (d := d) (ds := ds) h1 t1, .cons r t, h => by
    have h : ((nk d).bind fun k => (nkAll ds).map fun ks => k :: ks) = _ := h
    cases q : nk d with
    | none => rw [q] at h; cases h
    | some k =>
      rw [q] at h
      have h : ((nkAll ds).map fun ks => k :: ks) = _ := h
      cases q2 : nkAll ds with
      | none => rw [q2] at h; cases h
      | some ks => rw [q2] at h; cases h; exact .cons (Rp.nested I h1 r q) (RpAll.nested I t1 t q2)
end
theorem RpDct.is (I : L2.Inv X pins σ H s) : ∀ {xs : List (NestedKey × Addr × Value)} {kvs : List (D × D)}, RpDct (X.kw ea) H xs kvs → ∀ x ∈ xs, (nestedKind X.prog X.w).is s.heap x.1 x.2.1
  | _, _, .nil, x, h => by cases h
  | _, _, .cons hk hd hb _ _ t, x, h => by
    rcases List.mem_cons.mp h with rfl | h
    · exact ⟨Rp.nested I hb rfl hk, hd⟩
    · exact RpDct.is I t x h
/-- the dict, as the library has it -/
theorem dic_of (I : L2.Inv X pins σ H s) {a : Addr} {xs : DX} {kvs : List (D × D)} (h : H a = some (DicO X.w a xs)) (r : RpDct (X.kw ea) H xs.1 kvs) :
    xs.1.length ≤ sizeLine ∧ (a == sysModules) = false ∧ s.heap.DictOfH (nestedKind X.prog X.w) a xs.1 := by
  obtain ⟨⟨hz, hsm, o, es, ep, ho, hx, hd, he, hn, _⟩, _⟩ := (show ObjOk X.prog X.w H s.heap a (DicO X.w a xs) from I.hok a _ h)
  exact ⟨hz, hsm, o, es, ep, ho, hx, hd, he, RpDct.is I r, hn⟩
theorem dic_ok {P : Program} {w : World} {h : Heap} {a : Addr} {xs : List (NestedKey × Addr × Value)} {H : Hp} (hz : xs.length ≤ sizeLine) (hsm : (a == sysModules) = false) (hm : h.DictOfH (nestedKind P w) a xs) : ∃ ep, ObjOk P w H h a (DicO w a (xs, ep)) := by
  obtain ⟨o, es, ep, ho, hx, hd, he, _, hn⟩ := hm
  refine ⟨ep, ⟨hz, hsm, o, es, ep, ho, hx, hd, he, hn, rfl⟩, ⟨o, ho⟩, fun h1 h2 z k => ?_⟩
  obtain ⟨z1, z2, o1, es1, ep1, q1, q2⟩ := z
  exact ⟨z1, z2, o1, es1, ep1, k _ q1, q2⟩
end
section
variable {K : Kw} {H : Hp}
theorem atKey_get : ∀ {xs : List (NestedKey × Addr × Value)} {kvs : List (D × D)} (k : NestedKey), RpDct K H xs kvs →
    (atKey xs k = none ∧ dget kvs k = none) ∨ ∃ b u v e, atKey xs k = some (b, u) ∧ dget kvs k = some e ∧ RelV v u ∧ Rp K H v e
  | _, _, k, .nil => .inl ⟨rfl, rfl⟩
  | _, _, k, .cons (k := k') (b := b) (u := u) (v := v) (d := d) (e := e) (xs := xs) (kvs := kvs) hk hd hb rv he t => by
    by_cases hkk : k' = k
    · subst hkk
      exact .inr ⟨b, u, v, e, by simp [atKey], by simp [dget, hk], rv, he⟩
    · have e1 : atKey ((k', b, u) :: xs) k = atKey xs k := by simp [atKey, hkk]
      have e2 : dget ((d, e) :: kvs) k = dget kvs k := by simp [dget, hk, hkk]
      rw [e1, e2]
      exact atKey_get k t
theorem put_all {k : NestedKey} {u : Value} {v : V} {e : D} (rv : RelV v u) (re : Rp K H v e) : ∀ {xs : List (NestedKey × Addr × Value)} {kvs : List (D × D)}, RpDct K H xs kvs →
    RpDct K H (xs.map (PySem.putAt k u)) (kvs.map fun p => if nk p.1 = some k then (p.1, e) else p)
  | _, _, .nil => .nil
  | _, _, .cons (k := k') (d := d) hk hd hb rv' he t => by
    rw [List.map_cons, List.map_cons]
    by_cases hkk : k' = k
    · subst hkk
      simp only [PySem.putAt, if_true, hk]
      exact .cons hk hd hb rv re (put_all rv re t)
    · have hne : ¬ (some k' = some k) := fun z => hkk (Option.some.inj z)
      simp only [PySem.putAt, hkk, if_false, hk, hne]
      exact .cons hk hd hb rv' he (put_all rv re t)
theorem RpDct.append : ∀ {xs ys : List (NestedKey × Addr × Value)} {kvs ms : List (D × D)}, RpDct K H xs kvs → RpDct K H ys ms → RpDct K H (xs ++ ys) (kvs ++ ms)
  | _, _, _, _, .nil, s => s
  | _, _, _, _, .cons h1 h2 h3 h4 h5 t, s => .cons h1 h2 h3 h4 h5 (RpDct.append t s)
theorem RpDct.stored {xs : List (NestedKey × Addr × Value)} {kvs : List (D × D)} {k : NestedKey} {b : Addr} {u : Value} {v : V} {d e : D} (r : RpDct K H xs kvs) (hk : nk d = some k) (hd : k.depth ≤ 8) (rb : Rp K H (.ref b) d) (rv : RelV v u) (re : Rp K H v e) :
    RpDct K H (storedH xs k b u) (dput kvs k d e) := by
  unfold dput
  rcases atKey_get k r with ⟨h1, h2⟩ | ⟨b', u', v', e', h1, h2, _⟩
  · rw [storedH_new h1, h2]
    exact r.append (.cons hk hd rb rv re .nil)
  · rw [storedH_old h1, h2]
    exact put_all rv re r
theorem stored_len {xs : List (NestedKey × Addr × Value)} {k : NestedKey} {b : Addr} {u : Value} : (storedH xs k b u).length ≤ xs.length + 1 := by
  unfold storedH
  split
  · rw [List.length_map]; omega
  · rw [List.length_append]; exact Nat.le_refl _
end
section
variable {X : Cx}
/-- d[k] = v -/
def rSetD (K : Kw) : V → V → V → Hp → (Hp → Prop) → Prop := fun o i v H Q => ∃ (p b : Addr) (xs : DX) (kvs : List (D × D)) (d : D) (k : NestedKey), o = .ref p ∧ i = .ref b ∧ H p = some (DicO K.w p xs) ∧ RpDct K H xs.1 kvs ∧ Rp K H (.ref b) d ∧ nk d = some k ∧ k.depth ≤ 8 ∧ xs.1.length < sizeLine ∧
  ∀ u ep, RelV v u → Q (upd H p (DicO K.w p (storedH xs.1 k b u, ep)))
theorem set_dict {j : Nat} (hr : Room j X.A) : PSet X (rSetD (X.kw ea)) := by
  intro pins s σ H o i v ov iv u Q I ro ri rv h
  obtain ⟨p, b, xs, kvs, d, k, rfl, rfl, hp, r, rb, hk, hd, hz, q⟩ := h
  cases ro
  cases ri
  have hu := hr.un
  obtain ⟨hz', hsm, hm⟩ := dic_of I hp r
  have hroom : (nestedKind X.prog X.w).room X.A.in1 := by show X.A.units + 1 + 8 < cLine; omega
  refine wpAny_setItem_heap (hsz := hz') hroom ⟨Rp.nested I rb rfl hk, hd⟩ hm fun h' hm' sb => ?_
  have hmm := hm'
  obtain ⟨o', _, _, ho', _⟩ := hmm
  obtain ⟨ep, ok⟩ := dic_ok (H := upd H p (DicO X.w p ([], 0))) (Nat.le_trans stored_len hz) hsm hm'
  exact ⟨_, I.write (x := p) (e := p) (by rw [hp]; trivial) (.inl rfl) (fun c w hc e => (sb.2 c hc).trans e) ⟨o', ho'⟩ ok, q u ep rv⟩
def tDNew (K : Kw) : TE := fun _ H Q => ∀ p ep, H p = none → Q (.ref p) (upd H p (DicO K.w p ([], ep)))
theorem pe_dnew {pos : Pos} : PE X (.Dict [] [] pos) (tDNew (X.kw ea)) := ⟨fun pins s σ H Q I h => by
  obtain ⟨ep, ok⟩ := dic_ok (P := X.prog) (w := X.w) (xs := []) (H := H) (Nat.zero_le _) (beq_eq_false_iff_ne.mpr (Ne.symm (Nat.ne_of_lt I.big))) (Heap.DictOfH.new s.heap)
  exact wpAny_Dict_empty ⟨.ref s.heap.objs.size, _, I.laid (a := s.heap.objs.size) (o := DicO X.w s.heap.objs.size ([], ep)) (t' := s.toks) (fun _ _ q => Heap.get?_push_of_some _ q) (Nat.le_refl _) ok, rfl, h _ ep (I.hok.fresh (Nat.le_refl _))⟩⟩
end
end Pu
/-! PuC: names, constants, displays, operators, comparisons, truth -/
namespace Pu
open PySem L2
section
variable {X : Cx} {W : WE} {a b c : Expr} {F G Fc : En → R D} {pos : Pos}
/-! ### names and constants -/
def getE (e : En) (i : Nat) : R D := match e[i]? with
  | some (.dat d) => .ok d
  | _ => .bad
def getV (e : En) (i : Nat) : R D := match e[i]? with
  | some (.dat d) => .ok d
  | some (.own ds) => .ok (.list ds)
  | some (.dic kvs) => .ok (.dict kvs)
  | _ => .bad
def xvE (i : Nat) : En → R D := fun e => getE e i
def xvV (i : Nat) : En → R D := fun e => getV e i
theorem pxE (i : Nat) {x : Str} (h : PE X (.Name x pos) (tVar i)) : PE X (.Name x pos) (tE (X.kw ea) W (xvE i)) := PE_weak h fun σ H Q ⟨H0, Hf0, Hf, e, S, p⟩ => by
  unfold xvE getE at p
  cases q : e[i]? with
  | none => rw [q] at p; exact p.elim
  | some s =>
    rw [q] at p
    cases s with
    | dat d =>
      obtain ⟨v, hv⟩ := S.lt q
      obtain ⟨y, ey, r⟩ := S.sl i _ v q hv
      subst ey
      exact ⟨y, hv, p y Hf H (Grow.refl S.gr.fh) r⟩
    | un => exact p.elim
    | own ds => exact p.elim
    | dic ks => exact p.elim
    | exc => exact p.elim
theorem pxV (i : Nat) {x : Str} (h : PE X (.Name x pos) (tVar i)) : PE X (.Name x pos) (tV (X.kw ea) W (xvV i)) := PE_weak h fun σ H Q ⟨H0, Hf0, Hf, e, S, p⟩ => by
  unfold xvV getV at p
  cases q : e[i]? with
  | none => rw [q] at p; exact p.elim
  | some s =>
    rw [q] at p
    obtain ⟨v, hv⟩ := S.lt q
    have z := S.sl i _ v q hv
    cases s with
    | dat d =>
      obtain ⟨y, ey, r⟩ := z
      subst ey
      exact ⟨y, hv, p y Hf H (Grow.refl S.gr.fh) (.e r)⟩
    | un => exact p.elim
    | own ds =>
      obtain ⟨y, xs, ey, h1, h2, h3, r⟩ := z
      subst ey
      exact ⟨_, hv, p _ Hf H (Grow.refl S.gr.fh) (.l h1 r)⟩
    | dic ks =>
      obtain ⟨y, xs, ey, h1, h2, h3, r⟩ := z
      subst ey
      exact ⟨_, hv, p _ Hf H (Grow.refl S.gr.fh) (.d h1 r)⟩
    | exc => exact p.elim
def xc (d : D) : En → R D := fun _ => .ok d
theorem xC {v : V} {d : D} (h : PE X a (tC v)) (r : ∀ H, Rp (X.kw ea) H v d) : PE X a (tE (X.kw ea) W (xc d)) := PE_weak h fun σ H Q ⟨H0, Hf0, Hf, e, S, p⟩ => p v Hf H (Grow.refl S.gr.fh) (r _)
theorem xInt {i j : _} : PE X (.Constant (.int i) j pos) (tE (X.kw ea) W (xc (.int i))) := xC pe_int fun _ => .int i
theorem xBool {i j : _} : PE X (.Constant (.bool i) j pos) (tE (X.kw ea) W (xc (.bool i))) := xC pe_bl fun _ => .bl i
theorem xNone {j : _} : PE X (.Constant .none j pos) (tE (X.kw ea) W (xc .none)) := xC pe_non fun _ => .non
theorem xStr {i j : _} : PE X (.Constant (.str i) j pos) (tE (X.kw ea) W (xc (.str i))) := xC pe_str fun _ => .str i
/-- a module's own constant -/
theorem xGlob {x : Str} {v : V} {u : Value} {d : D} (hg : Gl X x) (hm : X.mg x = some u) (rv : RelV v u) (r : ∀ H, Rp (X.kw ea) H v d) (hd : (x == ("__debug__" : Str)) = false := by decide) : PE X (.Name x pos) (tE (X.kw ea) W (xc d)) := xC (pe_glob hg hm rv hd) r

/-! ### argument lists, displays -/
def lnil : En → R (List D) := fun _ => .ok []
def lcons (F : En → R D) (G : En → R (List D)) : En → R (List D) := fun e => (F e).bind fun d => (G e).bind fun ds => .ok (d :: ds)
theorem aNil : PA X [] (tA (X.kw ea) W lnil) := PA_weak pa_nil fun σ H Q ⟨H0, Hf0, Hf, e, S, p⟩ => p [] Hf H (Grow.refl S.gr.fh) .nil
theorem aCons {es : List Expr} {L : En → R (List D)} (ha : PE X a (tE (X.kw ea) W F)) (hr : PA X es (tA (X.kw ea) W L)) (hs : starEach (a :: es) X.env = (false, eval a X.env) :: starEach es X.env := by rfl) : PA X (a :: es) (tA (X.kw ea) W (lcons F L)) :=
  PA_weak (pa_cons ha hr hs) fun σ H Q ⟨H0, Hf0, Hf, e, S, p⟩ => ⟨H0, Hf0, Hf, e, S, p.bind.mono fun v H1 ⟨Hf1, d, g, r, p1⟩ => ⟨H0, Hf0, Hf1, e, S.grow g, p1.bindA.mono fun vs H2 ⟨Hf2, ds, g2, r2, p2⟩ =>
    p2 (v :: vs) Hf2 H2 (Grow.refl g2.fh) (.cons (r.mono g2.ff) r2)⟩⟩
theorem avNil : PA X [] (tAV (X.kw ea) W lnil) := PA_weak pa_nil fun σ H Q ⟨H0, Hf0, Hf, e, S, p⟩ => p [] Hf H (Grow.refl S.gr.fh) .nil
theorem avCons {es : List Expr} {L : En → R (List D)} (ha : PE X a (tV (X.kw ea) W F)) (hr : PA X es (tAV (X.kw ea) W L)) (hs : starEach (a :: es) X.env = (false, eval a X.env) :: starEach es X.env := by rfl) : PA X (a :: es) (tAV (X.kw ea) W (lcons F L)) :=
  PA_weak (pa_cons ha hr hs) fun σ H Q ⟨H0, Hf0, Hf, e, S, p⟩ => ⟨H0, Hf0, Hf, e, S, p.bind.mono fun v H1 ⟨Hf1, d, g, r, p1⟩ => ⟨H0, Hf0, Hf1, e, S.grow g, p1.bindA.mono fun vs H2 ⟨Hf2, ds, g2, r2, p2⟩ =>
    p2 (v :: vs) Hf2 H2 (Grow.refl g2.fh) (.cons (r.mono g2) r2)⟩⟩
/-- lists and tuples hold at most so many -/
def many : Nat := 1000000
theorem many_line {n : Nat} (h : n ≤ many) : n ≤ sizeLine := Nat.le_trans h (by decide)
theorem many_lt {n : Nat} (h : n < many) : n < sizeLine := Nat.lt_of_lt_of_le h (by decide)
def mkT (ds : List D) : R D := if ds.length ≤ many then .ok (.tuple ds) else .bad
def mkL (ds : List D) : R (List D) := if ds.length ≤ many then .ok ds else .bad
def xtup (L : En → R (List D)) : En → R D := fun e => (L e).bind mkT
def xlst (L : En → R (List D)) : En → R (List D) := fun e => (L e).bind mkL
theorem xTup {es : List Expr} {L : En → R (List D)} {k : Nat} (h : PA X es (tA (X.kw ea) W L)) : PE X (.Tuple es k pos) (tE (X.kw ea) W (xtup L)) :=
  PE_weak (pe_tupF h) fun σ H Q ⟨H0, Hf0, Hf, e, S, p⟩ => ⟨H0, Hf0, Hf, e, S, p.bindA.mono fun vs H1 ⟨Hf1, ds, g, r, p1⟩ => by
    unfold mkT at p1
    split at p1
    · rename_i hl
      rw [← r.length] at hl
      exact ⟨many_line hl, TupN.of g.fh r p1⟩
    · exact p1.elim⟩
theorem xLst {es : List Expr} {L : En → R (List D)} (h : PA X es (tA (X.kw ea) W L)) : PE X (.List es pos) (tN (X.kw ea) W (xlst L)) :=
  PE_weak (pe_lst h) fun σ H Q ⟨H0, Hf0, Hf, e, S, p⟩ => ⟨H0, Hf0, Hf, e, S, p.bindA.mono fun vs H1 ⟨Hf1, ds, g, r, p1⟩ => by
    unfold mkL at p1
    split at p1
    · rename_i hl
      rw [← r.length] at hl
      exact ⟨many_line hl, fun q hq => p1 q vs Hf1 _ (Grow.lay g.fh hq) hq (g.fh.free hq) upd_same r⟩
    · exact p1.elim⟩

/-! ### operators -/
def bin (f : D → D → Option D) (F G : En → R D) : En → R D := fun e => (F e).bind fun x => (G e).bind fun y => opt (f x y)
def un1 (f : D → Option D) (F : En → R D) : En → R D := fun e => (F e).bind fun x => opt (f x)
/-- a two-place operation on data, its operands seen by Rel -/
def rB (K : Kw) (Rel : Hp → Hp → V → D → Prop) (f : D → D → Option D) : R2 := fun x y H Q => ∃ Hf dx dy z, Same Hf H ∧ Rel Hf H x dx ∧ Rel Hf H y dy ∧ f dx dy = some z ∧ ∀ v Hf' H', Grow Hf H Hf' H' → Rp K Hf' v z → Q v H'
def rBN (K : Kw) (Rel : Hp → Hp → V → D → Prop) (f : D → D → Option (List D)) : R2 := fun x y H Q => ∃ Hf dx dy z, Same Hf H ∧ Rel Hf H x dx ∧ Rel Hf H y dy ∧ f dx dy = some z ∧ ∀ p xs Hf' H', Grow Hf H Hf' H' → H p = none → Hf' p = none → H' p = some (.lst xs) → RpAll K Hf' xs z → Q (.ref p) H'
def rU1 (K : Kw) (Rel : Hp → Hp → V → D → Prop) (f : D → Option D) : V → Hp → VK → Prop := fun x H Q => ∃ Hf dx z, Same Hf H ∧ Rel Hf H x dx ∧ f dx = some z ∧ ∀ v Hf' H', Grow Hf H Hf' H' → Rp K Hf' v z → Q v H'
/-- a relation that stays -/
def Stays (Rel : Hp → Hp → V → D → Prop) : Prop := ∀ Hf H Hf' H' v d, Grow Hf H Hf' H' → Rel Hf H v d → Rel Hf' H' v d
theorem stE {K : Kw} : Stays (ERp K) := fun _ _ _ _ _ _ g r => r.mono g.ff
theorem stV {K : Kw} : Stays (VRp K) := fun _ _ _ _ _ _ g r => r.mono g
theorem tX_bin {K : Kw} {Rel : Hp → Hp → V → D → Prop} (st : Stays Rel) {f : D → D → Option D} {σ : L2.St} {H : Hp} {Q : VK} (h : tE K W (bin f F G) σ H Q) : tOp (rB K Rel f) (tX K Rel W F) (tX K Rel W G) σ H Q := by
  obtain ⟨H0, Hf0, Hf, e, S, p⟩ := h
  refine ⟨H0, Hf0, Hf, e, S, p.bind.mono fun x H1 ⟨Hf1, dx, g1, rx, p1⟩ => ⟨H0, Hf0, Hf1, e, S.grow g1, p1.bind.mono fun y H2 ⟨Hf2, dy, g2, ry, p2⟩ => ?_⟩⟩
  obtain ⟨z, ez, q⟩ := p2.of_opt
  exact ⟨Hf2, dx, dy, z, g2.fh, st _ _ _ _ _ _ g2 rx, ry, ez, q⟩
theorem tX_un {K : Kw} {Rel : Hp → Hp → V → D → Prop} {f : D → Option D} {σ : L2.St} {H : Hp} {Q : VK} (h : tE K W (un1 f F) σ H Q) : tUn (rU1 K Rel f) (tX K Rel W F) σ H Q := by
  obtain ⟨H0, Hf0, Hf, e, S, p⟩ := h
  refine ⟨H0, Hf0, Hf, e, S, p.bind.mono fun x H1 ⟨Hf1, dx, g1, rx, p1⟩ => ?_⟩
  obtain ⟨z, ez, q⟩ := p1.of_opt
  exact ⟨Hf1, dx, z, g1.fh, rx, ez, q⟩
theorem xBin {op : Operator} {f : D → D → Option D} (ho : OpR X (binaryOp op) (rB (X.kw ea) (ERp (X.kw ea)) f)) (ha : PE X a (tE (X.kw ea) W F)) (hb : PE X b (tE (X.kw ea) W G)) : PE X (.BinOp a op b pos) (tE (X.kw ea) W (bin f F G)) :=
  PE_weak (pe_op ho ha hb) fun σ H Q h => tX_bin stE h
theorem xUn {op : UnaryOp} {f : D → Option D} (ho : UnR X (unaryOp op) (rU1 (X.kw ea) (ERp (X.kw ea)) f)) (ha : PE X a (tE (X.kw ea) W F)) : PE X (.UnaryOp op a pos) (tE (X.kw ea) W (un1 f F)) :=
  PE_weak (pe_un ho ha) fun σ H Q h => tX_un h
theorem xCmp {op : CmpOp} {f : D → D → Option D} (ho : OpR X (compareOp op) (rB (X.kw ea) (VRp (X.kw ea)) f)) (ha : PE X a (tV (X.kw ea) W F)) (hb : PE X b (tV (X.kw ea) W G)) (hm : behindInMarks op b = false) : PE X (.Compare a [op] [b] pos) (tE (X.kw ea) W (bin f F G)) :=
  PE_weak (pe_cmpR ho ha hb hm) fun σ H Q h => tX_bin stV h
/-- a op b op' c -/
def chn (f f' : D → D → Option D) (F G Fc : En → R D) : En → R D := fun e => (F e).bind fun x => (G e).bind fun y => (opt (f x y)).bind fun z => match z with
  | .bool true => (Fc e).bind fun w => opt (f' y w)
  | .bool false => .ok (.bool false)
  | _ => .bad
theorem xChn {op op' : CmpOp} {f f' : D → D → Option D} (ho : OpR X (compareOp op) (rB (X.kw ea) (VRp (X.kw ea)) f)) (ho' : OpR X (compareOp op') (rB (X.kw ea) (VRp (X.kw ea)) f')) (ha : PE X a (tV (X.kw ea) W F)) (hb : PE X b (tV (X.kw ea) W G)) (hc : PE X c (tV (X.kw ea) W Fc))
    (hm : lastMarks [op, op'] [b, c] = false := by with_unfolding_all rfl) : PE X (.Compare a [op, op'] [b, c] pos) (tE (X.kw ea) W (chn f f' F G Fc)) :=
  PE_weak (pe_chain ho ho' ha hb hc hm) fun σ H Q ⟨H0, Hf0, Hf, e, S, p⟩ => ⟨H0, Hf0, Hf, e, S, p.bind.mono fun x H1 ⟨Hf1, dx, g1, rx, p1⟩ => ⟨H0, Hf0, Hf1, e, S.grow g1, p1.bind.mono fun y H2 ⟨Hf2, dy, g2, ry, p2⟩ => by
    cases hz : f dx dy with
    | none => rw [hz] at p2; exact p2.elim
    | some z =>
      rw [hz] at p2
      refine ⟨Hf2, dx, dy, z, g2.fh, rx.mono g2, ry, hz, fun v Hf3 H3 g3 r3 => ?_⟩
      have S3 := ((S.grow g1).grow g2).grow g3
      cases z with
      | bool k =>
        cases r3
        cases k with
        | true =>
          refine ⟨true, rfl, ?_⟩
          rw [if_pos rfl]
          have p3 : Po (ERp (X.kw ea)) W Q σ Hf2 H2 ((Fc e).bind fun w => opt (f' dy w)) := p2
          refine ⟨H0, Hf0, Hf3, e, S3, (p3.grow g3).bind.mono fun w H4 ⟨Hf4, dw, g4, rw4, p4⟩ => ?_⟩
          obtain ⟨z', ez, q⟩ := p4.of_opt
          exact ⟨Hf4, dy, dw, z', g4.fh, (ry.mono g3).mono g4, rw4, ez, q⟩
        | false =>
          refine ⟨false, rfl, ?_⟩
          rw [if_neg Bool.false_ne_true]
          have p3 : ∀ v Hf' H', Grow Hf2 H2 Hf' H' → Rp (X.kw ea) Hf' v (.bool false) → Q v H' := p2
          exact p3 _ Hf3 H3 g3 (.bl false)
      | none => exact p2.elim
      | int i => exact p2.elim
      | str i => exact p2.elim
      | list i => exact p2.elim
      | tuple i => exact p2.elim
      | dict i => exact p2.elim⟩⟩

/-! ### truth -/
def truD : D → Option Bool
  | .none => some false
  | .bool b => some b
  | .int i => some (i != 0)
  | .str x => if x.length ≤ many then some ((x.length : Int) != 0) else none
  | .list ds => some (!ds.isEmpty)
  | .tuple ds => some (!ds.isEmpty)
  | .dict _ => none
theorem truV {K : Kw} {Hf H : Hp} {v : V} {d : D} {k : Bool} (f : Same Hf H) (r : VRp K Hf H v d) (h : truD d = some k) : TruV K v H k := by
  cases d with
  | none =>
    have r' := r.full f
    cases r'; cases h; rfl
  | bool b =>
    have r' := r.full f
    cases r'; cases h; rfl
  | int i =>
    have r' := r.full f
    cases r'; cases h; rfl
  | str x =>
    have r' := r.full f
    cases r'
    have h' : (if x.length ≤ many then some ((x.length : Int) != 0) else none) = some k := h
    split at h'
    · cases h'; rename_i hl; exact ⟨many_line hl, rfl⟩
    · cases h'
  | list ds =>
    obtain ⟨a, xs, rfl, hl, ra⟩ := r.list f
    cases h
    exact .inl ⟨xs, SqL.of hl, by rw [ra.isEmpty]⟩
  | tuple ds =>
    obtain ⟨a, xs, rfl, hl, ra⟩ := r.tuple f
    cases h
    exact .inr (.inl ⟨xs, hl.sq, by rw [ra.isEmpty]⟩)
  | dict ds => cases h
def xtru (F : En → R D) : En → R Bool := fun e => (F e).bind fun d => opt (truD d)
def xnot (F : En → R D) : En → R D := fun e => (xtru F e).bind fun k => .ok (.bool (!k))
theorem xNot (ha : PE X a (tV (X.kw ea) W F)) : PE X (.UnaryOp .Not a pos) (tE (X.kw ea) W (xnot F)) :=
  PE_weak (pe_notT ha) fun σ H Q ⟨H0, Hf0, Hf, e, S, p⟩ => ⟨H0, Hf0, Hf, e, S, by
    have p' : Po (ERp (X.kw ea)) W Q σ Hf H ((F e).bind fun d => (opt (truD d)).bind fun k => .ok (.bool (!k))) := by
      unfold xnot xtru at p
      revert p
      cases F e <;> exact fun p => p
    refine p'.bind.mono fun x H1 ⟨Hf1, dx, g1, rx, p1⟩ => ?_
    cases hk : truD dx with
    | none => rw [hk] at p1; exact p1.elim
    | some k =>
      rw [hk] at p1
      exact ⟨k, truV g1.fh rx hk, p1 (.bl (!k)) Hf1 H1 (Grow.refl g1.fh) (.bl _)⟩⟩
/-- x or y, x and y as values -/
def xorV (F G : En → R D) : En → R D := fun e => (F e).bind fun d => (opt (truD d)).bind fun k => if k = true then .ok d else G e
def xandV (F G : En → R D) : En → R D := fun e => (F e).bind fun d => (opt (truD d)).bind fun k => if k = true then G e else .ok d
theorem xOr {rest : List Expr} (ha : PE X a (tE (X.kw ea) W F)) (hb : PE X (.BoolOp .Or (b :: rest) pos) (tE (X.kw ea) W G)) : PE X (.BoolOp .Or (a :: b :: rest) pos) (tE (X.kw ea) W (xorV F G)) :=
  PE_weak (pe_orT ha hb) fun σ H Q ⟨H0, Hf0, Hf, e, S, p⟩ => ⟨H0, Hf0, Hf, e, S, by
    refine p.bind.mono fun x H1 ⟨Hf1, dx, g1, rx, p1⟩ => ?_
    cases hk : truD dx with
    | none => rw [hk] at p1; exact p1.elim
    | some k =>
      rw [hk] at p1
      refine ⟨k, truV g1.fh (.e rx) hk, ?_⟩
      cases k with
      | true => rw [if_pos rfl]; exact p1 x Hf1 H1 (Grow.refl g1.fh) rx
      | false => rw [if_neg Bool.false_ne_true]; exact ⟨H0, Hf0, Hf1, e, S.grow g1, p1⟩⟩
theorem xAnd {rest : List Expr} (ha : PE X a (tE (X.kw ea) W F)) (hb : PE X (.BoolOp .And (b :: rest) pos) (tE (X.kw ea) W G)) : PE X (.BoolOp .And (a :: b :: rest) pos) (tE (X.kw ea) W (xandV F G)) :=
  PE_weak (pe_andT ha hb) fun σ H Q ⟨H0, Hf0, Hf, e, S, p⟩ => ⟨H0, Hf0, Hf, e, S, by
    refine p.bind.mono fun x H1 ⟨Hf1, dx, g1, rx, p1⟩ => ?_
    cases hk : truD dx with
    | none => rw [hk] at p1; exact p1.elim
    | some k =>
      rw [hk] at p1
      refine ⟨k, truV g1.fh (.e rx) hk, ?_⟩
      cases k with
      | true => rw [if_pos rfl]; exact ⟨H0, Hf0, Hf1, e, S.grow g1, p1⟩
      | false => rw [if_neg Bool.false_ne_true]; exact p1 x Hf1 H1 (Grow.refl g1.fh) rx⟩
theorem xOne {op : BoolOp} (ha : PE X a (tE (X.kw ea) W F)) : PE X (.BoolOp op [a] pos) (tE (X.kw ea) W F) := pe_one ha
/-! ### tests -/
variable {T U : En → R Bool}
theorem tTru (ha : PE X a (tV (X.kw ea) W F)) (he : ∀ whole, isTrue a X.env whole = (do let v ← whole; standAt a.pos; holding [v] (truthy v)) := by intro _; rfl) : PT X a (tT (X.kw ea) W (xtru F)) :=
  PT_weak (pt_truth ha he) fun σ H Q ⟨H0, Hf0, Hf, e, S, p⟩ => ⟨H0, Hf0, Hf, e, S, p.bind.mono fun x H1 ⟨Hf1, dx, g1, rx, p1⟩ => by
    obtain ⟨k, hk, q⟩ := p1.of_opt
    exact ⟨k, truV g1.fh rx hk, q Hf1 H1 (Grow.refl g1.fh)⟩⟩
def xbl (F : En → R D) : En → R Bool := fun e => (F e).bind fun d => match d with
  | .bool b => .ok b
  | _ => .bad
/-- a comparison as a test -/
theorem tCmp {op : CmpOp} {f : D → D → Option D} (ho : OpR X (compareOp op) (rB (X.kw ea) (VRp (X.kw ea)) f)) (ha : PE X a (tV (X.kw ea) W F)) (hb : PE X b (tV (X.kw ea) W G)) (hm : behindInMarks op b = false) : PT X (.Compare a [op] [b] pos) (tT (X.kw ea) W (xbl (bin f F G))) :=
  PT_weak (pt_cmpR ho ha hb hm) fun σ H Q ⟨H0, Hf0, Hf, e, S, p⟩ => tX_bin stV ⟨H0, Hf0, Hf, e, S, p.bind.mono fun x H1 ⟨Hf1, dx, g1, rx, p1⟩ => by
    cases dx with
    | bool k => cases rx; exact ⟨k, rfl, p1 Hf1 H1 (Grow.refl g1.fh)⟩
    | none => exact p1.elim
    | int i => exact p1.elim
    | str i => exact p1.elim
    | list i => exact p1.elim
    | tuple i => exact p1.elim
    | dict i => exact p1.elim⟩
def tand (T U : En → R Bool) : En → R Bool := fun e => (T e).bind fun k => if k = true then U e else .ok false
def tor (T U : En → R Bool) : En → R Bool := fun e => (T e).bind fun k => if k = true then .ok true else U e
def tnot (T : En → R Bool) : En → R Bool := fun e => (T e).bind fun k => .ok (!k)
theorem tNot (ha : PT X a (tT (X.kw ea) W T)) : PT X (.UnaryOp .Not a pos) (tT (X.kw ea) W (tnot T)) :=
  PT_weak (pt_not ha) fun σ H Q ⟨H0, Hf0, Hf, e, S, p⟩ => ⟨H0, Hf0, Hf, e, S, p.bindT.mono fun k H1 ⟨Hf1, g1, p1⟩ => p1 Hf1 H1 (Grow.refl g1.fh)⟩
theorem tAnd1 (ha : PT X a (tT (X.kw ea) W T)) : PW X (.BoolOp .And [a] pos) (tT (X.kw ea) W T) := pw_and1 ha
theorem tOr1 (ha : PT X a (tT (X.kw ea) W T)) : PW X (.BoolOp .Or [a] pos) (tT (X.kw ea) W T) := pw_or1 ha
theorem tAnd {rest : List Expr} (ha : PT X a (tT (X.kw ea) W T)) (hb : PW X (.BoolOp .And (b :: rest) pos) (tT (X.kw ea) W U)) : PW X (.BoolOp .And (a :: b :: rest) pos) (tT (X.kw ea) W (tand T U)) :=
  PW_weak (pw_and ha hb) fun σ H Q ⟨H0, Hf0, Hf, e, S, p⟩ => ⟨H0, Hf0, Hf, e, S, p.bindT.mono fun k H1 ⟨Hf1, g1, p1⟩ => by
    cases k with
    | true => rw [if_pos rfl]; exact ⟨H0, Hf0, Hf1, e, S.grow g1, p1⟩
    | false => rw [if_neg Bool.false_ne_true]; exact p1 Hf1 H1 (Grow.refl g1.fh)⟩
theorem tOr {rest : List Expr} (ha : PT X a (tT (X.kw ea) W T)) (hb : PW X (.BoolOp .Or (b :: rest) pos) (tT (X.kw ea) W U)) : PW X (.BoolOp .Or (a :: b :: rest) pos) (tT (X.kw ea) W (tor T U)) :=
  PW_weak (pw_or ha hb) fun σ H Q ⟨H0, Hf0, Hf, e, S, p⟩ => ⟨H0, Hf0, Hf, e, S, p.bindT.mono fun k H1 ⟨Hf1, g1, p1⟩ => by
    cases k with
    | true => rw [if_pos rfl]; exact p1 Hf1 H1 (Grow.refl g1.fh)
    | false => rw [if_neg Bool.false_ne_true]; exact ⟨H0, Hf0, Hf1, e, S.grow g1, p1⟩⟩
theorem tW (h : PW X a (tT (X.kw ea) W T)) : PT X a (tT (X.kw ea) W T) := h.pt
/-- a if t else b -/
def xif (T : En → R Bool) (F G : En → R D) : En → R D := fun e => (T e).bind fun k => if k = true then F e else G e
theorem xIf (hc : PT X c (tT (X.kw ea) W T)) (ha : PE X a (tE (X.kw ea) W F)) (hb : PE X b (tE (X.kw ea) W G)) : PE X (.IfExp c a b pos) (tE (X.kw ea) W (xif T F G)) :=
  PE_weak (pe_ifExp hc ha hb) fun σ H Q ⟨H0, Hf0, Hf, e, S, p⟩ => ⟨H0, Hf0, Hf, e, S, p.bindT.mono fun k H1 ⟨Hf1, g1, p1⟩ => by
    cases k with
    | true => rw [if_pos rfl] at p1 ⊢; exact ⟨H0, Hf0, Hf1, e, S.grow g1, p1⟩
    | false => rw [if_neg Bool.false_ne_true] at p1 ⊢; exact ⟨H0, Hf0, Hf1, e, S.grow g1, p1⟩⟩
end
end Pu
/-! PuD: the operators and comparisons on data -/
namespace Pu
open PySem L2
/-! ### what they compute -/
def addD : D → D → Option D
  | .int i, .int j => some (.int (i + j))
  | .str x, .str y => if x.length + y.length ≤ many then some (.str (x ++ y)) else none
  | .tuple xs, .tuple ys => if xs.length + ys.length ≤ many then some (.tuple (xs ++ ys)) else none
  | .list xs, .list ys => if xs.length + ys.length ≤ many then some (.list (xs ++ ys)) else none
  | _, _ => none
def addN : D → D → Option (List D)
  | .list xs, .list ys => if xs.length + ys.length ≤ many then some (xs ++ ys) else none
  | _, _ => none
def subD : D → D → Option D
  | .int i, .int j => some (.int (i - j))
  | _, _ => none
def small64 (i : Int) : Bool := decide (-(2 ^ 64) < i) && decide (i < 2 ^ 64)
def mulD : D → D → Option D
  | .int i, .int j => if small64 i || small64 j then some (.int (i * j)) else none
  | .list xs, .int k => if (0 ≤ k && decide (k ≤ 1000)) && decide (xs.length ≤ 1000) then some (.list (List.replicate k.toNat xs).flatten) else none
  | .tuple xs, .int k => if (2 ≤ k && decide (k ≤ 1000)) && decide (xs.length ≤ 1000) && !xs.isEmpty then some (.tuple (List.replicate k.toNat xs).flatten) else none
  | .str x, .int k => if (2 ≤ k && decide (k ≤ 1000)) && decide (x.length ≤ 1000) && decide (0 < x.length) then some (.str ⟨(List.replicate k.toNat x.cps.toList).flatten.toArray⟩) else none
  | _, _ => none
def modD : D → D → Option D
  | .int i, .int j => if 0 < j then some (.int (i % j)) else none
  | _, _ => none
def fdivD : D → D → Option D
  | .int i, .int j => if 0 < j ∧ j < 1073741824 then some (.int (i / j)) else none
  | _, _ => none
def negD : D → Option D
  | .int i => some (.int (-i))
  | _ => none
def eqD (x y : D) : Option D := if SeqAt.shaped x && SeqAt.shaped y then some (.bool (PyData.eqv x y)) else none
def neD (x y : D) : Option D := if SeqAt.shaped x && SeqAt.shaped y then some (.bool (!PyData.eqv x y)) else none
def intsOf : List D → Option (List Int)
  | [] => some []
  | .int i :: r => (intsOf r).map (i :: ·)
  | _ => none
def ltD : D → D → Option D
  | .int i, .int j => some (.bool (decide (i < j)))
  | .tuple xs, .tuple ys => match intsOf xs, intsOf ys with
    | some ns, some ms => some (.bool (HT.lexLt ns ms))
    | _, _ => none
  | _, _ => none
def leD : D → D → Option D
  | .int i, .int j => some (.bool (decide (i ≤ j)))
  | _, _ => none
def gtD : D → D → Option D
  | .int i, .int j => some (.bool (decide (j < i)))
  | _, _ => none
def geD : D → D → Option D
  | .int i, .int j => some (.bool (decide (j ≤ i)))
  | _, _ => none
def isNoneD : D → Bool
  | .none => true
  | _ => false
def isD : D → D → Option D
  | x, .none => some (.bool (isNoneD x))
  | .bool a, .bool b => some (.bool (a == b))
  | _, _ => none
def isNotD : D → D → Option D
  | x, .none => some (.bool (!isNoneD x))
  | .bool a, .bool b => some (.bool (!(a == b)))
  | _, _ => none
def inTxt (x y : Str) : Bool := match x.cps.toList with
  | [c] => decide (c ∈ y.cps.toList)
  | _ => !(Builtin.Str.occurrences y x 0 y.length 1).isEmpty
def noScr : List (D × D) → Bool
  | (.none, _) :: _ => false
  | _ => true
theorem noScr_ne {kvs : List (D × D)} (h : noScr kvs = true) : ∀ z l, kvs ≠ (.none, z) :: l := fun z l e => by subst e; cases h
def inB (x : D) : D → Option Bool
  | .list ds => if SeqAt.shaped x && SeqAt.shaped (.list ds) then some (ds.any fun z => PyData.eqv z x) else none
  | .tuple ds => if SeqAt.shaped x && SeqAt.shaped (.tuple ds) then some (ds.any fun z => PyData.eqv z x) else none
  | .str y => match x with
    | .str z => some (inTxt z y)
    | _ => none
  | .dict kvs => if noScr kvs then (keyD x).map fun k => (dget kvs k).isSome else none
  | _ => none
def inD (x y : D) : Option D := (inB x y).map fun b => .bool b
def notInD (x y : D) : Option D := (inB x y).map fun b => .bool (!b)

theorem intsOf_eq : ∀ {ds : List D} {ns : List Int}, intsOf ds = some ns → ds = ns.map PyData.int
  | [], ns, h => by cases h; rfl
  | .int i :: r, ns, h => by
    unfold intsOf at h
    cases q : intsOf r with
    | none => rw [q] at h; cases h
    | some ms => rw [q] at h; cases h; rw [intsOf_eq q]; rfl
  | .none :: r, ns, h => by cases h
  | .bool _ :: r, ns, h => by cases h
  | .str _ :: r, ns, h => by cases h
  | .list _ :: r, ns, h => by cases h
  | .tuple _ :: r, ns, h => by cases h
  | .dict _ :: r, ns, h => by cases h
theorem intsOf_map : ∀ ns : List Int, intsOf (ns.map PyData.int) = some ns
  | [] => rfl
  | n :: ns => by
    show (intsOf (ns.map PyData.int)).map (n :: ·) = _
    rw [intsOf_map ns]
    rfl

section
variable {X : Cx}
/-! ### the rules -/
theorem op_addB : OpR X (binaryOp .Add) (rB (X.kw ea) (ERp (X.kw ea)) addD) := by
  intro pins s σ H x y v u Q I rx ry ⟨Hf, dx, dy, z, f, hx, hy, ez, q⟩
  cases hx with
  | int i =>
    cases hy with
    | int j => cases ez; exact op_add pins s σ H _ _ v u Q I rx ry ⟨i, j, rfl, rfl, q _ Hf H (Grow.refl f) (.int _)⟩
    | _ => cases ez
  | str i =>
    cases hy with
    | str j =>
      have ez' : (if i.length + j.length ≤ many then some (PyData.str (i ++ j)) else none) = some z := ez
      split at ez'
      · cases ez'
        rename_i hl
        exact op_add_str pins s σ H _ _ v u Q I rx ry ⟨i, j, rfl, rfl, many_line hl, q _ Hf H (Grow.refl f) (.str _)⟩
      · cases ez'
    | _ => cases ez
  | tup ha ra =>
    cases hy with
    | tup hb rb =>
      rename_i a xs ds b ys es
      have ez' : (if ds.length + es.length ≤ many then some (PyData.tuple (ds ++ es)) else none) = some z := ez
      split at ez'
      · cases ez'
        rename_i hl
        rw [← ra.length, ← rb.length] at hl
        refine op_catF pins s σ H _ _ v u Q I rx ry ⟨_, _, _, _, rfl, rfl, (ha.mono f).sq, (hb.mono f).sq, many_line hl, fun e => ?_, fun _ e => ?_, fun _ _ => ?_⟩
        · subst e
          cases ra
          exact q _ Hf H (Grow.refl f) (.tup hb rb)
        · subst e
          cases rb
          rw [List.append_nil] at q
          exact q _ Hf H (Grow.refl f) (.tup ha ra)
        · exact TupN.of f (ra.append rb) q
      · cases ez'
    | _ => cases ez
  | lst ha ra =>
    cases hy with
    | lst hb rb =>
      rename_i a xs ds b ys es
      have ez' : (if ds.length + es.length ≤ many then some (PyData.list (ds ++ es)) else none) = some z := ez
      split at ez'
      · cases ez'
        rename_i hl
        rw [← ra.length, ← rb.length] at hl
        exact op_cat pins s σ H _ _ v u Q I rx ry ⟨_, _, _, _, rfl, rfl, f _ _ ha, f _ _ hb, many_line hl, fun p hp => q _ _ _ (Grow.new f hp) (.lst upd_same ((ra.append rb).mono (same_upd (f.free hp))))⟩
      · cases ez'
    | _ => cases ez
  | _ => cases ez
theorem op_addL : OpR X (binaryOp .Add) (rBN (X.kw ea) (VRp (X.kw ea)) addN) := by
  intro pins s σ H x y v u Q I rx ry ⟨Hf, dx, dy, z, f, hx, hy, ez, q⟩
  cases dx with
  | list ds =>
    cases dy with
    | list es =>
      obtain ⟨a, xs, rfl, ha, ra⟩ := hx.list f
      obtain ⟨b, ys, rfl, hb, rb⟩ := hy.list f
      have ez' : (if ds.length + es.length ≤ many then some (ds ++ es) else none) = some z := ez
      split at ez'
      · cases ez'
        rename_i hl
        rw [← ra.length, ← rb.length] at hl
        exact op_cat pins s σ H _ _ v u Q I rx ry ⟨_, _, _, _, rfl, rfl, ha, hb, many_line hl, fun p hp => q p _ Hf _ (Grow.lay f hp) hp (f.free hp) upd_same (ra.append rb)⟩
      · cases ez'
    | _ => cases ez
  | _ => cases ez
theorem op_subB : OpR X (binaryOp .Sub) (rB (X.kw ea) (ERp (X.kw ea)) subD) := by
  intro pins s σ H x y v u Q I rx ry ⟨Hf, dx, dy, z, f, hx, hy, ez, q⟩
  cases hx with
  | int i =>
    cases hy with
    | int j => cases ez; exact op_sub pins s σ H _ _ v u Q I rx ry ⟨i, j, rfl, rfl, q _ Hf H (Grow.refl f) (.int _)⟩
    | _ => cases ez
  | _ => cases ez
theorem op_modB : OpR X (binaryOp .Mod) (rB (X.kw ea) (ERp (X.kw ea)) modD) := by
  intro pins s σ H x y v u Q I rx ry ⟨Hf, dx, dy, z, f, hx, hy, ez, q⟩
  cases hx with
  | int i =>
    cases hy with
    | int j =>
      have ez' : (if 0 < j then some (PyData.int (i % j)) else none) = some z := ez
      split at ez'
      · cases ez'
        rename_i hl
        exact op_mod pins s σ H _ _ v u Q I rx ry ⟨i, j, rfl, rfl, hl, q _ Hf H (Grow.refl f) (.int _)⟩
      · cases ez'
    | _ => cases ez
  | _ => cases ez
theorem op_fdivB : OpR X (binaryOp .FloorDiv) (rB (X.kw ea) (ERp (X.kw ea)) fdivD) := by
  intro pins s σ H x y v u Q I rx ry ⟨Hf, dx, dy, z, f, hx, hy, ez, q⟩
  cases hx with
  | int i =>
    cases hy with
    | int j =>
      have ez' : (if 0 < j ∧ j < 1073741824 then some (PyData.int (i / j)) else none) = some z := ez
      split at ez'
      · cases ez'
        rename_i hl
        exact op_fdiv pins s σ H _ _ v u Q I rx ry ⟨i, j, rfl, rfl, hl, q _ Hf H (Grow.refl f) (.int _)⟩
      · cases ez'
    | _ => cases ez
  | _ => cases ez
theorem small_of {i : Int} (h : small64 i = true) : -(2 ^ 64) < i ∧ i < 2 ^ 64 := by
  unfold small64 at h
  rw [Bool.and_eq_true] at h
  exact ⟨of_decide_eq_true h.1, of_decide_eq_true h.2⟩
theorem rep_arr (a : Array Nat) : ∀ n : Nat, (List.replicate n a).foldl (· ++ ·) #[] = (List.replicate n a.toList).flatten.toArray := by
  have go : ∀ (n : Nat) (b : Array Nat), (List.replicate n a).foldl (· ++ ·) b = b ++ (List.replicate n a.toList).flatten.toArray := by
    intro n
    induction n with
    | zero => intro b; simp
    | succ n ih =>
      intro b
      rw [List.replicate_succ, List.replicate_succ, List.foldl_cons, ih, List.flatten_cons]
      apply Array.toList_inj.mp
      simp
  intro n
  rw [go n #[]]
  simp
theorem op_mulB : OpR X (binaryOp .Mult) (rB (X.kw ea) (ERp (X.kw ea)) mulD) := by
  intro pins s σ H x y v u Q I rx ry ⟨Hf, dx, dy, z, f, hx, hy, ez, q⟩
  cases hx with
  | int i =>
    cases hy with
    | int j =>
      have ez' : (if small64 i || small64 j then some (PyData.int (i * j)) else none) = some z := ez
      split at ez'
      · cases ez'
        rename_i hl
        rw [Bool.or_eq_true] at hl
        exact op_mul pins s σ H _ _ v u Q I rx ry ⟨i, j, rfl, rfl, hl.elim (fun h => .inl (small_of h)) (fun h => .inr (small_of h)), q _ Hf H (Grow.refl f) (.int _)⟩
      · cases ez'
    | _ => cases ez
  | lst ha ra =>
    cases hy with
    | int k =>
      rename_i a xs ds
      have ez' : (if ((0 : Int) ≤ k && decide (k ≤ 1000)) && decide (ds.length ≤ 1000) then some (PyData.list (List.replicate k.toNat ds).flatten) else none) = some z := ez
      split at ez'
      · cases ez'
        rename_i hl
        simp only [Bool.and_eq_true, decide_eq_true_eq] at hl
        have hz : xs.length * k.toNat ≤ sizeLine := by
          rw [ra.length]
          exact Nat.le_trans (Nat.mul_le_mul hl.2 (show k.toNat ≤ 1000 by omega)) (by decide)
        exact op_rep pins s σ H _ _ v u Q I rx ry ⟨_, _, _, rfl, rfl, f _ _ ha, by omega, by omega, hz, fun p hp => q _ _ _ (Grow.new f hp) (.lst upd_same ((ra.rep _).mono (same_upd (f.free hp))))⟩
      · cases ez'
    | _ => cases ez
  | tup ha ra =>
    cases hy with
    | int k =>
      rename_i a xs ds
      have ez' : (if ((2 : Int) ≤ k && decide (k ≤ 1000)) && decide (ds.length ≤ 1000) && !ds.isEmpty then some (PyData.tuple (List.replicate k.toNat ds).flatten) else none) = some z := ez
      split at ez'
      · cases ez'
        rename_i hl
        simp only [Bool.and_eq_true, decide_eq_true_eq] at hl
        have hne : xs ≠ [] := fun e => by
          have h2 := hl.2
          rw [← ra.isEmpty, e] at h2
          cases h2
        exact op_repF pins s σ H _ _ v u Q I rx ry ⟨_, _, _, rfl, rfl, (ha.mono f).sq, hne, hl.1.1.1, hl.1.1.2, by rw [ra.length]; exact hl.1.2, TupN.of f (ra.rep _) q⟩
      · cases ez'
    | _ => cases ez
  | str x =>
    cases hy with
    | int k =>
      have ez' : (if ((2 : Int) ≤ k && decide (k ≤ 1000)) && decide (x.length ≤ 1000) && decide (0 < x.length) then some (PyData.str ⟨(List.replicate k.toNat x.cps.toList).flatten.toArray⟩) else none) = some z := ez
      split at ez'
      · cases ez'
        rename_i hl
        simp only [Bool.and_eq_true, decide_eq_true_eq] at hl
        obtain ⟨⟨⟨h2, h3⟩, h4⟩, h5⟩ := hl
        obtain ⟨t, rfl⟩ := rx
        obtain ⟨t', rfl⟩ := ry
        have hlen : x.length * k.toNat ≤ 1000000 := Nat.le_trans (Nat.mul_le_mul h4 (show k.toNat ≤ 1000 by omega)) (by decide)
        refine PySem.P.mul_str (by
            have a1 : ¬ k < -(2 ^ 63 : Int) := by omega
            have a2 : ¬ k ≥ 2 ^ 63 := by omega
            rw [decide_eq_false a1, decide_eq_false a2]; rfl) (fun _ _ hh => ?_) (fun _ _ => ?_) ?_
        · have : (2 ^ 63 - 1 : Int) / k ≥ (2 ^ 63 - 1 : Int) / 1000 := by
            apply Int.le_of_lt_add_one
            apply Int.ediv_lt_of_lt_mul (by decide)
            have hk : 0 < k := by omega
            have e1 := Int.lt_mul_ediv_self_add (x := (2 ^ 63 - 1 : Int)) hk
            have : k * ((2 ^ 63 - 1 : Int) / k) + k ≤ 1000 * ((2 ^ 63 - 1 : Int) / k) + 1000 := by
              have e2 : 0 ≤ (2 ^ 63 - 1 : Int) / k := Int.ediv_nonneg (by decide) (by omega)
              have e3 : k * ((2 ^ 63 - 1 : Int) / k) ≤ 1000 * ((2 ^ 63 - 1 : Int) / k) := Int.mul_le_mul_of_nonneg_right (by omega) e2
              omega
            omega
          have : (2 ^ 63 - 1 : Int) / 1000 ≥ 1000 := by decide
          omega
        · unfold Builtin.Str.tooLong
          exact decide_eq_false (by have := sizeLine_eq; omega)
        · rw [if_neg (by omega), if_neg (by
            rw [Bool.or_eq_true]
            intro hh
            rcases hh with hh | hh
            · have := eq_of_beq hh; omega
            · have := eq_of_beq hh; omega)]
          have ef : (List.replicate k.toNat x.cps).foldl (· ++ ·) #[] = (List.replicate k.toNat x.cps.toList).flatten.toArray := rep_arr x.cps k.toNat
          rw [ef]
          refine ⟨?_, .str _, H, I.tok _, ⟨_, rfl⟩, q _ Hf H (Grow.refl f) (.str _)⟩
          show (List.replicate k.toNat x.cps.toList).flatten.toArray.size ≤ sizeLine
          rw [List.size_toArray, List.length_flatten, List.map_replicate, List.sum_replicate_nat, Array.length_toList, Nat.mul_comm]
          exact Nat.le_trans hlen (by decide)
      · cases ez'
    | _ => cases ez
  | _ => cases ez
theorem un_negB : UnR X (unaryOp .USub) (rU1 (X.kw ea) (ERp (X.kw ea)) negD) := by
  intro pins s σ H x v Q I rx ⟨Hf, dx, z, f, hx, ez, q⟩
  cases hx with
  | int i => cases ez; exact un_neg pins s σ H _ v Q I rx ⟨i, rfl, q _ Hf H (Grow.refl f) (.int _)⟩
  | _ => cases ez
theorem op_eqB {k : Nat} (hr : Room k X.A) : OpR X (compareOp .Eq) (rB (X.kw ea) (VRp (X.kw ea)) eqD) := by
  intro pins s σ H x y v u Q I rx ry ⟨Hf, dx, dy, z, f, hx, hy, ez, q⟩
  unfold eqD at ez
  split at ez
  · cases ez
    rename_i hl
    rw [Bool.and_eq_true] at hl
    exact op_eqD hr.units pins s σ H _ _ v u Q I rx ry ⟨dx, dy, (hx.full f).dp (SeqAt.canLay_of_shaped hl.1), (hy.full f).dp (SeqAt.canLay_of_shaped hl.2), hl.1, hl.2, q _ Hf H (Grow.refl f) (.bl _)⟩
  · cases ez
theorem op_neB {k : Nat} (hr : Room k X.A) : OpR X (compareOp .NotEq) (rB (X.kw ea) (VRp (X.kw ea)) neD) := by
  intro pins s σ H x y v u Q I rx ry ⟨Hf, dx, dy, z, f, hx, hy, ez, q⟩
  unfold neD at ez
  split at ez
  · cases ez
    rename_i hl
    rw [Bool.and_eq_true] at hl
    exact op_neD hr.units pins s σ H _ _ v u Q I rx ry ⟨dx, dy, (hx.full f).dp (SeqAt.canLay_of_shaped hl.1), (hy.full f).dp (SeqAt.canLay_of_shaped hl.2), hl.1, hl.2, q _ Hf H (Grow.refl f) (.bl _)⟩
  · cases ez
theorem op_ltB {k : Nat} (hr : Room k X.A) : OpR X (compareOp .Lt) (rB (X.kw ea) (VRp (X.kw ea)) ltD) := by
  intro pins s σ H x y v u Q I rx ry ⟨Hf, dx, dy, z, f, hx, hy, ez, q⟩
  cases dx with
  | int i =>
    cases dy with
    | int j => cases ez; rw [hx.int] at rx; rw [hy.int] at ry; exact op_lt pins s σ H _ _ v u Q I rx ry ⟨i, j, rfl, rfl, q _ Hf H (Grow.refl f) (.bl _)⟩
    | _ => cases ez
  | tuple ds =>
    cases dy with
    | tuple es =>
      obtain ⟨a, xs, rfl, ha, ra⟩ := hx.tuple f
      obtain ⟨b, ys, rfl, hb, rb⟩ := hy.tuple f
      have ez' : (match intsOf ds, intsOf es with | some ns, some ms => some (PyData.bool (HT.lexLt ns ms)) | _, _ => none) = some z := ez
      cases e1 : intsOf ds with
      | none => rw [e1] at ez'; cases ez'
      | some ns =>
        cases e2 : intsOf es with
        | none => rw [e1, e2] at ez'; cases ez'
        | some ms =>
          rw [e1, e2] at ez'
          cases ez'
          rw [intsOf_eq e1] at ra
          rw [intsOf_eq e2] at rb
          rw [ra.ints] at ha
          rw [rb.ints] at hb
          exact op_ltT hr.units0 pins s σ H _ _ v u Q I rx ry ⟨a, b, ns, ms, rfl, rfl, ha.sq, hb.sq, q _ Hf H (Grow.refl f) (.bl _)⟩
    | _ => cases ez
  | _ => cases ez
theorem op_leB : OpR X (compareOp .LtE) (rB (X.kw ea) (VRp (X.kw ea)) leD) := by
  intro pins s σ H x y v u Q I rx ry ⟨Hf, dx, dy, z, f, hx, hy, ez, q⟩
  cases dx with
  | int i =>
    cases dy with
    | int j => cases ez; rw [hx.int] at rx; rw [hy.int] at ry; exact op_le pins s σ H _ _ v u Q I rx ry ⟨i, j, rfl, rfl, q _ Hf H (Grow.refl f) (.bl _)⟩
    | _ => cases ez
  | _ => cases ez
theorem op_gtB : OpR X (compareOp .Gt) (rB (X.kw ea) (VRp (X.kw ea)) gtD) := by
  intro pins s σ H x y v u Q I rx ry ⟨Hf, dx, dy, z, f, hx, hy, ez, q⟩
  cases dx with
  | int i =>
    cases dy with
    | int j => cases ez; rw [hx.int] at rx; rw [hy.int] at ry; exact op_gt pins s σ H _ _ v u Q I rx ry ⟨i, j, rfl, rfl, q _ Hf H (Grow.refl f) (.bl _)⟩
    | _ => cases ez
  | _ => cases ez
theorem op_geB : OpR X (compareOp .GtE) (rB (X.kw ea) (VRp (X.kw ea)) geD) := by
  intro pins s σ H x y v u Q I rx ry ⟨Hf, dx, dy, z, f, hx, hy, ez, q⟩
  cases dx with
  | int i =>
    cases dy with
    | int j => cases ez; rw [hx.int] at rx; rw [hy.int] at ry; exact op_ge pins s σ H _ _ v u Q I rx ry ⟨i, j, rfl, rfl, q _ Hf H (Grow.refl f) (.bl _)⟩
    | _ => cases ez
  | _ => cases ez
theorem isNone_iff {K : Kw} {H : Hp} {x : V} {d : D} (r : Rp K H x d) : decide (x = .non) = isNoneD d := by
  cases r <;> rfl
theorem op_isB : OpR X (compareOp .Is) (rB (X.kw ea) (VRp (X.kw ea)) isD) := by
  intro pins s σ H x y v u Q I rx ry ⟨Hf, dx, dy, z, f, hx, hy, ez, q⟩
  have hx' := hx.full f
  have hy' := hy.full f
  cases dy with
  | none =>
    cases hy'
    have ez' : some (PyData.bool (isNoneD dx)) = some z := by cases dx <;> exact ez
    cases ez'
    exact op_isN pins s σ H _ _ v u Q I rx ry ⟨rfl, by rw [isNone_iff hx']; exact q _ Hf H (Grow.refl f) (.bl _)⟩
  | bool b =>
    cases dx with
    | bool a => cases ez; cases hx'; cases hy'; exact op_isBl pins s σ H _ _ v u Q I rx ry ⟨a, b, rfl, rfl, by rw [← Bool.beq_eq_decide_eq]; exact q _ Hf H (Grow.refl f) (.bl _)⟩
    | _ => cases ez
  | _ => cases dx <;> cases ez
theorem op_isNotB : OpR X (compareOp .IsNot) (rB (X.kw ea) (VRp (X.kw ea)) isNotD) := by
  intro pins s σ H x y v u Q I rx ry ⟨Hf, dx, dy, z, f, hx, hy, ez, q⟩
  have hx' := hx.full f
  have hy' := hy.full f
  cases dy with
  | none =>
    cases hy'
    have ez' : some (PyData.bool (!isNoneD dx)) = some z := by cases dx <;> exact ez
    cases ez'
    exact op_notN pins s σ H _ _ v u Q I rx ry ⟨rfl, by rw [isNone_iff hx']; exact q _ Hf H (Grow.refl f) (.bl _)⟩
  | bool b =>
    cases dx with
    | bool a => cases ez; cases hx'; cases hy'; exact op_notBl pins s σ H _ _ v u Q I rx ry ⟨a, b, rfl, rfl, by rw [← Bool.beq_eq_decide_eq]; exact q _ Hf H (Grow.refl f) (.bl _)⟩
    | _ => cases ez
  | _ => cases dx <;> cases ez
theorem room_in (A : Around) {k : Nat} (hr : Room k A) : A.units + 65 < cLine := by have := hr.un; omega
theorem room_nk {P : Program} {w : World} {A : Around} {k : Nat} (hr : Room k A) : (nestedKind P w).room A.in1 := by have := hr.un; show A.units + 1 + 8 < cLine; omega
theorem op_inAny {op : CmpOp} (g : Bool → Bool) {k : Nat} (hr : Room k X.A)
    (hl : ∀ {M : Shared} {c x : Value} {xs : List D} {d : D} {as bs : List Addr} {Q : Value → Shared → Prop}, Reads M.heap c (.list xs) as → Reads M.heap x d bs → PyData.canLayAll0 xs = true → d.canLay0 = true → X.A.units + 1 + min (PyData.depthAll xs) d.depth < cLine →
      Q (.bool (g (xs.any fun y => PyData.eqv y d))) M → wpAny (model X.prog X.w) X.A (compareOp op x c) Q X.xe M)
    (ht : ∀ {M : Shared} {c x : Value} {xs : List D} {d : D} {as bs : List Addr} {Q : Value → Shared → Prop}, Reads M.heap c (.tuple xs) as → Reads M.heap x d bs → PyData.canLayAll0 xs = true → d.canLay0 = true → X.A.units + 1 + min (PyData.depthAll xs) d.depth < cLine →
      Q (.bool (g (xs.any fun y => PyData.eqv y d))) M → wpAny (model X.prog X.w) X.A (compareOp op x c) Q X.xe M)
    (hs : OpR X (compareOp op) (fun x y H Q => ∃ i j, x = .str i ∧ y = .str j ∧ Q (.bl (g (!(Builtin.Str.occurrences j i 0 j.length 1).isEmpty))) H))
    (hc : OpR X (compareOp op) (fun x y H Q => ∃ (c : Nat) (z : Str), x = .str ⟨#[c]⟩ ∧ y = .str z ∧ Q (.bl (g (decide (c ∈ z.cps.toList)))) H))
    (hd : ∀ {M : Shared} {c x : Addr} {xs : List (NestedKey × Addr × Value)} {k : NestedKey} {Q : Value → Shared → Prop}, (nestedKind X.prog X.w).is M.heap k x → (c == sysModules) = false → M.heap.DictOfH (nestedKind X.prog X.w) c xs → (∀ t, Q (.bool (g (atKey xs k).isSome)) { M with toks := t }) →
      wpAny (model X.prog X.w) X.A (compareOp op (.ref x) (.ref c)) Q X.xe M) :
    OpR X (compareOp op) (rB (X.kw ea) (VRp (X.kw ea)) fun x y => (inB x y).map fun b => .bool (g b)) := by
  intro pins s σ H x y v u Q I rx ry ⟨Hf, dx, dy, z, f, hx, hy, ez, q⟩
  have hx' := hx.full f
  have hy' := hy.full f
  cases dy with
  | list ds =>
    have ez' : ((if SeqAt.shaped dx && SeqAt.shaped (.list ds) then some (ds.any fun z => PyData.eqv z dx) else none).map fun b => PyData.bool (g b)) = some z := ez
    split at ez'
    · rename_i hh
      cases ez'
      rw [Bool.and_eq_true] at hh
      obtain ⟨as, r1⟩ := Dp.reads I dx x v (hx'.dp (SeqAt.canLay_of_shaped hh.1)) rx
      obtain ⟨bs, r2⟩ := Dp.reads I (.list ds) y u (hy'.dp (SeqAt.canLay_of_shaped hh.2)) ry
      exact hl r2 r1 (SeqAt.canLay_of_shaped hh.2) (SeqAt.canLay_of_shaped hh.1) (PyProof.Rows.room_in_shaped hh.1 (room_in _ hr)) ⟨.bl _, H, I, rfl, q _ Hf H (Grow.refl f) (.bl _)⟩
    · cases ez'
  | tuple ds =>
    have ez' : ((if SeqAt.shaped dx && SeqAt.shaped (.tuple ds) then some (ds.any fun z => PyData.eqv z dx) else none).map fun b => PyData.bool (g b)) = some z := ez
    split at ez'
    · rename_i hh
      cases ez'
      rw [Bool.and_eq_true] at hh
      obtain ⟨as, r1⟩ := Dp.reads I dx x v (hx'.dp (SeqAt.canLay_of_shaped hh.1)) rx
      obtain ⟨bs, r2⟩ := Dp.reads I (.tuple ds) y u (hy'.dp (SeqAt.canLay_of_shaped hh.2)) ry
      exact ht r2 r1 (SeqAt.canLay_of_shaped hh.2) (SeqAt.canLay_of_shaped hh.1) (PyProof.Rows.room_in_shaped hh.1 (room_in _ hr)) ⟨.bl _, H, I, rfl, q _ Hf H (Grow.refl f) (.bl _)⟩
    · cases ez'
  | str y' =>
    cases dx with
    | str x' =>
      have ez' : some (PyData.bool (g (inTxt x' y'))) = some z := ez
      cases ez'
      cases hx'
      cases hy'
      have q' := q _ Hf H (Grow.refl f) (.bl _)
      unfold inTxt at q'
      split at q'
      · rename_i c hcc
        have e : x' = ⟨#[c]⟩ := by
          cases x' with
          | mk cps => exact congrArg Str.mk (Array.toList_inj.mp hcc)
        exact hc pins s σ H _ _ v u Q I rx ry ⟨c, y', by rw [e], rfl, q'⟩
      · exact hs pins s σ H _ _ v u Q I rx ry ⟨x', y', rfl, rfl, q'⟩
    | _ => cases ez
  | dict kvs =>
    have ez' : ((if noScr kvs then (keyD dx).map fun k => (dget kvs k).isSome else none).map fun b => PyData.bool (g b)) = some z := ez
    split at ez'
    · rename_i hh
      obtain ⟨a, xs, rfl, ha, rk⟩ := hy.dict f (noScr_ne hh)
      cases ry
      cases hk : keyD dx with
      | none => rw [hk] at ez'; cases ez'
      | some k =>
        rw [hk] at ez'
        cases ez'
        obtain ⟨h1, h2, ds, rfl⟩ := keyD_of hk
        obtain ⟨b, ys, rfl, hb, rb⟩ := hx.tuple f
        cases rx
        obtain ⟨hz, hsm, hm⟩ := dic_of I ha (rk.mono f)
        refine hd ⟨Rp.nested I hx' rfl h1, h2⟩ hsm hm fun t => ?_
        have e1 : (atKey xs.1 k).isSome = (dget kvs k).isSome := by
          rcases atKey_get k rk with ⟨e1, e2⟩ | ⟨_, _, _, _, e1, e2, _⟩ <;> rw [e1, e2] <;> rfl
        rw [e1]
        exact ⟨.bl _, H, I.tok t, rfl, q _ Hf H (Grow.refl f) (.bl _)⟩
    · cases ez'
  | _ => cases ez
theorem op_inB {k : Nat} (hr : Room k X.A) : OpR X (compareOp .In) (rB (X.kw ea) (VRp (X.kw ea)) inD) :=
  op_inAny (fun b => b) hr (fun r1 r2 h1 h2 h3 q => SeqAt.in_list_reads r1 r2 h1 h2 h3 q) (fun r1 r2 h1 h2 h3 q => SeqAt.in_tuple_reads r1 r2 h1 h2 h3 q) op_in_str op_in_sign
    (fun h1 h2 h3 q => wpAny_in_heap (room_nk hr) h1 h2 h3 (q _))
theorem op_notInB {k : Nat} (hr : Room k X.A) : OpR X (compareOp .NotIn) (rB (X.kw ea) (VRp (X.kw ea)) notInD) :=
  op_inAny (fun b => !b) hr (fun r1 r2 h1 h2 h3 q => SeqAt.notIn_list_reads r1 r2 h1 h2 h3 q) (fun r1 r2 h1 h2 h3 q => SeqAt.notIn_tuple_reads r1 r2 h1 h2 h3 q) op_notin_str op_notIn_sign
    (fun h1 h2 h3 q => wpAny_bind (wpAny_contains_heap (room_nk hr) h1 h2 h3 (wpAny_pure (q _))))
end
end Pu
/-! PuE: subscripts, slices, calls of built-ins -/
namespace Pu
open PySem L2
theorem RpAll.atI_ {K : Kw} {H : Hp} {vs : List V} {ds : List D} {i : Int} {d : D} (r : RpAll K H vs ds) (h : atI ds i = some d) : ∃ v, atI vs i = some v ∧ Rp K H v d := by
  unfold atI at h ⊢
  rw [r.length]
  cases q : ixN ds.length i with
  | none => rw [q] at h; cases h
  | some j =>
    rw [q] at h
    exact r.get h
def scrOf : List (D × D) → Option (List Int)
  | [(.none, .list ds)] => intsOf ds
  | _ => none
theorem scrOf_eq {kvs : List (D × D)} {ns : List Int} (h : scrOf kvs = some ns) : (.dict kvs : D) = scrD ns := by
  match kvs, h with
  | [(.none, .list ds)], h =>
    have h' : intsOf ds = some ns := h
    rw [intsOf_eq h']
    rfl
theorem scrOf_map (ns : List Int) : scrOf [(.none, .list (ns.map PyData.int))] = some ns := intsOf_map ns
def ixD : D → D → Option D
  | .list ds, .int i => atI ds i
  | .tuple ds, .int i => atI ds i
  | .str x, .int i => if x.length ≤ many then (atI x.cps.toList i).map fun c => .str ⟨#[c]⟩ else none
  | .dict kvs, .int i => (scrOf kvs).bind fun ns => (atI ns i).map PyData.int
  | _, _ => none
def cutD {α : Type} (xs : List α) (lo hi : Option Int) : List α := (xs.drop (HT.sIx xs.length 0 lo)).take (HT.sIx xs.length xs.length hi - HT.sIx xs.length 0 lo)
theorem RpAll.cut {K : Kw} {H : Hp} {vs : List V} {ds : List D} (r : RpAll K H vs ds) (lo hi : Option Int) : RpAll K H (cutV vs lo hi) (cutD ds lo hi) := by
  unfold cutV cutD
  rw [r.length]
  exact (r.drop _).take _
theorem ints_map_at {ns : List Int} {i : Int} {n : Int} (h : atI ns i = some n) : atI (ns.map V.int) i = some (.int n) := by
  unfold atI at h ⊢
  rw [List.length_map]
  cases q : ixN ns.length i with
  | none => rw [q] at h; cases h
  | some j =>
    rw [q] at h
    show (ns.map V.int)[j]? = _
    rw [List.getElem?_map]
    have h' : ns[j]? = some n := h
    rw [h']
    rfl
/-- the script's data is the script's -/
theorem Rp.script {K : Kw} {H : Hp} {v : V} {ns : List Int} (r : Rp K H v (scrD ns)) : ∃ a, v = .ref a ∧ SqL K H a (ns.map V.int) := by
  have gen : ∀ {d : D}, Rp K H v d → d = scrD ns → ∃ a, v = .ref a ∧ SqL K H a (ns.map V.int) := by
    intro d r e
    cases r with
    | dct h r =>
      unfold scrD at e
      injection e with e
      subst e
      exact r.none_no.elim
    | scr hq =>
      rename_i a ms
      unfold scrD at e
      injection e with e
      injection e with e1 e2
      injection e1 with e1 e3
      injection e3 with e3
      have : ms = ns := by
        have z := congrArg intsOf e3
        rw [intsOf_map, intsOf_map] at z
        exact Option.some.inj z
      subst this
      exact ⟨a, rfl, hq⟩
    | tab h =>
      unfold tabD scrD at e
      injection e with e
      injection e with e1 e2
      injection e1 with e1 e3
      cases e3
    | _ => cases e
  exact gen r rfl
section
variable {X : Cx} {W : WE} {a b c : Expr} {F G Fc : En → R D} {pos : Pos}
theorem ix_B : IxR X (rB (X.kw ea) (VRp (X.kw ea)) ixD) := by
  intro value slice pins s σ H x y v u Q I rx ry ⟨Hf, dx, dy, z, f, hx, hy, ez, q⟩ hs
  refine ix_seq value slice pins s σ H x y v u Q I rx ry ?_ hs
  cases dx with
  | list ds =>
    cases dy with
    | int i =>
      obtain ⟨a, xs, rfl, ha, ra⟩ := hx.list f
      obtain ⟨w, hw, rw'⟩ := ra.atI_ ez
      exact .inl ⟨a, xs, i, w, rfl, hy.int, SqL.of ha, hw, q w Hf H (Grow.refl f) rw'⟩
    | _ => cases ez
  | tuple ds =>
    cases dy with
    | int i =>
      obtain ⟨a, xs, rfl, ha, ra⟩ := hx.tuple f
      obtain ⟨w, hw, rw'⟩ := ra.atI_ ez
      exact .inr (.inl ⟨a, xs, i, w, rfl, hy.int, ha.sq, hw, q w Hf H (Grow.refl f) rw'⟩)
    | _ => cases ez
  | str t =>
    cases dy with
    | int i =>
      have ez' : (if t.length ≤ many then (atI t.cps.toList i).map fun c => PyData.str ⟨#[c]⟩ else none) = some z := ez
      split at ez'
      · rename_i hl
        cases hc : atI t.cps.toList i with
        | none => rw [hc] at ez'; cases ez'
        | some c =>
          rw [hc] at ez'
          cases ez'
          exact .inr (.inr ⟨t, i, c, hx.str, hy.int, many_line hl, hc, q _ Hf H (Grow.refl f) (.str _)⟩)
      · cases ez'
    | _ => cases ez
  | dict kvs =>
    cases dy with
    | int i =>
      have ez' : ((scrOf kvs).bind fun ns => (atI ns i).map PyData.int) = some z := ez
      cases h1 : scrOf kvs with
      | none => rw [h1] at ez'; cases ez'
      | some ns =>
        rw [h1] at ez'
        have ez2 : ((atI ns i).map PyData.int) = some z := ez'
        cases h2 : atI ns i with
        | none => rw [h2] at ez2; cases ez2
        | some n =>
          rw [h2] at ez2
          cases ez2
          rw [scrOf_eq h1] at hx
          obtain ⟨a, rfl, hl⟩ := (hx.full f).script
          exact .inl ⟨a, _, i, .int n, rfl, hy.int, hl, ints_map_at h2, q _ Hf H (Grow.refl f) (.int n)⟩
    | _ => cases ez
  | _ => cases ez
theorem xIx (ha : PE X a (tV (X.kw ea) W F)) (hb : PE X b (tV (X.kw ea) W G)) (hs : PlainIx b) : PE X (.Subscript a b pos) (tE (X.kw ea) W (bin ixD F G)) :=
  PE_weak (pe_ix ix_B ha hb hs) fun σ H Q h => tX_bin stV h
/-! ### slices -/
def tO (K : Kw) (W : WE) (F : En → R (Option Int)) : TO := fun σ H Q => ∃ H0 Hf0 Hf e, SR K H0 Hf0 Hf H σ e ∧ match F e with
  | .ok o => ∀ Hf' H', Grow Hf H Hf' H' → Q o H'
  | .ex c => ∀ Hf' H', Grow Hf H Hf' H' → W c σ H'
  | .bad => False
def onone : En → R (Option Int) := fun _ => .ok none
def osome (F : En → R D) : En → R (Option Int) := fun e => (F e).bind fun d => match d with
  | .int i => .ok (some i)
  | _ => .bad
theorem PO_weak {e : Option Expr} {t t' : TO} (h : PO X e t) (k : ∀ σ H Q, t' σ H Q → t σ H Q) : PO X e t' :=
  ⟨fun pins s σ H Q I q => h.run pins s σ H Q I (k σ H Q q)⟩
theorem oNone : PO X none (tO (X.kw ea) W onone) := PO_weak po_none fun σ H Q ⟨H0, Hf0, Hf, e, S, p⟩ => p Hf H (Grow.refl S.gr.fh)
theorem oSome (h : PE X a (tE (X.kw ea) W F)) : PO X (some a) (tO (X.kw ea) W (osome F)) := PO_weak (po_some h) fun σ H Q ⟨H0, Hf0, Hf, e, S, p⟩ => ⟨H0, Hf0, Hf, e, S, by
  revert p
  unfold osome
  cases F e with
  | ok d =>
    intro p v Hf' H' g r
    cases d with
    | int i => cases r; exact ⟨i, rfl, p Hf' H' g⟩
    | _ => exact p.elim
  | ex c => exact fun p => p
  | bad => exact fun p => p⟩
def sliceD : D → Option Int → Option Int → Option D
  | .list ds, lo, hi => some (.list (cutD ds lo hi))
  | .tuple ds, lo, hi => some (.tuple (cutD ds lo hi))
  | .str x, lo, hi => if x.length ≤ many then some (.str (cutS x lo hi)) else none
  | _, _, _ => none
def xsl (F : En → R D) (L U : En → R (Option Int)) : En → R D := fun e => (F e).bind fun d => (L e).bind fun lo => (U e).bind fun hi => opt (sliceD d lo hi)
theorem cut_whole {α : Type} (xs : List α) (lo hi : Option Int) (h : HT.sIx xs.length 0 lo = 0 ∧ HT.sIx xs.length xs.length hi = xs.length) : cutD xs lo hi = xs := by
  unfold cutD
  rw [h.1, h.2]
  simp
theorem xSl {lo hi : Option Expr} {p2 : Pos} {L U : En → R (Option Int)} (ha : PE X a (tV (X.kw ea) W F)) (hl : PO X lo (tO (X.kw ea) W L)) (hu : PO X hi (tO (X.kw ea) W U)) : PE X (.Subscript a (.Slice lo hi none p2) pos) (tE (X.kw ea) W (xsl F L U)) :=
  PE_weak (pe_slice (SlR.or sl_list (SlR.or sl_tupF sl_str)) ha hl hu) fun σ H Q ⟨H0, Hf0, Hf, e, S, p⟩ => ⟨H0, Hf0, Hf, e, S, p.bind.mono fun x H1 ⟨Hf1, d, g1, r1, p1⟩ => ⟨H0, Hf0, Hf1, e, S.grow g1, by
    revert p1
    cases L e with
    | ok lo =>
      intro p1 Hf2 H2 g2
      refine ⟨H0, Hf0, Hf2, e, (S.grow g1).grow g2, ?_⟩
      have p2 := p1.grow g2
      revert p2
      show Po (ERp (X.kw ea)) W Q σ Hf2 H2 ((U e).bind fun hi => opt (sliceD d lo hi)) → _
      cases U e with
      | ok hi =>
        intro p2 Hf3 H3 g3
        obtain ⟨z, ez, q⟩ := (p2.grow g3).of_opt
        have r3 := (r1.mono g2).mono g3
        cases d with
        | list ds =>
          cases ez
          obtain ⟨a, xs, rfl, ha, ra⟩ := r3.list g3.fh
          exact .inl ⟨a, xs, rfl, SqL.of ha, fun p hp => q _ _ _ (Grow.new g3.fh hp) (.lst upd_same ((ra.cut lo hi).mono (same_upd (g3.fh.free hp))))⟩
        | tuple ds =>
          cases ez
          obtain ⟨a, xs, rfl, ha, ra⟩ := r3.tuple g3.fh
          refine .inr (.inl ⟨a, xs, rfl, ha.sq, fun hw => ?_, fun _ => TupN.of g3.fh (ra.cut lo hi) q⟩)
          rw [ra.length] at hw
          rw [cut_whole ds lo hi hw] at q
          exact q _ _ _ (Grow.refl g3.fh) r3.tup
        | str t =>
          have ez' : (if t.length ≤ many then some (PyData.str (cutS t lo hi)) else none) = some z := ez
          split at ez'
          · rename_i hl
            cases ez'
            exact .inr (.inr ⟨t, r3.str, many_line hl, q _ _ _ (Grow.refl g3.fh) (.str _)⟩)
          · cases ez'
        | _ => cases ez
      | ex c => exact fun p2 => p2
      | bad => exact fun p2 => p2
    | ex c => exact fun p1 => p1
    | bad => exact fun p1 => p1⟩⟩

/-! ### calls of built-ins -/
def rC1 (K : Kw) (Rel : Hp → Hp → V → D → Prop) (f : D → Option D) : List V → Hp → VK → Prop := fun xs H Q => ∃ x Hf dx z, xs = [x] ∧ Same Hf H ∧ Rel Hf H x dx ∧ f dx = some z ∧ ∀ v Hf' H', Grow Hf H Hf' H' → Rp K Hf' v z → Q v H'
def rC1N (K : Kw) (Rel : Hp → Hp → V → D → Prop) (f : D → Option (List D)) : List V → Hp → VK → Prop := fun xs H Q => ∃ x Hf dx z, xs = [x] ∧ Same Hf H ∧ Rel Hf H x dx ∧ f dx = some z ∧
  ∀ p xs Hf' H', Grow Hf H Hf' H' → H p = none → Hf' p = none → H' p = some (.lst xs) → RpAll K Hf' xs z → Q (.ref p) H'
def rC2 (K : Kw) (Rel : Hp → Hp → V → D → Prop) (f : D → D → Option D) : List V → Hp → VK → Prop := fun xs H Q => ∃ x y Hf dx dy z, xs = [x, y] ∧ Same Hf H ∧ Rel Hf H x dx ∧ Rel Hf H y dy ∧ f dx dy = some z ∧ ∀ v Hf' H', Grow Hf H Hf' H' → Rp K Hf' v z → Q v H'
def un1N (f : D → Option (List D)) (F : En → R D) : En → R (List D) := fun e => (F e).bind fun x => opt (f x)
theorem tX_c1 {K : Kw} {Rel : Hp → Hp → V → D → Prop} {f : D → Option D} {σ : L2.St} {H : Hp} {Q : VK} (h : tE K W (un1 f F) σ H Q) : tCB (rC1 K Rel f) (tCons (tX K Rel W F) tNil) σ H Q := by
  obtain ⟨H0, Hf0, Hf, e, S, p⟩ := h
  refine ⟨H0, Hf0, Hf, e, S, p.bind.mono fun x H1 ⟨Hf1, dx, g1, rx, p1⟩ => ?_⟩
  obtain ⟨z, ez, q⟩ := p1.of_opt
  exact ⟨x, Hf1, dx, z, rfl, g1.fh, rx, ez, q⟩
theorem tX_c1N {K : Kw} {Rel : Hp → Hp → V → D → Prop} {f : D → Option (List D)} {σ : L2.St} {H : Hp} {Q : VK} (h : tN K W (un1N f F) σ H Q) : tCB (rC1N K Rel f) (tCons (tX K Rel W F) tNil) σ H Q := by
  obtain ⟨H0, Hf0, Hf, e, S, p⟩ := h
  refine ⟨H0, Hf0, Hf, e, S, p.bind.mono fun x H1 ⟨Hf1, dx, g1, rx, p1⟩ => ?_⟩
  obtain ⟨z, ez, q⟩ := p1.of_opt
  exact ⟨x, Hf1, dx, z, rfl, g1.fh, rx, ez, q⟩
theorem tX_c2 {K : Kw} {Rel : Hp → Hp → V → D → Prop} (st : Stays Rel) {f : D → D → Option D} {σ : L2.St} {H : Hp} {Q : VK} (h : tE K W (bin f F G) σ H Q) : tCB (rC2 K Rel f) (tCons (tX K Rel W F) (tCons (tX K Rel W G) tNil)) σ H Q := by
  obtain ⟨H0, Hf0, Hf, e, S, p⟩ := h
  refine ⟨H0, Hf0, Hf, e, S, p.bind.mono fun x H1 ⟨Hf1, dx, g1, rx, p1⟩ => ⟨H0, Hf0, Hf1, e, S.grow g1, p1.bind.mono fun y H2 ⟨Hf2, dy, g2, ry, p2⟩ => ?_⟩⟩
  obtain ⟨z, ez, q⟩ := p2.of_opt
  exact ⟨x, y, Hf2, dx, dy, z, rfl, g2.fh, st _ _ _ _ _ _ g2 rx, ry, ez, q⟩
section
variable {x : Str} {p : Pos} {id : String} {T : String}
theorem xB1 {f : D → Option D} (hc : CallR X (.builtin id) (rC1 (X.kw ea) (VRp (X.kw ea)) f)) (hg : Gl X x) (hm : X.mg x = none) (hv : bootBuiltins x = some (.builtin id)) (ha : PE X a (tV (X.kw ea) W F)) (hn : x ≠ "__name__" := by decide) (hdb : (x == ("__debug__" : Str)) = false := by decide)
    (he : starEach [a] X.env = [(false, eval a X.env)] := by rfl) : PE X (.Call (.Name x p) [a] [] pos) (tE (X.kw ea) W (un1 f F)) :=
  PE_weak (pe_callB hc hg hm hv (pa_cons ha pa_nil he) hn hdb he) fun σ H Q h => tX_c1 h
theorem xT1 {f : D → Option D} (hc : CallR X (.type T) (rC1 (X.kw ea) (VRp (X.kw ea)) f)) (hg : Gl X x) (hm : X.mg x = none) (hv : bootBuiltins x = some (.type T)) (ha : PE X a (tV (X.kw ea) W F)) (hn : x ≠ "__name__" := by decide) (hdb : (x == ("__debug__" : Str)) = false := by decide)
    (he : starEach [a] X.env = [(false, eval a X.env)] := by rfl) : PE X (.Call (.Name x p) [a] [] pos) (tE (X.kw ea) W (un1 f F)) :=
  PE_weak (pe_callTy hc hg hm hv (pa_cons ha pa_nil he) hn hdb he) fun σ H Q h => tX_c1 h
theorem xB1N {f : D → Option (List D)} (hc : CallR X (.builtin id) (rC1N (X.kw ea) (VRp (X.kw ea)) f)) (hg : Gl X x) (hm : X.mg x = none) (hv : bootBuiltins x = some (.builtin id)) (ha : PE X a (tV (X.kw ea) W F)) (hn : x ≠ "__name__" := by decide) (hdb : (x == ("__debug__" : Str)) = false := by decide)
    (he : starEach [a] X.env = [(false, eval a X.env)] := by rfl) : PE X (.Call (.Name x p) [a] [] pos) (tN (X.kw ea) W (un1N f F)) :=
  PE_weak (pe_callB hc hg hm hv (pa_cons ha pa_nil he) hn hdb he) fun σ H Q h => tX_c1N h
theorem xT1N {f : D → Option (List D)} (hc : CallR X (.type T) (rC1N (X.kw ea) (VRp (X.kw ea)) f)) (hg : Gl X x) (hm : X.mg x = none) (hv : bootBuiltins x = some (.type T)) (ha : PE X a (tV (X.kw ea) W F)) (hn : x ≠ "__name__" := by decide) (hdb : (x == ("__debug__" : Str)) = false := by decide)
    (he : starEach [a] X.env = [(false, eval a X.env)] := by rfl) : PE X (.Call (.Name x p) [a] [] pos) (tN (X.kw ea) W (un1N f F)) :=
  PE_weak (pe_callTy hc hg hm hv (pa_cons ha pa_nil he) hn hdb he) fun σ H Q h => tX_c1N h
theorem xB2 {f : D → D → Option D} (hc : CallR X (.builtin id) (rC2 (X.kw ea) (VRp (X.kw ea)) f)) (hg : Gl X x) (hm : X.mg x = none) (hv : bootBuiltins x = some (.builtin id)) (ha : PE X a (tV (X.kw ea) W F)) (hb : PE X b (tV (X.kw ea) W G)) (hn : x ≠ "__name__" := by decide) (hdb : (x == ("__debug__" : Str)) = false := by decide)
    (he : starEach [a, b] X.env = [(false, eval a X.env), (false, eval b X.env)] := by rfl) (he2 : starEach [b] X.env = [(false, eval b X.env)] := by rfl) : PE X (.Call (.Name x p) [a, b] [] pos) (tE (X.kw ea) W (bin f F G)) :=
  PE_weak (pe_callB hc hg hm hv (pa_cons ha (pa_cons hb pa_nil he2) (he.trans (by rw [he2]))) hn hdb (he.trans (by rw [he2])) (by rw [he2]; rfl)) fun σ H Q h => tX_c2 stV h
end
/-! len, tuple, list, all, any, sum, min, max, int, str -/
def lenD : D → Option D
  | .list ds => some (.int ds.length)
  | .tuple ds => some (.int ds.length)
  | .str x => if x.length ≤ many then some (.int x.length) else none
  | .dict kvs => (scrOf kvs).map fun ns => .int ns.length
  | _ => none
theorem call_lenB : CallR X (.builtin "len") (rC1 (X.kw ea) (VRp (X.kw ea)) lenD) := by
  intro pins s σ H xs us Q I r ⟨x, Hf, dx, z, ex, f, hx, ez, q⟩
  subst ex
  refine call_len pins s σ H _ us Q I r ?_
  cases dx with
  | list ds =>
    cases ez
    obtain ⟨a, ys, rfl, ha, ra⟩ := hx.list f
    exact ⟨_, ys.length, rfl, .inl ⟨ys, SqL.of ha, rfl⟩, by rw [ra.length]; exact q _ Hf H (Grow.refl f) (.int _)⟩
  | tuple ds =>
    cases ez
    obtain ⟨a, ys, rfl, ha, ra⟩ := hx.tuple f
    exact ⟨_, ys.length, rfl, .inr ⟨ys, ha.sq, rfl⟩, by rw [ra.length]; exact q _ Hf H (Grow.refl f) (.int _)⟩
  | str t =>
    have ez' : (if t.length ≤ many then some (PyData.int t.length) else none) = some z := ez
    split at ez'
    · rename_i hl
      cases ez'
      rw [hx.str]
      exact ⟨_, t.length, rfl, ⟨many_line hl, rfl⟩, q _ Hf H (Grow.refl f) (.int _)⟩
    · cases ez'
  | dict kvs =>
    have ez' : ((scrOf kvs).map fun ns => PyData.int ns.length) = some z := ez
    cases h1 : scrOf kvs with
    | none => rw [h1] at ez'; cases ez'
    | some ns =>
      rw [h1] at ez'
      cases ez'
      rw [scrOf_eq h1] at hx
      obtain ⟨a, rfl, hl⟩ := (hx.full f).script
      exact ⟨_, ns.length, rfl, .inl ⟨_, hl, by rw [List.length_map]⟩, q _ Hf H (Grow.refl f) (.int _)⟩
  | _ => cases ez
def tupleD : D → Option D
  | .list ds => some (.tuple ds)
  | .tuple ds => some (.tuple ds)
  | _ => none
theorem call_tupleB : CallR X (.type "tuple") (rC1 (X.kw ea) (VRp (X.kw ea)) tupleD) := by
  intro pins s σ H xs us Q I r ⟨x, Hf, dx, z, ex, f, hx, ez, q⟩
  subst ex
  refine call_tupleF pins s σ H _ us Q I r ?_
  cases dx with
  | list ds =>
    cases ez
    obtain ⟨a, ys, rfl, ha, ra⟩ := hx.list f
    exact ⟨a, ys, rfl, .inl ⟨SqL.of ha, TupN.of f ra q⟩⟩
  | tuple ds =>
    cases ez
    have hx := hx.tup
    cases hx with
    | tup ha ra => exact ⟨_, _, rfl, .inr ⟨(ha.mono f).sq, q _ Hf H (Grow.refl f) (.tup ha ra)⟩⟩
  | _ => cases ez
def listN : D → Option (List D)
  | .list ds => some ds
  | .tuple ds => some ds
  | _ => none
theorem call_listB : CallR X (.type "list") (rC1N (X.kw ea) (VRp (X.kw ea)) listN) := by
  intro pins s σ H xs us Q I r ⟨x, Hf, dx, z, ex, f, hx, ez, q⟩
  subst ex
  refine call_list_of pins s σ H _ us Q I r ?_
  cases dx with
  | list ds =>
    cases ez
    obtain ⟨a, ys, rfl, ha, ra⟩ := hx.list f
    exact ⟨a, ys, rfl, .inl (SqL.of ha), fun p hp => q p _ Hf _ (Grow.lay f hp) hp (f.free hp) upd_same ra⟩
  | tuple ds =>
    cases ez
    obtain ⟨a, ys, rfl, ha, ra⟩ := hx.tuple f
    exact ⟨a, ys, rfl, .inr (ha.sq), fun p hp => q p _ Hf _ (Grow.lay f hp) hp (f.free hp) upd_same ra⟩
  | _ => cases ez
def boolsOf : List D → Option (List Bool)
  | [] => some []
  | .bool i :: r => (boolsOf r).map (i :: ·)
  | _ => none
theorem boolsOf_eq : ∀ {ds : List D} {ns : List Bool}, boolsOf ds = some ns → ds = ns.map PyData.bool
  | [], ns, h => by cases h; rfl
  | .bool i :: r, ns, h => by
    unfold boolsOf at h
    cases q : boolsOf r with
    | none => rw [q] at h; cases h
    | some ms => rw [q] at h; cases h; rw [boolsOf_eq q]; rfl
  | .none :: r, ns, h => by cases h
  | .int _ :: r, ns, h => by cases h
  | .str _ :: r, ns, h => by cases h
  | .list _ :: r, ns, h => by cases h
  | .tuple _ :: r, ns, h => by cases h
  | .dict _ :: r, ns, h => by cases h
theorem boolsOf_map : ∀ ns : List Bool, boolsOf (ns.map PyData.bool) = some ns
  | [] => rfl
  | n :: ns => by
    show (boolsOf (ns.map PyData.bool)).map (n :: ·) = _
    rw [boolsOf_map ns]
    rfl
def allD : D → Option D
  | .list ds => (boolsOf ds).map fun bs => .bool (bs.all id)
  | _ => none
def anyD : D → Option D
  | .list ds => (boolsOf ds).map fun bs => .bool (bs.any id)
  | _ => none
theorem call_allB (hc : X.calm = true) : CallR X (.builtin "all") (rC1 (X.kw ea) (VRp (X.kw ea)) allD) := by
  intro pins s σ H xs us Q I r ⟨x, Hf, dx, z, ex, f, hx, ez, q⟩
  subst ex
  refine cr_all hc pins s σ H _ us Q I r ?_
  cases dx with
  | list ds =>
    obtain ⟨a, ys, rfl, ha, ra⟩ := hx.list f
    have ez' : ((boolsOf ds).map fun bs => PyData.bool (bs.all id)) = some z := ez
    cases h1 : boolsOf ds with
    | none => rw [h1] at ez'; cases ez'
    | some bs =>
      rw [h1] at ez'
      cases ez'
      rw [boolsOf_eq h1] at ra
      rw [ra.bools] at ha
      exact ⟨a, bs, rfl, SqL.of ha, q _ Hf H (Grow.refl f) (.bl _)⟩
  | _ => cases ez
theorem call_anyB (hc : X.calm = true) : CallR X (.builtin "any") (rC1 (X.kw ea) (VRp (X.kw ea)) anyD) := by
  intro pins s σ H xs us Q I r ⟨x, Hf, dx, z, ex, f, hx, ez, q⟩
  subst ex
  refine cr_any hc pins s σ H _ us Q I r ?_
  cases dx with
  | list ds =>
    obtain ⟨a, ys, rfl, ha, ra⟩ := hx.list f
    have ez' : ((boolsOf ds).map fun bs => PyData.bool (bs.any id)) = some z := ez
    cases h1 : boolsOf ds with
    | none => rw [h1] at ez'; cases ez'
    | some bs =>
      rw [h1] at ez'
      cases ez'
      rw [boolsOf_eq h1] at ra
      rw [ra.bools] at ha
      exact ⟨a, bs, rfl, SqL.of ha, q _ Hf H (Grow.refl f) (.bl _)⟩
  | _ => cases ez
def sumD : D → Option D
  | .list ds => (intsOf ds).map fun ns => .int ns.sum
  | _ => none
theorem call_sumB (hc : X.calm = true) : CallR X (.builtin "sum") (rC1 (X.kw ea) (VRp (X.kw ea)) sumD) := by
  intro pins s σ H xs us Q I r ⟨x, Hf, dx, z, ex, f, hx, ez, q⟩
  subst ex
  refine cr_sum hc pins s σ H _ us Q I r ?_
  cases dx with
  | list ds =>
    obtain ⟨a, ys, rfl, ha, ra⟩ := hx.list f
    have ez' : ((intsOf ds).map fun bs => PyData.int bs.sum) = some z := ez
    cases h1 : intsOf ds with
    | none => rw [h1] at ez'; cases ez'
    | some bs =>
      rw [h1] at ez'
      cases ez'
      rw [intsOf_eq h1] at ra
      rw [ra.ints] at ha
      exact ⟨a, bs, rfl, SqL.of ha, q _ Hf H (Grow.refl f) (.int _)⟩
  | _ => cases ez
def maxL : List Int → Option Int
  | [] => none
  | n :: ns => some (ns.foldl max n)
def minL : List Int → Option Int
  | [] => none
  | n :: ns => some (ns.foldl min n)
theorem foldl_max (ns : List Int) : ∀ n : Int, (ns.foldl max n = n ∨ ns.foldl max n ∈ ns) ∧ n ≤ ns.foldl max n ∧ ∀ y ∈ ns, y ≤ ns.foldl max n := by
  induction ns with
  | nil => intro n; exact ⟨.inl rfl, Int.le_refl _, fun y h => by cases h⟩
  | cons m ns ih =>
    intro n
    obtain ⟨h1, h2, h3⟩ := ih (max n m)
    rw [List.foldl_cons]
    refine ⟨?_, by omega, fun y hy => ?_⟩
    · rcases h1 with h1 | h1
      · rw [h1]
        by_cases z : n ≤ m
        · right; rw [Int.max_eq_right z]; exact List.mem_cons_self
        · left; rw [Int.max_eq_left (by omega)]
      · right; exact List.mem_cons_of_mem _ h1
    · rcases List.mem_cons.mp hy with rfl | hy
      · omega
      · exact h3 y hy
theorem foldl_min (ns : List Int) : ∀ n : Int, (ns.foldl min n = n ∨ ns.foldl min n ∈ ns) ∧ ns.foldl min n ≤ n ∧ ∀ y ∈ ns, ns.foldl min n ≤ y := by
  induction ns with
  | nil => intro n; exact ⟨.inl rfl, Int.le_refl _, fun y h => by cases h⟩
  | cons m ns ih =>
    intro n
    obtain ⟨h1, h2, h3⟩ := ih (min n m)
    rw [List.foldl_cons]
    refine ⟨?_, by omega, fun y hy => ?_⟩
    · rcases h1 with h1 | h1
      · rw [h1]
        by_cases z : n ≤ m
        · left; rw [Int.min_eq_left z]
        · right; rw [Int.min_eq_right (by omega)]; exact List.mem_cons_self
      · right; exact List.mem_cons_of_mem _ h1
    · rcases List.mem_cons.mp hy with rfl | hy
      · omega
      · exact h3 y hy
def maxD : D → Option D
  | .list ds => (intsOf ds).bind fun ns => (maxL ns).map PyData.int
  | _ => none
def minD : D → Option D
  | .list ds => (intsOf ds).bind fun ns => (minL ns).map PyData.int
  | _ => none
theorem call_maxB (hc : X.calm = true) : CallR X (.builtin "max") (rC1 (X.kw ea) (VRp (X.kw ea)) maxD) := by
  intro pins s σ H xs us Q I r ⟨x, Hf, dx, z, ex, f, hx, ez, q⟩
  subst ex
  refine cr_max hc pins s σ H _ us Q I r ?_
  cases dx with
  | list ds =>
    obtain ⟨a, ys, rfl, ha, ra⟩ := hx.list f
    have ez' : ((intsOf ds).bind fun ns => (maxL ns).map PyData.int) = some z := ez
    cases h1 : intsOf ds with
    | none => rw [h1] at ez'; cases ez'
    | some bs =>
      rw [h1] at ez'
      rw [intsOf_eq h1] at ra
      rw [ra.ints] at ha
      cases bs with
      | nil => cases ez'
      | cons n ns =>
        cases ez'
        refine ⟨a, n :: ns, rfl, SqL.of ha, by simp, fun m hm hle => ?_⟩
        have e : m = ns.foldl max n := by
          obtain ⟨h1, h2, h3⟩ := foldl_max ns n
          have a1 : m ≤ ns.foldl max n := by
            rcases List.mem_cons.mp hm with rfl | hm
            · exact h2
            · exact h3 m hm
          have a2 : ns.foldl max n ≤ m := by
            rcases h1 with h1 | h1
            · rw [h1]; exact hle n List.mem_cons_self
            · exact hle _ (List.mem_cons_of_mem _ h1)
          omega
        rw [e]
        exact q _ Hf H (Grow.refl f) (.int _)
  | _ => cases ez
theorem call_minB (hc : X.calm = true) : CallR X (.builtin "min") (rC1 (X.kw ea) (VRp (X.kw ea)) minD) := by
  intro pins s σ H xs us Q I r ⟨x, Hf, dx, z, ex, f, hx, ez, q⟩
  subst ex
  refine cr_min hc pins s σ H _ us Q I r ?_
  cases dx with
  | list ds =>
    obtain ⟨a, ys, rfl, ha, ra⟩ := hx.list f
    have ez' : ((intsOf ds).bind fun ns => (minL ns).map PyData.int) = some z := ez
    cases h1 : intsOf ds with
    | none => rw [h1] at ez'; cases ez'
    | some bs =>
      rw [h1] at ez'
      rw [intsOf_eq h1] at ra
      rw [ra.ints] at ha
      cases bs with
      | nil => cases ez'
      | cons n ns =>
        cases ez'
        refine ⟨a, n :: ns, rfl, SqL.of ha, by simp, fun m hm hle => ?_⟩
        have e : m = ns.foldl min n := by
          obtain ⟨h1, h2, h3⟩ := foldl_min ns n
          have a1 : ns.foldl min n ≤ m := by
            rcases List.mem_cons.mp hm with rfl | hm
            · exact h2
            · exact h3 m hm
          have a2 : m ≤ ns.foldl min n := by
            rcases h1 with h1 | h1
            · rw [h1]; exact hle n List.mem_cons_self
            · exact hle _ (List.mem_cons_of_mem _ h1)
          omega
        rw [e]
        exact q _ Hf H (Grow.refl f) (.int _)
  | _ => cases ez
def max2D : D → D → Option D
  | .int i, .int j => some (.int (if j > i then j else i))
  | _, _ => none
def min2D : D → D → Option D
  | .int i, .int j => some (.int (if j < i then j else i))
  | _, _ => none
theorem call_max2B (hc : X.calm = true) : CallR X (.builtin "max") (rC2 (X.kw ea) (VRp (X.kw ea)) max2D) := by
  intro pins s σ H xs us Q I r ⟨x, y, Hf, dx, dy, z, ex, f, hx, hy, ez, q⟩
  subst ex
  refine call_max2 hc pins s σ H _ us Q I r ?_
  cases dx with
  | int i =>
    cases dy with
    | int j => cases ez; rw [hx.int, hy.int]; exact ⟨i, j, rfl, q _ Hf H (Grow.refl f) (.int _)⟩
    | _ => cases ez
  | _ => cases ez
theorem call_min2B (hc : X.calm = true) : CallR X (.builtin "min") (rC2 (X.kw ea) (VRp (X.kw ea)) min2D) := by
  intro pins s σ H xs us Q I r ⟨x, y, Hf, dx, dy, z, ex, f, hx, hy, ez, q⟩
  subst ex
  refine call_min2 hc pins s σ H _ us Q I r ?_
  cases dx with
  | int i =>
    cases dy with
    | int j => cases ez; rw [hx.int, hy.int]; exact ⟨i, j, rfl, q _ Hf H (Grow.refl f) (.int _)⟩
    | _ => cases ez
  | _ => cases ez
def intD : D → Option D
  | .int i => some (.int i)
  | .bool k => some (.int (if k then 1 else 0))
  | .str x => if x.length ≤ 640 then (PySem.intText? x).map PyData.int else none
  | _ => none
theorem call_intB : CallR X (.type "int") (rC1 (X.kw ea) (VRp (X.kw ea)) intD) := by
  intro pins s σ H xs us Q I r ⟨x, Hf, dx, z, ex, f, hx, ez, q⟩
  subst ex
  have hx' := hx.full f
  cases dx with
  | int i => cases ez; cases hx'; exact call_int1 pins s σ H _ us Q I r (.inl ⟨i, rfl, q _ Hf H (Grow.refl f) (.int _)⟩)
  | bool i => cases ez; cases hx'; exact call_int1 pins s σ H _ us Q I r (.inr ⟨i, rfl, q _ Hf H (Grow.refl f) (.int _)⟩)
  | str t =>
    cases hx'
    have ez' : (if t.length ≤ 640 then (PySem.intText? t).map PyData.int else none) = some z := ez
    split at ez'
    · rename_i hl
      cases h1 : PySem.intText? t with
      | none => rw [h1] at ez'; cases ez'
      | some n => rw [h1] at ez'; cases ez'; exact call_int_str pins s σ H _ us Q I r ⟨t, n, rfl, h1, hl, q _ Hf H (Grow.refl f) (.int _)⟩
    · cases ez'
  | _ => cases ez
def strD : D → Option D
  | .int i => if i.natAbs.log2 < 1920 then some (.str (toString i : String)) else none
  | _ => none
theorem call_strB : CallR X (.type "str") (rC1 (X.kw ea) (VRp (X.kw ea)) strD) := by
  intro pins s σ H xs us Q I r ⟨x, Hf, dx, z, ex, f, hx, ez, q⟩
  subst ex
  cases dx with
  | int i =>
    rw [hx.int] at r
    have ez' : (if i.natAbs.log2 < 1920 then some (PyData.str (toString i : String)) else none) = some z := ez
    split at ez'
    · rename_i hl
      cases ez'
      exact call_str_int pins s σ H _ us Q I r ⟨i, rfl, hl, q _ Hf H (Grow.refl f) (.str _)⟩
    · cases ez'
  | _ => cases ez
end
end Pu
/-! PuF: what is walked: lists, tuples, texts, ranges, enumerate, zip -/
namespace Pu
open PySem
/-- the heap with an enumerate over the new iterator o -/
def enumOn (h : Heap) (o : Obj) : Heap := (h.push o).push { cls := .type "enumerate", data := .fields #[.none, .bool false, .ref h.objs.size, rawInt 0, .none, .none] }
theorem enum_new {v : Value} {o : Obj} {Z : Heap → Prop} (B : Begins v o Z) :
    Meets (Builtin.«enumerate.__new__» ⟨[.type "enumerate", v], []⟩) (fun _ R s => Z s.heap ∧ R (.ok (.ret (.ref (s.heap.push o).objs.size))) { s with heap := enumOn s.heap o }) := .of_wp fun P w A R s ⟨hz, hr⟩ => by
  cases s with
  | mk h gs dr tk os =>
    have sub := sub_enumerate
    have go : ∀ {A' : Around} {E : Value → Shared → Prop} {Q : Value → Shared → Prop}, Q (.ref h.objs.size) ⟨h.push o, gs, dr, tk, os⟩ → wpAny (model P w) A' (pyIter v) Q E ⟨h, gs, dr, tk, os⟩ := fun q => B.iter P w _ _ ⟨h, gs, dr, tk, os⟩ _ hz q
    wp_walk
    apply wpAny_stack_any
    intro st
    apply wpAny_pure
    split
    · rename_i c _ _ _ _ _
      rcases Bool.eq_false_or_eq_true (c == Value.type "enumerate") with y | y <;> (rw [y]; wp_walk using go; exact ⟨_, rfl, hr⟩)
    · wp_walk using go
      exact ⟨_, rfl, hr⟩
theorem enum_on {v : Value} {o : Obj} {Z : Heap → Prop} {P : Program} {w : World} {A : Around} {E : Value → Shared → Prop} {s : Shared} {Q : Value → Shared → Prop} (B : Begins v o Z) (hz : Z s.heap) (hq : Q (.ref (s.heap.objs.size + 1)) { s with heap := enumOn s.heap o }) :
    wpAny (model P w) A (call (.type "enumerate") [v]) Q E s := by
  have n1 : (s.heap.push o).objs.size = s.heap.objs.size + 1 := Heap.size_push ..
  refine callType_new F.called_enumerate (by decide) (F.typeCall_enumerate_1 v) (F.newCall_enumerate_1 v) (fun x => F.args_object_init_2 x v) F.entry_enumerate_new (enum_new B) ⟨hz, ?_⟩
  exact ⟨⟨_, Heap.get?_push_size _ rfl, rfl⟩, n1 ▸ hq⟩
end Pu
namespace L2
open PySem PySem.Spec PyProof.Rows
section
variable {X : Cx} {pins : List (Addr × Obj)} {σ : St} {H : Hp} {s : Shared}
/-- a pair laid at the heap's end, while nothing but ch has changed -/
theorem pair_laid {ch : List Addr} {g : Heap} {tk : Nat} {x y : V} {u v : Value} (I : Inv X pins σ H s) (own : ∀ b ∈ ch, FpOk X pins H b) (k : ∀ b o, b ∉ ch → s.heap.get? b = some o → g.get? b = some o)
    (hT : g.get? s.heap.objs.size = some { cls := .type "tuple", data := .seq #[u, v] }) (rx : RelV x u) (ry : RelV y v) :
    Inv X pins σ (upd H s.heap.objs.size (.frz { cls := .type "tuple", data := .seq #[u, v] } (.tup [x, y]))) { s with heap := g, toks := tk } :=
  have two : [x, y].length ≤ sizeLine := show 2 ≤ sizeLine by decide
  I.turnedNew k own (Nat.le_refl _) ⟨hT, two, [u, v], .cons rx (.cons ry .nil), _, hT, rfl, _, rfl⟩
theorem free_old {ch : List Addr} {o : HO} (own : ∀ b ∈ ch, FpOk X pins H b) (lo : ∀ b ∈ ch, b < s.heap.objs.size) : ∀ b ∈ ch, upd H s.heap.objs.size o b = none :=
  fun b hb => (upd_ne (Nat.ne_of_lt (lo b hb))).trans (own b hb).1
theorem fresh_all {ch : List Addr} (I : Inv X pins σ H s) (hi : ∀ b ∈ ch, s.heap.objs.size ≤ b) : ∀ b ∈ ch, FpOk X pins H b := fun b hb => I.fpOk (hi b hb) (I.hok.fresh (hi b hb))
end
/-- what is walked from a by the iterator at j: a list or a tuple -/
structure Sour (P : Program) (w : World) (K : PySem.W.Frag) (a j : Addr) (sq : Hp → List V → Prop) (at_ : Nat → Heap → Prop) (is : Array Value → Heap → Prop) : Prop where
  read : ∀ {X : Cx} {pins : List (Addr × Obj)} {σ : St} {H : Hp} {s : Shared} {xs : List V}, X.K = K → Inv X pins σ H s → sq H xs → ∃ us : List Value, Vals xs us ∧ is us.toArray s.heap
  only : ∀ {X : Cx} {pins : List (Addr × Obj)} {σ : St} {H : Hp} {s : Shared} {xs ys : List V}, X.K = K → Inv X pins σ H s → sq H xs → sq H ys → xs = ys
  draw : ∀ {A : Around}, A.handled = none → a ≠ j → ∀ us : Array Value, Draws P w A j [j, a] us.size (fun i v => us[i]? = some v) (fun i h => at_ i h ∧ is us h)
  seqO : ∀ {us : Array Value} {h : Heap}, is us h → ∃ o T, h.get? a = some o ∧ o.cls = .type T ∧ (T = "list" ∨ T = "tuple")
  itO : ∀ {i : Nat} {h : Heap}, at_ i h → ∃ o T vs, h.get? j = some o ∧ o.cls = .type T ∧ (T = "list_iterator" ∨ T = "tuple_iterator") ∧ o.data = .fields vs
  keep : ∀ {i : Nat} {h h' : Heap}, at_ i h → (∀ o, h.get? j = some o → h'.get? j = some o) → at_ i h'
theorem sourL {P : Program} {w : World} {K : PySem.W.Frag} (a j : Addr) : Sour P w K a j (fun H => SqL K H a) (fun i h => h.IsListIter j a i) (fun us h => h.IsList a us) where
  read := fun e I h => by subst e; exact let ⟨us, r, p, _⟩ := I.list h; ⟨us, r, p.isList⟩
  only := fun e I h h' => by subst e; exact I.list_inj h h'
  draw := fun hh ne us => Draws.list hh j a ne us
  seqO := fun ⟨o, g, c, _⟩ => ⟨o, "list", g, c, .inl rfl⟩
  itO := fun ⟨o, g, c, d⟩ => ⟨o, _, _, g, c, .inl rfl, d⟩
  keep := fun x k => x.at k
theorem sourT {P : Program} {w : World} {K : PySem.W.Frag} (a j : Addr) : Sour P w K a j (fun H => SqT K H a) (fun i h => h.IsTupleIter j a i) (fun us h => h.IsTuple a us) where
  read := fun e I h => by subst e; exact let ⟨us, r, p, _⟩ := I.tuple h; ⟨us, r, p⟩
  only := fun e I h h' => by subst e; exact I.tuple_inj h h'
  draw := fun hh ne us => Draws.tuple hh j a ne us
  seqO := fun ⟨o, g, c, _⟩ => ⟨o, "tuple", g, c, .inr rfl⟩
  itO := fun ⟨o, g, c, d⟩ => ⟨o, _, _, g, c, .inr rfl, d⟩
  keep := fun x k => x.at k
section
variable {P : Program} {w : World} {K : PySem.W.Frag} {a j : Addr} {sq : Hp → List V → Prop} {at_ : Nat → Heap → Prop} {is : Array Value → Heap → Prop}
theorem Sour.ne (Z : Sour P w K a j sq at_ is) {i : Nat} {us : Array Value} {h : Heap} (x : at_ i h) (y : is us h) : a ≠ j := fun e => by
  obtain ⟨o, T, g, c, d⟩ := Z.seqO y
  obtain ⟨o', T', vs, g', c', d', _⟩ := Z.itO x
  rw [e, g', Option.some.injEq] at g
  rw [g, c, Value.type.injEq] at c'
  rw [← c'] at d'
  rcases d with d | d <;> (subst d; exact absurd d' (by decide))
theorem Sour.off (Z : Sour P w K a j sq at_ is) {us : Array Value} {h : Heap} (y : is us h) {e : Addr} {o : Obj} {T : String} (g : h.get? e = some o) (c : o.cls = .type T) (d : T ≠ "list" ∧ T ≠ "tuple") : e ≠ a := fun q => by
  obtain ⟨o', T', g', c', d'⟩ := Z.seqO y
  rw [← q, g, Option.some.injEq] at g'
  rw [← g', c, Value.type.injEq] at c'
  exact d'.elim (fun z => d.1 (c'.trans z)) fun z => d.2 (c'.trans z)
theorem Sour.lt (Z : Sour P w K a j sq at_ is) {i : Nat} {h : Heap} (x : at_ i h) : j < h.objs.size := let ⟨_, _, _, g, _⟩ := Z.itO x; Heap.lt_size g
/-- i and the item, in a new pair -/
def Ien (sq : Hp → List V → Prop) : It where
  go i H := ∃ (xs : List V) (x : V), sq H xs ∧ xs[i]? = some x
  yld i H v H' := ∃ T x o, v = .ref T ∧ H T = none ∧ o.dict = none ∧ H' = upd H T (.frz o (.tup [.int (i : Nat), x])) ∧ ∀ xs, sq H xs → xs[i]? = some x
  stop i H := ∃ xs : List V, sq H xs ∧ xs.length = i
theorem turn_en {elts : List Expr} {kk : Nat} {tpos : Pos} (Z : Sour P w K a j sq at_ is) (e : Addr) :
    Turn P w K (.Tuple elts kk tpos) (Ien sq) [e, j] e (fun i h => (∃ old, IsEnum h e j ((i : Nat) : Int) old) ∧ at_ i h ∧ e ≠ j) where
  mem := List.mem_cons_self
  obj := fun i h ⟨⟨old, he⟩, x, _⟩ b hb => by
    rcases List.mem_cons.mp hb with q | q
    · exact q ▸ ⟨_, he, fun _ z => nomatch z⟩
    · obtain ⟨o, _, vs, g, _, _, d⟩ := Z.itO x
      exact List.mem_singleton.mp q ▸ ⟨o, g, fun v z => nomatch d.symm.trans z⟩
  keep := fun i h h' ⟨⟨old, he⟩, x, ne⟩ k => ⟨⟨old, k e List.mem_cons_self _ he⟩, Z.keep x (k j (List.mem_cons_of_mem _ List.mem_cons_self)), ne⟩
  item := fun X eP ew eK calm i pins s σ H E I own ⟨⟨old, he⟩, x, ne⟩ ⟨xs, v, hs, hv⟩ => by
    subst eP ew
    obtain ⟨us, rv, hu⟩ := Z.read eK I hs
    obtain ⟨u, gu, ru⟩ := rv.get hv
    have lo : ∀ b ∈ [e, j], b < s.heap.objs.size := fun b hb => (List.mem_cons.mp hb).elim (fun q => q ▸ Heap.lt_size he) fun q => List.mem_singleton.mp q ▸ Z.lt x
    have off : e ∉ [j, a] := fun q => (List.mem_cons.mp q).elim ne fun q => Z.off hu he rfl ⟨by decide, by decide⟩ (List.mem_singleton.mp q)
    have lt : i < us.toArray.size := (List.getElem?_eq_some_iff.mp gu).1
    refine wpAny_pyNext_enum_itemD (Z.draw (A := X.A.in1) (I.ok.hd calm) (Z.ne x hu) us.toArray) he ⟨x, hu⟩ lt ne off fun y g1 tk hy out nx tup _ oth => ⟨_, rfl, wpAny_letOwnedTupleGo_enum out fun g2 en sb => ?_⟩
    obtain rfl : y = u := Option.some.inj ((show us[i]? = some y by simpa using hy).symm.trans gu)
    have same : ∀ b o, b ∉ [e, j] → s.heap.get? b = some o → g2.get? b = some o := fun b o nb g => (sb.2 b (fun q => nb (q ▸ List.mem_cons_self))).trans (oth b o (fun q => nb (q ▸ List.mem_cons_self)) (fun q => nb (q ▸ List.mem_cons_of_mem _ List.mem_cons_self)) g)
    have I2 := pair_laid (tk := tk + 1) (x := .int (i : Nat)) I own same ((sb.2 _ (Nat.ne_of_gt (Heap.lt_size he))).trans tup) ⟨_, rfl⟩ ru
    have up : ((i : Int) + 1) = ((i + 1 : Nat) : Int) := (Int.natCast_succ i).symm
    exact ⟨.ref s.heap.objs.size, _, I2, rfl, ⟨_, v, _, rfl, I.hok.fresh (Nat.le_refl _), rfl, rfl, fun ys hy => (Z.only eK I hs hy) ▸ hv⟩, ⟨⟨y, up ▸ en⟩, Z.keep nx.1 fun o q => (sb.2 j ne.symm).trans q, ne⟩, free_old own lo⟩
  done := fun X eP ew eK calm i pins s σ H E I own ⟨⟨old, he⟩, x, ne⟩ ⟨xs, hs, hl⟩ => by
    subst eP ew
    obtain ⟨us, rv, hu⟩ := Z.read eK I hs
    have el : us.toArray.size = i := by rw [List.size_toArray, ← rv.length, hl]
    obtain ⟨n0, n1, _, n3, n4, n5⟩ := own j (List.mem_cons_of_mem _ List.mem_cons_self)
    exact wpAny_pyNext_enum_endD (Z.draw (A := X.A.in1) (I.ok.hd calm) (Z.ne x hu) us.toArray) he ⟨el.symm ▸ x, hu⟩ fun g eb => ⟨rfl, I.turned (t' := s.toks) eb n0 n1 n3 n4 n5⟩
  self := fun A i s Q E ⟨⟨_, he⟩, _⟩ q => wpAny_pyIter_enum he q
end
section
variable {P : Program} {w : World} {K : PySem.W.Frag} {a b z TI TO i1 i2 : Addr} {sq sr : Hp → List V → Prop} {at_ bt : Nat → Heap → Prop} {is js : Array Value → Heap → Prop}
/-- the items of both, in a new pair -/
def Izi (sq sr : Hp → List V → Prop) : It where
  go i H := ∃ (xs ys : List V) (x y : V), sq H xs ∧ sr H ys ∧ xs[i]? = some x ∧ ys[i]? = some y
  yld i H v H' := ∃ T x y o, v = .ref T ∧ H T = none ∧ o.dict = none ∧ H' = upd H T (.frz o (.tup [x, y])) ∧ (∀ xs, sq H xs → xs[i]? = some x) ∧ ∀ ys, sr H ys → ys[i]? = some y
  stop i H := ∃ xs ys : List V, sq H xs ∧ sr H ys ∧ i = min xs.length ys.length
theorem turn_zi {elts : List Expr} {kk : Nat} {tpos : Pos} (Z : Sour P w K a i1 sq at_ is) (Y : Sour P w K b i2 sr bt js) (D : ZipSep2 z TI TO i1 i2 [i1, a] [i2, b]) :
    Turn P w K (.Tuple elts kk tpos) (Izi sq sr) [z, TI, TO, i1, i2] z (fun i h => IsZip h z TI TO .none ∧ IsTupOf2 h TI (.ref i1) (.ref i2) ∧ (∃ x y, IsTupOf2 h TO x y) ∧ at_ i h ∧ bt i h) where
  mem := List.mem_cons_self
  obj := fun i h ⟨hz, hI, ⟨_, _, hO⟩, x, y⟩ c hc => by
    obtain ⟨o1, _, _, g1, _, _, d1⟩ := Z.itO x
    obtain ⟨o2, _, _, g2, _, _, d2⟩ := Y.itO y
    simp only [List.mem_cons, List.not_mem_nil, or_false] at hc
    rcases hc with q | q | q | q | q <;> subst q
    · exact ⟨_, hz, fun _ e => nomatch e⟩
    · exact ⟨_, hI, fun _ e => nomatch e⟩
    · exact ⟨_, hO, fun _ e => nomatch e⟩
    · exact ⟨o1, g1, fun _ e => nomatch d1.symm.trans e⟩
    · exact ⟨o2, g2, fun _ e => nomatch d2.symm.trans e⟩
  keep := fun i h h' ⟨hz, hI, ⟨p, q, hO⟩, x, y⟩ k => ⟨k z (by simp) _ hz, k TI (by simp) _ hI, ⟨p, q, k TO (by simp) _ hO⟩, Z.keep x (k i1 (by simp)), Y.keep y (k i2 (by simp))⟩
  item := fun X eP ew eK calm i pins s σ H E I own ⟨hz, hI, ⟨p, q, hO⟩, x, y⟩ ⟨xs, ys, vx, vy, hs, hr, gx, gy⟩ => by
    subst eP ew
    obtain ⟨us, rv, hu⟩ := Z.read eK I hs
    obtain ⟨ws, rw', hw⟩ := Y.read eK I hr
    obtain ⟨u1, g1, r1⟩ := rv.get gx
    obtain ⟨u2, g2, r2⟩ := rw'.get gy
    have lo : ∀ c ∈ [z, TI, TO, i1, i2], c < s.heap.objs.size := fun c hc => by
      simp only [List.mem_cons, List.not_mem_nil, or_false] at hc
      rcases hc with q | q | q | q | q <;> subst q
      · exact Heap.lt_size hz
      · exact Heap.lt_size hI
      · exact Heap.lt_size hO
      · exact Z.lt x
      · exact Y.lt y
    refine wpAny_pyNext_zipD2_item D (Z.draw (A := X.A.in1) (I.ok.hd calm) (Z.ne x hu) us.toArray) (Y.draw (A := X.A.in1) (I.ok.hd calm) (Y.ne y hw) ws.toArray) hz hI hO ⟨x, hu⟩ ⟨y, hw⟩ (List.getElem?_eq_some_iff.mp g1).1 (List.getElem?_eq_some_iff.mp g2).1
      fun e1 e2 h1 tk p1 p2 zz oo nx ny tup _ oth => ⟨_, rfl, wpAny_letOwnedTupleGo_zip zz fun h2 zn sb => ?_⟩
    obtain rfl : e1 = u1 := Option.some.inj ((show us[i]? = some e1 by simpa using p1).symm.trans g1)
    obtain rfl : e2 = u2 := Option.some.inj ((show ws[i]? = some e2 by simpa using p2).symm.trans g2)
    have same : ∀ c o, c ∉ [z, TI, TO, i1, i2] → s.heap.get? c = some o → h2.get? c = some o := fun c o nc g => by
      simp only [List.mem_cons, List.not_mem_nil, or_false, not_or] at nc
      exact (sb.2 c nc.1).trans (oth c o nc.1 nc.2.2.1 nc.2.2.2.1 nc.2.2.2.2 g)
    have I2 := pair_laid (tk := tk) I own same ((sb.2 _ (Nat.ne_of_gt (Heap.lt_size hz))).trans tup) r1 r2
    exact ⟨.ref s.heap.objs.size, _, I2, rfl, ⟨_, vx, vy, _, rfl, I.hok.fresh (Nat.le_refl _), rfl, rfl, fun l hl => (Z.only eK I hs hl) ▸ gx, fun l hl => (Y.only eK I hr hl) ▸ gy⟩,
      ⟨zn, (sb.2 _ D.TIz).trans (oth _ _ D.TIz D.TITO D.TIi1 D.TIi2 hI), ⟨e1, e2, (sb.2 _ D.TOz).trans oo⟩, Z.keep nx.1 fun o q => (sb.2 _ D.zi1.symm).trans q, Y.keep ny.1 fun o q => (sb.2 _ D.zi2.symm).trans q⟩, free_old own lo⟩
  done := fun X eP ew eK calm i pins s σ H E I own ⟨hz, hI, ⟨p, q, hO⟩, x, y⟩ ⟨xs, ys, hs, hr, hl⟩ => by
    subst eP ew
    obtain ⟨us, rv, hu⟩ := Z.read eK I hs
    obtain ⟨ws, rw', hw⟩ := Y.read eK I hr
    have l1 : us.toArray.size = xs.length := by rw [List.size_toArray, rv.length]
    have l2 : ws.toArray.size = ys.length := by rw [List.size_toArray, rw'.length]
    refine wpAny_pyNext_zipD2_end D (Z.draw (A := X.A.in1) (I.ok.hd calm) (Z.ne x hu) us.toArray) (Y.draw (A := X.A.in1) (I.ok.hd calm) (Y.ne y hw) ws.toArray) hz hI hO ⟨x, hu⟩ ⟨y, hw⟩ (by omega) (by omega) (by omega) fun g tk oth => ⟨rfl, ?_⟩
    refine I.turnedL (ch := [z, TI, TO, i1, i2]) (fun c o nc => ?_) own
    simp only [List.mem_cons, List.not_mem_nil, or_false, not_or] at nc
    exact oth c o nc.1 nc.2.2.1 nc.2.2.2.1 nc.2.2.2.2
  self := fun A i s Q E ⟨hz, _⟩ q => wpAny_pyIter_zip hz q
end
abbrev IteL (K : PySem.W.Frag) (a : Addr) : It := Ien fun H => SqL K H a
abbrev IteT (K : PySem.W.Frag) (a : Addr) : It := Ien fun H => SqT K H a
abbrev ItzL (K : PySem.W.Frag) (a b : Addr) : It := Izi (fun H => SqL K H a) fun H => SqL K H b
abbrev ItzF (K : PySem.W.Frag) (a b : Addr) : It := Izi (fun H => SqT K H a) fun H => SqT K H b
section
variable {X : Cx} {pins : List (Addr × Obj)} {σ : St} {H : Hp} {s : Shared} {R : It → Hp → Prop} {elts : List Expr} {kk : Nat} {tpos : Pos} {E : Value → Shared → Prop}
/-- enumerate of a list or a tuple goes on -/
theorem en_go {a : Addr} {sq : Hp → List V → Prop} {at_ : Nat → Heap → Prop} {is : Array Value → Heap → Prop} {o : Obj} {us : Array Value} (I : Inv X pins σ H s) (Z : Sour X.prog X.w X.K a s.heap.objs.size sq at_ is) (B : Begins (.ref a) o (is us)) (at0 : ∀ h : Heap, h.get? s.heap.objs.size = some o → at_ 0 h) (hu : is us s.heap) (q : R (Ien sq) H) :
    wpAny (model X.prog X.w) X.A (call (.type "enumerate") [.ref a]) (fun v s1 => wpAny (model X.prog X.w) X.A (pyIter v) (PIE X pins σ (.Tuple elts kk tpos) R) E s1) E s := by
  have n1 : (s.heap.push o).objs.size = s.heap.objs.size + 1 := Heap.size_push ..
  have en : IsEnum (Pu.enumOn s.heap o) (s.heap.objs.size + 1) s.heap.objs.size ((0 : Nat) : Int) .none := n1 ▸ Heap.get?_push_size _ rfl
  have kp : ∀ b ob, s.heap.get? b = some ob → (Pu.enumOn s.heap o).get? b = some ob := fun b ob g => Heap.get?_push_of_some _ (Heap.get?_push_of_some _ g)
  refine Pu.enum_on B hu (wpAny_pyIter_enum en ?_)
  refine ⟨_, [s.heap.objs.size + 1, s.heap.objs.size], _, _, H, rfl, I.kept (t' := s.toks) kp, turn_en Z _, ⟨⟨_, en⟩, at0 _ (Heap.get?_push_of_some _ (Heap.get?_push_size _ B.free)), Nat.succ_ne_self _⟩, fresh_all I fun b hb => ?_, q⟩
  simp only [List.mem_cons, List.not_mem_nil, or_false] at hb
  rcases hb with e | e <;> (rw [e]; first | exact Nat.le_refl _ | exact Nat.le_add_right _ _)
/-- zip of two goes on -/
theorem zi_go {a b : Addr} {sq sr : Hp → List V → Prop} {at_ bt : Nat → Heap → Prop} {is js : Array Value → Heap → Prop} {o o2 : Obj} {us ws : Array Value} (I : Inv X pins σ H s) (Z : Sour X.prog X.w X.K a s.heap.objs.size sq at_ is) (Y : Sour X.prog X.w X.K b (s.heap.objs.size + 1) sr bt js)
    (B : Begins (.ref a) o (is us)) (B2 : Begins (.ref b) o2 (js ws)) (at0 : ∀ h : Heap, h.get? s.heap.objs.size = some o → at_ 0 h) (bt0 : ∀ h : Heap, h.get? (s.heap.objs.size + 1) = some o2 → bt 0 h) (hu : is us s.heap) (hw : js ws s.heap) (q : R (Izi sq sr) H) :
    wpAny (model X.prog X.w) X.A (call (.type "zip") [.ref a, .ref b]) (fun v s1 => wpAny (model X.prog X.w) X.A (pyIter v) (PIE X pins σ (.Tuple elts kk tpos) R) E s1) E s := by
  obtain ⟨oa, _, ga, _⟩ := Z.seqO hu
  obtain ⟨ob, _, gb, _⟩ := Y.seqO hw
  have D := zip_sep2 (N := s.heap.objs.size) (fp1 := [a]) (fp2 := [b]) (fun c hc => List.mem_singleton.mp hc ▸ Heap.lt_size ga) (fun c hc => List.mem_singleton.mp hc ▸ Heap.lt_size gb)
  refine zip_begins2 B B2 hu hw fun g hz hI hO g1 g2 _ kp => wpAny_pyIter_zip hz ?_
  refine ⟨_, [s.heap.objs.size + 4, s.heap.objs.size + 2, s.heap.objs.size + 3, s.heap.objs.size, s.heap.objs.size + 1], _, _, H, rfl, I.kept (t' := s.toks) kp, turn_zi Z Y D, ⟨hz, hI, ⟨_, _, hO⟩, at0 g g1, bt0 g g2⟩, fresh_all I fun c hc => ?_, q⟩
  simp only [List.mem_cons, List.not_mem_nil, or_false] at hc
  rcases hc with e | e | e | e | e <;> (rw [e]; first | exact Nat.le_refl _ | exact Nat.le_add_right _ _)
end
def iZipF (K : PySem.W.Frag) (ta : TA) : TI := fun σ H R => ta σ H fun vs H1 => ∃ a b xs ys, vs = [.ref a, .ref b] ∧ ((SqL K H1 a xs ∧ SqL K H1 b ys ∧ R (ItzL K a b) H1) ∨ (SqT K H1 a xs ∧ SqT K H1 b ys ∧ R (ItzF K a b) H1))
theorem pi_zipF {X : Cx} {e e2 : Expr} {ta : TA} {p pos tpos : Pos} {elts : List Expr} {kk : Nat} (hg : Gl X "zip") (hm : X.mg "zip" = none) (ha : PA X [e, e2] ta) (hs : starEach [e, e2] X.env = (false, eval e X.env) :: starEach [e2] X.env := by rfl)
    (hpl : (backTo pos (starEach [e2] X.env)).any (·.1) = false := by rfl) : PI X (.Tuple elts kk tpos) (.Call (.Name "zip" p) [e, e2] [] pos) (iZipF X.K ta) := ⟨fun pins s σ H R I h => by
  have args := ha.run pos pins s σ H _ I h
  refine Call_ (ld_blt I hg hm boot_zip (callWith_type1 (thn args fun us s1 ⟨vs, H1, I1, r1, a, b, xs, ys, ex, alt⟩ => ?_) hs hpl))
  subst ex
  obtain ⟨_, _, rfl, rfl, rfl⟩ := vals2 r1
  rcases alt with ⟨sa, sb, q⟩ | ⟨sa, sb, q⟩
  · obtain ⟨us, _, pa, _⟩ := I1.list sa
    obtain ⟨ws, _, pb, _⟩ := I1.list sb
    exact zi_go I1 (sourL a _) (sourL b _) (begins_list a _) (begins_list b _) (fun h g => ⟨_, g, rfl, rfl⟩) (fun h g => ⟨_, g, rfl, rfl⟩) pa.isList pb.isList q
  · obtain ⟨us, _, pa, _⟩ := I1.tuple sa
    obtain ⟨ws, _, pb, _⟩ := I1.tuple sb
    exact zi_go I1 (sourT a _) (sourT b _) (begins_tuple a _) (begins_tuple b _) (fun h g => ⟨_, g, rfl, rfl⟩) (fun h g => ⟨_, g, rfl, rfl⟩) pa pb q⟩
def iEnumA (K : PySem.W.Frag) (ta : TA) : TI := fun σ H R => ta σ H fun vs H1 => ∃ a xs, vs = [.ref a] ∧ ((SqL K H1 a xs ∧ R (IteL K a) H1) ∨ (SqT K H1 a xs ∧ R (IteT K a) H1))
theorem pi_enumA {X : Cx} {e : Expr} {ta : TA} {p pos tpos : Pos} {elts : List Expr} {kk : Nat} (hg : Gl X "enumerate") (hm : X.mg "enumerate" = none) (ha : PA X [e] ta)
    (hs : starEach [e] X.env = [(false, eval e X.env)] := by rfl) : PI X (.Tuple elts kk tpos) (.Call (.Name "enumerate" p) [e] [] pos) (iEnumA X.K ta) := ⟨fun pins s σ H R I h => by
  have args := ha.run pos pins s σ H _ I h
  refine Call_ (ld_blt I hg hm boot_enumerate (callWith_type1 (thn args fun us s1 ⟨vs, H1, I1, r1, a, xs, ex, alt⟩ => ?_) hs rfl))
  subst ex
  obtain ⟨_, rfl, rfl⟩ := vals1 r1
  rcases alt with ⟨sa, q⟩ | ⟨sa, q⟩
  · obtain ⟨us, _, pa, _⟩ := I1.list sa
    exact en_go I1 (sourL a _) (begins_list a _) (fun h g => ⟨_, g, rfl, rfl⟩) pa.isList q
  · obtain ⟨us, _, pa, _⟩ := I1.tuple sa
    exact en_go I1 (sourT a _) (begins_tuple a _) (fun h g => ⟨_, g, rfl, rfl⟩) pa q⟩
/-- a list, a tuple or a text -/
def iSeq (K : PySem.W.Frag) (tl : TE) : TI := fun σ H R => tl σ H fun x H1 => (∃ a xs, x = .ref a ∧ SqL K H1 a xs ∧ R (Itl K a) H1) ∨ (∃ a xs, x = .ref a ∧ SqT K H1 a xs ∧ R (Itt K a) H1) ∨ ∃ z, x = .str z ∧ R (Its z) H1
theorem pi_seq {X : Cx} {tg l : Expr} {tl : TE} (hl : PE X l tl) : PI X tg l (iSeq X.K tl) := ⟨fun pins s σ H R I h => thn (hl.run pins s σ H _ I h) fun v s1 ⟨x, H1, I1, r1, alt⟩ => by
  have one : ∀ (o : Obj) (T : String) (vs : Array Value), (o = { cls := .type T, data := .fields vs }) → ∃ o', (s1.heap.push o).get? s1.heap.objs.size = some o' ∧ o'.cls = .type T ∧ o'.data = .fields vs := fun o T vs e => by
    subst e
    exact ⟨_, Heap.get?_push_size _ rfl, rfl, rfl⟩
  rcases alt with ⟨a, xs, rfl, sa, q⟩ | ⟨a, xs, rfl, sa, q⟩ | ⟨z, rfl, q⟩
  · obtain rfl : v = .ref a := r1
    obtain ⟨us, _, pa, _⟩ := I1.list sa
    exact wpAny_pyIter_list pa.isList (pi_one (tk := s1.toks) I1 _ (turn_list a _) (one _ _ _ rfl) q)
  · obtain rfl : v = .ref a := r1
    obtain ⟨us, _, pa, _⟩ := I1.tuple sa
    exact wpAny_pyIter_tuple (items := us.toArray) pa (pi_one (tk := s1.toks) I1 _ (turn_tuple a _) (one _ _ _ rfl) q)
  · obtain ⟨t, rfl⟩ := r1
    rcases Bool.eq_false_or_eq_true (z.cps.all (· < 128)) with y | y
    · exact wpAny_pyIter_ascii y (pi_one (tk := s1.toks) I1 _ (turn_str _ z t _ (.inl rfl)) (one _ _ _ rfl) q)
    · exact wpAny_pyIter_wide y (pi_one (tk := s1.toks) I1 _ (turn_str _ z t _ (.inr rfl)) (one _ _ _ rfl) q)⟩
end L2
namespace Pu
open PySem L2
/-- an iterator that gives the data ds while Hs stands; the data are frozen in Hf -/
structure Wk (K : Kw) (Hs Hf : Hp) (J : It) (ds : List D) : Prop where
  go : ∀ i H, Same Hs H → i < ds.length → J.go i H
  st : ∀ H, Same Hs H → J.stop ds.length H
  yl : ∀ (i : Nat) (H Hf1 H' : Hp) (x : V) (d : D), Same Hs H → Same Hf Hf1 → Same Hf1 H → ds[i]? = some d → J.yld i H x H' → ∃ Hf2, Grow Hf1 H Hf2 H' ∧ Rp K Hf2 x d
def PoI (K : Kw) (W : WE) (fz : Bool) (Q : It → Hp → Prop) (σ : L2.St) (Hf H : Hp) : R (List D) → Prop
  | .ok ds => ∀ J Hf' H', Grow Hf H Hf' H' → Wk K (if fz then Hf' else H') Hf' J ds → Q J H'
  | .ex c => ∀ Hf' H', Grow Hf H Hf' H' → W c σ H'
  | .bad => False
/-- what a loop walks: frozen (fz), or seen -/
def tI (K : Kw) (W : WE) (fz : Bool) (F : En → R (List D)) : TI := fun σ H Q => ∃ H0 Hf0 Hf e, SR K H0 Hf0 Hf H σ e ∧ PoI K W fz Q σ Hf H (F e)
section
variable {K : Kw} {W : WE} {σ : L2.St} {Hf H Hf' H' : Hp} {fz : Bool}
theorem PoI.grow {Q : It → Hp → Prop} {r : R (List D)} (p : PoI K W fz Q σ Hf H r) (g : Grow Hf H Hf' H') : PoI K W fz Q σ Hf' H' r := by
  cases r with
  | ok d => exact fun J Hf2 H2 g2 q => p J Hf2 H2 (g.trans g2) q
  | ex c => exact fun Hf2 H2 g2 => p Hf2 H2 (g.trans g2)
  | bad => exact p
theorem PoI.bind {Rel2 : Hp → Hp → V → D → Prop} {Q : It → Hp → Prop} {r : R D} {f : D → R (List D)} (p : PoI K W fz Q σ Hf H (r.bind f)) : Po Rel2 W (fun v H1 => ∃ Hf1 d, Grow Hf H Hf1 H1 ∧ Rel2 Hf1 H1 v d ∧ PoI K W fz Q σ Hf1 H1 (f d)) σ Hf H r := by
  cases r with
  | ok d => exact fun v Hf2 H2 g2 q => ⟨Hf2, d, g2, q, p.grow g2⟩
  | ex c => exact p
  | bad => exact p
theorem PoI.of_opt {Q : It → Hp → Prop} {o : Option (List D)} (p : PoI K W fz Q σ Hf H (opt o)) : ∃ ds, o = some ds ∧ ∀ J Hf' H', Grow Hf H Hf' H' → Wk K (if fz then Hf' else H') Hf' J ds → Q J H' := by
  cases o with
  | some d => exact ⟨d, rfl, p⟩
  | none => exact p.elim
end
/-! ### the walks -/
section
variable {K : Kw} {Hf H Hs : Hp}
theorem Wk.list {a : Addr} {xs : List V} {ds : List D} (h : SqL K Hs a xs) (r : RpAll K Hf xs ds) : Wk K Hs Hf (Itl K a) ds where
  go := fun i H s hi => by
    obtain ⟨x, hx, _⟩ := r.get (List.getElem?_eq_getElem hi)
    exact ⟨xs, x, s.seq h, hx⟩
  st := fun H s => ⟨xs, s.seq h, by rw [r.length]; exact Nat.le_refl _⟩
  yl := fun i H Hf1 H' x d s f1 f2 hd hy => by
    obtain ⟨e, y⟩ := hy
    subst e
    obtain ⟨v, hv, rv⟩ := r.get hd
    have : v = x := Option.some.inj (hv.symm.trans (y xs (s.seq h)))
    subst this
    exact ⟨Hf1, Grow.refl f2, rv.mono f1⟩
end
end Pu
/-! PuG: rules for what is walked; comprehensions -/
namespace Pu
open PySem L2
section
variable {K : Kw} {Hf H Hs : Hp}
theorem Wk.tuple {a : Addr} {xs : List V} {ds : List D} (h : SqT K Hs a xs) (r : RpAll K Hf xs ds) : Wk K Hs Hf (Itt K a) ds where
  go := fun i H s hi => by
    obtain ⟨x, hx, _⟩ := r.get (List.getElem?_eq_getElem hi)
    exact ⟨xs, x, Same.sqT s h, hx⟩
  st := fun H s => ⟨xs, Same.sqT s h, by rw [r.length]; exact Nat.le_refl _⟩
  yl := fun i H Hf1 H' x d s f1 f2 hd hy => by
    obtain ⟨e, y⟩ := hy
    subst e
    obtain ⟨v, hv, rv⟩ := r.get hd
    have : v = x := Option.some.inj (hv.symm.trans (y xs (Same.sqT s h)))
    subst this
    exact ⟨Hf1, Grow.refl f2, rv.mono f1⟩
def signD (c : Nat) : D := .str ⟨#[c]⟩
theorem Wk.str (z : Str) : Wk K Hs Hf (Its z) (z.cps.toList.map signD) where
  go := fun i H s hi => by
    rw [List.length_map, Array.length_toList] at hi
    exact hi
  st := fun H s => by
    show z.cps.size ≤ (z.cps.toList.map signD).length
    rw [List.length_map, Array.length_toList]
    exact Nat.le_refl _
  yl := fun i H Hf1 H' x d s f1 f2 hd hy => by
    obtain ⟨e, c, hc, rfl⟩ := hy
    subst e
    rw [List.getElem?_map, Array.getElem?_toList, hc] at hd
    cases hd
    exact ⟨Hf1, Grow.refl f2, .str _⟩
def rangeL (lo : Int) (n : Nat) : List D := (List.range n).map fun k : Nat => PyData.int (lo + (k : Int))
theorem Wk.range (lo : Int) (n : Nat) : Wk K Hs Hf (Itr lo n) (rangeL lo n) where
  go := fun i H s hi => by
    unfold rangeL at hi
    rw [List.length_map, List.length_range] at hi
    exact hi
  st := fun H s => by
    show n ≤ (rangeL lo n).length
    unfold rangeL
    rw [List.length_map, List.length_range]
    exact Nat.le_refl _
  yl := fun i H Hf1 H' x d s f1 f2 hd hy => by
    obtain ⟨e, rfl⟩ := hy
    subst e
    unfold rangeL at hd
    rw [List.getElem?_map] at hd
    cases q : (List.range n)[i]? with
    | none => rw [q] at hd; cases hd
    | some k =>
      rw [q] at hd
      cases hd
      have : k = i := by
        obtain ⟨h1, h2⟩ := List.getElem?_eq_some_iff.mp q
        rw [List.getElem_range] at h2
        exact h2.symm
      subst this
      exact ⟨Hf1, Grow.refl f2, .int _⟩
def rangeC (lo c : Int) (n : Nat) : List D := (List.range n).map fun k : Nat => PyData.int (lo + (k : Int) * c)
theorem Wk.rangeC (lo c : Int) (n : Nat) : Wk K Hs Hf (Itc lo c n) (rangeC lo c n) where
  go := fun i H s hi => by
    unfold Pu.rangeC at hi
    rw [List.length_map, List.length_range] at hi
    exact hi
  st := fun H s => by
    show n ≤ (Pu.rangeC lo c n).length
    unfold Pu.rangeC
    rw [List.length_map, List.length_range]
    exact Nat.le_refl _
  yl := fun i H Hf1 H' x d s f1 f2 hd hy => by
    obtain ⟨e, rfl⟩ := hy
    subst e
    unfold Pu.rangeC at hd
    rw [List.getElem?_map] at hd
    cases q : (List.range n)[i]? with
    | none => rw [q] at hd; cases hd
    | some k =>
      rw [q] at hd
      cases hd
      have : k = i := by
        obtain ⟨h1, h2⟩ := List.getElem?_eq_some_iff.mp q
        rw [List.getElem_range] at h2
        exact h2.symm
      subst this
      exact ⟨Hf1, Grow.refl f2, .int _⟩
def pairD (x y : D) : D := .tuple [x, y]
def enumL (ds : List D) : List D := ds.mapIdx fun i d => pairD (.int i) d
theorem enumL_get {ds : List D} {i : Nat} {d : D} (h : (enumL ds)[i]? = some d) : ∃ e, ds[i]? = some e ∧ d = pairD (.int i) e := by
  unfold enumL at h
  rw [List.getElem?_mapIdx] at h
  cases q : ds[i]? with
  | none => rw [q] at h; cases h
  | some e => rw [q] at h; cases h; exact ⟨e, rfl, rfl⟩
theorem grow_pair {x y : V} {dx dy : D} {T : Addr} {o : Obj} (f : Same Hf H) (hT : H T = none) (ho : o.dict = none) (rx : Rp K Hf x dx) (ry : Rp K Hf y dy) : Grow Hf H (upd Hf T (.frz o (.tup [x, y]))) (upd H T (.frz o (.tup [x, y]))) ∧ Rp K (upd Hf T (.frz o (.tup [x, y]))) (.ref T) (pairD dx dy) :=
  Rp.new f hT ho (.cons rx (.cons ry .nil))
theorem Wk.enumL {a : Addr} {xs : List V} {ds : List D} (h : SqL K Hs a xs) (r : RpAll K Hf xs ds) : Wk K Hs Hf (IteL K a) (enumL ds) where
  go := fun i H s hi => by
    unfold Pu.enumL at hi
    rw [List.length_mapIdx] at hi
    obtain ⟨x, hx, _⟩ := r.get (List.getElem?_eq_getElem hi)
    exact ⟨xs, x, s.seq h, hx⟩
  st := fun H s => ⟨xs, s.seq h, by unfold Pu.enumL; rw [List.length_mapIdx, r.length]⟩
  yl := fun i H Hf1 H' x d s f1 f2 hd hy => by
    obtain ⟨T, y, ob, rfl, nT, ho, rfl, fy⟩ := hy
    obtain ⟨e, he, rfl⟩ := enumL_get hd
    obtain ⟨v, hv, rv⟩ := r.get he
    have : v = y := Option.some.inj (hv.symm.trans (fy xs (s.seq h)))
    subst this
    exact ⟨_, grow_pair f2 nT ho (.int _) (rv.mono f1)⟩
theorem Wk.enumT {a : Addr} {xs : List V} {ds : List D} (h : SqT K Hs a xs) (r : RpAll K Hf xs ds) : Wk K Hs Hf (IteT K a) (Pu.enumL ds) where
  go := fun i H s hi => by
    unfold Pu.enumL at hi
    rw [List.length_mapIdx] at hi
    obtain ⟨x, hx, _⟩ := r.get (List.getElem?_eq_getElem hi)
    exact ⟨xs, x, Same.sqT s h, hx⟩
  st := fun H s => ⟨xs, Same.sqT s h, by unfold Pu.enumL; rw [List.length_mapIdx, r.length]⟩
  yl := fun i H Hf1 H' x d s f1 f2 hd hy => by
    obtain ⟨T, y, ob, rfl, nT, ho, rfl, fy⟩ := hy
    obtain ⟨e, he, rfl⟩ := enumL_get hd
    obtain ⟨v, hv, rv⟩ := r.get he
    have : v = y := Option.some.inj (hv.symm.trans (fy xs (Same.sqT s h)))
    subst this
    exact ⟨_, grow_pair f2 nT ho (.int _) (rv.mono f1)⟩
def zipL (ds es : List D) : List D := List.zipWith pairD ds es
theorem zipL_get {ds es : List D} {i : Nat} {d : D} (h : (zipL ds es)[i]? = some d) : ∃ e f, ds[i]? = some e ∧ es[i]? = some f ∧ d = pairD e f := by
  unfold zipL at h
  rw [List.getElem?_zipWith] at h
  cases q : ds[i]? with
  | none => rw [q] at h; cases h
  | some e =>
    cases q2 : es[i]? with
    | none => rw [q, q2] at h; cases h
    | some f => rw [q, q2] at h; cases h; exact ⟨e, f, rfl, rfl, rfl⟩
theorem Wk.zipL {a b : Addr} {xs ys : List V} {ds es : List D} (h : SqL K Hs a xs) (h2 : SqL K Hs b ys) (r : RpAll K Hf xs ds) (r2 : RpAll K Hf ys es) : Wk K Hs Hf (ItzL K a b) (zipL ds es) where
  go := fun i H s hi => by
    unfold Pu.zipL at hi
    rw [List.length_zipWith] at hi
    obtain ⟨x, hx, _⟩ := r.get (List.getElem?_eq_getElem (show i < ds.length by omega))
    obtain ⟨y, hy, _⟩ := r2.get (List.getElem?_eq_getElem (show i < es.length by omega))
    exact ⟨xs, ys, x, y, s.seq h, s.seq h2, hx, hy⟩
  st := fun H s => ⟨xs, ys, s.seq h, s.seq h2, by unfold Pu.zipL; rw [List.length_zipWith, r.length, r2.length]⟩
  yl := fun i H Hf1 H' x d s f1 f2 hd hy => by
    obtain ⟨T, y, z, ob, rfl, nT, ho, rfl, fy, fz⟩ := hy
    obtain ⟨e, f, he, hf, rfl⟩ := zipL_get hd
    obtain ⟨v, hv, rv⟩ := r.get he
    obtain ⟨u, hu, ru⟩ := r2.get hf
    have : v = y := Option.some.inj (hv.symm.trans (fy xs (s.seq h)))
    subst this
    have : u = z := Option.some.inj (hu.symm.trans (fz ys (s.seq h2)))
    subst this
    exact ⟨_, grow_pair f2 nT ho (rv.mono f1) (ru.mono f1)⟩
theorem Wk.zipT {a b : Addr} {xs ys : List V} {ds es : List D} (h : SqT K Hs a xs) (h2 : SqT K Hs b ys) (r : RpAll K Hf xs ds) (r2 : RpAll K Hf ys es) : Wk K Hs Hf (ItzF K a b) (Pu.zipL ds es) where
  go := fun i H s hi => by
    unfold Pu.zipL at hi
    rw [List.length_zipWith] at hi
    obtain ⟨x, hx, _⟩ := r.get (List.getElem?_eq_getElem (show i < ds.length by omega))
    obtain ⟨y, hy, _⟩ := r2.get (List.getElem?_eq_getElem (show i < es.length by omega))
    exact ⟨xs, ys, x, y, Same.sqT s h, Same.sqT s h2, hx, hy⟩
  st := fun H s => ⟨xs, ys, Same.sqT s h, Same.sqT s h2, by unfold Pu.zipL; rw [List.length_zipWith, r.length, r2.length]⟩
  yl := fun i H Hf1 H' x d s f1 f2 hd hy => by
    obtain ⟨T, y, z, ob, rfl, nT, ho, rfl, fy, fz⟩ := hy
    obtain ⟨e, f, he, hf, rfl⟩ := zipL_get hd
    obtain ⟨v, hv, rv⟩ := r.get he
    obtain ⟨u, hu, ru⟩ := r2.get hf
    have : v = y := Option.some.inj (hv.symm.trans (fy xs (Same.sqT s h)))
    subst this
    have : u = z := Option.some.inj (hu.symm.trans (fz ys (Same.sqT s h2)))
    subst this
    exact ⟨_, grow_pair f2 nT ho (rv.mono f1) (ru.mono f1)⟩
end
section
variable {X : Cx} {W : WE} {a b c tg : Expr} {F G Fc : En → R D} {pos p : Pos}
def seqD : D → Option (List D)
  | .list ds => some ds
  | .tuple ds => some ds
  | .str z => some (z.cps.toList.map signD)
  | _ => none
def iseq (F : En → R D) : En → R (List D) := fun e => (F e).bind fun d => opt (seqD d)
/-- a frozen list, tuple or text -/
theorem iSeqF (h : PE X a (tE (X.kw ea) W F)) : PI X tg a (tI (X.kw ea) W true (iseq F)) :=
  PI_weak (pi_seq h) fun σ H Q ⟨H0, Hf0, Hf, e, S, p⟩ => ⟨H0, Hf0, Hf, e, S, p.bind.mono fun x H1 ⟨Hf1, d, g, r, p1⟩ => by
    obtain ⟨ds, ez, q⟩ := p1.of_opt
    cases r with
    | lst hl ra => cases ez; exact .inl ⟨_, _, rfl, SqL.of (g.fh _ _ hl), q _ Hf1 H1 (Grow.refl g.fh) (Wk.list (SqL.of hl) ra)⟩
    | tup hl ra => cases ez; exact .inr (.inl ⟨_, _, rfl, (hl.mono g.fh).sq, q _ Hf1 H1 (Grow.refl g.fh) (Wk.tuple hl.sq ra)⟩)
    | str z => cases ez; exact .inr (.inr ⟨z, rfl, q _ Hf1 H1 (Grow.refl g.fh) (Wk.str z)⟩)
    | _ => cases ez⟩
/-- .. seen -/
theorem iSeqV (h : PE X a (tV (X.kw ea) W F)) : PI X tg a (tI (X.kw ea) W false (iseq F)) :=
  PI_weak (pi_seq h) fun σ H Q ⟨H0, Hf0, Hf, e, S, p⟩ => ⟨H0, Hf0, Hf, e, S, p.bind.mono fun x H1 ⟨Hf1, d, g, r, p1⟩ => by
    obtain ⟨ds, ez, q⟩ := p1.of_opt
    cases d with
    | list es =>
      cases ez
      obtain ⟨b, xs, rfl, hl, ra⟩ := r.list g.fh
      exact .inl ⟨_, _, rfl, SqL.of hl, q _ Hf1 H1 (Grow.refl g.fh) (Wk.list (SqL.of hl) ra)⟩
    | tuple es =>
      cases ez
      obtain ⟨b, xs, rfl, hl, ra⟩ := r.tuple g.fh
      exact .inr (.inl ⟨_, _, rfl, hl.sq, q _ Hf1 H1 (Grow.refl g.fh) (Wk.tuple (hl.sq) ra)⟩)
    | str z =>
      cases ez
      rw [r.str]
      exact .inr (.inr ⟨z, rfl, q _ Hf1 H1 (Grow.refl g.fh) (Wk.str z)⟩)
    | _ => cases ez⟩
def in62 (i : Int) : Bool := decide (-(2 ^ 62) ≤ i) && decide (i < 2 ^ 62)
theorem in62_of {i : Int} (h : in62 i = true) : -(2 ^ 62) ≤ i ∧ i < 2 ^ 62 := by
  unfold in62 at h
  rw [Bool.and_eq_true] at h
  exact ⟨of_decide_eq_true h.1, of_decide_eq_true h.2⟩
def rng1 : D → Option (List D)
  | .int j => if in62 j then some (rangeL 0 j.toNat) else none
  | _ => none
def rng2 : D → D → Option (List D)
  | .int i, .int j => if in62 i && in62 j then some (rangeL i (j - i).toNat) else none
  | _, _ => none
def irng1 (F : En → R D) : En → R (List D) := fun e => (F e).bind fun d => opt (rng1 d)
def irng2 (F G : En → R D) : En → R (List D) := fun e => (F e).bind fun d => (G e).bind fun d' => opt (rng2 d d')
theorem iRange1 {fz : Bool} (hg : Gl X "range") (hm : X.mg "range" = none) (ha : PE X a (tE (X.kw ea) W F)) (hs : starEach [a] X.env = [(false, eval a X.env)] := by rfl) : PI X tg (.Call (.Name "range" p) [a] [] pos) (tI (X.kw ea) W fz (irng1 F)) :=
  PI_weak (pi_range1 hg hm (pa_cons ha pa_nil hs) hs) fun σ H Q ⟨H0, Hf0, Hf, e, S, p⟩ => ⟨H0, Hf0, Hf, e, S, p.bind.mono fun x H1 ⟨Hf1, d, g, r, p1⟩ => by
    obtain ⟨ds, ez, q⟩ := p1.of_opt
    cases r with
    | int j =>
      have ez' : (if in62 j then some (rangeL 0 j.toNat) else none) = some ds := ez
      split at ez'
      · rename_i hj
        cases ez'
        exact ⟨j, rfl, (in62_of hj).1, (in62_of hj).2, q _ Hf1 H1 (Grow.refl g.fh) (Wk.range 0 _)⟩
      · cases ez'
    | _ => cases ez⟩
theorem iRange2 {fz : Bool} (hg : Gl X "range") (hm : X.mg "range" = none) (ha : PE X a (tE (X.kw ea) W F)) (hb : PE X b (tE (X.kw ea) W G)) (hs : starEach [a, b] X.env = [(false, eval a X.env), (false, eval b X.env)] := by rfl) (hs2 : starEach [b] X.env = [(false, eval b X.env)] := by rfl) :
    PI X tg (.Call (.Name "range" p) [a, b] [] pos) (tI (X.kw ea) W fz (irng2 F G)) :=
  PI_weak (pi_range2 hg hm (pa_cons ha (pa_cons hb pa_nil hs2) (hs.trans (by rw [hs2]))) hs hs2) fun σ H Q ⟨H0, Hf0, Hf, e, S, p⟩ => ⟨H0, Hf0, Hf, e, S, p.bind.mono fun x H1 ⟨Hf1, d, g, r, p1⟩ => ⟨H0, Hf0, Hf1, e, S.grow g, p1.bind.mono fun y H2 ⟨Hf2, d', g2, r2, p2⟩ => by
    obtain ⟨ds, ez, q⟩ := p2.of_opt
    cases r with
    | int i =>
      cases r2 with
      | int j =>
        have ez' : (if in62 i && in62 j then some (rangeL i (j - i).toNat) else none) = some ds := ez
        split at ez'
        · rename_i hj
          cases ez'
          rw [Bool.and_eq_true] at hj
          exact ⟨i, j, rfl, ⟨(in62_of hj.1).1, (in62_of hj.1).2, (in62_of hj.2).1, (in62_of hj.2).2⟩, q _ Hf2 H2 (Grow.refl g2.fh) (Wk.range i _)⟩
        · cases ez'
      | _ => cases ez
    | _ => cases ez⟩⟩
def ienum (F : En → R D) : En → R (List D) := fun e => (F e).bind fun d => opt ((listN d).map enumL)
theorem iEnumF {elts : List Expr} {kk : Nat} {tpos : Pos} (hg : Gl X "enumerate") (hm : X.mg "enumerate" = none) (ha : PE X a (tE (X.kw ea) W F)) (hs : starEach [a] X.env = [(false, eval a X.env)] := by rfl) : PI X (.Tuple elts kk tpos) (.Call (.Name "enumerate" p) [a] [] pos) (tI (X.kw ea) W true (ienum F)) :=
  PI_weak (pi_enumA hg hm (pa_cons ha pa_nil hs) hs) fun σ H Q ⟨H0, Hf0, Hf, e, S, p⟩ => ⟨H0, Hf0, Hf, e, S, p.bind.mono fun x H1 ⟨Hf1, d, g, r, p1⟩ => by
    obtain ⟨ds, ez, q⟩ := p1.of_opt
    cases r with
    | lst hl ra => cases ez; exact ⟨_, _, rfl, .inl ⟨SqL.of (g.fh _ _ hl), q _ Hf1 H1 (Grow.refl g.fh) (Wk.enumL (SqL.of hl) ra)⟩⟩
    | tup hl ra => cases ez; exact ⟨_, _, rfl, .inr ⟨(hl.mono g.fh).sq, q _ Hf1 H1 (Grow.refl g.fh) (Wk.enumT hl.sq ra)⟩⟩
    | _ => cases ez⟩
theorem iEnumV {elts : List Expr} {kk : Nat} {tpos : Pos} (hg : Gl X "enumerate") (hm : X.mg "enumerate" = none) (ha : PE X a (tV (X.kw ea) W F)) (hs : starEach [a] X.env = [(false, eval a X.env)] := by rfl) : PI X (.Tuple elts kk tpos) (.Call (.Name "enumerate" p) [a] [] pos) (tI (X.kw ea) W false (ienum F)) :=
  PI_weak (pi_enumA hg hm (pa_cons ha pa_nil hs) hs) fun σ H Q ⟨H0, Hf0, Hf, e, S, p⟩ => ⟨H0, Hf0, Hf, e, S, p.bind.mono fun x H1 ⟨Hf1, d, g, r, p1⟩ => by
    obtain ⟨ds, ez, q⟩ := p1.of_opt
    cases d with
    | list es =>
      cases ez
      obtain ⟨b, xs, rfl, hl, ra⟩ := r.list g.fh
      exact ⟨_, _, rfl, .inl ⟨SqL.of hl, q _ Hf1 H1 (Grow.refl g.fh) (Wk.enumL (SqL.of hl) ra)⟩⟩
    | tuple es =>
      cases ez
      obtain ⟨b, xs, rfl, hl, ra⟩ := r.tuple g.fh
      exact ⟨_, _, rfl, .inr ⟨hl.sq, q _ Hf1 H1 (Grow.refl g.fh) (Wk.enumT (hl.sq) ra)⟩⟩
    | _ => cases ez⟩
def zipD : D → D → Option (List D)
  | .list ds, .list es => some (zipL ds es)
  | .tuple ds, .tuple es => some (zipL ds es)
  | _, _ => none
def izip (F G : En → R D) : En → R (List D) := fun e => (F e).bind fun d => (G e).bind fun d' => opt (zipD d d')
/-- zip(a, b), both lists or both tuples, seen -/
theorem iZipV {elts : List Expr} {kk : Nat} {tpos : Pos} (hg : Gl X "zip") (hm : X.mg "zip" = none) (ha : PE X a (tV (X.kw ea) W F)) (hb : PE X b (tV (X.kw ea) W G))
    (hs : starEach [a, b] X.env = (false, eval a X.env) :: starEach [b] X.env := by rfl) (hs2 : starEach [b] X.env = [(false, eval b X.env)] := by rfl) : PI X (.Tuple elts kk tpos) (.Call (.Name "zip" p) [a, b] [] pos) (tI (X.kw ea) W false (izip F G)) :=
  PI_weak (pi_zipF hg hm (pa_cons ha (pa_cons hb pa_nil hs2) hs) hs (by rw [hs2]; rfl)) fun σ H Q ⟨H0, Hf0, Hf, e, S, p⟩ => ⟨H0, Hf0, Hf, e, S, p.bind.mono fun x H1 ⟨Hf1, d, g, r, p1⟩ => ⟨H0, Hf0, Hf1, e, S.grow g, p1.bind.mono fun y H2 ⟨Hf2, d', g2, r2, p2⟩ => by
    obtain ⟨ds, ez, q⟩ := p2.of_opt
    have r' := r.mono g2
    cases d with
    | list es =>
      cases d' with
      | list es' =>
        cases ez
        obtain ⟨b, xs, rfl, hl, ra⟩ := r'.list g2.fh
        obtain ⟨b', xs', rfl, hl', ra'⟩ := r2.list g2.fh
        exact ⟨_, _, _, _, rfl, .inl ⟨SqL.of hl, SqL.of hl', q _ Hf2 H2 (Grow.refl g2.fh) (Wk.zipL (SqL.of hl) (SqL.of hl') ra ra')⟩⟩
      | _ => cases ez
    | tuple es =>
      cases d' with
      | tuple es' =>
        cases ez
        obtain ⟨b, xs, rfl, hl, ra⟩ := r'.tuple g2.fh
        obtain ⟨b', xs', rfl, hl', ra'⟩ := r2.tuple g2.fh
        exact ⟨_, _, _, _, rfl, .inr ⟨hl.sq, hl'.sq, q _ Hf2 H2 (Grow.refl g2.fh) (Wk.zipT hl.sq hl'.sq ra ra')⟩⟩
      | _ => cases ez
    | _ => cases ez⟩⟩
/-- what a frozen walk is seen as -/
theorem i2v {L : En → R (List D)} (h : PI X tg a (tI (X.kw ea) W true L)) : PI X tg a (tI (X.kw ea) W false L) := PI_weak h fun σ H Q ⟨H0, Hf0, Hf, e, S, p⟩ => ⟨H0, Hf0, Hf, e, S, by
  revert p
  cases L e with
  | ok ds => exact fun p J Hf' H' g w => p J Hf' H' g ⟨fun i H1 s hi => w.go i H1 (g.fh.trans s) hi, fun H1 s => w.st H1 (g.fh.trans s), fun i H1 Hf1 H2 x d s f1 f2 hd hy => w.yl i H1 Hf1 H2 x d (g.fh.trans s) f1 f2 hd hy⟩
  | ex c => exact fun p => p
  | bad => exact fun p => p⟩
end
end Pu
/-! PuH: targets, comprehensions -/
namespace Pu
open PySem L2
/-! ### targets -/
abbrev Tg := D → En → Option En
/-- a target: the slots is take the data -/
def tG (K : Kw) (is : List Nat) (f : Tg) : TG := fun v σ H Q => ∃ H0 Hf0 Hf e d e', SR K H0 Hf0 Hf H σ e ∧ Rp K Hf v d ∧ f d e = some e' ∧
  ∀ σ', σ'.length = σ.length → (∀ j, j ∉ is → σ'[j]? = σ[j]?) → SR K H0 Hf0 Hf H σ' e' → Q σ' H
def tGs (K : Kw) (is : List Nat) (f : List D → En → Option En) : TGs := fun vs σ H Q => ∃ H0 Hf0 Hf e ds e', SR K H0 Hf0 Hf H σ e ∧ RpAll K Hf vs ds ∧ f ds e = some e' ∧
  ∀ σ', σ'.length = σ.length → (∀ j, j ∉ is → σ'[j]? = σ[j]?) → SR K H0 Hf0 Hf H σ' e' → Q σ' H
def gn (i : Nat) : Tg := fun d e => some (e.set i (.dat d))
def gnil : List D → En → Option En
  | [], e => some e
  | _, _ => none
def gcons (f : Tg) (g : List D → En → Option En) : List D → En → Option En
  | d :: ds, e => (f d e).bind (g ds)
  | [], _ => none
def gtup (g : List D → En → Option En) : Tg := fun d e => match d with
  | .tuple ds => g ds e
  | _ => none
theorem PGs_weak {X : Cx} {e : List Expr} {t t' : TGs} (h : PGs X e t) (k : ∀ v σ H Q, t' v σ H Q → t v σ H Q) : PGs X e t' :=
  ⟨fun pins s σ H v u Q I r q => h.run pins s σ H v u Q I r (k v σ H Q q)⟩
section
variable {X : Cx} {pos : Pos}
theorem gName' {i : Nat} {x : Str} (h : PG X (.Name x pos) (gName i)) : PG X (.Name x pos) (tG (X.kw ea) [i] (gn i)) :=
  PG_weak h fun v σ H Q ⟨H0, Hf0, Hf, e, d, e', S, r, he, q⟩ => by
    cases he
    exact q _ (List.length_set ..) (fun j hj => List.getElem?_set_ne (fun z => hj (by simp [z]))) (S.dat i r)
theorem gNil' : PGs X [] (tGs (X.kw ea) [] gnil) := PGs_weak pgs_nil fun v σ H Q ⟨H0, Hf0, Hf, e, ds, e', S, r, he, q⟩ => by
  cases r with
  | nil => cases he; exact ⟨rfl, q _ rfl (fun _ _ => rfl) S⟩
  | cons _ _ => cases he
theorem gCons' {a : Expr} {as : List Expr} {is js : List Nat} {f : Tg} {g : List D → En → Option En} (h1 : PG X a (tG (X.kw ea) is f)) (h2 : PGs X as (tGs (X.kw ea) js g))
    (hs : PGs X (a :: as) (gCons (tG (X.kw ea) is f) (tGs (X.kw ea) js g))) : PGs X (a :: as) (tGs (X.kw ea) (is ++ js) (gcons f g)) :=
  PGs_weak hs fun v σ H Q ⟨H0, Hf0, Hf, e, ds, e', S, r, he, q⟩ => by
    cases r with
    | nil => cases he
    | @cons v vs d ds rv rs =>
      have he' : (f d e).bind (g ds) = some e' := he
      cases h : f d e with
      | none => rw [h] at he'; cases he'
      | some e1 =>
        rw [h] at he'
        refine ⟨v, vs, rfl, H0, Hf0, Hf, e, d, e1, S, rv, h, fun σ1 l1 o1 S1 => ⟨H0, Hf0, Hf, e1, ds, e', S1, rs, he', fun σ2 l2 o2 S2 => q σ2 (l2.trans l1) (fun j hj => ?_) S2⟩⟩
        rw [o2 j (fun z => hj (by simp [z])), o1 j (fun z => hj (by simp [z]))]
theorem gTup' {es : List Expr} {k n : Nat} {is : List Nat} {g : List D → En → Option En} (hl : ∀ ds e e', g ds e = some e' → ds.length = n) (h : PG X (.Tuple es k pos) (gTup (X.kw ea) n (tGs (X.kw ea) is g))) : PG X (.Tuple es k pos) (tG (X.kw ea) is (gtup g)) :=
  PG_weak h fun v σ H Q ⟨H0, Hf0, Hf, e, d, e', S, r, he, q⟩ => by
    cases r with
    | tup ht ra =>
      exact ⟨_, _, rfl, (ht.mono S.gr.fh).sq, by rw [ra.length]; exact hl _ _ _ he, H0, Hf0, Hf, e, _, e', S, ra, he, q⟩
    | _ => cases he
end
theorem gnil_len : ∀ ds e e', gnil ds e = some e' → ds.length = 0 := fun ds e e' h => by
  cases ds with
  | nil => rfl
  | cons d ds => cases h
theorem gcons_len {f : Tg} {g : List D → En → Option En} {n : Nat} (h : ∀ ds e e', g ds e = some e' → ds.length = n) : ∀ ds e e', gcons f g ds e = some e' → ds.length = n + 1 := fun ds e e' he => by
  cases ds with
  | nil => cases he
  | cons d ds =>
    have he' : (f d e).bind (g ds) = some e' := he
    cases hf : f d e with
    | none => rw [hf] at he'; cases he'
    | some e1 => rw [hf] at he'; rw [List.length_cons, h ds e1 e' he']
/-! ### comprehensions -/
def wipeE (e : En) : List Nat → En
  | [] => e
  | v :: vs => (wipeE e vs).set v .un
theorem SR.wipe {K : Kw} {H0 Hf0 Hf H : Hp} {σ : L2.St} {e : En} (S : SR K H0 Hf0 Hf H σ e) : ∀ vs : List Nat, SR K H0 Hf0 Hf H (L2.wipe σ vs) (wipeE e vs)
  | [] => S
  | v :: vs => (SR.wipe S vs).put v none .un trivial fun o => by cases o
def lcL (f : Tg) (T : En → R Bool) (E : En → R D) (e : En) : List D → R (List D)
  | [] => .ok []
  | d :: ds => (opt (f d e)).bind fun e1 => (T e1).bind fun b => if b = true then (E e1).bind fun x => (lcL f T E e ds).bind fun xs => .ok (x :: xs) else lcL f T E e ds
def noEx {α : Type} : R α → R α
  | .ok a => .ok a
  | _ => .bad
def xlc (vs : List Nat) (L : En → R (List D)) (f : Tg) (T : En → R Bool) (E : En → R D) : En → R (List D) := fun e => (L e).bind fun ds => if ds.length ≤ many then noEx (lcL f T E (wipeE e vs) ds) else .bad
def W0 : WE := fun _ _ _ => False
def tyes : En → R Bool := fun _ => .ok true
theorem lcL_len (f : Tg) (T : En → R Bool) (E : En → R D) (e : En) : ∀ (ds : List D) (xs : List D), lcL f T E e ds = .ok xs → xs.length ≤ ds.length
  | [], xs, h => by cases h; exact Nat.le_refl _
  | d :: ds, xs, h => by
    unfold lcL at h
    cases h1 : f d e with
    | none => rw [h1] at h; cases h
    | some e1 =>
      rw [h1] at h
      have h : ((T e1).bind fun b => if b = true then (E e1).bind fun x => (lcL f T E e ds).bind fun xs => .ok (x :: xs) else lcL f T E e ds) = .ok xs := h
      cases h2 : T e1 with
      | ex c => rw [h2] at h; cases h
      | bad => rw [h2] at h; cases h
      | ok b =>
        rw [h2] at h
        have h : (if b = true then (E e1).bind fun x => (lcL f T E e ds).bind fun xs => .ok (x :: xs) else lcL f T E e ds) = .ok xs := h
        cases b with
        | false =>
          rw [if_neg Bool.false_ne_true] at h
          exact Nat.le_succ_of_le (lcL_len f T E e ds xs h)
        | true =>
          rw [if_pos rfl] at h
          cases h3 : E e1 with
          | ex c => rw [h3] at h; cases h
          | bad => rw [h3] at h; cases h
          | ok x =>
            rw [h3] at h
            have h : ((lcL f T E e ds).bind fun xs => .ok (x :: xs)) = .ok xs := h
            cases h4 : lcL f T E e ds with
            | ex c => rw [h4] at h; cases h
            | bad => rw [h4] at h; cases h
            | ok ys =>
              rw [h4] at h
              cases h
              have := lcL_len f T E e ds ys h4
              rw [List.length_cons, List.length_cons]
              omega
theorem wipe_eq {σ σ2 : L2.St} {vs is : List Nat} (hl : σ2.length = (wipe σ vs).length) (ho : ∀ j, j ∉ is → σ2[j]? = (wipe σ vs)[j]?) (hs : ∀ i ∈ is, i ∈ vs) : wipe σ2 vs = wipe σ vs := by
  apply List.ext_getElem?
  intro j
  by_cases hj : j ∈ vs
  · have at_ : ∀ (τ : L2.St) (us : List Nat), j ∈ us → j < τ.length → (wipe τ us)[j]? = some none := by
      intro τ us
      induction us with
      | nil => intro h; cases h
      | cons u us ih =>
        intro h hlt
        unfold wipe
        by_cases z : u = j
        · subst z
          exact List.getElem?_set_self (by rw [wipe_length]; exact hlt)
        · rw [List.getElem?_set_ne z]
          rcases List.mem_cons.mp h with rfl | h
          · exact absurd rfl z
          · exact ih h hlt
    by_cases hlt : j < σ2.length
    · rw [at_ σ2 vs hj hlt, at_ σ vs hj (by rw [hl, wipe_length] at hlt; exact hlt)]
    · rw [List.getElem?_eq_none (by rw [wipe_length]; omega), List.getElem?_eq_none (by rw [← hl]; omega)]
  · rw [wipe_out hj]
    exact ho j (fun z => hj (hs j z))
section
variable {K : Kw} {W : WE} {vs is : List Nat} {L : En → R (List D)} {f : Tg} {T : En → R Bool} {E : En → R D}
theorem tLc_of (hs : ∀ i ∈ is, i ∈ vs) {σ : L2.St} {H : Hp} {Q : VK} (h : tN K W (xlc vs L f T E) σ H Q) : tLc (tI K W false L) (tG K is f) (tT K W0 T) (tE K W0 E) vs σ H Q := by
  obtain ⟨H0, Hf0, Hf, e, S, p⟩ := h
  refine ⟨H0, Hf0, Hf, e, S, ?_⟩
  unfold xlc at p
  revert p
  cases L e with
  | ex c => exact fun p => p
  | bad => exact fun p => p
  | ok ds =>
    intro p J Hf1 H1 g w D hD
    have p1 := p.grow g
    have p1 : PoN K W Q σ Hf1 H1 (if ds.length ≤ many then noEx (lcL f T E (wipeE e vs) ds) else .bad) := p1
    by_cases hm : ds.length ≤ many
    · rw [if_pos hm] at p1
      cases ht : lcL f T E (wipeE e vs) ds with
      | ex c => rw [ht] at p1; exact p1.elim
      | bad => rw [ht] at p1; exact p1.elim
      | ok total =>
        rw [ht] at p1
        have S1 := S.grow g
        refine ⟨fun i m H2 => m = ds.length - i ∧ i ≤ ds.length ∧ ∃ Hf2 acc out rest, Grow Hf1 H1 Hf2 H2 ∧ Hf2 D = none ∧ H2 D = some (.lst acc) ∧ RpAll K Hf2 acc out ∧ out.length ≤ i ∧ lcL f T E (wipeE e vs) (ds.drop i) = .ok rest ∧ out ++ rest = total,
          ⟨ds.length, rfl, Nat.zero_le _, Hf1, [], [], total, Grow.lay g.fh hD, g.fh.free hD, upd_same, .nil, Nat.le_refl _, ht, rfl⟩, ?_⟩
        rintro i m H2 ⟨rfl, hi, Hf2, acc, out, rest, g2, nD, hacc, ra, hlo, hrest, htot⟩
        by_cases hlt : i < ds.length
        · have hdr : ds.drop i = ds[i] :: ds.drop (i + 1) := List.drop_eq_getElem_cons hlt
          rw [hdr] at hrest
          unfold lcL at hrest
          refine .inr ⟨w.go i H2 g2.hh hlt, fun H3 => ∃ Hf3 acc out rest, Grow Hf1 H1 Hf3 H3 ∧ Hf3 D = none ∧ H3 D = some (.lst acc) ∧ RpAll K Hf3 acc out ∧ out.length ≤ i + 1 ∧ lcL f T E (wipeE e vs) (ds.drop (i + 1)) = .ok rest ∧ out ++ rest = total,
            fun H3 n3 => ⟨ds.length - (i + 1), by omega, rfl, hlt, n3⟩, fun x H3 hy => ?_⟩
          obtain ⟨Hf3, g3, rx⟩ := w.yl i H2 Hf2 H3 x ds[i] g2.hh g2.ff g2.fh (List.getElem?_eq_getElem hlt) hy
          cases h1 : f ds[i] (wipeE e vs) with
          | none => rw [h1] at hrest; cases hrest
          | some e1 =>
            rw [h1] at hrest
            have hrest : ((T e1).bind fun b => if b = true then (E e1).bind fun x => (lcL f T E (wipeE e vs) (ds.drop (i + 1))).bind fun xs => .ok (x :: xs) else lcL f T E (wipeE e vs) (ds.drop (i + 1))) = .ok rest := hrest
            have g13 := g2.trans g3
            have S3 := (S1.wipe vs).grow g13
            refine ⟨H0, Hf0, Hf3, wipeE e vs, ds[i], e1, S3, rx, h1, fun σ2 l2 o2 S4 => ⟨wipe_eq l2 o2 hs, H0, Hf0, Hf3, e1, S4, ?_⟩⟩
            cases h2 : T e1 with
            | ex c => rw [h2] at hrest; cases hrest
            | bad => rw [h2] at hrest; cases hrest
            | ok b =>
              rw [h2] at hrest
              have hrest : (if b = true then (E e1).bind fun x => (lcL f T E (wipeE e vs) (ds.drop (i + 1))).bind fun xs => .ok (x :: xs) else lcL f T E (wipeE e vs) (ds.drop (i + 1))) = .ok rest := hrest
              intro Hf4 H4 g4
              have g14 := g13.trans g4
              have hD4 : H4 D = some (.lst acc) := g4.hh _ _ (g3.hh _ _ hacc)
              have nD4 : Hf4 D = none := g4.nf _ _ (g3.hh _ _ hacc) rfl (g3.nf _ _ hacc rfl nD)
              have ra4 := (ra.mono g3.ff).mono g4.ff
              cases b with
              | false =>
                rw [if_neg Bool.false_ne_true] at hrest ⊢
                exact ⟨Hf4, acc, out, rest, g14, nD4, hD4, ra4, by omega, hrest, htot⟩
              | true =>
                rw [if_pos rfl] at hrest ⊢
                refine ⟨H0, Hf0, Hf4, e1, S4.grow g4, ?_⟩
                cases h3 : E e1 with
                | ex c => rw [h3] at hrest; cases hrest
                | bad => rw [h3] at hrest; cases hrest
                | ok y =>
                  rw [h3] at hrest
                  have hrest : ((lcL f T E (wipeE e vs) (ds.drop (i + 1))).bind fun xs => .ok (y :: xs)) = .ok rest := hrest
                  cases h4 : lcL f T E (wipeE e vs) (ds.drop (i + 1)) with
                  | ex c => rw [h4] at hrest; cases hrest
                  | bad => rw [h4] at hrest; cases hrest
                  | ok ys =>
                    rw [h4] at hrest
                    cases hrest
                    intro v Hf5 H5 g5 rv
                    have hD5 := g5.hh _ _ hD4
                    have nD5 := g5.nf _ _ hD4 rfl nD4
                    refine ⟨acc, hD5, many_lt (by rw [ra.length]; omega), Hf5, acc ++ [v], out ++ [y], ys, ⟨Same.upd (g14.trans g5).hh hD, (g14.trans g5).ff, Same.upd g5.fh nD5, (g14.trans g5).nf⟩, nD5, upd_same, (ra4.mono g5.ff).snoc rv, ?_, rfl, ?_⟩
                    · rw [List.length_append, List.length_singleton]; omega
                    · rw [List.append_assoc]; exact htot
        · have hi' : i = ds.length := by omega
          subst hi'
          rw [List.drop_length] at hrest
          cases hrest
          rw [List.append_nil] at htot
          subst htot
          exact .inl ⟨w.st H2 g2.hh, p1 D acc Hf2 H2 g2 hD nD hacc ra⟩
    · rw [if_neg hm] at p1
      exact p1.elim
end
section
variable {X : Cx} {W : WE} {pos : Pos}
theorem tsNil : PTs X [] (tT (X.kw ea) W tyes) := PTs_weak pts_nil fun σ H Q ⟨H0, Hf0, Hf, e, S, p⟩ => p Hf H (Grow.refl S.gr.fh)
theorem tsOne {c : Expr} {T : En → R Bool} (h : PT X c (tT (X.kw ea) W T)) : PTs X [c] (tT (X.kw ea) W T) := pts_one h
theorem xLc {elt tg iter : Expr} {ifs : List Expr} {scope : Scope} {own : List (Str × Nat)} {is : List Nat} {L : En → R (List D)} {f : Tg} {T : En → R Bool} {E : En → R D}
    (hc : X.calm = true) (hN : X.N.Nodup) (hi : PI X tg iter (tI (X.kw ea) W false L)) (ok : BlkOk X.N X.env.scope scope own) (his : ∀ i ∈ is, i ∈ own.map (·.2))
    (hg : ∀ (s : Shared) (H : Hp) (C : Addr) (cl : List (Str × Addr)) (fp : List Addr), PG (X.blk s H scope (compEnvC scope cl C X.env) fp) tg (tG (X.kw ea) is f)) (ht : ∀ (s : Shared) (H : Hp) (C : Addr) (cl : List (Str × Addr)) (fp : List Addr), PTs (X.blk s H scope (compEnvC scope cl C X.env) fp) ifs (tT (X.kw ea) W0 T))
    (he : ∀ (s : Shared) (H : Hp) (C : Addr) (cl : List (Str × Addr)) (fp : List Addr), PE (X.blk s H scope (compEnvC scope cl C X.env) fp) elt (tE (X.kw ea) W0 E)) (hs : ∀ x, foldedSetIterable iter X.env x = pure x := by intro _; rfl) :
    PE X (.ListComp elt [⟨tg, iter, ifs, 0⟩] scope pos) (tN (X.kw ea) W (xlc (own.map (·.2)) L f T E)) :=
  PE_weak (pe_lc hc hN hi ok hg ht he hs) fun σ H Q h => tLc_of his h
end
end Pu
/-! PuI: statements, defs and their calls -/
namespace Pu
open PySem L2
/-- errors by their classes' names -/
def wx (mg : Str → Option Value) (W : WE) : WX := fun cls d σ H => d = none ∧ ∃ c, mg c = some cls ∧ W c σ H
/-- where one stands -/
structure Cz (X : Cx) (k : Nat) (W : WE) : Prop where
  calm : X.calm = true
  nd : X.N.Nodup
  tk : Takes X (wx X.mg W)
  po : PassesOwn (model X.prog X.w) X.A X.env X.xe
  rm : Room k X.A
theorem takesF {X : Cx} {W : WX} (h : ∀ c d σ H, ¬ W c d σ H) : Takes X W := fun _ _ ⟨_, _, _, _, _, _, _, _, _, _, _, _, _, _, _, _, z⟩ => absurd z (h _ _ _ _)
theorem Cz.blk {X : Cx} {k : Nat} {W : WE} (z : Cz X k W) (s : Shared) (H : Hp) (scope : Scope) (cenv : Env) (fp : List Addr) : Cz (X.blk s H scope cenv fp) k W0 :=
  ⟨z.calm, z.nd, takesF fun c d σ H h => by obtain ⟨_, _, _, q⟩ := h; exact q, PassesOwn.never, z.rm⟩
/-! ### freezing all -/
def frz1 : Sl → Sl
  | .own ds => .dat (.list ds)
  | .dic kvs => .dat (.dict kvs)
  | s => s
def fz (e : En) : En := e.map frz1
theorem frz1_no : ∀ s : Sl, (frz1 s).isOwn = false
  | .un => rfl
  | .dat _ => rfl
  | .own _ => rfl
  | .dic _ => rfl
  | .exc => rfl
open Classical in
theorem SR.fz {K : Kw} {H0 Hf0 Hf H : Hp} {σ : L2.St} {e : En} (S : SR K H0 Hf0 Hf H σ e) : ∃ Hf', Same Hf Hf' ∧ SR K H0 Hf0 Hf' H σ (fz e) := by
  let P : Addr → Prop := fun a => Hf a = none ∧ ∃ (i : Nat) (s : Sl), e[i]? = some s ∧ s.isOwn = true ∧ σ[i]? = some (some (V.ref a))
  let Hf' : Hp := fun a => if P a then H a else Hf a
  have s1 : Same Hf Hf' := fun a o h => by
    show (if P a then H a else Hf a) = some o
    rw [if_neg (fun p => by rw [p.1] at h; cases h)]
    exact h
  have s2 : Same Hf' H := fun a o h => by
    have h : (if P a then H a else Hf a) = some o := h
    split at h
    · exact h
    · exact S.gr.fh a o h
  refine ⟨Hf', s1, ⟨S.gr.hh, S.gr.ff.trans s1, s2, fun a o h m n => ?_⟩, ?_, ?_, ?_⟩
  · show (if P a then H a else Hf a) = none
    have n' := S.gr.nf a o h m n
    rw [if_neg]
    · exact n'
    · rintro ⟨_, i, s, h1, h2, h3⟩
      obtain ⟨a', u, ev, _, h0, _⟩ := (S.sl i s _ h1 h3).addr h2
      injection ev with ev; injection ev with ev
      subst ev
      rw [h0] at h; cases h
  · rw [S.len]; unfold Pu.fz; rw [List.length_map]
  · intro i s v h1 h2
    unfold Pu.fz at h1
    rw [List.getElem?_map] at h1
    cases q : e[i]? with
    | none => rw [q] at h1; cases h1
    | some t =>
      rw [q] at h1
      cases h1
      have z := S.sl i t v q h2
      have at_ : ∀ a, t.isOwn = true → v = some (V.ref a) → Hf a = none → Hf' a = H a := fun a o ev n => by
        show (if P a then H a else Hf a) = H a
        rw [if_pos ⟨n, i, t, q, o, by rw [h2, ev]⟩]
      cases t with
      | un => trivial
      | dat d => obtain ⟨x, ex, r⟩ := z; exact ⟨x, ex, r.mono s1⟩
      | own ds =>
        obtain ⟨a, xs, ev, ha, h0, hf, r⟩ := z
        exact ⟨_, ev, .lst (by rw [at_ a rfl ev hf]; exact ha) (r.mono s1)⟩
      | dic ks =>
        obtain ⟨a, xs, ev, ha, h0, hf, r⟩ := z
        exact ⟨_, ev, .dct (by rw [at_ a rfl ev hf]; exact ha) (r.mono s1)⟩
      | exc => exact z
  · intro i j s t a hij h1 h2 o1
    unfold Pu.fz at h1
    rw [List.getElem?_map] at h1
    cases q : e[i]? with
    | none => rw [q] at h1; cases h1
    | some t' => rw [q] at h1; cases h1; rw [frz1_no] at o1; cases o1
def fzAt (i : Nat) (e : En) : En := match e[i]? with
  | some s => e.set i (frz1 s)
  | none => e
theorem set_get {α : Type} {l : List α} {i : Nat} {x : α} (h : l[i]? = some x) : l.set i x = l := by
  apply List.ext_getElem?
  intro j
  by_cases hj : i = j
  · subst hj
    rw [List.getElem?_set_self (List.getElem?_eq_some_iff.mp h).1, h]
  · rw [List.getElem?_set_ne hj]
theorem SR.fzAt {K : Kw} {H0 Hf0 Hf H : Hp} {σ : L2.St} {e : En} (S : SR K H0 Hf0 Hf H σ e) (i : Nat) : ∃ Hf', Same Hf Hf' ∧ SR K H0 Hf0 Hf' H σ (fzAt i e) := by
  unfold Pu.fzAt
  cases q : e[i]? with
  | none => exact ⟨Hf, Same.refl _, S⟩
  | some s =>
    obtain ⟨v, hv⟩ := S.lt q
    have z := S.sl i s v q hv
    have main : ∀ (a : Addr) (u : HO) (t : Sl), s.isOwn = true → v = some (.ref a) → H a = some u → H0 a = none → Hf a = none → t.isOwn = false → SlOk K H0 (upd Hf a u) H (some (.ref a)) t → ∃ Hf', Same Hf Hf' ∧ SR K H0 Hf0 Hf' H σ (e.set i t) := by
      intro a u t hs ev hA h0 hf ht hn
      have zz := Grow.freeze S.gr.fh hA hf
      refine ⟨upd Hf a u, zz.1, ?_⟩
      have other : ∀ (j : Nat) (w : Sl), j ≠ i → e[j]? = some w → w.isOwn = true → σ[j]? ≠ some (some (.ref a)) := fun j w hj h1 o p => S.sep i j s w a (fun y => hj y.symm) q h1 hs o (by rw [hv, ev]) p
      have g : SR K H0 Hf0 (upd Hf a u) H σ (e.set i .un) := by
        refine ⟨⟨S.gr.hh, S.gr.ff.trans zz.1, zz.2, fun b o hb m nb => ?_⟩, by rw [List.length_set]; exact S.len, fun j w x h1 h2 => ?_, fun j k w x b hjk h1 h2 o1 o2 q1 q2 => ?_⟩
        · rw [upd_ne (ne_of_none hb h0)]; exact S.gr.nf b o hb m nb
        · by_cases y : i = j
          · subst y
            rw [List.getElem?_set_self (List.getElem?_eq_some_iff.mp q).1] at h1
            cases h1
            trivial
          · rw [List.getElem?_set_ne y] at h1
            have zj := S.sl j w x h1 h2
            cases w with
            | un => trivial
            | dat d => obtain ⟨x', ex, r⟩ := zj; exact ⟨x', ex, r.mono zz.1⟩
            | own ds =>
              obtain ⟨b, xs, ev', hb, h0', hf', r⟩ := zj
              have : b ≠ a := fun y' => other j _ (fun y'' => y y''.symm) h1 rfl (by rw [h2, ev', y'])
              exact ⟨b, xs, ev', hb, h0', by rw [upd_ne this]; exact hf', r.mono zz.1⟩
            | dic ks =>
              obtain ⟨b, xs, ev', hb, h0', hf', r⟩ := zj
              have : b ≠ a := fun y' => other j _ (fun y'' => y y''.symm) h1 rfl (by rw [h2, ev', y'])
              exact ⟨b, xs, ev', hb, h0', by rw [upd_ne this]; exact hf', r.mono zz.1⟩
            | exc => exact zj
        · have nu : ∀ (j : Nat) (w : Sl), (e.set i .un)[j]? = some w → w.isOwn = true → e[j]? = some w := fun j w h o => by
            by_cases y : i = j
            · subst y
              rw [List.getElem?_set_self (List.getElem?_eq_some_iff.mp q).1] at h
              cases h; cases o
            · rw [List.getElem?_set_ne y] at h; exact h
          exact S.sep j k w x b hjk (nu j w h1 o1) (nu k x h2 o2) o1 o2 q1 q2
      have g2 := g.put i (some (.ref a)) t hn fun o => by rw [ht] at o; cases o
      have e1 : σ.set i (some (.ref a)) = σ := set_get (by rw [hv, ev])
      have e2 : (e.set i .un).set i t = e.set i t := List.set_set _
      rw [e1, e2] at g2
      exact g2
    cases s with
    | un => exact ⟨Hf, Same.refl _, by show SR K H0 Hf0 Hf H σ (e.set i .un); rw [set_get q]; exact S⟩
    | dat d => exact ⟨Hf, Same.refl _, by show SR K H0 Hf0 Hf H σ (e.set i (.dat d)); rw [set_get q]; exact S⟩
    | exc => exact ⟨Hf, Same.refl _, by show SR K H0 Hf0 Hf H σ (e.set i .exc); rw [set_get q]; exact S⟩
    | own ds =>
      obtain ⟨a, xs, ev, ha, h0, hf, r⟩ := z
      exact main a _ (.dat (.list ds)) rfl ev ha h0 hf rfl ⟨_, rfl, .lst upd_same (r.mono (same_upd hf))⟩
    | dic ks =>
      obtain ⟨a, xs, ev, ha, h0, hf, r⟩ := z
      exact main a _ (.dat (.dict ks)) rfl ev ha h0 hf rfl ⟨_, rfl, .dct upd_same (r.mono (same_upd hf))⟩

/-! ### statements -/
section
variable {X : Cx} {k : Nat} {W : WE} {a b c : Expr} {F G : En → R D} {T : En → R Bool} {A B : En → Fl} {pos : Pos}
def snil : En → Fl := fun e => .nx e
def sseq (A B : En → Fl) : En → Fl := fun e => match A e with
  | .nx e1 => B e1
  | r => r
theorem sNil : PSs X [] (tS (X.kw ea) W snil) := PSs_weak pss_nil fun D σ H ⟨H0, Hf0, Hf, e, S, p⟩ => p σ Hf H S (Same.refl _)
theorem sOne {st : Stmt} (h : PS X st (tS (X.kw ea) W A)) : PSs X [st] (tS (X.kw ea) W A) := pss_one h
theorem sCons {st : Stmt} {rest : List Stmt} (h1 : PS X st (tS (X.kw ea) W A)) (h2 : PSs X rest (tS (X.kw ea) W B)) : PSs X (st :: rest) (tS (X.kw ea) W (sseq A B)) :=
  PSs_weak (pss_cons h1 h2) fun D σ H ⟨H0, Hf0, Hf, e, S, p⟩ => ⟨H0, Hf0, Hf, e, S, by
    revert p
    unfold sseq
    cases A e with
    | nx e1 => exact fun p σ1 Hf1 H1 S1 s1 => ⟨H0, Hf0, Hf1, e1, S1, p.same s1⟩
    | rt d => exact fun p => p
    | bk e => exact fun p => p
    | ct e => exact fun p => p
    | ex c e => exact fun p => p
    | bad => exact fun p => p⟩
def sret (F : En → R D) : En → Fl := fun e => match F (fz e) with
  | .ok d => .rt d
  | .ex c => .ex c (fz e)
  | .bad => .bad
theorem sRet (h : PE X a (tE (X.kw ea) W F)) : PS X (.Return (some a) pos) (tS (X.kw ea) W (sret F)) := PS_weak (ps_ret h) fun D σ H ⟨H0, Hf0, Hf, e, S, p⟩ => by
  obtain ⟨Hf', s1, S'⟩ := S.fz
  refine ⟨H0, Hf0, Hf', fz e, S', ?_⟩
  revert p
  unfold sret
  cases F (fz e) with
  | ok d => exact fun p v Hf2 H2 g r => p v Hf2 H2 (S'.gr.trans g) r
  | ex c => exact fun p Hf2 H2 g => p σ Hf2 H2 (S'.grow g) (s1.trans g.ff)
  | bad => exact fun p => p
def sretN : En → Fl := fun _ => .rt .none
theorem sRetN : PS X (.Return none pos) (tS (X.kw ea) W sretN) := PS_weak ps_retN fun D σ H ⟨H0, Hf0, Hf, e, S, p⟩ => p .non Hf H S.gr .non
theorem sPass : PS X (.Pass pos) (tS (X.kw ea) W snil) := PS_weak ps_pass fun D σ H ⟨H0, Hf0, Hf, e, S, p⟩ => p σ Hf H S (Same.refl _)
def scont : En → Fl := fun e => .ct e
theorem sCont : PS X (.Continue pos) (tS (X.kw ea) W scont) := PS_weak ps_continue fun D σ H ⟨H0, Hf0, Hf, e, S, p⟩ => p σ Hf H S (Same.refl _)
/-- a statement that is never reached -/
def snever : En → Fl := fun _ => .bad
theorem sNever {st : Stmt} : PS X st (tS (X.kw ea) W snever) := PS_weak ps_never fun D σ H ⟨H0, Hf0, Hf, e, S, p⟩ => p
/-- the slot i is frozen ahead of a statement -/
def sfz (i : Nat) (A : En → Fl) : En → Fl := fun e => A (fzAt i e)
theorem sFz (i : Nat) {st : Stmt} (h : PS X st (tS (X.kw ea) W A)) : PS X st (tS (X.kw ea) W (sfz i A)) := PS_weak h fun D σ H ⟨H0, Hf0, Hf, e, S, p⟩ => by
  obtain ⟨Hf', s1, S'⟩ := S.fzAt i
  exact ⟨H0, Hf0, Hf', fzAt i e, S', p.same s1⟩
def liftE (r : R D) (e : En) (f : D → Fl) : Fl := match r with
  | .ok d => f d
  | .ex c => .ex c e
  | .bad => .bad
def sdrop (F : En → R D) : En → Fl := fun e => liftE (F e) e fun _ => .nx e
theorem sDrop (h : PE X a (tE (X.kw ea) W F)) (hs : swapsWith a none pos.line X.env = pure false := by rfl) : PS X (.Expr a pos) (tS (X.kw ea) W (sdrop F)) := PS_weak (ps_expr h hs) fun D σ H ⟨H0, Hf0, Hf, e, S, p⟩ => ⟨H0, Hf0, Hf, e, S, by
  revert p
  unfold sdrop liftE
  cases F e with
  | ok d => exact fun p v Hf2 H2 g r => p σ Hf2 H2 (S.grow g) g.ff
  | ex c => exact fun p Hf2 H2 g => p σ Hf2 H2 (S.grow g) g.ff
  | bad => exact fun p => p⟩
def sasg (i : Nat) (F : En → R D) : En → Fl := fun e => liftE (F e) e fun d => .nx (e.set i (.dat d))
def sasgT (f : Tg) (F : En → R D) : En → Fl := fun e => liftE (F e) e fun d => match f d e with
  | some e' => .nx e'
  | none => .bad
def sasgN (i : Nat) (F : En → R (List D)) : En → Fl := fun e => match F e with
  | .ok ds => .nx (e.set i (.own ds))
  | .ex c => .ex c e
  | .bad => .bad
theorem asg_of {i : Nat} {σ : L2.St} {H : Hp} {D : Ends} (h : tS (X.kw ea) W (sasg i F) D σ H) : tAsg (tE (X.kw ea) W F) (gName i) D σ H := by
  obtain ⟨H0, Hf0, Hf, e, S, p⟩ := h
  refine ⟨H0, Hf0, Hf, e, S, ?_⟩
  revert p
  unfold sasg liftE
  cases F e with
  | ok d => exact fun p v Hf2 H2 g r => p _ Hf2 H2 ((S.grow g).dat i r) g.ff
  | ex c => exact fun p Hf2 H2 g => p σ Hf2 H2 (S.grow g) g.ff
  | bad => exact fun p => p
theorem asgN_of {i : Nat} {L : En → R (List D)} {σ : L2.St} {H : Hp} {D : Ends} (h : tS (X.kw ea) W (sasgN i L) D σ H) : tAsg (tN (X.kw ea) W L) (gName i) D σ H := by
  obtain ⟨H0, Hf0, Hf, e, S, p⟩ := h
  refine ⟨H0, Hf0, Hf, e, S, ?_⟩
  revert p
  unfold sasgN
  cases L e with
  | ok ds =>
    intro p q xs Hf2 H2 g hn hf hl r
    refine p _ Hf2 H2 ((S.grow g).own i ⟨_, hl⟩ (S.fresh hn) ⟨q, xs, rfl, hl, ?_, hf, r⟩) g.ff
    exact S.gr.hh.free hn
  | ex c => exact fun p Hf2 H2 g => p σ Hf2 H2 (S.grow g) g.ff
  | bad => exact fun p => p
/-- x = e -/
theorem sAsg {i : Nat} {x : Str} {pos' : Pos} (hN : X.N.Nodup) (hi : X.N[i]? = some x) (hx : Loc X.env.scope x) (he : PE X a (tE (X.kw ea) W F)) (hs : swapsWith a (some (.Name x pos')) pos.line X.env = pure false := by rfl) (hf : X.fn x = true ∨ X.env.scope.names.lookup x = some .local := by first | exact .inl rfl | exact .inr rfl | assumption) :
    PS X (.Assign [.Name x pos'] a pos) (tS (X.kw ea) W (sasg i F)) := PS_weak (ps_set hN hi hx he hs hf) fun D σ H h => asg_of h
theorem sAsgN {i : Nat} {x : Str} {pos' : Pos} {L : En → R (List D)} (hN : X.N.Nodup) (hi : X.N[i]? = some x) (hx : Loc X.env.scope x) (he : PE X a (tN (X.kw ea) W L)) (hs : swapsWith a (some (.Name x pos')) pos.line X.env = pure false := by rfl) (hf : X.fn x = true ∨ X.env.scope.names.lookup x = some .local := by first | exact .inl rfl | exact .inr rfl | assumption) :
    PS X (.Assign [.Name x pos'] a pos) (tS (X.kw ea) W (sasgN i L)) := PS_weak (ps_set hN hi hx he hs hf) fun D σ H h => asgN_of h
/-- t1, t2 = e -/
theorem sAsgT {tg : Expr} {is : List Nat} {f : Tg} (he : PE X a (tE (X.kw ea) W F)) (hg : PG X tg (tG (X.kw ea) is f)) (hs : PS X (.Assign [tg] a pos) (tAsg (tE (X.kw ea) W F) (tG (X.kw ea) is f))) : PS X (.Assign [tg] a pos) (tS (X.kw ea) W (sasgT f F)) :=
  PS_weak hs fun D σ H ⟨H0, Hf0, Hf, e, S, p⟩ => ⟨H0, Hf0, Hf, e, S, by
    revert p
    unfold sasgT liftE
    cases F e with
    | ok d =>
      show PoS (X.kw ea) W D H0 Hf0 Hf (match f d e with | some e' => .nx e' | none => .bad) → _
      cases h : f d e with
      | none => exact fun p => p.elim
      | some e' => exact fun p v Hf2 H2 g r => ⟨H0, Hf0, Hf2, e, d, e', S.grow g, r, h, fun σ' _ _ S' => p σ' Hf2 H2 S' g.ff⟩
    | ex c => exact fun p Hf2 H2 g => p σ Hf2 H2 (S.grow g) g.ff
    | bad => exact fun p => p⟩
/-- x = [.. for ..] -/
theorem sLc {i : Nat} {y : Str} {py : Pos} {elt tg iter : Expr} {ifs : List Expr} {scope : Scope} {own : List (Str × Nat)} {is : List Nat} {spos : Pos} {L : En → R (List D)} {f : Tg} {E : En → R D}
    (hc : X.calm = true) (hN : X.N.Nodup) (hy : X.N[i]? = some y) (hyl : X.env.scope.names.lookup y = some .local) (hsw : swapsWith (.ListComp elt [⟨tg, iter, ifs, 0⟩] scope pos) (some (.Name y py)) spos.line X.env = pure true)
    (hi : PI X tg iter (tI (X.kw ea) W false L)) (ok : BlkOk X.N X.env.scope scope own) (his : ∀ i ∈ is, i ∈ own.map (·.2))
    (hg : ∀ (s : Shared) (H : Hp) (C : Addr) (cl : List (Str × Addr)) (fp : List Addr), PG (X.blk s H scope (compEnvC scope cl C X.env) fp) tg (tG (X.kw ea) is f)) (ht : ∀ (s : Shared) (H : Hp) (C : Addr) (cl : List (Str × Addr)) (fp : List Addr), PTs (X.blk s H scope (compEnvC scope cl C X.env) fp) ifs (tT (X.kw ea) W0 T))
    (he : ∀ (s : Shared) (H : Hp) (C : Addr) (cl : List (Str × Addr)) (fp : List Addr), PE (X.blk s H scope (compEnvC scope cl C X.env) fp) elt (tE (X.kw ea) W0 E)) (hs : ∀ x, foldedSetIterable iter X.env x = pure x := by intro _; rfl) :
    PS X (.Assign [.Name y py] (.ListComp elt [⟨tg, iter, ifs, 0⟩] scope pos) spos) (tS (X.kw ea) W (sasgN i (xlc (own.map (·.2)) L f T E))) :=
  PS_weak (ps_setLc hc hN hy hyl hsw hi ok hg ht he hs) fun D σ H h => tLc_of his (asgN_of (X := X) h)
theorem sLcF {i : Nat} {st : Stmt} {L : En → R (List D)} (h : PS X st (tS (X.kw ea) W (sasgN i L))) : PS X st (tS (X.kw ea) W (sasg i (asL L))) := PS_weak h fun D σ H ⟨H0, Hf0, Hf, e, S, p⟩ => ⟨H0, Hf0, Hf, e, S, by
  revert p
  unfold sasg sasgN asL liftE
  cases L e with
  | ok ds =>
    intro p σ1 Hf1 H1 S1 sm
    obtain ⟨Hf2, s2, S2⟩ := S1.fzAt i
    refine p σ1 Hf2 H1 ?_ (sm.trans s2)
    have q : (e.set i (Sl.own ds))[i]? = some (.own ds) ∨ e.length ≤ i := by
      by_cases hl : i < e.length
      · exact .inl (List.getElem?_set_self hl)
      · exact .inr (by omega)
    unfold fzAt at S2
    rcases q with q | q
    · rw [q] at S2
      have e2 : (e.set i (Sl.own ds)).set i (frz1 (.own ds)) = e.set i (.dat (.list ds)) := List.set_set _
      have S2 : SR (X.kw ea) H0 Hf0 Hf2 H1 σ1 ((e.set i (Sl.own ds)).set i (frz1 (.own ds))) := S2
      rw [e2] at S2
      exact S2
    · have n1 : (e.set i (Sl.own ds))[i]? = none := List.getElem?_eq_none (by rw [List.length_set]; exact q)
      rw [n1] at S2
      have S2 : SR (X.kw ea) H0 Hf0 Hf2 H1 σ1 (e.set i (Sl.own ds)) := S2
      rw [List.set_eq_of_length_le q] at S2
      show SR (X.kw ea) H0 Hf0 Hf2 H1 σ1 (e.set i (.dat (.list ds)))
      rw [List.set_eq_of_length_le q]
      exact S2
  | ex c => exact fun p => p
  | bad => exact fun p => p⟩
def sif (T : En → R Bool) (A B : En → Fl) : En → Fl := fun e => match T e with
  | .ok true => A e
  | .ok false => B e
  | .ex c => .ex c e
  | .bad => .bad
theorem sIf {as bs : List Stmt} (ht : PT X c (tT (X.kw ea) W T)) (ha : PSs X as (tS (X.kw ea) W A)) (hb : PSs X bs (tS (X.kw ea) W B)) : PS X (.If c as bs pos) (tS (X.kw ea) W (sif T A B)) :=
  PS_weak (ps_if ht ha hb) fun D σ H ⟨H0, Hf0, Hf, e, S, p⟩ => ⟨H0, Hf0, Hf, e, S, by
    revert p
    unfold sif
    cases T e with
    | ok k =>
      cases k with
      | true => exact fun p Hf2 H2 g => (show tS (X.kw ea) W A D σ H2 from ⟨H0, Hf0, Hf2, e, S.grow g, p.same g.ff⟩)
      | false => exact fun p Hf2 H2 g => (show tS (X.kw ea) W B D σ H2 from ⟨H0, Hf0, Hf2, e, S.grow g, p.same g.ff⟩)
    | ex c => exact fun p Hf2 H2 g => p σ Hf2 H2 (S.grow g) g.ff
    | bad => exact fun p => p⟩
/-! ### loops -/
def forL (f : Tg) (B : En → Fl) : List D → En → Fl
  | [], e => .nx e
  | d :: ds, e => match f d e with
    | none => .bad
    | some e1 => match B e1 with
      | .nx e2 => forL f B ds e2
      | .ct e2 => forL f B ds e2
      | .bk e2 => .nx e2
      | r => r
def sfor (L : En → R (List D)) (f : Tg) (B : En → Fl) : En → Fl := fun e => match L e with
  | .ok ds => forL f B ds e
  | .ex c => .ex c e
  | .bad => .bad
theorem sFor {tg iter : Expr} {body : List Stmt} {is : List Nat} {L : En → R (List D)} {f : Tg} (hp : PassesOwn (model X.prog X.w) X.A X.env X.xe) (hc : X.calm = true) (hi : PI X tg iter (tI (X.kw ea) W true L)) (hg : PG X tg (tG (X.kw ea) is f)) (hb : PSs X body (tS (X.kw ea) W B))
    (hs : ∀ x, foldedSetIterable iter X.env x = pure x := by intro _; rfl) : PS X (.For tg iter body [] pos) (tS (X.kw ea) W (sfor L f B)) :=
  PS_weak (ps_for hp hc hi hg hb hs) fun D σ H ⟨H0, Hf0, Hf, e, S, p⟩ => ⟨H0, Hf0, Hf, e, S, by
    revert p
    unfold sfor
    cases L e with
    | ok ds =>
      intro p J Hf1 H1 g w
      have w : Wk (X.kw ea) Hf1 Hf1 J ds := w
      refine ⟨fun i m σ2 H2 => m = ds.length - i ∧ i ≤ ds.length ∧ ∃ Hf2 e2, SR (X.kw ea) H0 Hf0 Hf2 H2 σ2 e2 ∧ Same Hf1 Hf2 ∧ PoS (X.kw ea) W D H0 Hf0 Hf2 (forL f B (ds.drop i) e2),
        ⟨ds.length, rfl, Nat.zero_le _, Hf1, e, S.grow g, Same.refl _, p.same g.ff⟩, ?_⟩
      rintro i m σ2 H2 ⟨rfl, hi, Hf2, e2, S2, s2, p2⟩
      by_cases hlt : i < ds.length
      · have hdr : ds.drop i = ds[i] :: ds.drop (i + 1) := List.drop_eq_getElem_cons hlt
        rw [hdr] at p2
        unfold forL at p2
        refine .inr ⟨w.go i H2 (s2.trans S2.gr.fh) hlt, fun σ3 H3 => ∃ Hf3 e3, SR (X.kw ea) H0 Hf0 Hf3 H3 σ3 e3 ∧ Same Hf1 Hf3 ∧ PoS (X.kw ea) W D H0 Hf0 Hf3 (forL f B (ds.drop (i + 1)) e3),
          fun σ3 H3 n3 => ⟨ds.length - (i + 1), by omega, rfl, hlt, n3⟩, fun x H3 hy => ?_⟩
        obtain ⟨Hf3, g3, rx⟩ := w.yl i H2 Hf2 H3 x ds[i] (s2.trans S2.gr.fh) s2 S2.gr.fh (List.getElem?_eq_getElem hlt) hy
        cases h1 : f ds[i] e2 with
        | none => rw [h1] at p2; exact p2.elim
        | some e3 =>
          rw [h1] at p2
          have S3 := S2.grow g3
          refine ⟨H0, Hf0, Hf3, e2, ds[i], e3, S3, rx, h1, fun σ4 _ _ S4 => ?_⟩
          refine ⟨H0, Hf0, Hf3, e3, S4, ?_⟩
          have p3 := p2.same g3.ff
          have s3 := s2.trans g3.ff
          revert p3
          show PoS (X.kw ea) W D H0 Hf0 Hf3 (match B e3 with | .nx e2 => forL f B (ds.drop (i + 1)) e2 | .ct e2 => forL f B (ds.drop (i + 1)) e2 | .bk e2 => .nx e2 | r => r) → _
          cases B e3 with
          | nx e4 => exact fun p3 σ5 Hf5 H5 S5 s5 => ⟨Hf5, e4, S5, s3.trans s5, p3.same s5⟩
          | ct e4 => exact fun p3 σ5 Hf5 H5 S5 s5 => ⟨Hf5, e4, S5, s3.trans s5, p3.same s5⟩
          | bk e4 => exact fun p3 => p3
          | rt d => exact fun p3 => p3
          | ex c e4 => exact fun p3 => p3
          | bad => exact fun p3 => p3
      · have hi' : i = ds.length := by omega
        subst hi'
        rw [List.drop_length] at p2
        exact .inl ⟨w.st H2 (s2.trans S2.gr.fh), p2 σ2 Hf2 H2 S2 (Same.refl _)⟩
    | ex c => exact fun p Hf2 H2 g => p σ Hf2 H2 (S.grow g) g.ff
    | bad => exact fun p => p⟩
end
end Pu
/-! PuJ: changed lists, while, defs and their calls -/
namespace L2
open PySem PySem.Spec PyProof.Rows
/-- l.extend(b), b a tuple -/
theorem ext_tup {l b : Addr} {us ws : List Value} {n : Nat} (room : us.length + ws.length ≤ sizeLine) : Meets (Builtin.«list.extend» ⟨[.ref l, .ref b], []⟩) (fun _ R s =>
    (s.heap.get? l = some { cls := .type "list", data := .seq us.toArray n } ∧ IsTup s.heap b ws.toArray) ∧ R (.ok (.ret .none)) { s with heap := s.heap.update l (Obj.mapSeq (· ++ ws.toArray)) }) := .of_wp fun P w A R s ⟨⟨hl, ⟨⟨cl, dd, da, sl⟩, hb, ec, m, ed⟩⟩, hr⟩ => by
  obtain rfl : cl = .type "tuple" := ec
  obtain rfl : da = .seq ws.toArray m := ed
  have fits : (us.toArray ++ ws.toArray).size ≤ sizeLine + 1 := by
    rw [Array.size_append, List.size_toArray, List.size_toArray]
    exact Nat.le_succ_of_le room
  have fit0 : us.toArray.size ≤ sizeLine := Nat.le_trans (Nat.le_add_right _ _) room
  have sum : us.toArray.size + ws.toArray.size ≤ sizeLine := room
  have short := notLongL sum
  have i1 := AutoSeq1.sub_tuple_list
  have i2 := AutoSeq1.sub_tuple_tuple
  have i3 := AutoSeq1.sub_list_list
  cases s with
  | mk h gs dr tk os =>
    wp_walk using AutoSeq1.wpAny_loadPart' hb, AutoSeq1.wpAny_loadPart' hl
    rw [short, Bool.and_false, if_neg Bool.false_ne_true]
    wp_walk using wpAny_updateSeq hl rfl (hz := fit0) (_hz' := fits)
    exact ⟨_, rfl, hr⟩
def rExtT (K : PySem.W.Frag) : V → List V → Hp → VK → Prop := fun x vs H Q => ∃ l b xs zs, x = .ref l ∧ vs = [.ref b] ∧ H l = some (.lst xs) ∧ SqT K H b zs ∧ xs.length + zs.length ≤ sizeLine ∧ Q .non (upd H l (.lst (xs ++ zs)))
theorem mt_extT {X : Cx} : MtM X "list.extend" (rExtT X.K) := fun pins s σ H _ _ v us Q I rx rv ⟨l, b, xs, zs, ex, ev, hl, hb, hz, q⟩ => by
  subst ex ev
  obtain rfl : v = .ref l := rx
  obtain ⟨_, rfl, rfl⟩ := vals1 rv
  obtain ⟨_, as, n, ra, _, ga⟩ := I.lstM hl
  obtain ⟨bs, rb, tb, _, _⟩ := Pu.tup_at I hb
  have room : as.length + bs.length ≤ sizeLine := by rw [← ra.length, ← rb.length]; exact hz
  have isL : s.TypeIs (.ref l) "list" := ⟨_, ga, rfl⟩
  exact call_meets F.slot_list_extend isL F.entry_list_extend (F.args_list_extend_2 _ _) (ext_tup (b := b) (n := n) room) ⟨⟨ga, tb⟩, .non, _, I.lset hl ga (by simp) (ra.append rb) (by rw [List.length_append]; exact hz), rfl, q⟩
theorem MtM.or {X : Cx} {id : String} {r r' : V → List V → Hp → VK → Prop} (h : MtM X id r) (h' : MtM X id r') : MtM X id (fun x xs H Q => r x xs H Q ∨ r' x xs H Q) := by
  intro pins s σ H x xs v us Q I rx rv q
  rcases q with q | q
  · exact h pins s σ H x xs v us Q I rx rv q
  · exact h' pins s σ H x xs v us Q I rx rv q
end L2
namespace Pu
open PySem L2
section
variable {X : Cx} {k : Nat} {W : WE} {a b c : Expr} {F G : En → R D} {T : En → R Bool} {A B : En → Fl} {pos : Pos}
/-- the name in slot i, whose own list stands at l -/
theorem own_at {K : Kw} {H0 Hf0 Hf H : Hp} {σ : L2.St} {e : En} {i : Nat} {ds : List D} (S : SR K H0 Hf0 Hf H σ e) (h : e[i]? = some (.own ds)) : ∃ l xs, σ[i]? = some (some (.ref l)) ∧ H l = some (.lst xs) ∧ H0 l = none ∧ Hf l = none ∧ RpAll K Hf xs ds := by
  obtain ⟨v, hv⟩ := S.lt h
  obtain ⟨l, xs, ev, h1, h2, h3, r⟩ := S.sl i _ v h hv
  subst ev
  exact ⟨l, xs, hv, h1, h2, h3, r⟩
def sapp (i : Nat) (F : En → R D) : En → Fl := fun e => match e[i]? with
  | some (.own ds) => liftE (F e) e fun d => if ds.length < many then .nx (e.set i (.own (ds ++ [d]))) else .bad
  | _ => .bad
/-- x.append(e) -/
theorem sApp {i : Nat} {x : Str} {px pa pc : Pos} (hx : PE X (.Name x px) (tVar i)) (he : PE X a (tE (X.kw ea) W F))
    (hs : PE X (.Call (.Attribute (.Name x px) "append" pa) [a] [] pc) (tBM (X.kw ea) "list" rAppend (tVar i) (tCons (tE (X.kw ea) W F) tNil)))
    (hw : swapsWith (.Call (.Attribute (.Name x px) "append" pa) [a] [] pc) none pos.line X.env = pure false := by rfl) : PS X (.Expr (.Call (.Attribute (.Name x px) "append" pa) [a] [] pc) pos) (tS (X.kw ea) W (sapp i F)) :=
  PS_weak (ps_expr hs hw) fun D σ H ⟨H0, Hf0, Hf, e, S, p⟩ => by
    unfold sapp at p
    cases q : e[i]? with
    | none => rw [q] at p; exact p.elim
    | some s =>
      rw [q] at p
      cases s with
      | own ds =>
        obtain ⟨l, xs, hv, h1, h2, h3, r⟩ := own_at S q
        refine ⟨.ref l, hv, .inl ⟨rfl, xs, SqL.of h1⟩, H0, Hf0, Hf, e, S, ?_⟩
        revert p
        show PoS (X.kw ea) W D H0 Hf0 Hf (liftE (F e) e fun d => if ds.length < many then .nx (e.set i (.own (ds ++ [d]))) else .bad) → _
        unfold liftE
        cases F e with
        | ok d =>
          show PoS (X.kw ea) W D H0 Hf0 Hf (if ds.length < many then .nx (e.set i (.own (ds ++ [d]))) else .bad) → _
          intro p v Hf1 H1 g rv
          by_cases hz : ds.length < many
          · rw [if_pos hz] at p
            refine ⟨l, xs, v, rfl, rfl, g.hh _ _ h1, many_lt (by rw [r.length]; exact hz), ?_⟩
            have nf := g.nf _ _ h1 rfl h3
            exact p σ Hf1 _ ((S.grow g).mut q rfl hv rfl ⟨l, _, rfl, upd_same, h2, nf, (r.mono g.ff).snoc rv⟩) g.ff
          · rw [if_neg hz] at p; exact p.elim
        | ex c => exact fun p Hf1 H1 g => p σ Hf1 H1 (S.grow g) g.ff
        | bad => exact fun p => p
      | _ => exact p.elim
def sext (i : Nat) (F : En → R D) : En → Fl := fun e => match e[i]? with
  | some (.own ds) => liftE (F e) e fun d => match listN d with
    | some es => if ds.length + es.length ≤ many then .nx (e.set i (.own (ds ++ es))) else .bad
    | none => .bad
  | _ => .bad
/-- x.extend(e) -/
theorem sExt {i : Nat} {x : Str} {px pa pc : Pos} (hx : PE X (.Name x px) (tVar i)) (he : PE X a (tE (X.kw ea) W F))
    (hs : PE X (.Call (.Attribute (.Name x px) "extend" pa) [a] [] pc) (tBM (X.kw ea) "list" (fun x xs H Q => rExtend x xs H Q ∨ rExtT (X.kw ea) x xs H Q) (tVar i) (tCons (tE (X.kw ea) W F) tNil)))
    (hw : swapsWith (.Call (.Attribute (.Name x px) "extend" pa) [a] [] pc) none pos.line X.env = pure false := by rfl) : PS X (.Expr (.Call (.Attribute (.Name x px) "extend" pa) [a] [] pc) pos) (tS (X.kw ea) W (sext i F)) :=
  PS_weak (ps_expr hs hw) fun D σ H ⟨H0, Hf0, Hf, e, S, p⟩ => by
    unfold sext at p
    cases q : e[i]? with
    | none => rw [q] at p; exact p.elim
    | some s =>
      rw [q] at p
      cases s with
      | own ds =>
        obtain ⟨l, xs, hv, h1, h2, h3, r⟩ := own_at S q
        refine ⟨.ref l, hv, .inl ⟨rfl, xs, SqL.of h1⟩, H0, Hf0, Hf, e, S, ?_⟩
        revert p
        show PoS (X.kw ea) W D H0 Hf0 Hf (liftE (F e) e fun d => match listN d with | some es => if ds.length + es.length ≤ many then .nx (e.set i (.own (ds ++ es))) else .bad | none => .bad) → _
        unfold liftE
        cases F e with
        | ok d =>
          show PoS (X.kw ea) W D H0 Hf0 Hf (match listN d with | some es => if ds.length + es.length ≤ many then .nx (e.set i (.own (ds ++ es))) else .bad | none => .bad) → _
          intro p v Hf1 H1 g rv
          cases hl : listN d with
          | none => rw [hl] at p; exact p.elim
          | some es =>
            rw [hl] at p
            have p : PoS (X.kw ea) W D H0 Hf0 Hf (if ds.length + es.length ≤ many then .nx (e.set i (.own (ds ++ es))) else .bad) := p
            by_cases hz : ds.length + es.length ≤ many
            · rw [if_pos hz] at p
              have nf := g.nf _ _ h1 rfl h3
              have fin : ∀ zs, RpAll (X.kw ea) Hf1 zs es → D.nx σ (upd H1 l (.lst (xs ++ zs))) := fun zs rz => p σ Hf1 _ ((S.grow g).mut q rfl hv rfl ⟨l, _, rfl, upd_same, h2, nf, (r.mono g.ff).append rz⟩) g.ff
              cases rv with
              | lst hb rb => cases hl; exact .inl ⟨l, _, xs, _, rfl, rfl, g.hh _ _ h1, g.fh _ _ hb, many_line (by rw [r.length, rb.length]; exact hz), fin _ rb⟩
              | tup hb rb => cases hl; exact .inr ⟨l, _, xs, _, rfl, rfl, g.hh _ _ h1, (hb.mono g.fh).sq, many_line (by rw [r.length, rb.length]; exact hz), fin _ rb⟩
              | _ => cases hl
            · rw [if_neg hz] at p; exact p.elim
        | ex c => exact fun p Hf1 H1 g => p σ Hf1 H1 (S.grow g) g.ff
        | bad => exact fun p => p
      | _ => exact p.elim
def putAt (i : Nat) (e : En) (ds : List D) (d : D) : D → Fl
  | .int n => match ixN ds.length n with
    | some m => .nx (e.set i (.own (ds.set m d)))
    | none => .bad
  | _ => .bad
def sput (i : Nat) (G F : En → R D) : En → Fl := fun e => liftE (F e) e fun d => match e[i]? with
  | some (.own ds) => liftE (G e) e (putAt i e ds d)
  | _ => .bad
/-- x[j] = e -/
theorem sPut {i : Nat} {x : Str} {px ps : Pos} {jx : Expr} (hs : PS X (.Assign [.Subscript (.Name x px) jx ps] a pos) (tAsg (tE (X.kw ea) W F) (gSub (tVar i) (tE (X.kw ea) W G) rSetL))) : PS X (.Assign [.Subscript (.Name x px) jx ps] a pos) (tS (X.kw ea) W (sput i G F)) :=
  PS_weak hs fun D σ H ⟨H0, Hf0, Hf, e, S, p⟩ => ⟨H0, Hf0, Hf, e, S, by
    revert p
    unfold sput
    cases F e with
    | ok d =>
      intro p v Hf1 H1 g rv
      have S1 := S.grow g
      have p : PoS (X.kw ea) W D H0 Hf0 Hf (match e[i]? with | some (.own ds) => liftE (G e) e (putAt i e ds d) | _ => .bad) := p
      have p1 := p.same g.ff
      cases q : e[i]? with
      | none => rw [q] at p1; exact p1.elim
      | some s =>
        rw [q] at p1
        cases s with
        | own ds =>
          obtain ⟨l, xs, hv, h1, h2, h3, r⟩ := own_at S1 q
          refine ⟨.ref l, hv, H0, Hf0, Hf1, e, S1, ?_⟩
          have p1 : PoS (X.kw ea) W D H0 Hf0 Hf1 (liftE (G e) e (putAt i e ds d)) := p1
          revert p1
          cases G e with
          | ok j =>
            intro p1 y Hf2 H2 g2 ry
            have p1 : PoS (X.kw ea) W D H0 Hf0 Hf1 (putAt i e ds d j) := p1
            cases ry with
            | int n =>
              have p1 : PoS (X.kw ea) W D H0 Hf0 Hf1 (match ixN ds.length n with | some m => .nx (e.set i (.own (ds.set m d))) | none => .bad) := p1
              cases hm : ixN ds.length n with
              | none => rw [hm] at p1; exact p1.elim
              | some m =>
                rw [hm] at p1
                refine ⟨l, xs, n, m, rfl, rfl, g2.hh _ _ h1, by rw [r.length]; exact hm, ?_⟩
                exact p1 σ Hf2 _ ((S1.grow g2).mut q rfl hv rfl ⟨l, _, rfl, upd_same, h2, g2.nf _ _ h1 rfl h3, (r.mono g2.ff).set (rv.mono g2.ff) m⟩) g2.ff
            | _ => exact p1.elim
          | ex c => exact fun p1 Hf2 H2 g2 => p1 σ Hf2 H2 (S1.grow g2) g2.ff
          | bad => exact fun p1 => p1
        | _ => exact p1.elim
    | ex c => exact fun p Hf1 H1 g => p σ Hf1 H1 (S.grow g) g.ff
    | bad => exact fun p => p⟩
def spopTo (i j : Nat) : En → Fl := fun e => match e[i]? with
  | some (.own ds) => match ds.getLast? with
    | some d => .nx ((e.set i (.own ds.dropLast)).set j (.dat d))
    | none => .bad
  | _ => .bad
/-! ### while -/
def whL (T : En → R Bool) (B : En → Fl) : Nat → En → Fl
  | 0, _ => .bad
  | n + 1, e => match T e with
    | .ok true => match B e with
      | .nx e2 => whL T B n e2
      | .ct e2 => whL T B n e2
      | .bk e2 => .nx e2
      | r => r
    | .ok false => .nx e
    | .ex c => .ex c e
    | .bad => .bad
def swhile (n : Nat) (T : En → R Bool) (B : En → Fl) : En → Fl := fun e => whL T B n e
theorem sWhile (n : Nat) {body : List Stmt} (hp : PassesOwn (model X.prog X.w) X.A X.env X.xe) (ht : PT X c (tT (X.kw ea) W T)) (hb : PSs X body (tS (X.kw ea) W B)) : PS X (.While c body [] pos) (tS (X.kw ea) W (swhile n T B)) :=
  PS_weak (ps_while hp ht hb) fun D σ H ⟨H0, Hf0, Hf, e, S, p⟩ => by
    refine ⟨fun m σ2 H2 => ∃ Hf2 e2, SR (X.kw ea) H0 Hf0 Hf2 H2 σ2 e2 ∧ PoS (X.kw ea) W D H0 Hf0 Hf2 (whL T B m e2), ⟨n, Hf, e, S, p⟩, ?_⟩
    rintro m σ2 H2 ⟨Hf2, e2, S2, p2⟩
    cases m with
    | zero => exact p2.elim
    | succ m =>
      refine ⟨H0, Hf0, Hf2, e2, S2, ?_⟩
      unfold whL at p2
      revert p2
      cases T e2 with
      | ok b =>
        cases b with
        | true =>
          intro p2 Hf3 H3 g3
          rw [if_pos rfl]
          have S3 := S2.grow g3
          refine ⟨fun σ4 H4 => ∃ Hf4 e4, SR (X.kw ea) H0 Hf0 Hf4 H4 σ4 e4 ∧ PoS (X.kw ea) W D H0 Hf0 Hf4 (whL T B m e4), fun σ4 H4 q => ⟨m, Nat.lt_succ_self _, q⟩, H0, Hf0, Hf3, e2, S3, ?_⟩
          have p3 := PoS.same p2 g3.ff
          revert p3
          show PoS (X.kw ea) W D H0 Hf0 Hf3 (match B e2 with | .nx e2 => whL T B m e2 | .ct e2 => whL T B m e2 | .bk e2 => .nx e2 | r => r) → _
          cases B e2 with
          | nx e4 => exact fun p3 σ5 Hf5 H5 S5 s5 => ⟨Hf5, e4, S5, p3.same s5⟩
          | ct e4 => exact fun p3 σ5 Hf5 H5 S5 s5 => ⟨Hf5, e4, S5, p3.same s5⟩
          | bk e4 => exact fun p3 => p3
          | rt d => exact fun p3 => p3
          | ex c e4 => exact fun p3 => p3
          | bad => exact fun p3 => p3
        | false =>
          intro p2 Hf3 H3 g3
          rw [if_neg Bool.false_ne_true]
          exact p2 σ2 Hf3 H3 (S2.grow g3) g3.ff
      | ex c => exact fun p2 Hf3 H3 g3 => p2 σ2 Hf3 H3 (S2.grow g3) g3.ff
      | bad => exact fun p2 => p2
/-! ### defs -/
/-- what a def promises: n arguments, what F computes -/
def spD (K : Kw) (mg : Str → Option Value) (n : Nat) (F : List D → R D) : Sp := fun vs H Q E => ∃ Hf ds, Same Hf H ∧ RpAll K Hf vs ds ∧ ds.length = n ∧ match F ds with
  | .ok d => ∀ v Hf' H', Grow Hf H Hf' H' → Rp K Hf' v d → Q v H'
  | .ex c => ∀ cv Hf' H', mg c = some cv → Grow Hf H Hf' H' → E cv none H'
  | .bad => False
theorem spD_len {K : Kw} {mg : Str → Option Value} {n : Nat} {F : List D → R D} : ∀ vs H Q E, spD K mg n F vs H Q E → vs.length = n := fun vs H Q E ⟨Hf, ds, _, r, h, _⟩ => r.length.trans h
def startE (m : Nat) (ds : List D) : En := ds.map Sl.dat ++ List.replicate (m - ds.length) .un
def runD (m : Nat) (B : En → Fl) (ds : List D) : R D := match B (startE m ds) with
  | .rt d => .ok d
  | .nx _ => .ok .none
  | .ex c _ => .ex c
  | _ => .bad
theorem SR.start {K : Kw} {Hf H : Hp} {N : List Str} {vs : List V} {ds : List D} (f : Same Hf H) (r : RpAll K Hf vs ds) : SR K H Hf Hf H (L2.start N vs) (startE N.length ds) := by
  have noown : ∀ (i : Nat) (s : Sl), (startE N.length ds)[i]? = some s → s.isOwn = false ∧ ((∃ d, ds[i]? = some d ∧ s = .dat d) ∨ s = .un) := by
    intro i s h
    unfold startE at h
    rw [List.getElem?_append] at h
    split at h
    · rw [List.getElem?_map] at h
      cases q : ds[i]? with
      | none => rw [q] at h; cases h
      | some d => rw [q] at h; cases h; exact ⟨rfl, .inl ⟨d, rfl, rfl⟩⟩
    · obtain ⟨_, h2⟩ := List.getElem?_eq_some_iff.mp h
      rw [List.getElem_replicate] at h2
      subst h2
      exact ⟨rfl, .inr rfl⟩
  refine ⟨Grow.refl f, ?_, fun i s v h1 h2 => ?_, fun i j s t a hij h1 h2 o1 => ?_⟩
  · unfold L2.start startE
    rw [List.length_append, List.length_append, List.length_map, List.length_map, List.length_replicate, List.length_replicate, r.length]
  · obtain ⟨_, h⟩ := noown i s h1
    rcases h with ⟨d, hd, rfl⟩ | rfl
    · obtain ⟨x, hx, rx⟩ := r.get hd
      unfold L2.start at h2
      have hi : i < vs.length := (List.getElem?_eq_some_iff.mp hx).1
      rw [List.getElem?_append_left (by rw [List.length_map]; exact hi), List.getElem?_map, hx] at h2
      cases h2
      exact ⟨x, rfl, rx⟩
    · trivial
  · obtain ⟨h, _⟩ := noown i s h1
    rw [h] at o1; cases o1
end
section
variable {P : Program} {w : World} {K : PySem.W.Frag} {mg : Str → Option Value} {base : Heap}
/-- the wish of a def's body -/
def wB (mg : Str → Option Value) (E : XK) : WE := fun c _ H => ∀ cv, mg c = some cv → E cv none H
/-- THE RULE for a def -/
theorem okD {x qual : Str} {st : Stmt} {f : Addr} {fd : FuncData} {N ps : List Str} {k : Nat} {B : En → Fl} (F : Fun K x qual st f fd) (S : FnScope N ps (defScope st))
    (body : ∀ (cdv : Value) (A : Around) (outer : List Env) (s : Shared) (H : Hp) (E : XK), Cz (cxOf (L2.CX P w) P w K mg base N qual (defScope st) f cdv A outer s H E) k (wB mg E) →
      PSs (cxOf (L2.CX P w) P w K mg base N qual (defScope st) f cdv A outer s H E) (defBody st) (tS ⟨K, w, 0⟩ (wB mg E) B)) :
    FnOk P w K mg base (L2.CX P w) (k + 1) f fd ps (spD ⟨K, w, 0⟩ mg ps.length (runD N.length B)) := by
  refine F.okX S spD_len fun cdv A outer s H vs Q E hr h => ?_
  refine ⟨_, body cdv A outer s H E ⟨rfl, S.nd, ?_, passes_of rfl, hr⟩, ?_⟩
  · refine Takes.imp (takes_of (X := cxOf (L2.CX P w) P w K mg base N qual (defScope st) f cdv A outer s H E) (E := E) rfl rfl rfl rfl) fun cls d σ H' q => ?_
    obtain ⟨rfl, c, hc, q⟩ := q
    exact q cls hc
  · obtain ⟨Hf, ds, sm, r, hn, q⟩ := h
    refine ⟨H, Hf, Hf, startE N.length ds, SR.start sm r, ?_⟩
    revert q
    unfold runD
    cases B (startE N.length ds) with
    | nx e => exact fun q σ Hf' H' S' _ => q .non Hf' H' S'.gr .non
    | rt d => exact fun q => q
    | bk e => exact fun q => q.elim
    | ct e => exact fun q => q.elim
    | ex c e => exact fun q σ Hf' H' S' _ cv hc => q cv Hf' H' hc S'.gr
    | bad => exact fun q => q
end
section
variable {X : Cx} {k j : Nat} {W : WE} {a : Expr} {es : List Expr} {L : En → R (List D)} {pos p : Pos} {x : Str} {f : Addr} {fd : FuncData} {ps : List Str} {Fn : List D → R D}
def xcall (n : Nat) (Fn : List D → R D) (L : En → R (List D)) : En → R D := fun e => (L e).bind fun ds => if ds.length = n then Fn ds else .bad
/-- f(e, ..) -/
theorem xCall (z : Cz X k W) (G : FnOk X.prog X.w (X.kw ea) X.mg X.base (L2.CX X.prog X.w) j f fd ps (spD (X.kw ea) X.mg ps.length Fn)) (hj : j ≤ k) (hg : Gl X x) (hm : X.mg x = some (.ref f)) (hk : PySem.W.keepIn (X.kw ea) (.ref f) = true) (hb : Binds (X.kw ea) fd ps []) (ha : PA X (a :: es) (tA (X.kw ea) W L))
    (hdb : (x == ("__debug__" : Str)) = false := by decide) (he : starEach (a :: es) X.env = (false, eval a X.env) :: starEach es X.env := by rfl) (hpl : (backTo pos (starEach es X.env)).any (·.1) = false := by rfl) : PE X (.Call (.Name x p) (a :: es) [] pos) (tE (X.kw ea) W (xcall ps.length Fn L)) :=
  PE_weak (pe_callSD (dvs := []) (ds := []) (E := fun σ cls d H => wx X.mg W cls d σ H) G (z.rm.mono hj) hg hm hk hb .nil (fun σ => passAt z.tk σ) ha hdb he hpl) fun σ H Q ⟨H0, Hf0, Hf, e, S, q⟩ => ⟨H0, Hf0, Hf, e, S, q.bindA.mono fun vs H1 ⟨Hf1, ds, g, r, q1⟩ => by
    rw [List.append_nil]
    by_cases hn : ds.length = ps.length
    · rw [if_pos hn] at q1
      refine ⟨Hf1, ds, g.fh, r, hn, ?_⟩
      revert q1
      cases Fn ds with
      | ok d => exact fun q1 => q1
      | ex c => exact fun q1 cv Hf' H' hc g' => ⟨rfl, c, hc, q1 Hf' H' g'⟩
      | bad => exact fun q1 => q1
    · rw [if_neg hn] at q1; exact q1.elim⟩
theorem xCall0 (z : Cz X k W) (G : FnOk X.prog X.w (X.kw ea) X.mg X.base (L2.CX X.prog X.w) j f fd ps (spD (X.kw ea) X.mg ps.length Fn)) (hj : j ≤ k) (hg : Gl X x) (hm : X.mg x = some (.ref f)) (hk : PySem.W.keepIn (X.kw ea) (.ref f) = true) (hb : Binds (X.kw ea) fd ps [])
    (hdb : (x == ("__debug__" : Str)) = false := by decide) : PE X (.Call (.Name x p) [] [] pos) (tE (X.kw ea) W (xcall ps.length Fn lnil)) := by
  refine ⟨fun pins s σ H Q I h => ?_⟩
  refine wpAny_Call_Name_kw (ld_glob I hg hm ?_ hdb)
  obtain ⟨H0, Hf0, Hf, e, S, q⟩ := h
  have q : Po (ERp (X.kw ea)) W Q σ Hf H (if ([] : List D).length = ps.length then Fn [] else .bad) := q
  by_cases hn : ([] : List D).length = ps.length
  · rw [if_pos hn] at q
    refine PySem.W.callWith_K0 I.kIn hk (run_fnSD (E := fun σ cls d H => wx X.mg W cls d σ H) (dvs := []) (ds := []) (us := []) (vs := []) G (z.rm.mono hj) hb .nil (passAt z.tk σ) I .nil ⟨Hf, [], S.gr.fh, .nil, hn, ?_⟩)
    revert q
    cases Fn [] with
    | ok d => exact fun q1 => q1
    | ex c => exact fun q1 cv Hf' H' hc g' => ⟨rfl, c, hc, q1 Hf' H' g'⟩
    | bad => exact fun q1 => q1
  · rw [if_neg hn] at q; exact q.elim
/-- flat data refers to nothing -/
def flatD : D → Bool
  | .none => true
  | .bool _ => true
  | .int _ => true
  | .str _ => true
  | _ => false
theorem Rp.flat {K : Kw} {H H' : Hp} {v : V} {d : D} (r : Rp K H v d) (h : flatD d = true) : Rp K H' v d := by
  cases r with
  | non => exact .non
  | bl b => exact .bl b
  | int i => exact .int i
  | str x => exact .str x
  | _ => cases h
def xcallV (n : Nat) (Fn : List D → R D) (L : En → R (List D)) : En → R D := fun e => (L e).bind fun ds => if ds.length = n then match Fn ds with
  | .ok d => if flatD d then .ok d else .bad
  | .ex c => .ex c
  | .bad => .bad else .bad
theorem VAll.full {K : Kw} {Hf H : Hp} (f : Same Hf H) : ∀ {vs : List V} {ds : List D}, VAll K Hf H vs ds → RpAll K H vs ds
  | _, _, .nil => .nil
  | _, _, .cons h t => .cons (h.full f) (VAll.full f t)
/-- f(e, ..) with lists of one's own lent; what comes is flat -/
theorem xCallV (z : Cz X k W) (G : FnOk X.prog X.w (X.kw ea) X.mg X.base (L2.CX X.prog X.w) j f fd ps (spD (X.kw ea) X.mg ps.length Fn)) (hj : j ≤ k) (hg : Gl X x) (hm : X.mg x = some (.ref f)) (hk : PySem.W.keepIn (X.kw ea) (.ref f) = true) (hb : Binds (X.kw ea) fd ps []) (ha : PA X (a :: es) (tAV (X.kw ea) W L))
    (hdb : (x == ("__debug__" : Str)) = false := by decide) (he : starEach (a :: es) X.env = (false, eval a X.env) :: starEach es X.env := by rfl) (hpl : (backTo pos (starEach es X.env)).any (·.1) = false := by rfl) : PE X (.Call (.Name x p) (a :: es) [] pos) (tE (X.kw ea) W (xcallV ps.length Fn L)) :=
  PE_weak (pe_callSD (dvs := []) (ds := []) (E := fun σ cls d H => wx X.mg W cls d σ H) G (z.rm.mono hj) hg hm hk hb .nil (fun σ => passAt z.tk σ) ha hdb he hpl) fun σ H Q ⟨H0, Hf0, Hf, e, S, q⟩ => ⟨H0, Hf0, Hf, e, S, q.bindA.mono fun vs H1 ⟨Hf1, ds, g, r, q1⟩ => by
    rw [List.append_nil]
    by_cases hn : ds.length = ps.length
    · rw [if_pos hn] at q1
      have r1 := r.full g.fh
      refine ⟨H1, ds, Same.refl _, r1, hn, ?_⟩
      have lift : ∀ {Hf' H' : Hp}, Grow H1 H1 Hf' H' → Grow Hf1 H1 Hf1 H' := fun gg => ⟨gg.hh, Same.refl _, g.fh.trans gg.hh, fun _ _ _ _ n => n⟩
      revert q1
      cases Fn ds with
      | ok d =>
        show Po (ERp (X.kw ea)) W Q σ Hf1 H1 (if flatD d then .ok d else .bad) → _
        intro q1 v Hf' H' g' rv
        by_cases hf : flatD d = true
        · rw [if_pos hf] at q1
          exact q1 v Hf1 H' (lift g') (rv.flat hf)
        · rw [if_neg hf] at q1; exact q1.elim
      | ex c => exact fun q1 cv Hf' H' hc g' => ⟨rfl, c, hc, q1 Hf1 H' (lift g')⟩
      | bad => exact fun q1 => q1
    · rw [if_neg hn] at q1; exact q1.elim⟩
end
end Pu
/-! PuK: sorted -/
namespace Pu
open PySem L2
def leS : D → D → Bool := PySem.W.dataLe false id
def isIntD : D → Bool
  | .int _ => true
  | _ => false
def isTupD : D → Bool
  | .tuple (x :: r) => (x :: r).all isIntD
  | _ => false
def sortable (ds : List D) : Bool := ds.all isIntD || ds.all isTupD
def sortD (ds : List D) : Option (List D) := if sortable ds && decide (ds.length ≤ many) then some (ds.mergeSort leS) else none
theorem alikeAll_ints : ∀ (xs ys : List D), xs.all isIntD = true → ys.all isIntD = true → PySem.W.alikeAll xs ys = true
  | [], _, _, _ => by unfold PySem.W.alikeAll; rfl
  | x :: xs, [], _, _ => by unfold PySem.W.alikeAll; rfl
  | x :: xs, y :: ys, h1, h2 => by
    rw [List.all_cons, Bool.and_eq_true] at h1 h2
    unfold PySem.W.alikeAll
    rw [alikeAll_ints xs ys h1.2 h2.2, Bool.and_true]
    cases x with
    | int i => cases y with
      | int j => unfold PySem.W.alike; rfl
      | _ => cases h2.1
    | _ => cases h1.1
theorem sortable_alike {ds : List D} (h : sortable ds = true) : PySem.W.AllAlike ds ∧ PySem.W.Sortable ds ∧ (∀ d ∈ ds, d.depth ≤ 1) ∧ ∀ d ∈ ds, d.canLay0 = true := by
  have layI : ∀ xs : List D, xs.all isIntD = true → PyData.canLayAll0 xs = true ∧ PyData.depthAll xs = 0 := by
    intro xs
    induction xs with
    | nil => intro _; exact ⟨by unfold PyData.canLayAll0; rfl, by unfold PyData.depthAll; rfl⟩
    | cons x xs ih =>
      intro h
      rw [List.all_cons, Bool.and_eq_true] at h
      cases x with
      | int i =>
        obtain ⟨a, b⟩ := ih h.2
        exact ⟨by simp [PyData.canLayAll0, PyData.canLay0, a], by simp [PyData.depthAll, PyData.depth, b]⟩
      | _ => cases h.1
  unfold sortable at h
  rw [Bool.or_eq_true] at h
  rcases h with h | h
  · rw [List.all_eq_true] at h
    refine ⟨fun d hd d' hd' => ?_, .inr fun d hd => ?_, fun d hd => ?_, fun d hd => ?_⟩
    · have a := h d hd
      have b := h d' hd'
      cases d with
      | int i => cases d' with
        | int j => unfold PySem.W.alike; rfl
        | _ => cases b
      | _ => cases a
    · have a := h d hd
      cases d with
      | int i => exact ⟨fun z => (by cases z), fun xs z => (by cases z)⟩
      | _ => cases a
    · have a := h d hd
      cases d with
      | int i => simp [PyData.depth]
      | _ => cases a
    · have a := h d hd
      cases d with
      | int i => simp [PyData.canLay0]
      | _ => cases a
  · rw [List.all_eq_true] at h
    have sh : ∀ d ∈ ds, ∃ x r, d = .tuple (x :: r) ∧ (x :: r).all isIntD = true := fun d hd => by
      have a := h d hd
      cases d with
      | tuple xs => cases xs with
        | nil => cases a
        | cons x r => exact ⟨x, r, rfl, a⟩
      | _ => cases a
    refine ⟨fun d hd d' hd' => ?_, .inl fun d hd => ?_, fun d hd => ?_, fun d hd => ?_⟩
    · obtain ⟨x, r, rfl, a⟩ := sh d hd
      obtain ⟨y, s, rfl, b⟩ := sh d' hd'
      unfold PySem.W.alike
      exact alikeAll_ints _ _ a b
    · obtain ⟨x, r, rfl, a⟩ := sh d hd
      exact ⟨x, r, rfl⟩
    · obtain ⟨x, r, rfl, a⟩ := sh d hd
      simp [PyData.depth, (layI _ a).2]
    · obtain ⟨x, r, rfl, a⟩ := sh d hd
      simp [PyData.canLay0, (layI _ a).1]
open PySem.W in
/-- values and what they stand for, paired -/
theorem each_of {K : Kw} {H : Hp} : ∀ {vs : List V} {us : List Value} {ds : List D}, Vals vs us → RpAll K H vs ds → EachIs (fun u (b : V × D) => RelV b.1 u) us (vs.zip ds)
  | _, _, _, .nil, .nil => .nil
  | _, _, _, .cons r t, .cons _ t' => .cons r (each_of t t')
open PySem.W in
theorem each_reads {X : Cx} {pins : List (Addr × Obj)} {σ : L2.St} {H : Hp} {s : Shared} (I : L2.Inv X pins σ H s) : ∀ {vs : List V} {us : List Value} {ds : List D}, Vals vs us → RpAll (X.kw ea) H vs ds → (∀ d ∈ ds, d.canLay0 = true) → EachIs (fun u (b : V × D) => ∃ as, Reads s.heap u b.2 as) us (vs.zip ds)
  | _, _, _, .nil, .nil, _ => .nil
  | _, _, _, .cons r t, .cons q t', h => .cons (Dp.reads I _ _ _ (q.dp (h _ List.mem_cons_self)) r) (each_reads I t t' fun d hd => h d (List.mem_cons_of_mem _ hd))
open PySem.W in
theorem of_each {K : Kw} {H : Hp} : ∀ {us : List Value} {bs : List (V × D)}, EachIs (fun u (b : V × D) => RelV b.1 u) us bs → (∀ b ∈ bs, Rp K H b.1 b.2) → Vals (bs.map (·.1)) us ∧ RpAll K H (bs.map (·.1)) (bs.map (·.2))
  | _, _, .nil, _ => ⟨.nil, .nil⟩
  | _, _, .cons r t, h => ⟨.cons r (of_each t fun b hb => h b (List.mem_cons_of_mem _ hb)).1, .cons (h _ List.mem_cons_self) (of_each t fun b hb => h b (List.mem_cons_of_mem _ hb)).2⟩
theorem zip_snd {K : Kw} {H : Hp} : ∀ {vs : List V} {ds : List D}, RpAll K H vs ds → (vs.zip ds).map (·.2) = ds
  | _, _, .nil => rfl
  | _, _, .cons _ t => by rw [List.zip_cons_cons, List.map_cons, zip_snd t]
theorem zip_rp {K : Kw} {H : Hp} : ∀ {vs : List V} {ds : List D}, RpAll K H vs ds → ∀ b ∈ vs.zip ds, Rp K H b.1 b.2
  | _, _, .nil, b, hb => by cases hb
  | _, _, .cons r t, b, hb => by
    rw [List.zip_cons_cons] at hb
    rcases List.mem_cons.mp hb with rfl | hb
    · exact r
    · exact zip_rp t b hb
section
variable {X : Cx}
open PySem.W PyProof.Rows in
/-- sorted(v): what collect gives of v is laid in a new list, and that is put in order -/
theorem sorted_by {P : Program} {w : World} {A : Around} {E : Value → Shared → Prop} {s : Shared} {v : Value} {Q : Value → Shared → Prop}
    (h : wpAny (model P w) A.in1 (collect v) (fun us s1 => us.length ≤ sizeLine ∧ ∃ κ : KeyKind, SortsAt P w A.in1.in1 { s1 with heap := sortingHeap (s1.heap.push (seqObj "list" us.toArray 0)) s1.heap.objs.size us } κ us ∧
      Q (.ref s1.heap.objs.size) { s1 with heap := sortedHeap (s1.heap.push (seqObj "list" us.toArray 0)) s1.heap.objs.size us (sortVals κ false us us).toArray }) E s) :
    wpAny (model P w) A (call (.builtin "sorted") [v]) Q E s := by
  apply Calls.call_function_entry kind_sorted plain_sorted entry_sorted (args_sorted1 v)
  show wpAny _ _ (checkCount "sorted" 1 1 _ >>= _) _ _ _
  apply wpAny_bind
  apply wpAny_pure
  apply wpAny_bind
  refine thn h fun us s1 ⟨hz, κ, srt, q⟩ => wpAny_bind (wpAny_newList ?_ hz)
  have at0 : (s1.heap.push (seqObj "list" us.toArray 0)).get? s1.heap.objs.size = some (seqObj "list" us.toArray 0) := Heap.get?_push_size _ rfl
  have isL : Shared.TypeIs { s1 with heap := s1.heap.push (seqObj "list" us.toArray 0) } (.ref s1.heap.objs.size) "list" := ⟨_, at0, rfl⟩
  have put := fun Z (y : Z (.done (.ret .none)) _) => list_sort_vals (s := { s1 with heap := s1.heap.push (seqObj "list" us.toArray 0) }) (P := Z) (E := E) at0 srt hz y
  exact wpAny_bind (wpAny_holding (wpAny_call_entry slot_list_sort isL entry_list_sort (put _ ⟨_, rfl, wpAny_pure ⟨_, rfl, q⟩⟩) (args_list_sort _)))
open PySem.W PyProof.Rows in
/-- sorted(..) of whatever collect gives -/
theorem sorted_src {pins : List (Addr × Obj)} {s : Shared} {σ : L2.St} {Hf H : Hp} {Q : VK} {k : Nat} {v : Value} {vs : List V} {ds : List D} (I : L2.Inv X pins σ H s) (hr : Room k X.A) (f : Same Hf H) (r : RpAll (X.kw ea) Hf vs ds) (hs : sortable ds = true) (hl : ds.length ≤ many)
    (hcol : ∀ (R : List Value → Shared → Prop) (E : Value → Shared → Prop), (∀ (h' : Heap) (tk : Nat) (acc : List Value), (∀ b o, s.heap.get? b = some o → h'.get? b = some o) → Vals vs acc → R acc { s with heap := h', toks := tk }) → wpAny (model X.prog X.w) X.A.in1 (collect v) R E s)
    (q : ∀ p xs Hf' H', Grow Hf H Hf' H' → H p = none → Hf' p = none → H' p = some (.lst xs) → RpAll (X.kw ea) Hf' xs (ds.mergeSort leS) → Q (.ref p) H') :
    wpAny (model X.prog X.w) X.A (call (.builtin "sorted") [v]) (EP X pins σ Q) X.xe s := by
  obtain ⟨hal, hso, hdp, hly⟩ := sortable_alike hs
  refine sorted_by (hcol _ _ fun g tk us kp rv => ?_)
  have I1 : L2.Inv X pins σ H { s with heap := g, toks := tk } := I.kept kp
  have hlen : us.length ≤ sizeLine := by rw [← rv.length, r.length]; exact many_line hl
  have snd : (vs.zip ds).map (fun b : V × D => b.2) = ds := zip_snd r
  have at0 : (g.push (seqObj "list" us.toArray 0)).get? g.objs.size = some (seqObj "list" us.toArray 0) := Heap.get?_push_size _ rfl
  have er : EachIs (fun u (b : V × D) => ∃ as, Reads (sortingHeap (g.push (seqObj "list" us.toArray 0)) g.objs.size us) u b.2 as) us (vs.zip ds) :=
    (each_reads I1 rv (r.mono f) hly).mono fun _ _ ⟨as, rr⟩ => ⟨as, PyProof.Rows.Reads.keeps (fun b o e => sortingHeap_old (Nat.ne_of_lt (Heap.lt_size e)) (Heap.get?_push_of_some _ e)) rr⟩
  have al : AllAlike ((vs.zip ds).map (fun b : V × D => b.2)) := by rw [snd]; exact hal
  have so : Sortable ((vs.zip ds).map (fun b : V × D => b.2)) := by rw [snd]; exact hso
  refine ⟨hlen, dataKind (sortingHeap (g.push (seqObj "list" us.toArray 0)) g.objs.size us) ((vs.zip ds).map (fun b : V × D => b.2)), SortsAt.data (s := { s with heap := sortingHeap (g.push (seqObj "list" us.toArray 0)) g.objs.size us, toks := tk }) (each_map (R := fun v d => ∃ as, Reads (sortingHeap (g.push (seqObj "list" us.toArray 0)) g.objs.size us) v d as) (fun b : V × D => b.2) er) al so (fun d hd => ?_), ?_⟩
  · rw [snd] at hd
    have deep := hdp d hd
    have un := hr.un
    show X.A.units + 1 + 1 + d.depth < cLine
    omega
  · have eo := sortVals_data false (each_of (K := (X.kw ea)) (H := Hf) rv r) er al
    have perm : ((vs.zip ds).mergeSort (dataLe false (fun b : V × D => b.2))).Perm (vs.zip ds) := List.mergeSort_perm _ _
    obtain ⟨ov, orp⟩ := of_each (K := (X.kw ea)) (H := Hf) eo fun b hb => zip_rp r b (perm.mem_iff.mp hb)
    have em : ((vs.zip ds).mergeSort (dataLe false (fun b : V × D => b.2))).map (fun b : V × D => b.2) = ds.mergeSort leS := by
      rw [List.map_mergeSort (r := dataLe false (fun b : V × D => b.2)) (s := leS) (f := fun b : V × D => b.2) (l := vs.zip ds) (fun a _ b _ => rfl), snd]
    rw [em] at orp
    obtain ⟨n, atN⟩ := sortedHeap_at (vs := us) (out := (sortVals (dataKind (sortingHeap (g.push (seqObj "list" us.toArray 0)) g.objs.size us) ((vs.zip ds).map (fun b : V × D => b.2))) false us us).toArray) at0
    have zl : (((vs.zip ds).mergeSort (dataLe false (fun b : V × D => b.2))).map (fun b : V × D => b.1)).length ≤ sizeLine := by
      rw [orp.length, List.length_mergeSort]
      exact many_line hl
    have free : H g.objs.size = none := I1.hok.fresh (Nat.le_refl _)
    have kept : ∀ b o, g.get? b = some o → (sortedHeap (g.push (seqObj "list" us.toArray 0)) g.objs.size us (sortVals (dataKind (sortingHeap (g.push (seqObj "list" us.toArray 0)) g.objs.size us) ((vs.zip ds).map (fun b : V × D => b.2))) false us us).toArray).get? b = some o := fun b o e =>
      (sortedHeap_old (Nat.ne_of_lt (Heap.lt_size e)) (size_push' .. ▸ Nat.lt_succ_of_lt (Heap.lt_size e))).trans (Heap.get?_push_of_some _ e)
    exact ⟨.ref g.objs.size, _, I1.laid (t' := tk) (o := .lst (((vs.zip ds).mergeSort (dataLe false (fun b : V × D => b.2))).map (fun b : V × D => b.1))) kept (Nat.le_refl _) ⟨zl, _, n, ov, atN⟩, rfl, q _ _ Hf _ (Grow.lay f free) free (f.free free) upd_same orp⟩
end
end Pu
/-! PuL0: set(..) of a list -/
namespace Pu
open PySem PySem.Spec PyProof.Rows
/-- a built-in class is called: what its new makes, its init fills -/
theorem call_class {P : Program} {w : World} {A : Around} {E : Value → Shared → Prop} {s : Shared} {T newId initId : String} {args : List Value} {Q Q1 : Value → Shared → Prop} (ft : TypeCalled T newId initId) (ok : checkTypeCall T ⟨args, []⟩ = pure ())
    (hn : ∀ A' : Around, codeAny (model P w) A' (.call (.builtin newId) ⟨.type T :: args, []⟩) (wants Q1 E) s)
    (hi : ∀ (A' : Around) (x : Value) (s1 : Shared), A'.handled = A.handled → A'.units ≤ A.units + 1 → Q1 x s1 → s1.TypeIs x T ∧ codeAny (model P w) A' (.call (.builtin initId) ⟨x :: args, []⟩) (wants (fun r s2 => r = .none ∧ Q x s2) E) s1) :
    wpAny (model P w) A (call (.type T) args) Q E s := by
  have f1 := ft.made
  have f2 := ft.sub
  have f3 := ft.notType
  have f4 := ft.canCreate
  have f5 := ft.init.lookup
  have f6 := ft.init.bind
  obtain ⟨c, tl, f0⟩ := ft.mro
  have quiet : (Code.builtin "type.__call__" ⟨Value.type T :: args, []⟩).quiet = true := Code.quiet_builtin _ (by decide +kernel)
  apply wpAny_call
  apply codeAny_of_tree
  show wpAny _ _ (callAny (.type T) _) _ _ _
  refine wpAny_pure ⟨quiet, ?_⟩
  apply codeAny_builtin F.entry_type_call
  rw [Around.under_plain (weight_type_call_type T args []) rfl]
  repeat (any_goals (first | assumption | wp_step))
  refine codeAny_mono (hn _) fun r s1 hr => ?_
  match r, hr with
  | .error e, hr => exact hr
  | .ok (.ret x), hr =>
    obtain ⟨ty, run⟩ := hi A.in1 x s1 (by simp) (Nat.le_refl _) hr
    have f6x := f6 x
    repeat (any_goals (first | assumption | wp_step))
    refine codeAny_mono run fun r2 s2 h2 => ?_
    match r2, h2 with
    | .error e, h2 => exact h2
    | .ok (.ret y), h2 =>
      obtain ⟨y0, q⟩ := h2
      subst y0
      repeat (any_goals (first | exact q | wp_step))
/-- a new set; a new iterator of the list at l -/
abbrev set0 (w : World) : Obj := { cls := .type "set", dict := none, data := .set #[] 0 (.fresh 0 0 (!w.params.followText "set-order")) }
abbrev lit0 (l : Addr) : Obj := { cls := .type "list_iterator", data := .fields #[.ref l, .int 0 0] }
abbrev setOn (w : World) (h : Heap) (l : Addr) : Heap := (h.push (set0 w)).push (lit0 l)
/-- set(l), l a list: the set's loop over a new iterator -/
theorem setOf_list {P : Program} {w : World} {A : Around} {E : Value → Shared → Prop} {s : Shared} {l : Addr} {us : Array Value} {Q : Value → Shared → Prop} (hl : s.heap.IsList l us)
    (loop : ∀ A' : Around, A'.handled = A.handled → A'.units ≤ A.units + 3 → codeAny (model P w) A' (.builtin "set.update.loop" ⟨[.ref s.heap.objs.size, .ref (s.heap.objs.size + 1)], []⟩) (fun r s2 => r = .ok (.ret .none) ∧ Q (.ref s.heap.objs.size) s2) { s with heap := setOn w s.heap l }) :
    wpAny (model P w) A (call (.type "set") [.ref l]) Q E s := by
  refine call_class (Q1 := fun x s1 => x = .ref s.heap.objs.size ∧ s1 = { s with heap := s.heap.push (set0 w) }) F.called_set (F.typeCall_set_1 _) (fun A' => L2.code_set_led1 _ ⟨rfl, rfl⟩) fun A' x s1 hA' uA' ⟨ex, e1⟩ => ?_
  subst ex e1
  have at0 : (s.heap.push (set0 w)).get? s.heap.objs.size = some (set0 w) := Heap.get?_push_size _ rfl
  have ty : Shared.TypeIs { s with heap := s.heap.push (set0 w) } (.ref s.heap.objs.size) "set" := ⟨_, at0, rfl⟩
  have hl1 : (s.heap.push (set0 w)).IsList l us := hl.push _
  refine ⟨ty, codeAny_call_builtin F.called_set.init.plain F.entry_set_init (check_set_init_1 ty ?_)⟩
  obtain ⟨⟨cl, dd, da, sl⟩, gl, ec, n, ed⟩ := id hl1
  obtain rfl : cl = .type "list" := ec
  obtain rfl : da = .seq us n := ed
  have n1 := F.sub_list_set
  have n2 := F.sub_list_frozenset
  have n3 : (Value.type "list" == Value.type "dict") = false := by decide
  unfold Builtin.«set.__init__» noKeywords Builtin.Frozenset.updateFrom
  generalize eP : pyIter = pI
  wp_walk
  subst eP
  apply wpAny_pyIter_list hl1
  apply wpAny_bind
  apply wpAny_runValue
  have sz : (s.heap.push (set0 w)).objs.size = s.heap.objs.size + 1 := Heap.size_push ..
  rw [sz]
  refine codeAny_mono (loop _ (by simp [hA']) (by have := uA'; show A'.units + 1 ≤ A.units + 3; omega)) fun r s2 ⟨er, q⟩ => ?_
  subst er
  exact wpAny_pure (wpAny_pure ⟨rfl, q⟩)
/-- set(l), l a list of ints -/
theorem set_ints {P : Program} {w : World} {A : Around} {E : Value → Shared → Prop} {s : Shared} {l : Addr} {us : Array Value} {ns : List Int} {Q : Value → Shared → Prop} (hh : A.handled = none) (hl : s.heap.IsList l us) (hi : IntsAre us.toList ns) (hb : ns.length + 1 < scanBound)
    (h : ∀ (h' : Heap) (tk c : Nat), L2.SetR w h' s.heap.objs.size (fun j => decide (j ∈ ns)) c → c ≤ ns.length → (∀ b o, s.heap.get? b = some o → h'.get? b = some o) → Q (.ref s.heap.objs.size) { s with heap := h', toks := tk }) :
    wpAny (model P w) A (call (.type "set") [.ref l]) Q E s := by
  have len : us.size = ns.length := (Array.length_toList (xs := us)).symm.trans hi.length
  have ll : l < s.heap.objs.size := let ⟨_, g, _⟩ := hl; Heap.lt_size g
  have sz : (s.heap.push (set0 w)).objs.size = s.heap.objs.size + 1 := Heap.size_push ..
  have ne : l ≠ s.heap.objs.size + 1 := Nat.ne_of_lt (Nat.lt_succ_of_lt ll)
  have at0 : (setOn w s.heap l).get? s.heap.objs.size = some (set0 w) := Heap.get?_push_of_some _ (Heap.get?_push_size _ rfl)
  have at1 : (setOn w s.heap l).get? (s.heap.objs.size + 1) = some (lit0 l) := sz ▸ Heap.get?_push_size _ rfl
  have kp : ∀ b o, s.heap.get? b = some o → (setOn w s.heap l).get? b = some o := fun b o g => Heap.get?_push_of_some _ (Heap.get?_push_of_some _ g)
  have item : ∀ (i : Nat) (v : Value), us[i]? = some v → ∃ k t, ns[i]? = some k ∧ v = .int k t := fun i v g => by
    have gi : us.toList[i]? = some v := by rw [Array.getElem?_toList]; exact g
    obtain ⟨t, e⟩ := IntsAre.int_at hi i v gi
    have lt : i < ns.length := by rw [← len]; exact (Array.getElem?_eq_some_iff.mp g).1
    exact ⟨ns[i], t, List.getElem?_eq_getElem lt, by rw [e, List.getD_eq_getElem?_getD, List.getElem?_eq_getElem lt]; rfl⟩
  refine setOf_list hl fun A' hA _ => ?_
  have W := (Walks.list (prog := P) (w := w) (A := A'.in1) (by simp [hA, hh]) (s.heap.objs.size + 1) l ne us).toS
  have own : s.heap.objs.size ∉ [s.heap.objs.size + 1, l] := fun m => (List.mem_cons.mp m).elim (fun e => Nat.succ_ne_self _ e.symm) fun m => Nat.ne_of_gt ll (List.mem_singleton.mp m)
  refine L2.set_update_ints W s.heap.objs.size own ns len hb item us.size 0 _ rfl (Nat.zero_le _) ⟨⟨_, at1, rfl, rfl⟩, hl.at fun o g => kp l o g⟩ ⟨0, Nat.le_refl 0, L2.setR_new_at at0⟩ fun s2 c mv hc R => ⟨rfl, ?_⟩
  have more := h s2.heap s2.toks c R (len ▸ hc) fun b o g => mv.heap b o (fun m => by
    have lt := Heap.lt_size g
    rcases List.mem_cons.mp m with e | m
    · exact Nat.ne_of_lt lt e
    · exact Nat.ne_of_lt (Nat.lt_succ_of_lt lt) (List.mem_singleton.mp m)) (kp b o g)
  have es : s2 = { s with heap := s2.heap, toks := s2.toks } := by
    cases s2
    have e1 := mv.gens
    have e2 := mv.drawn
    have e3 := mv.os
    cases e1
    cases e2
    cases e3
    rfl
  rw [es]
  exact more
end Pu
/-! PuL: sorted of lists, tuples, dicts, sets of ints; isinstance; dicts; counts -/
namespace Pu
open PySem L2
def kvKeys (kvs : List (D × D)) : List D := kvs.map (·.1)
def sortN : D → Option (List D)
  | .list ds => sortD ds
  | .tuple ds => sortD ds
  | .dict kvs => sortD (kvKeys kvs)
  | _ => none
theorem sortD_of {ds z : List D} (h : sortD ds = some z) : sortable ds = true ∧ ds.length ≤ many ∧ z = ds.mergeSort leS := by
  unfold sortD at h
  split at h
  · rename_i hh
    rw [Bool.and_eq_true] at hh
    cases h
    exact ⟨hh.1, of_decide_eq_true hh.2, rfl⟩
  · cases h
theorem sortable_no {kvs : List (D × D)} (h : sortable (kvKeys kvs) = true) : ∀ z l, kvs ≠ (.none, z) :: l := fun z l e => by
  subst e
  exact absurd h (by simp [kvKeys, sortable, isIntD, isTupD])
/-- the keys of a dict -/
theorem RpDct.keys {K : Kw} {H : Hp} : ∀ {xs : List (NestedKey × Addr × Value)} {kvs : List (D × D)}, RpDct K H xs kvs → RpAll K H ((xs.map fun x => x.2.1).map V.ref) (kvKeys kvs)
  | _, _, .nil => .nil
  | _, _, .cons _ _ h _ _ t => .cons h (RpDct.keys t)
theorem RpDct.length {K : Kw} {H : Hp} : ∀ {xs : List (NestedKey × Addr × Value)} {kvs : List (D × D)}, RpDct K H xs kvs → xs.length = kvs.length
  | _, _, .nil => rfl
  | _, _, .cons _ _ _ _ _ t => by rw [List.length_cons, List.length_cons, RpDct.length t]
/-- the keys that a dict's entries hold -/
theorem keys_of {w : World} {es : Array DictEntry} {ks : List (NestedKey × Addr × Value)} {acc : Array Value} (he : es.toList = ks.map (entW w)) (hl : acc.size = es.size) (hk : ∀ (j : Nat) (v : Value), acc[j]? = some v → ∃ en, es[j]? = some en ∧ v = en.key) : acc.toList = (ks.map fun x => x.2.1).map Value.ref := by
  have n0 : es.size = ks.length := by rw [← Array.length_toList, he, List.length_map]
  refine List.ext_getElem (by simp [hl, n0]) fun j h1 h2 => ?_
  have h1' : j < acc.size := h1
  have h3 : j < ks.length := by simpa using h2
  obtain ⟨en, g, e⟩ := hk j acc[j] (Array.getElem?_eq_getElem h1')
  rw [← Array.getElem?_toList, he, List.getElem?_map, List.getElem?_eq_getElem h3] at g
  obtain rfl : entW w ks[j] = en := Option.some.inj g
  rw [Array.getElem_toList, e, List.getElem_map, List.getElem_map]
  rfl
section
variable {X : Cx} {W : WE} {a b c : Expr} {F G : En → R D} {pos : Pos}
open PyProof.Rows in
theorem call_sortedB {k : Nat} (hc : X.calm = true) (hr : Room k X.A) : CallR X (.builtin "sorted") (rC1N (X.kw ea) (VRp (X.kw ea)) sortN) := by
  intro pins s σ H xs us Q I r ⟨x, Hf, dx, z, ex, f, hx, ez, q⟩
  subst ex
  obtain ⟨u, rfl, rx⟩ := r.one
  cases dx with
  | list ds =>
    obtain ⟨hs, hl, rfl⟩ := sortD_of ez
    obtain ⟨a, ys, rfl, ha, ra⟩ := hx.list f
    cases rx
    obtain ⟨its, rv, p, hz⟩ := I.list (SqL.of ha)
    exact sorted_src I hr f ra hs hl (fun R E h => let ⟨o, n, g, ec, _, ed⟩ := p; wpAny_collect_seq a (.inl rfl) g ec ed (fun g' kp => h g' s.toks its kp rv) (by rw [List.size_toArray, ← rv.length]; exact hz)) q
  | tuple ds =>
    obtain ⟨hs, hl, rfl⟩ := sortD_of ez
    obtain ⟨a, ys, rfl, ha, ra⟩ := hx.tuple f
    cases rx
    obtain ⟨its, rv, p, hz⟩ := I.tuple ha.sq
    exact sorted_src I hr f ra hs hl (fun R E h => let ⟨o, g, ec, n, ed⟩ := p; wpAny_collect_seq a (.inr rfl) g ec ed (fun g' kp => h g' s.toks its kp rv) (by rw [List.size_toArray, ← rv.length]; exact hz)) q
  | dict kvs =>
    obtain ⟨hs, hl, rfl⟩ := sortD_of ez
    obtain ⟨a, ks, rfl, ha, rk⟩ := hx.dict f (sortable_no hs)
    cases rx
    have ha' := ha
    obtain ⟨⟨z, hsm, o, es, ep, ho, hx', hdt, he, hn, _⟩, _⟩ := (show ObjOk X.prog X.w H s.heap a (DicO X.w a ks) from I.hok a _ ha')
    have l1 : es.size = ks.1.length := by rw [← Array.length_toList, he, List.length_map]
    refine sorted_src I hr f rk.keys hs hl (fun R E h => PySem.W.kdu_collect (kdl_raw hsm hx' hdt) (I.ok.hd hc) ho (by omega) fun h' tk acc kp it => h h' tk acc.toList kp ?_) q
    rw [keys_of he it.1 it.2]
    exact vals_refs _
  | _ => cases ez
end
end Pu
/-! PuM: sorted(set(ints)); isinstance; dicts of True; counts -/
namespace L2
open PySem PySem.Spec PyProof.Rows
def rSetI (K : PySem.W.Frag) (w : World) : List V → Hp → VK → Prop := fun xs H Q => ∃ (l : Addr) (ns : List Int), xs = [V.ref l] ∧ SqL K H l (ns.map V.int) ∧ ns.length < 60 ∧ ∀ (p : Addr) (c : Nat), H p = none → c ≤ ns.length → Q (.ref p) (upd H p (SetO w p (fun j => decide (j ∈ ns)) c))
theorem cr_setI {X : Cx} (hc : X.calm = true) : CallR X (.type "set") (rSetI X.K X.w) := fun pins s σ H _ _ Q I rs ⟨l, ns, ex, hl, h60, q⟩ => by
  subst ex
  obtain ⟨_, rfl, rfl⟩ := vals1 rs
  obtain ⟨us, ru, pl, _⟩ := I.list hl
  have hin : IntsAre us.toArray.toList ns := by simpa using RZ.intsAre_vals ru
  have small : ns.length + 1 < scanBound := by unfold scanBound; omega
  exact Pu.set_ints (I.ok.hd hc) pl.isList hin small fun g tk c R hc' kp => ⟨.ref s.heap.objs.size, _, I.laid (t' := tk) kp (Nat.le_refl _) (setO_new R), rfl, q _ c (I.hok.fresh (Nat.le_refl _)) hc'⟩
end L2
namespace Pu
open PySem L2
/-! ### sorted(set(..)) of ints -/
def dedup : List Int → List Int
  | [] => []
  | x :: r => if x ∈ r then dedup r else x :: dedup r
theorem dedup_mem : ∀ (ns : List Int) (k : Int), k ∈ dedup ns ↔ k ∈ ns
  | [], k => Iff.rfl
  | x :: r, k => by
    unfold dedup
    split
    · rename_i h
      rw [dedup_mem r k, List.mem_cons]
      exact ⟨fun z => .inr z, fun z => z.elim (fun e => by rw [e]; exact h) fun z => z⟩
    · rw [List.mem_cons, List.mem_cons, dedup_mem r k]
theorem dedup_nodup : ∀ ns : List Int, (dedup ns).Nodup
  | [] => List.Pairwise.nil
  | x :: r => by
    unfold dedup
    split
    · exact dedup_nodup r
    · rename_i h
      exact List.nodup_cons.mpr ⟨fun z => h ((dedup_mem r x).mp z), dedup_nodup r⟩
def ssort (ns : List Int) : List Int := (dedup ns).mergeSort fun a b => decide (a ≤ b)
theorem ssort_mem (ns : List Int) (k : Int) : k ∈ ssort ns ↔ k ∈ ns := by
  unfold ssort
  rw [List.mem_mergeSort, dedup_mem]
theorem ssort_lt (ns : List Int) : (ssort ns).Pairwise (· < ·) := by
  unfold ssort
  have h1 : ((dedup ns).mergeSort fun a b => decide (a ≤ b)).Pairwise fun a b => decide (a ≤ b) = true := List.pairwise_mergeSort (fun a b c => by simp only [decide_eq_true_eq]; omega) (fun a b => by simp only [Bool.or_eq_true, decide_eq_true_eq]; omega) _
  have h2 : ((dedup ns).mergeSort fun a b => decide (a ≤ b)).Nodup := (List.mergeSort_perm _ _).nodup_iff.mpr (dedup_nodup ns)
  have h3 : ((dedup ns).mergeSort fun a b => decide (a ≤ b)).Pairwise fun a b => a ≠ b := h2
  refine (h1.and h3).imp fun {a b} h => ?_
  have := of_decide_eq_true h.1
  have := h.2
  omega
theorem lt_unique : ∀ (a b : List Int), a.Pairwise (· < ·) → b.Pairwise (· < ·) → (∀ k, k ∈ a ↔ k ∈ b) → a = b
  | [], [], _, _, _ => rfl
  | [], y :: b, _, _, h => by have := (h y).mpr List.mem_cons_self; cases this
  | x :: a, [], _, _, h => by have := (h x).mp List.mem_cons_self; cases this
  | x :: a, y :: b, h1, h2, h => by
    rw [List.pairwise_cons] at h1 h2
    have e : x = y := by
      have hx := (h x).mp List.mem_cons_self
      have hy := (h y).mpr List.mem_cons_self
      rcases List.mem_cons.mp hx with e | hx
      · exact e
      · rcases List.mem_cons.mp hy with e | hy
        · exact e.symm
        · have a1 := h2.1 x hx
          have a2 := h1.1 y hy
          omega
    subst e
    congr 1
    refine lt_unique a b h1.2 h2.2 fun k => ⟨fun hk => ?_, fun hk => ?_⟩
    · rcases List.mem_cons.mp ((h k).mp (List.mem_cons_of_mem _ hk)) with e | hk'
      · have := h1.1 k hk; omega
      · exact hk'
    · rcases List.mem_cons.mp ((h k).mpr (List.mem_cons_of_mem _ hk)) with e | hk'
      · have := h2.1 k hk; omega
      · exact hk'
def sortSetN : D → Option (List D)
  | .list ds => (intsOf ds).bind fun ns => if ns.length < 60 then some ((ssort ns).map PyData.int) else none
  | _ => none
section
variable {X : Cx} {W : WE} {a b c : Expr} {F G : En → R D} {pos p p2 q : Pos}
theorem xSortSet (hc : X.calm = true) (hg : Gl X "sorted") (hm : X.mg "sorted" = none) (hv : bootBuiltins "sorted" = some (.builtin "sorted")) (hg2 : Gl X "set") (hm2 : X.mg "set" = none) (hv2 : bootBuiltins "set" = some (.type "set")) (ha : PE X a (tV (X.kw ea) W F))
    (he : starEach [a] X.env = [(false, eval a X.env)] := by rfl) (he2 : starEach [Expr.Call (.Name "set" p2) [a] [] q] X.env = [(false, eval (Expr.Call (.Name "set" p2) [a] [] q) X.env)] := by rfl) :
    PE X (.Call (.Name "sorted" p) [.Call (.Name "set" p2) [a] [] q] [] pos) (tN (X.kw ea) W (un1N sortSetN F)) :=
  PE_weak (pe_callB (cr_sortedSet hc) hg hm hv (pa_cons (pe_callTy (cr_setI hc) hg2 hm2 hv2 (pa_cons ha pa_nil he) (by decide) (by decide) he) pa_nil he2) (by decide) (by decide) he2) fun σ H Q ⟨H0, Hf0, Hf, e, S, pp⟩ => ⟨H0, Hf0, Hf, e, S, pp.bind.mono fun x H1 ⟨Hf1, d, g, r, p1⟩ => by
    obtain ⟨z, ez, qq⟩ := p1.of_opt
    cases d with
    | list ds =>
      obtain ⟨l, ys, rfl, hl, ra⟩ := r.list g.fh
      have ez' : ((intsOf ds).bind fun ns => if ns.length < 60 then some ((ssort ns).map PyData.int) else none) = some z := ez
      cases h1 : intsOf ds with
      | none => rw [h1] at ez'; cases ez'
      | some ns =>
        rw [h1] at ez'
        have ez2 : (if ns.length < 60 then some ((ssort ns).map PyData.int) else none) = some z := ez'
        by_cases hn : ns.length < 60
        · rw [if_pos hn] at ez2
          cases ez2
          rw [intsOf_eq h1] at ra
          rw [ra.ints] at hl
          refine ⟨l, ns, rfl, SqL.of hl, hn, fun s c hs hc' => ⟨s, _, c, rfl, upd_same, by omega, fun ms t hlt hmem _ ht => ?_⟩⟩
          have em : ms = ssort ns := lt_unique _ _ hlt (ssort_lt ns) fun k => by rw [hmem k, ssort_mem]; exact ⟨fun h => of_decide_eq_true h, fun h => decide_eq_true h⟩
          subst em
          have g2 := Grow.lay (o := SetO X.w s (fun j => decide (j ∈ ns)) c) g.fh hs
          have g3 := Grow.lay (o := HO.lst ((ssort ns).map V.int)) g2.fh ht
          exact qq t _ Hf1 _ (g2.trans g3) (g2.hh.free ht) (g.fh.free (g2.hh.free ht)) upd_same (RpAll.ofInts _)
        · rw [if_neg hn] at ez2; cases ez2
    | _ => cases ez⟩
/-! ### isinstance -/
def tyD : D → Option String
  | .none => some "NoneType"
  | .bool _ => some "bool"
  | .int _ => some "int"
  | .str _ => some "str"
  | .list _ => some "list"
  | .tuple _ => some "tuple"
  | .dict _ => none
theorem tyD_of {K : Kw} {Hf H : Hp} {v : V} {d : D} {T : String} (f : Same Hf H) (r : VRp K Hf H v d) (h : tyD d = some T) : TyX K H v (.type T) := by
  have r' := r.full f
  cases r' with
  | non => cases h; exact .base .non
  | bl b => cases h; exact .base (.bl b)
  | int i => cases h; exact .base (.int i)
  | str x => cases h; exact .base (.str x)
  | lst hl _ => cases h; exact .base (.lst hl)
  | tup hl _ => cases h; obtain ⟨o, hl, _⟩ := hl; exact .fTuple hl
  | dct _ _ => cases h
  | scr _ => cases h
  | tab _ => cases h
/-- isinstance(x, T), T a built-in type -/
def isiD (T : String) (d : D) : Option D := (tyD d).bind fun t => (kitB t T).map PyData.bool
theorem xIsi {T : String} {x : Str} {pt : Pos} (hg : Gl X "isinstance") (hm : X.mg "isinstance" = none) (hv : bootBuiltins "isinstance" = some (.builtin "isinstance")) (hgt : Gl X x) (hmt : X.mg x = none) (hvt : bootBuiltins x = some (.type T)) (ha : PE X a (tV (X.kw ea) W F))
    (hn : x ≠ "__name__" := by decide) (hd : (x == ("__debug__" : Str)) = false := by decide) (he2 : starEach [a, .Name x pt] X.env = (false, eval a X.env) :: starEach [.Name x pt] X.env := by rfl) (he3 : starEach [Expr.Name x pt] X.env = [(false, eval (Expr.Name x pt) X.env)] := by rfl) :
    PE X (.Call (.Name "isinstance" p) [a, .Name x pt] [] pos) (tE (X.kw ea) W (un1 (isiD T) F)) :=
  PE_weak (pe_callB call_isi hg hm hv (pa_cons ha (pa_cons (pe_bltn (v := .ty T) hgt hmt hvt rfl hn hd) pa_nil he3) he2) (by decide) (by decide) he2 (by rw [he3]; rfl)) fun σ H Q ⟨H0, Hf0, Hf, e, S, pp⟩ => ⟨H0, Hf0, Hf, e, S, pp.bind.mono fun v H1 ⟨Hf1, d, g, r, p1⟩ => by
    obtain ⟨z, ez, qq⟩ := p1.of_opt
    unfold isiD at ez
    cases h1 : tyD d with
    | none => rw [h1] at ez; cases ez
    | some t =>
      rw [h1] at ez
      have ez' : (kitB t T).map PyData.bool = some z := ez
      cases h2 : kitB t T with
      | none => rw [h2] at ez'; cases ez'
      | some b =>
        rw [h2] at ez'
        cases ez'
        exact ⟨v, .ty T, .type t, .type T, b, rfl, .ty T, tyD_of g.fh r h1, kit_ty h2, qq _ Hf1 H1 (Grow.refl g.fh) (.bl b)⟩⟩
/-- isinstance(x, (T, U)) -/
def isi2D (T U : String) (d : D) : Option D := (tyD d).bind fun t => (kitB t T).bind fun b => (kitB t U).map fun b' => PyData.bool (b || b')
theorem xIsi2 {T U : String} {x y : Str} {px py pt : Pos} {kk : Nat} (hg : Gl X "isinstance") (hm : X.mg "isinstance" = none) (hv : bootBuiltins "isinstance" = some (.builtin "isinstance")) (hgt : Gl X x) (hmt : X.mg x = none) (hvt : bootBuiltins x = some (.type T)) (hgu : Gl X y) (hmu : X.mg y = none) (hvu : bootBuiltins y = some (.type U)) (ha : PE X a (tV (X.kw ea) W F))
    (hn : x ≠ "__name__" := by decide) (hd : (x == ("__debug__" : Str)) = false := by decide) (hn' : y ≠ "__name__" := by decide) (hd' : (y == ("__debug__" : Str)) = false := by decide)
    (he2 : starEach [a, .Tuple [.Name x px, .Name y py] kk pt] X.env = (false, eval a X.env) :: starEach [.Tuple [.Name x px, .Name y py] kk pt] X.env := by rfl) (he3 : starEach [Expr.Tuple [.Name x px, .Name y py] kk pt] X.env = [(false, eval (Expr.Tuple [.Name x px, .Name y py] kk pt) X.env)] := by rfl)
    (he4 : starEach [Expr.Name x px, .Name y py] X.env = (false, eval (Expr.Name x px) X.env) :: starEach [.Name y py] X.env := by rfl) (he5 : starEach [Expr.Name y py] X.env = [(false, eval (Expr.Name y py) X.env)] := by rfl) :
    PE X (.Call (.Name "isinstance" p) [a, .Tuple [.Name x px, .Name y py] kk pt] [] pos) (tE (X.kw ea) W (un1 (isi2D T U) F)) :=
  PE_weak (pe_callB call_isiT hg hm hv (pa_cons ha (pa_cons (pe_tup (pa_cons (pe_bltn (v := .ty T) hgt hmt hvt rfl hn hd) (pa_cons (pe_bltn (v := .ty U) hgu hmu hvu rfl hn' hd') pa_nil he5) he4)) pa_nil he3) he2) (by decide) (by decide) he2 (by rw [he3]; rfl)) fun σ H Q ⟨H0, Hf0, Hf, e, S, pp⟩ => ⟨H0, Hf0, Hf, e, S, pp.bind.mono fun v H1 ⟨Hf1, d, g, r, p1⟩ => by
    obtain ⟨z, ez, qq⟩ := p1.of_opt
    unfold isi2D at ez
    cases h1 : tyD d with
    | none => rw [h1] at ez; cases ez
    | some t =>
      rw [h1] at ez
      have ez' : ((kitB t T).bind fun b => (kitB t U).map fun b' => PyData.bool (b || b')) = some z := ez
      cases h2 : kitB t T with
      | none => rw [h2] at ez'; cases ez'
      | some b =>
        rw [h2] at ez'
        have ez2 : ((kitB t U).map fun b' => PyData.bool (b || b')) = some z := ez'
        cases h3 : kitB t U with
        | none => rw [h3] at ez2; cases ez2
        | some b' =>
          rw [h3] at ez2
          cases ez2
          refine ⟨by show 2 ≤ sizeLine; decide, fun tp htp => ?_⟩
          have g2 := Grow.lay (o := HO.tup [.ty T, .ty U]) g.fh htp
          refine ⟨v, tp, [.ty T, .ty U], .type t, [.type T, .type U], b || b', rfl, upd_same, .cons (.ty T) (.cons (.ty U) .nil), tyD_of g2.fh (r.mono g2) h1, ?_, qq _ Hf1 _ g2 (.bl _)⟩
          refine kitAny_cons (kit_ty h2) (fun hb => ?_) (fun hb => by rw [hb]; rfl)
          rw [hb]
          exact kitAny_cons (kit_ty h3) (fun hb' => by rw [hb']; exact kitAny_nil) (fun hb' => by rw [hb']; rfl)⟩
end
end Pu
/-! PuN: counts; dicts with tuple keys; t[::-1] -/
namespace Pu
open PySem L2
/-! ### methods of one argument, the receiver's type known by its data -/
section
variable {X : Cx} {W : WE} {a b c o : Expr} {F G : En → R D} {pos p apos cpos : Pos} {name : Str}
/-- an object without a dict of its own -/
def Bare (s : Shared) (v : Value) : Prop := ∀ a, v = .ref a → ∃ o, s.heap.get? a = some o ∧ o.dict = none
theorem Bare.at {s : Shared} {a : Addr} {o : Obj} (g : s.heap.get? a = some o) (h : o.dict = none) : Bare s (.ref a) := fun b e => by
  obtain rfl : a = b := Value.ref.inj e
  exact ⟨o, g, h⟩
theorem ty_of {pins : List (Addr × Obj)} {s : Shared} {σ : L2.St} {Hf H : Hp} {x : V} {v : Value} {d : D} {T : String} (I : L2.Inv X pins σ H s) (r : RelV x v) (f : Same Hf H) (h : VRp (X.kw ea) Hf H x d) (ht : tyD d = some T) : s.TypeIs v T ∧ Bare s v := by
  cases h.full f with
  | non => cases ht; cases (show v = Value.none from r); exact ⟨rfl, fun _ e => nomatch e⟩
  | bl k => cases ht; cases (show v = Value.bool k from r); exact ⟨rfl, fun _ e => nomatch e⟩
  | int i => cases ht; obtain ⟨t, rfl⟩ := r; exact ⟨typeIs_int s i t, fun _ e => nomatch e⟩
  | str z => cases ht; obtain ⟨t, rfl⟩ := r; exact ⟨typeIs_str s z t, fun _ e => nomatch e⟩
  | lst hl _ =>
    cases ht
    cases r
    obtain ⟨_, _, ⟨o, n, g, c, hd, ed⟩, _⟩ := I.list (SqL.of hl)
    exact ⟨⟨o, g, c⟩, .at g hd⟩
  | tup hl _ =>
    cases ht
    cases r
    obtain ⟨ob, hl, hd⟩ := hl
    obtain ⟨e1, _, _, _, o2, e2, c2, _⟩ := (show ObjOk X.prog X.w H s.heap _ (.frz ob (.tup _)) from I.hok _ _ hl)
    exact ⟨⟨o2, e2, c2⟩, .at e1 hd⟩
  | dct _ _ => cases ht
  | scr _ => cases ht
  | tab _ => cases ht
/-- what the method m does with data -/
structure Mt1 (X : Cx) (name : Str) (f : D → D → Option D) (T id : String) : Prop where
  pa : PlainAttrs T
  slot : Slot T name id
  ty : typeOf (.builtin id) = pure (.type "method_descriptor")
  run : ∀ (ea : Addr) (pins : List (Addr × Obj)) (s : Shared) (σ : L2.St) (Hf H : Hp) (x y : V) (v u : Value) (dx dy z : D) (Q : VK), L2.Inv X pins σ H s → RelV x v → RelV y u → Same Hf H → VRp (X.kw ea) Hf H x dx → VRp (X.kw ea) Hf H y dy → tyD dx = some T → f dx dy = some z →
    (∀ v' Hf' H', Grow Hf H Hf' H' → Rp (X.kw ea) Hf' v' z → Q v' H') → wpAny (model X.prog X.w) X.A (call (.builtin id) [v, u]) (EP X pins σ Q) X.xe s
def xmt (ts : List String) (f : D → D → Option D) (F G : En → R D) : En → R D := fun e => (F e).bind fun x => match tyD x with
  | some T => if T ∈ ts then (G e).bind fun y => opt (f x y) else .bad
  | none => .bad
theorem xMt {ts : List String} {f : D → D → Option D} (hm : ∀ T ∈ ts, ∃ id, Mt1 X name f T id) (ho : PE X o (tV (X.kw ea) W F)) (ha : PE X a (tV (X.kw ea) W G))
    (hbase : attributeBase o name X.env (eval o X.env) = eval o X.env := by rfl)
    (hfew : ((backTo cpos (starEach [a] X.env)).all (fun x => !x.1) && (backToKw cpos (keywordEach [] X.env)).all (fun x => x.1.isSome) && decide ([a].length + ([] : List Keyword).length + (if ([] : List Keyword).isEmpty then 0 else 1) < 30)) = true := by rfl)
    (hline : (apos.endLine == cpos.line) = true := by rfl) (hs : starEach [a] X.env = [(false, eval a X.env)] := by rfl) :
    PE X (.Call (.Attribute o name apos) [a] [] cpos) (tE (X.kw ea) W (xmt ts f F G)) := by
  refine ⟨fun pins s σ H Q I ⟨H0, Hf0, Hf, e, S, q⟩ => ?_⟩
  refine wpAny_Call_method_late hbase hfew hline rfl (thn (ho.run pins s σ H _ I ⟨H0, Hf0, Hf, e, S, q.bind⟩) fun v s1 ⟨x, H1, I1, r1, Hf1, dx, g1, rx, q1⟩ => ?_)
  cases ht : tyD dx with
  | none => rw [ht] at q1; exact q1.elim
  | some T =>
    rw [ht] at q1
    have q1 : Po (ERp (X.kw ea)) W Q σ Hf1 H1 (if T ∈ ts then (G e).bind fun y => opt (f dx y) else .bad) := q1
    by_cases hT : T ∈ ts
    · rw [if_pos hT] at q1
      obtain ⟨id, M⟩ := hm T hT
      obtain ⟨h1, h2⟩ := ty_of I1 r1 g1.fh rx ht
      refine ⟨T, id, M.pa, M.slot, M.ty, h1, h2, ?_⟩
      have hA := (pa_cons ha (pa_nil (X := X)) hs).run cpos pins s1 σ H1 (fun vs H2 => ∃ y, vs = [y] ∧ ∃ Hf2 dy, Grow Hf1 H1 Hf2 H2 ∧ VRp (X.kw ea) Hf2 H2 y dy ∧ Po (ERp (X.kw ea)) W Q σ Hf2 H2 (opt (f dx dy))) I1 ⟨H0, Hf0, Hf1, e, S.grow g1, q1.bind.mono fun y H2 z => ⟨y, rfl, z⟩⟩
      rw [hs] at hA ⊢
      refine Calls.callWith_builtin rfl (Calls.evalArgs_plain ?_)
      refine thn hA fun us s2 ⟨vs, H2, I2, r2, y, ey, Hf2, dy, g2, ry, p2⟩ => ?_
      subst ey
      obtain ⟨u, rfl, ru⟩ := r2.one
      obtain ⟨z, ez, q3⟩ := p2.of_opt
      exact M.run ea pins s2 σ Hf2 H2 x y v u dx dy z Q I2 r1 ru g2.fh (rx.mono g2) ry ht ez q3
    · rw [if_neg hT] at q1; exact q1.elim
def countD : D → D → Option D
  | .list ds, y => if SeqAt.shaped y && SeqAt.shaped (.list ds) then some (.int (ds.countP fun z => PyData.eqv z y : Nat)) else none
  | .tuple ds, y => if SeqAt.shaped y && SeqAt.shaped (.tuple ds) then some (.int (ds.countP fun z => PyData.eqv z y : Nat)) else none
  | _, _ => none
theorem mt_countL {k : Nat} (hr : Room k X.A) : Mt1 X "count" countD "list" "list.count" where
  pa := PySem.F.plainAttrs_list
  slot := PySem.F.slot_list_count
  ty := PySem.F.type_list_count
  run := by
    intro ea pins s σ Hf H x y v u dx dy z Q I rx ry f hx hy ht ez q
    have hu := hr.un
    cases dx with
    | list ds =>
      obtain ⟨a, xs, rfl, ha, ra⟩ := hx.list f
      cases rx
      have ez' : (if SeqAt.shaped dy && SeqAt.shaped (.list ds) then some (PyData.int (ds.countP fun z => PyData.eqv z dy : Nat)) else none) = some z := ez
      split at ez'
      · rename_i hh
        cases ez'
        rw [Bool.and_eq_true] at hh
        obtain ⟨bs, r1⟩ := Dp.reads I dy y u ((hy.full f).dp (SeqAt.canLay_of_shaped hh.1)) ry
        have hxs : PyData.canLayAll0 ds = true := SeqAt.canLay_of_shaped hh.2
        obtain ⟨its, rv, ⟨⟨cls, dd, data, sls⟩, n, ho, hc, hdn, hdt⟩, hlen⟩ := I.list (SqL.of ha)
        simp only at hc hdt
        subst hc hdt
        obtain ⟨as, h4⟩ := Dp.readsAll I ds _ its ((ra.mono f).dp hxs) rv
        refine call_meets PySem.F.slot_list_count ⟨_, ho, rfl⟩ PySem.F.entry_list_count (PySem.F.args_list_count_2 _ _) (SeqAt.list_countAt a its.toArray n dd sls u _) ⟨ho, SeqAt.items_eqAt (vs := its.toArray) (show ReadsAll s.heap its.toArray.toList ds as from h4) r1 hxs (SeqAt.canLay_of_shaped hh.1) (PyProof.Rows.room_in_shaped hh.1 (by omega)), ?_⟩
        have ec : its.toArray.toList.countP (fun y => PyData.eqv (SeqAt.readOf s.heap y) dy) = ds.countP fun z => PyData.eqv z dy := by
          conv => rhs; rw [← SeqAt.readsAll_map ds its as hxs h4, List.countP_map]
          rfl
        rw [ec]
        exact ⟨.int _, H, I.tok _, ⟨_, rfl⟩, q _ Hf H (Grow.refl f) (.int _)⟩
      · cases ez'
    | _ => exact absurd ht (by simp [tyD])
theorem mt_countT {k : Nat} (hr : Room k X.A) : Mt1 X "count" countD "tuple" "tuple.count" where
  pa := PySem.F.plainAttrs_tuple
  slot := PySem.F.slot_tuple_count
  ty := PySem.F.type_tuple_count
  run := by
    intro ea pins s σ Hf H x y v u dx dy z Q I rx ry f hx hy ht ez q
    have hu := hr.un
    cases dx with
    | tuple ds =>
      obtain ⟨a, xs, rfl, ha, ra⟩ := hx.tuple f
      cases rx
      have ez' : (if SeqAt.shaped dy && SeqAt.shaped (.tuple ds) then some (PyData.int (ds.countP fun z => PyData.eqv z dy : Nat)) else none) = some z := ez
      split at ez'
      · rename_i hh
        cases ez'
        rw [Bool.and_eq_true] at hh
        obtain ⟨bs, r1⟩ := Dp.reads I dy y u ((hy.full f).dp (SeqAt.canLay_of_shaped hh.1)) ry
        have hxs : PyData.canLayAll0 ds = true := SeqAt.canLay_of_shaped hh.2
        obtain ⟨its, rv, ⟨⟨cls, dd, data, sls⟩, ho, hc, n, hdt⟩, hlen⟩ := I.tuple ha.sq
        simp only at hc hdt
        subst hc hdt
        obtain ⟨as, h4⟩ := Dp.readsAll I ds _ its ((ra.mono f).dp hxs) rv
        refine call_meets PySem.F.slot_tuple_count ⟨_, ho, rfl⟩ PySem.F.entry_tuple_count (PySem.F.args_tuple_count_2 _ _) (SeqAt.tuple_countAt a its.toArray n dd sls u _) ⟨ho, SeqAt.items_eqAt (vs := its.toArray) (show ReadsAll s.heap its.toArray.toList ds as from h4) r1 hxs (SeqAt.canLay_of_shaped hh.1) (PyProof.Rows.room_in_shaped hh.1 (by omega)), ?_⟩
        have ec : its.toArray.toList.countP (fun y => PyData.eqv (SeqAt.readOf s.heap y) dy) = ds.countP fun z => PyData.eqv z dy := by
          conv => rhs; rw [← SeqAt.readsAll_map ds its as hxs h4, List.countP_map]
          rfl
        rw [ec]
        exact ⟨.int _, H, I.tok _, ⟨_, rfl⟩, q _ Hf H (Grow.refl f) (.int _)⟩
      · cases ez'
    | _ => exact absurd ht (by simp [tyD])
def xcount (F G : En → R D) : En → R D := xmt ["list", "tuple"] countD F G
theorem xCount {k : Nat} (hr : Room k X.A) (ho : PE X o (tV (X.kw ea) W F)) (ha : PE X a (tV (X.kw ea) W G))
    (hbase : attributeBase o "count" X.env (eval o X.env) = eval o X.env := by rfl)
    (hfew : ((backTo cpos (starEach [a] X.env)).all (fun x => !x.1) && (backToKw cpos (keywordEach [] X.env)).all (fun x => x.1.isSome) && decide ([a].length + ([] : List Keyword).length + (if ([] : List Keyword).isEmpty then 0 else 1) < 30)) = true := by rfl)
    (hline : (apos.endLine == cpos.line) = true := by rfl) (hs : starEach [a] X.env = [(false, eval a X.env)] := by rfl) :
    PE X (.Call (.Attribute o "count" apos) [a] [] cpos) (tE (X.kw ea) W (xcount F G)) :=
  xMt (fun T hT => by
    rcases List.mem_cons.mp hT with rfl | hT
    · exact ⟨_, mt_countL hr⟩
    · rw [List.mem_singleton.mp hT]; exact ⟨_, mt_countT hr⟩) ho ha hbase hfew hline hs
end
end Pu
/-! PuO: dicts of one's own; t[::-1] -/
namespace Pu
open PySem PySem.Spec PyProof.Rows
section
variable {P : Program} {w : World} {A : Around} {E : Value → Shared → Prop} {s : Shared} {t sl : Addr} {us : Array Value} {vk : Value}
/-- the places of [::-1] -/
theorem rev_places (n : Nat) : Builtin.Slice.sliceAdjust none none (-1) (n : Int) = ((n : Int) - 1, -1) ∧ Builtin.Slice.slicePlaces ((n : Int) - 1) (-1) (-1) = n := by
  constructor
  · simp [Builtin.Slice.sliceAdjust]
  · cases n with
    | zero => decide
    | succ m =>
      have e : ((m + 1 : Nat) : Int) - 1 = m := by omega
      rw [e]
      have q : ((m : Int) - -1 - 1) / -(-1) + 1 = (m : Int) + 1 := by rw [show (m : Int) - -1 - 1 = m by omega, show (-(-1 : Int)) = 1 by rfl, Int.ediv_one]
      have lt : (-1 : Int) < m := by omega
      simp only [Builtin.Slice.slicePlaces]
      split
      · rename_i y; exact absurd y (by decide)
      · omega
theorem rev_applied {n : Nat} {Q : Int × Int × Nat → Shared → Prop} (hs : s.heap.IsSliceOf sl .none .none vk) (pk : IsPart vk (some (-1))) (h : Q ((n : Int) - 1, -1, n) s) : wpAny (model P w) A (Builtin.Slice.sliceApplied (.ref sl) (pure (n : Int))) Q E s := by
  obtain ⟨o, g, _, d⟩ := hs
  have fin : wpAny (model P w) A (pure ((Builtin.Slice.sliceAdjust none none (-1) (n : Int)).1, (-1 : Int), Builtin.Slice.slicePlaces (Builtin.Slice.sliceAdjust none none (-1) (n : Int)).1 (Builtin.Slice.sliceAdjust none none (-1) (n : Int)).2 (-1))) Q E s := by
    rw [(rev_places n).1]
    apply wpAny_pure
    show Q ((n : Int) - 1, -1, Builtin.Slice.slicePlaces ((n : Int) - 1) (-1) (-1)) s
    rw [(rev_places n).2]
    exact h
  have three := wpAny_pure (M := model P w) (A := A) (E := E) (s := s) (Q := fun (r : Value × Value × Value) z => r = (.none, .none, vk) ∧ z = s) ⟨rfl, rfl⟩
  unfold Builtin.Slice.sliceApplied
  apply wpAny_bind
  refine L2.thn (Q := fun (r : Value × Value × Value) z => r = (.none, .none, vk) ∧ z = s) (wpAny_bind (wpAny_field g d rfl (wpAny_bind (wpAny_field g d rfl (wpAny_bind (wpAny_field g d rfl three)))))) fun r z ⟨er, ez⟩ => ?_
  subst er ez
  apply wpAny_bind
  apply HT.slicePart_ pk
  show wpAny _ _ (ite (((-1 : Int) == 0) = true) _ _) _ _ _
  rw [if_neg (by decide)]
  exact wpAny_bind (slicePart_none (wpAny_bind (slicePart_none (wpAny_bind (wpAny_pure fin)))))
theorem rev_pick (us : Array Value) : ((List.range us.size).filterMap fun (m : Nat) => us[((us.size : Int) - 1 + (m : Int) * -1).toNat]?).toArray = us.toList.reverse.toArray := by
  have e : ∀ m : Nat, us[((us.size : Int) - 1 + (m : Int) * -1).toNat]? = us[us.size - 1 - m]? := fun m => congrArg (us[·]?) (by omega)
  simp only [e]
  have f : (List.range us.size).filterMap (fun m => us[us.size - 1 - m]?) = ((List.range us.size).map fun m => us.size - 1 - m).filterMap fun m => us[m]? := List.filterMap_map.symm
  rw [f, PySem.W.krv_range, List.filterMap_reverse, PySem.W.krv_all]
/-- t[::-1], t a tuple -/
theorem rev_item {Q : Value → Shared → Prop} (ht : IsTup s.heap t us) (hs : s.heap.IsSliceOf sl .none .none vk) (pk : IsPart vk (some (-1))) (hz : us.size ≤ sizeLine)
    (h : Q (.ref s.heap.objs.size) { s with heap := s.heap.push { cls := .type "tuple", data := .seq us.toList.reverse.toArray } }) : wpAny (model P w) A (getItem (.ref t) (.ref sl)) Q E s := by
  have ok : sizeOk (.seq us.toList.reverse.toArray) := by
    show us.toList.reverse.toArray.size ≤ sizeLine
    simpa using hz
  have isS : s.TypeIs (.ref sl) "slice" := let ⟨o, g, c, _⟩ := hs; ⟨o, g, c⟩
  have other : ((((us.size : Nat) : Int) - 1) == 0 && (-1 : Int) == 1 && us.size == us.size) = false := by simp
  have body : ∀ (A' : Around) (E' : Value → Shared → Prop) (Z : Fin → Shared → Prop), Z (.done (.ret (.ref s.heap.objs.size))) { s with heap := s.heap.push { cls := .type "tuple", data := .seq us.toList.reverse.toArray } } → wpAny (model P w) A' (Builtin.«tuple.__getitem__» ⟨[.ref t, .ref sl], []⟩) Z E' s := fun A' E' Z z => by
    show wpAny _ _ (Builtin.Tuple.tupleItemsOf (.ref t) >>= fun xs => _) _ _ _
    apply wpAny_bind
    apply tupleItemsOf_ ht
    apply wpAny_bind
    apply wpAny_typeOf isS
    rw [if_pos (by decide)]
    apply wpAny_bind
    apply rev_applied hs pk
    show wpAny _ _ (if ((((us.size : Nat) : Int) - 1) == 0 && (-1 : Int) == 1 && us.size == us.size) = true then _ else _) _ _ s
    rw [other, if_neg Bool.false_ne_true, rev_pick]
    first
      | exact wpAny_bind (wpAny_newObj_type (wpAny_pure z) ok)
      | exact wpAny_bind (wpAny_newObj_type (wpAny_bind (wpAny_pure (wpAny_pure z))) ok)
      | exact wpAny_bind (wpAny_bind (wpAny_newObj_type (wpAny_pure (wpAny_pure z)) ok))
      | exact wpAny_bind (wpAny_bind (wpAny_newObj_type (wpAny_pure z) ok))
  exact getItem_slot ht.typeIs (by decide) slot_tuple_getitem (wpAny_call_entry slot_tuple_getitem ht.typeIs entry_tuple_getitem (body _ _ _ ⟨_, rfl, h⟩) (args_tuple_getitem _ _))
end
end Pu
namespace Pu
open PySem L2
section
variable {X : Cx} {W : WE} {a b c : Expr} {F G : En → R D} {pos p2 ps px : Pos}
/-- t[::-1] of a tuple -/
def revD : D → Option D
  | .tuple ds => some (.tuple ds.reverse)
  | _ => none
open PySem.Spec PyProof.Rows in
theorem xRev {pu pc : Pos} {j : Nat} (ha : PE X a (tV (X.kw ea) W F)) : PE X (.Subscript a (.Slice none none (some (.UnaryOp .USub (.Constant (.int 1) j pc) pu)) p2) pos) (tE (X.kw ea) W (un1 revD F)) := by
  refine ⟨fun pins s σ H Q I ⟨H0, Hf0, Hf, e, S, q⟩ => ?_⟩
  refine Subscript_ (thn (ha.run pins s σ H _ I ⟨H0, Hf0, Hf, e, S, q.bind⟩) fun v s1 ⟨x, H1, I1, r1, Hf1, d, g1, rx, q1⟩ => ?_)
  obtain ⟨z, ez, q2⟩ := q1.of_opt
  cases d with
  | tuple ds =>
    cases ez
    obtain ⟨t, xs, rfl, ht, rt⟩ := rx.tuple g1.fh
    cases r1
    refine wpAny_Slice ?_
    rw [evalPart_none]
    refine wpAny_pure (wpAny_pure ?_)
    have hk : PE X (.UnaryOp .USub (.Constant (.int 1) j pc) pu) (tUn (fun x H Q => ∃ i, x = .int i ∧ Q (.int (-i)) H) (tC (.int 1))) := pe_un un_neg pe_int
    refine thn ((po_some hk).run pins s1 σ H1 (fun o H' => o = some (-1) ∧ H' = H1) I1 ⟨1, rfl, -1, rfl, rfl, rfl⟩) fun vk s3 ⟨o, H3, I3, pk, eo, eH⟩ => ?_
    subst eo eH
    have I4 : L2.Inv X pins σ H3 { s3 with heap := s3.heap.push { cls := .type "slice", data := .fields #[.none, .none, vk] } } := I3.kept (t' := s3.toks) fun b ob q => Heap.get?_push_of_some _ q
    obtain ⟨its, rv, p, hz⟩ := I4.tuple ht.sq
    show wpAny (model X.prog X.w) X.A (subscriptTail a (.Slice none none (some (.UnaryOp .USub (.Constant (.int 1) j pc) pu)) p2) (.ref t) (.ref s3.heap.objs.size)) (EP X pins σ Q) X.xe { s3 with heap := s3.heap.push { cls := .type "slice", data := .fields #[.none, .none, vk] } }
    refine tail_any (ops := [.ref t, .ref s3.heap.objs.size]) p.typeIs PyProof.Rows.slot_tuple_getitem.lookup ?_ (by with_unfolding_all rfl)
    refine rev_item p (Heap.IsSliceOf.new ..) pk (by rw [List.size_toArray, ← rv.length]; exact hz) ?_
    have hrev : Vals xs.reverse its.reverse := rv.reverse
    exact tup_new (us := its.reverse) (tk := s3.toks) I4 hrev (by rw [List.length_reverse]; exact hz) (TupN.of g1.fh rt.reverse q2)
  | _ => cases ez
/-! ### dicts of one's own -/
def sdnew (i : Nat) : En → Fl := fun e => .nx (e.set i (.dic []))
theorem sDNew {i : Nat} {x : Str} {pos' : Pos} (hN : X.N.Nodup) (hi : X.N[i]? = some x) (hx : Loc X.env.scope x) (hs : swapsWith (.Dict [] [] p2) (some (.Name x pos')) pos.line X.env = pure false := by rfl) (hf : X.fn x = true ∨ X.env.scope.names.lookup x = some .local := by first | exact .inl rfl | exact .inr rfl | assumption) :
    PS X (.Assign [.Name x pos'] (.Dict [] [] p2) pos) (tS (X.kw ea) W (sdnew i)) := PS_weak (ps_set hN hi hx (pe_dnew (ea := ea)) hs hf) fun D σ H ⟨H0, Hf0, Hf, e, S, p⟩ q ep hq => by
  have g := Grow.lay (o := DicO X.w q ([], ep)) S.gr.fh hq
  exact p _ Hf _ ((S.grow g).own i ⟨_, upd_same⟩ (S.fresh hq) ⟨q, ([], ep), rfl, upd_same, S.gr.hh.free hq, S.gr.fh.free hq, .nil⟩) (Same.refl _)
def dputAt (i : Nat) (e : En) (kvs : List (D × D)) (v x : D) : Fl := match keyD x with
  | some k => if kvs.length < many then .nx (e.set i (.dic (dput kvs k x v))) else .bad
  | none => .bad
def sdput (i : Nat) (G F : En → R D) : En → Fl := fun e => liftE (F e) e fun v => match e[i]? with
  | some (.dic kvs) => liftE (G e) e (dputAt i e kvs v)
  | _ => .bad
/-- x[k] = e -/
theorem sDPut {i : Nat} {x : Str} {jx : Expr} (hs : PS X (.Assign [.Subscript (.Name x px) jx ps] a pos) (tAsg (tE (X.kw ea) W F) (gSub (tVar i) (tE (X.kw ea) W G) (rSetD (X.kw ea))))) : PS X (.Assign [.Subscript (.Name x px) jx ps] a pos) (tS (X.kw ea) W (sdput i G F)) :=
  PS_weak hs fun D σ H ⟨H0, Hf0, Hf, e, S, p⟩ => ⟨H0, Hf0, Hf, e, S, by
    revert p
    unfold sdput
    cases F e with
    | ok d =>
      intro p v Hf1 H1 g rv
      have S1 := S.grow g
      have p : PoS (X.kw ea) W D H0 Hf0 Hf (match e[i]? with | some (.dic kvs) => liftE (G e) e (dputAt i e kvs d) | _ => .bad) := p
      have p1 := p.same g.ff
      cases q : e[i]? with
      | none => rw [q] at p1; exact p1.elim
      | some s =>
        rw [q] at p1
        cases s with
        | dic kvs =>
          obtain ⟨u, hu⟩ := S1.lt q
          obtain ⟨l, xs, ev, h1, h2, h3, r⟩ := S1.sl i _ u q hu
          subst ev
          refine ⟨.ref l, hu, H0, Hf0, Hf1, e, S1, ?_⟩
          have p1 : PoS (X.kw ea) W D H0 Hf0 Hf1 (liftE (G e) e (dputAt i e kvs d)) := p1
          revert p1
          cases G e with
          | ok j =>
            intro p1 y Hf2 H2 g2 ry
            have p1 : PoS (X.kw ea) W D H0 Hf0 Hf1 (dputAt i e kvs d j) := p1
            unfold dputAt at p1
            cases hk : keyD j with
            | none => rw [hk] at p1; exact p1.elim
            | some k =>
              rw [hk] at p1
              have p1 : PoS (X.kw ea) W D H0 Hf0 Hf1 (if kvs.length < many then .nx (e.set i (.dic (dput kvs k j d))) else .bad) := p1
              by_cases hz : kvs.length < many
              · rw [if_pos hz] at p1
                obtain ⟨k1, k2, ds, rfl⟩ := keyD_of hk
                have ry' := ry
                cases ry' with
                | tup ht _ =>
                  refine ⟨l, _, xs, kvs, _, k, rfl, rfl, g2.hh _ _ h1, (r.mono g2.ff).mono g2.fh, ry.mono g2.fh, k1, k2, many_lt (by rw [r.length]; exact hz), fun u ep ru => ?_⟩
                  exact p1 σ Hf2 _ ((S1.grow g2).mut q rfl hu rfl ⟨l, _, rfl, upd_same, h2, g2.nf _ _ h1 rfl h3, (r.mono g2.ff).stored k1 k2 ry ru (rv.mono g2.ff)⟩) g2.ff
              · rw [if_neg hz] at p1; exact p1.elim
          | ex c => exact fun p1 Hf2 H2 g2 => p1 σ Hf2 H2 (S1.grow g2) g2.ff
          | bad => exact fun p1 => p1
        | _ => exact p1.elim
    | ex c => exact fun p Hf1 H1 g => p σ Hf1 H1 (S.grow g) g.ff
    | bad => exact fun p => p⟩
end
end Pu
/-! PuP: the words that a printed text uses -/
namespace Pu
open PySem L2
theorem bt_len : bootBuiltins "len" = some (.builtin "len") := by decide +kernel
theorem bt_all : bootBuiltins "all" = some (.builtin "all") := by decide +kernel
theorem bt_any : bootBuiltins "any" = some (.builtin "any") := by decide +kernel
theorem bt_sum : bootBuiltins "sum" = some (.builtin "sum") := by decide +kernel
theorem bt_max : bootBuiltins "max" = some (.builtin "max") := by decide +kernel
theorem bt_min : bootBuiltins "min" = some (.builtin "min") := by decide +kernel
theorem bt_sorted : bootBuiltins "sorted" = some (.builtin "sorted") := by decide +kernel
theorem bt_isinstance : bootBuiltins "isinstance" = some (.builtin "isinstance") := by decide +kernel
theorem bt_tuple : bootBuiltins "tuple" = some (.type "tuple") := by decide +kernel
theorem bt_list : bootBuiltins "list" = some (.type "list") := by decide +kernel
theorem bt_int : bootBuiltins "int" = some (.type "int") := by decide +kernel
theorem bt_str : bootBuiltins "str" = some (.type "str") := by decide +kernel
theorem bt_bool : bootBuiltins "bool" = some (.type "bool") := by decide +kernel
theorem bt_set : bootBuiltins "set" = some (.type "set") := by decide +kernel
theorem bt_dict : bootBuiltins "dict" = some (.type "dict") := by decide +kernel
section
variable {X : Cx} {k : Nat} {W : WE} {a b c : Expr} {F G : En → R D} {pos p p2 q pt px py : Pos}
theorem xLen (m : X.mg "len" = none) (ha : PE X a (tV (X.kw ea) W F)) (hg : Gl X "len" := by rfl) (he : starEach [a] X.env = [(false, eval a X.env)] := by rfl) : PE X (.Call (.Name "len" p) [a] [] pos) (tE (X.kw ea) W (un1 lenD F)) := xB1 call_lenB hg m bt_len ha (by decide) (by decide) he
theorem xAll (z : Cz X k W) (m : X.mg "all" = none) (ha : PE X a (tV (X.kw ea) W F)) (hg : Gl X "all" := by rfl) (he : starEach [a] X.env = [(false, eval a X.env)] := by rfl) : PE X (.Call (.Name "all" p) [a] [] pos) (tE (X.kw ea) W (un1 allD F)) := xB1 (call_allB z.calm) hg m bt_all ha (by decide) (by decide) he
theorem xAny (z : Cz X k W) (m : X.mg "any" = none) (ha : PE X a (tV (X.kw ea) W F)) (hg : Gl X "any" := by rfl) (he : starEach [a] X.env = [(false, eval a X.env)] := by rfl) : PE X (.Call (.Name "any" p) [a] [] pos) (tE (X.kw ea) W (un1 anyD F)) := xB1 (call_anyB z.calm) hg m bt_any ha (by decide) (by decide) he
theorem xSum (z : Cz X k W) (m : X.mg "sum" = none) (ha : PE X a (tV (X.kw ea) W F)) (hg : Gl X "sum" := by rfl) (he : starEach [a] X.env = [(false, eval a X.env)] := by rfl) : PE X (.Call (.Name "sum" p) [a] [] pos) (tE (X.kw ea) W (un1 sumD F)) := xB1 (call_sumB z.calm) hg m bt_sum ha (by decide) (by decide) he
theorem xMax (z : Cz X k W) (m : X.mg "max" = none) (ha : PE X a (tV (X.kw ea) W F)) (hg : Gl X "max" := by rfl) (he : starEach [a] X.env = [(false, eval a X.env)] := by rfl) : PE X (.Call (.Name "max" p) [a] [] pos) (tE (X.kw ea) W (un1 maxD F)) := xB1 (call_maxB z.calm) hg m bt_max ha (by decide) (by decide) he
theorem xMin (z : Cz X k W) (m : X.mg "min" = none) (ha : PE X a (tV (X.kw ea) W F)) (hg : Gl X "min" := by rfl) (he : starEach [a] X.env = [(false, eval a X.env)] := by rfl) : PE X (.Call (.Name "min" p) [a] [] pos) (tE (X.kw ea) W (un1 minD F)) := xB1 (call_minB z.calm) hg m bt_min ha (by decide) (by decide) he
theorem xMax2 (z : Cz X k W) (m : X.mg "max" = none) (ha : PE X a (tV (X.kw ea) W F)) (hb : PE X b (tV (X.kw ea) W G)) (hg : Gl X "max" := by rfl) (he : starEach [a, b] X.env = [(false, eval a X.env), (false, eval b X.env)] := by rfl) (he2 : starEach [b] X.env = [(false, eval b X.env)] := by rfl) : PE X (.Call (.Name "max" p) [a, b] [] pos) (tE (X.kw ea) W (bin max2D F G)) := xB2 (call_max2B z.calm) hg m bt_max ha hb (by decide) (by decide) he he2
theorem xMin2 (z : Cz X k W) (m : X.mg "min" = none) (ha : PE X a (tV (X.kw ea) W F)) (hb : PE X b (tV (X.kw ea) W G)) (hg : Gl X "min" := by rfl) (he : starEach [a, b] X.env = [(false, eval a X.env), (false, eval b X.env)] := by rfl) (he2 : starEach [b] X.env = [(false, eval b X.env)] := by rfl) : PE X (.Call (.Name "min" p) [a, b] [] pos) (tE (X.kw ea) W (bin min2D F G)) := xB2 (call_min2B z.calm) hg m bt_min ha hb (by decide) (by decide) he he2
theorem xTuple (m : X.mg "tuple" = none) (ha : PE X a (tV (X.kw ea) W F)) (hg : Gl X "tuple" := by rfl) (he : starEach [a] X.env = [(false, eval a X.env)] := by rfl) : PE X (.Call (.Name "tuple" p) [a] [] pos) (tE (X.kw ea) W (un1 tupleD F)) := xT1 call_tupleB hg m bt_tuple ha (by decide) (by decide) he
theorem xInt1 (m : X.mg "int" = none) (ha : PE X a (tV (X.kw ea) W F)) (hg : Gl X "int" := by rfl) (he : starEach [a] X.env = [(false, eval a X.env)] := by rfl) : PE X (.Call (.Name "int" p) [a] [] pos) (tE (X.kw ea) W (un1 intD F)) := xT1 call_intB hg m bt_int ha (by decide) (by decide) he
theorem xStr1 (m : X.mg "str" = none) (ha : PE X a (tV (X.kw ea) W F)) (hg : Gl X "str" := by rfl) (he : starEach [a] X.env = [(false, eval a X.env)] := by rfl) : PE X (.Call (.Name "str" p) [a] [] pos) (tE (X.kw ea) W (un1 strD F)) := xT1 call_strB hg m bt_str ha (by decide) (by decide) he
theorem xList (m : X.mg "list" = none) (ha : PE X a (tV (X.kw ea) W F)) (hg : Gl X "list" := by rfl) (he : starEach [a] X.env = [(false, eval a X.env)] := by rfl) : PE X (.Call (.Name "list" p) [a] [] pos) (tN (X.kw ea) W (un1N listN F)) := xT1N call_listB hg m bt_list ha (by decide) (by decide) he
theorem xSorted (z : Cz X k W) (m : X.mg "sorted" = none) (ha : PE X a (tV (X.kw ea) W F)) (hg : Gl X "sorted" := by rfl) (he : starEach [a] X.env = [(false, eval a X.env)] := by rfl) : PE X (.Call (.Name "sorted" p) [a] [] pos) (tN (X.kw ea) W (un1N sortN F)) := xB1N (call_sortedB z.calm z.rm) hg m bt_sorted ha (by decide) (by decide) he
theorem xSSet (z : Cz X k W) (m : X.mg "sorted" = none) (m2 : X.mg "set" = none) (ha : PE X a (tV (X.kw ea) W F)) (hg : Gl X "sorted" := by rfl) (hg2 : Gl X "set" := by rfl) (he : starEach [a] X.env = [(false, eval a X.env)] := by rfl) (he2 : starEach [Expr.Call (.Name "set" p2) [a] [] q] X.env = [(false, eval (Expr.Call (.Name "set" p2) [a] [] q) X.env)] := by rfl) :
    PE X (.Call (.Name "sorted" p) [.Call (.Name "set" p2) [a] [] q] [] pos) (tN (X.kw ea) W (un1N sortSetN F)) := xSortSet z.calm hg m bt_sorted hg2 m2 bt_set ha he he2
/-- a + b, lists -/
def binN (f : D → D → Option (List D)) (F G : En → R D) : En → R (List D) := fun e => (F e).bind fun x => (G e).bind fun y => opt (f x y)
theorem xAddN (ha : PE X a (tV (X.kw ea) W F)) (hb : PE X b (tV (X.kw ea) W G)) : PE X (.BinOp a .Add b pos) (tN (X.kw ea) W (binN addN F G)) :=
  PE_weak (pe_op op_addL ha hb) fun σ H Q ⟨H0, Hf0, Hf, e, S, p⟩ => ⟨H0, Hf0, Hf, e, S, p.bind.mono fun x H1 ⟨Hf1, dx, g1, rx, p1⟩ => ⟨H0, Hf0, Hf1, e, S.grow g1, p1.bind.mono fun y H2 ⟨Hf2, dy, g2, ry, p2⟩ => by
    obtain ⟨z, ez, q⟩ := p2.of_opt
    exact ⟨Hf2, dx, dy, z, g2.fh, rx.mono g2, ry, ez, q⟩⟩⟩
theorem xGlobI {x : Str} {i : Int} (h : ∃ t, X.mg x = some (.int i t)) (hg : Gl X x := by rfl) (hd : (x == ("__debug__" : Str)) = false := by decide) : PE X (.Name x pos) (tE (X.kw ea) W (xc (.int i))) := by
  obtain ⟨t, h⟩ := h
  exact xGlob (v := .int i) hg h ⟨t, rfl⟩ (fun _ => .int i) hd
/-! ### a, b = x, y -/
def spar2 (i j : Nat) (L : En → R (List D)) : En → Fl := fun e => match L e with
  | .ok [x, y] => .nx ((e.set i (.dat x)).set j (.dat y))
  | .ok _ => .bad
  | .ex c => .ex c e
  | .bad => .bad
theorem sPar2 {i j : Nat} {x y : Str} {L : En → R (List D)} {kt k2 : Nat} {pt2 : Pos} (z : Cz X k W) (hi : X.N[i]? = some x) (hj : X.N[j]? = some y) (hij : i ≠ j) (hx : X.env.scope.names.lookup x = some .local) (hy : X.env.scope.names.lookup y = some .local) (ha : PA X [a, b] (tA (X.kw ea) W L))
    (hw : swappedStores [.Tuple [.Name x px, .Name y py] kt pt] (.Tuple [a, b] k2 pt2) X.env = pure (some [x, y])) (hs : swapsWithSole [.Tuple [.Name x px, .Name y py] kt pt] (.Tuple [a, b] k2 pt2) pos.line X.env = pure false := by rfl) :
    PS X (.Assign [.Tuple [.Name x px, .Name y py] kt pt] (.Tuple [a, b] k2 pt2) pos) (tS (X.kw ea) W (spar2 i j L)) :=
  PS_weak (ps_par z.calm z.nd hi hj hij hx hy ha hw hs) fun D σ H ⟨H0, Hf0, Hf, e, S, p⟩ => ⟨H0, Hf0, Hf, e, S, by
    revert p
    unfold spar2
    cases L e with
    | ok ds =>
      intro p vs Hf1 H1 g r
      cases r with
      | nil => exact p.elim
      | cons r1 r =>
        cases r with
        | nil => exact p.elim
        | cons r2 r =>
          cases r with
          | nil => exact ⟨_, _, rfl, p _ Hf1 H1 (((S.grow g).dat i r1).dat j r2) g.ff⟩
          | cons _ _ => exact p.elim
    | ex c => exact fun p Hf1 H1 g => p σ Hf1 H1 (S.grow g) g.ff
    | bad => exact fun p => p⟩
def spar3 (i j l : Nat) (L : En → R (List D)) : En → Fl := fun e => match L e with
  | .ok [x, y, z] => .nx (((e.set i (.dat x)).set j (.dat y)).set l (.dat z))
  | .ok _ => .bad
  | .ex c => .ex c e
  | .bad => .bad
theorem sPar3 {i j l : Nat} {x y v : Str} {L : En → R (List D)} {kt k2 : Nat} {pt2 pv : Pos} (z : Cz X k W) (hi : X.N[i]? = some x) (hj : X.N[j]? = some y) (hl : X.N[l]? = some v) (hij : i ≠ j) (hil : i ≠ l) (hjl : j ≠ l) (hx : X.env.scope.names.lookup x = some .local) (hy : X.env.scope.names.lookup y = some .local) (hv : X.env.scope.names.lookup v = some .local) (ha : PA X [a, b, c] (tA (X.kw ea) W L))
    (hw : swappedStores [.Tuple [.Name x px, .Name y py, .Name v pv] kt pt] (.Tuple [a, b, c] k2 pt2) X.env = pure (some [x, y, v])) (hs : swapsWithSole [.Tuple [.Name x px, .Name y py, .Name v pv] kt pt] (.Tuple [a, b, c] k2 pt2) pos.line X.env = pure false := by rfl) :
    PS X (.Assign [.Tuple [.Name x px, .Name y py, .Name v pv] kt pt] (.Tuple [a, b, c] k2 pt2) pos) (tS (X.kw ea) W (spar3 i j l L)) :=
  PS_weak (ps_par3 z.calm z.nd hi hj hl hij hil hjl hx hy hv ha hw hs) fun D σ H ⟨H0, Hf0, Hf, e, S, p⟩ => ⟨H0, Hf0, Hf, e, S, by
    revert p
    unfold spar3
    cases L e with
    | ok ds =>
      intro p vs Hf1 H1 g r
      cases r with
      | nil => exact p.elim
      | cons r1 r =>
        cases r with
        | nil => exact p.elim
        | cons r2 r =>
          cases r with
          | nil => exact p.elim
          | cons r3 r =>
            cases r with
            | nil => exact ⟨_, _, _, rfl, p _ Hf1 H1 ((((S.grow g).dat i r1).dat j r2).dat l r3) g.ff⟩
            | cons _ _ => exact p.elim
    | ex c => exact fun p Hf1 H1 g => p σ Hf1 H1 (S.grow g) g.ff
    | bad => exact fun p => p⟩
end
/-! ### changes and targets -/
section
variable {X : Cx} {k : Nat} {W : WE} {a b c jx : Expr} {F G : En → R D} {pos px pa pc ps : Pos} {i : Nat} {x : Str}
theorem sAppend (i : Nat) (hx : PE X (.Name x px) (tVar i)) (he : PE X a (tE (X.kw ea) W F)) (hb : attributeBase (.Name x px) "append" X.env (eval (.Name x px) X.env) = eval (.Name x px) X.env := by rfl)
    (hf : ((backTo pc (starEach [a] X.env)).all (fun x => !x.1) && (backToKw pc (keywordEach [] X.env)).all (fun x => x.1.isSome) && decide ([a].length + ([] : List Keyword).length + (if ([] : List Keyword).isEmpty then 0 else 1) < 30)) = true := by rfl)
    (hl : (pa.endLine == pc.line) = true := by rfl) (hs : starEach [a] X.env = (false, eval a X.env) :: starEach [] X.env := by rfl) (hp : (backTo pc (starEach [] X.env)).any (·.1) = false := by rfl)
    (hw : swapsWith (.Call (.Attribute (.Name x px) "append" pa) [a] [] pc) none pos.line X.env = pure false := by rfl) : PS X (.Expr (.Call (.Attribute (.Name x px) "append" pa) [a] [] pc) pos) (tS (X.kw ea) W (sapp i F)) :=
  sApp hx he (pe_bm PySem.F.plainAttrs_list PySem.F.slot_list_append PySem.F.type_list_append mt_append hx (pa_cons he pa_nil hs) hb hf hl hs hp) hw
theorem sExtend (i : Nat) (hx : PE X (.Name x px) (tVar i)) (he : PE X a (tE (X.kw ea) W F)) (hb : attributeBase (.Name x px) "extend" X.env (eval (.Name x px) X.env) = eval (.Name x px) X.env := by rfl)
    (hf : ((backTo pc (starEach [a] X.env)).all (fun x => !x.1) && (backToKw pc (keywordEach [] X.env)).all (fun x => x.1.isSome) && decide ([a].length + ([] : List Keyword).length + (if ([] : List Keyword).isEmpty then 0 else 1) < 30)) = true := by rfl)
    (hl : (pa.endLine == pc.line) = true := by rfl) (hs : starEach [a] X.env = (false, eval a X.env) :: starEach [] X.env := by rfl) (hp : (backTo pc (starEach [] X.env)).any (·.1) = false := by rfl)
    (hw : swapsWith (.Call (.Attribute (.Name x px) "extend" pa) [a] [] pc) none pos.line X.env = pure false := by rfl) : PS X (.Expr (.Call (.Attribute (.Name x px) "extend" pa) [a] [] pc) pos) (tS (X.kw ea) W (sext i F)) :=
  sExt hx he (pe_bm PySem.F.plainAttrs_list PySem.F.slot_list_extend PySem.F.type_list_extend (MtM.or mt_extend mt_extT) hx (pa_cons he pa_nil hs) hb hf hl hs hp) hw
theorem sSet (i : Nat) (ha : PE X a (tE (X.kw ea) W F)) (hx : PE X (.Name x px) (tVar i)) (hj : PE X jx (tE (X.kw ea) W G))
    (hb : ∀ v, assign (.Subscript (.Name x px) jx ps) X.env v = (do
      let c ← holding [v] (eval (.Name x px) X.env)
      let d ← holding [v, c] (eval jx X.env)
      standAt ps
      holding [v, c, d] (setItem c d v)
      release [v, c, d] []) := by intro _; rfl)
    (hs : swapsWithSole [.Subscript (.Name x px) jx ps] a pos.line X.env = pure false := by rfl) (hw : swappedStores [.Subscript (.Name x px) jx ps] a X.env = pure none := by rfl)
    (h1 : (assignEach [.Subscript (.Name x px) jx ps] X.env).map (·.2) = [assign (.Subscript (.Name x px) jx ps) X.env] := by rfl) : PS X (.Assign [.Subscript (.Name x px) jx ps] a pos) (tS (X.kw ea) W (sput i G F)) :=
  sPut (ps_asg ha (pg_sub hx hj set_list hb) hs hw h1)
theorem sDSet (i : Nat) (z : Cz X k W) (ha : PE X a (tE (X.kw ea) W F)) (hx : PE X (.Name x px) (tVar i)) (hj : PE X jx (tE (X.kw ea) W G))
    (hb : ∀ v, assign (.Subscript (.Name x px) jx ps) X.env v = (do
      let c ← holding [v] (eval (.Name x px) X.env)
      let d ← holding [v, c] (eval jx X.env)
      standAt ps
      holding [v, c, d] (setItem c d v)
      release [v, c, d] []) := by intro _; rfl)
    (hs : swapsWithSole [.Subscript (.Name x px) jx ps] a pos.line X.env = pure false := by rfl) (hw : swappedStores [.Subscript (.Name x px) jx ps] a X.env = pure none := by rfl)
    (h1 : (assignEach [.Subscript (.Name x px) jx ps] X.env).map (·.2) = [assign (.Subscript (.Name x px) jx ps) X.env] := by rfl) : PS X (.Assign [.Subscript (.Name x px) jx ps] a pos) (tS (X.kw ea) W (sdput i G F)) :=
  sDPut (ps_asg ha (pg_sub hx hj (set_dict z.rm) hb) hs hw h1)
theorem gN (i : Nat) (z : Cz X k W) (hi : X.N[i]? = some x := by rfl) (hx : Loc X.env.scope x := by first | exact .inl rfl | exact .inr rfl) (hf : X.fn x = true ∨ X.env.scope.names.lookup x = some .local := by first | exact .inl rfl | exact .inr rfl) : PG X (.Name x pos) (tG (X.kw ea) [i] (gn i)) := gName' (pg_name z.nd hi hx hf)
theorem gC {as : List Expr} {is js : List Nat} {f : Tg} {g : List D → En → Option En} (h1 : PG X a (tG (X.kw ea) is f)) (h2 : PGs X as (tGs (X.kw ea) js g)) (hs : (assignEach (a :: as) X.env).map (·.2) = assign a X.env :: (assignEach as X.env).map (·.2) := by rfl) :
    PGs X (a :: as) (tGs (X.kw ea) (is ++ js) (gcons f g)) := gCons' h1 h2 (pgs_cons h1 h2 hs)
theorem gT {es : List Expr} {kk n : Nat} {is : List Nat} {g : List D → En → Option En} (z : Cz X k W) (hl : ∀ ds e e', g ds e = some e' → ds.length = n) (h : PGs X es (tGs (X.kw ea) is g)) (hn : (assignEach es X.env).length = n := by rfl) (hst : (assignEach es X.env).findIdx? (·.1) = none := by rfl) :
    PG X (.Tuple es kk pos) (tG (X.kw ea) is (gtup g)) := gTup' hl (pg_tup z.calm h hn hst)
theorem sUnp {tg : Expr} {is : List Nat} {f : Tg} (he : PE X a (tE (X.kw ea) W F)) (hg : PG X tg (tG (X.kw ea) is f)) (hs : swapsWithSole [tg] a pos.line X.env = pure false := by rfl) (hw : swappedStores [tg] a X.env = pure none := by rfl) (h1 : (assignEach [tg] X.env).map (·.2) = [assign tg X.env] := by rfl) :
    PS X (.Assign [tg] a pos) (tS (X.kw ea) W (sasgT f F)) := sAsgT he hg (ps_asg he hg hs hw h1)
theorem sLet (i : Nat) (z : Cz X k W) (he : PE X a (tE (X.kw ea) W F)) (hi : X.N[i]? = some x := by rfl) (hx : Loc X.env.scope x := by first | exact .inl rfl | exact .inr rfl) (hs : swapsWith a (some (.Name x px)) pos.line X.env = pure false := by rfl) (hf : X.fn x = true ∨ X.env.scope.names.lookup x = some .local := by first | exact .inl rfl | exact .inr rfl) :
    PS X (.Assign [.Name x px] a pos) (tS (X.kw ea) W (sasg i F)) := sAsg z.nd hi hx he hs hf
theorem sLetN (i : Nat) {L : En → R (List D)} (z : Cz X k W) (he : PE X a (tN (X.kw ea) W L)) (hi : X.N[i]? = some x := by rfl) (hx : Loc X.env.scope x := by first | exact .inl rfl | exact .inr rfl) (hs : swapsWith a (some (.Name x px)) pos.line X.env = pure false := by rfl) (hf : X.fn x = true ∨ X.env.scope.names.lookup x = some .local := by first | exact .inl rfl | exact .inr rfl) :
    PS X (.Assign [.Name x px] a pos) (tS (X.kw ea) W (sasgN i L)) := sAsgN z.nd hi hx he hs hf
theorem sLetD (i : Nat) (z : Cz X k W) (hi : X.N[i]? = some x := by rfl) (hx : Loc X.env.scope x := by first | exact .inl rfl | exact .inr rfl) (hs : swapsWith (.Dict [] [] pa) (some (.Name x px)) pos.line X.env = pure false := by rfl) (hf : X.fn x = true ∨ X.env.scope.names.lookup x = some .local := by first | exact .inl rfl | exact .inr rfl) :
    PS X (.Assign [.Name x px] (.Dict [] [] pa) pos) (tS (X.kw ea) W (sdnew i)) := sDNew z.nd hi hx hs hf
end
/-! ### defs by name -/
/-- the def x stands at the top as st -/
def Def (K : PySem.W.Frag) (mg : Str → Option Value) (x : Str) (st : Stmt) (ps : List Str) : Prop := ∃ f fd, Fun K x x st f fd ∧ (∀ us : List Value, us.length = ps.length → bindArgs fd ⟨us, []⟩ = pure (ps.zip us)) ∧ mg x = some (.ref f)
/-- the def x computes Fn -/
def OkF (P : Program) (w : World) (K : PySem.W.Frag) (mg : Str → Option Value) (base : Heap) (x : Str) (ps : List Str) (j : Nat) (Fn : List D → R D) : Prop :=
  ∃ f fd, FnOk P w K mg base (L2.CX P w) j f fd ps (spD ⟨K, w, 0⟩ mg ps.length Fn) ∧ PySem.W.keepIn K (.ref f) = true ∧ Binds K fd ps [] ∧ mg x = some (.ref f) ∧ ∃ oc od osl, K.lookup f = some ⟨oc, od, .func fd, osl⟩
theorem fun_look {K : PySem.W.Frag} {x q : Str} {st : Stmt} {f : Addr} {fd : FuncData} (F : Fun K x q st f fd) : ∃ oc od osl, K.lookup f = some ⟨oc, od, .func fd, osl⟩ := by
  obtain ⟨oc, od, kV, doc, pm, an, cdv, ct, osl, _, lk, _⟩ := F.ex
  exact ⟨oc, od, osl, lk⟩
section
variable {P : Program} {w : World} {K : PySem.W.Frag} {mg : Str → Option Value} {base : Heap}
theorem okO {x : Str} {st : Stmt} {N ps : List Str} {k : Nat} {B : En → Fl} (F : Def K mg x st ps) (S : FnScope N ps (defScope st))
    (body : ∀ (f : Addr) (cdv : Value) (A : Around) (outer : List Env) (s : Shared) (H : Hp) (E : XK), Cz (cxOf (L2.CX P w) P w K mg base N x (defScope st) f cdv A outer s H E) k (wB mg E) →
      PSs (cxOf (L2.CX P w) P w K mg base N x (defScope st) f cdv A outer s H E) (defBody st) (tS ⟨K, w, 0⟩ (wB mg E) B)) : OkF P w K mg base x ps (k + 1) (runD N.length B) := by
  obtain ⟨f, fd, F, b, m⟩ := F
  exact ⟨f, fd, okD F S (body f), F.kp, .all b, m, fun_look F⟩
/-- nothing is asked of a def that is not reached -/
theorem okBad {x : Str} {st : Stmt} {ps : List Str} {j : Nat} (F : Def K mg x st ps) : OkF P w K mg base x ps j (fun _ => .bad) := by
  obtain ⟨f, fd, F, b, m⟩ := F
  have no : ∀ vs H Q E, ¬ spD ⟨K, w, 0⟩ mg ps.length (fun _ => .bad) vs H Q E := fun vs H Q E h => by
    obtain ⟨_, _, _, _, _, h⟩ := h
    exact h
  exact ⟨f, fd, ⟨fun vs H Q E h => absurd h (no vs H Q E), fun A outer s H args us vs Q E _ _ _ _ h => absurd h (no vs H Q E)⟩, F.kp, .all b, m, fun_look F⟩
end
section
variable {X : Cx} {k j : Nat} {W : WE} {a : Expr} {es : List Expr} {L : En → R (List D)} {pos p : Pos} {x : Str} {ps : List Str} {Fn : List D → R D}
theorem xC1 (z : Cz X k W) (G : OkF X.prog X.w X.K X.mg X.base x ps j Fn) (hj : j ≤ k) (ha : PA X (a :: es) (tA (X.kw 0) W L)) (hg : Gl X x := by rfl)
    (hdb : (x == ("__debug__" : Str)) = false := by decide) (he : starEach (a :: es) X.env = (false, eval a X.env) :: starEach es X.env := by rfl) (hpl : (backTo pos (starEach es X.env)).any (·.1) = false := by rfl) : PE X (.Call (.Name x p) (a :: es) [] pos) (tE (X.kw 0) W (xcall ps.length Fn L)) := by
  obtain ⟨f, fd, G, kp, b, m, _⟩ := G
  exact xCall z G hj hg m kp b ha hdb he hpl
theorem xCV (z : Cz X k W) (G : OkF X.prog X.w X.K X.mg X.base x ps j Fn) (hj : j ≤ k) (ha : PA X (a :: es) (tAV (X.kw 0) W L)) (hg : Gl X x := by rfl)
    (hdb : (x == ("__debug__" : Str)) = false := by decide) (he : starEach (a :: es) X.env = (false, eval a X.env) :: starEach es X.env := by rfl) (hpl : (backTo pos (starEach es X.env)).any (·.1) = false := by rfl) : PE X (.Call (.Name x p) (a :: es) [] pos) (tE (X.kw 0) W (xcallV ps.length Fn L)) := by
  obtain ⟨f, fd, G, kp, b, m, _⟩ := G
  exact xCallV z G hj hg m kp b ha hdb he hpl
theorem xC0 (z : Cz X k W) (G : OkF X.prog X.w X.K X.mg X.base x ps j Fn) (hj : j ≤ k) (hg : Gl X x := by rfl) (hdb : (x == ("__debug__" : Str)) = false := by decide) : PE X (.Call (.Name x p) [] [] pos) (tE (X.kw 0) W (xcall ps.length Fn lnil)) := by
  obtain ⟨f, fd, G, kp, b, m, _⟩ := G
  exact xCall0 z G hj hg m kp b hdb
end
/-! ### the law -/
def spLaw (K : PySem.W.Frag) : Sp := fun vs H Q _ => ∃ (a : Addr) (ns : List Int), vs = [.ref a] ∧ SqL K H a (ns.map V.int) ∧ ns.length ≤ 63 ∧ ∀ H', Q (.bl true) H'
theorem spLaw_imp {Fn : List D → R D} (h : ∀ ns : List Int, ns.length ≤ 63 → Fn [scrD ns] = .ok (.bool true)) {K : PySem.W.Frag} {w : World} {mg : Str → Option Value} : ∀ vs H Q E, spLaw K vs H Q E → spD ⟨K, w, 0⟩ mg 1 Fn vs H Q E := fun vs H Q E ⟨a, ns, e, hS, hl, q⟩ => by
  subst e
  refine ⟨H, [scrD ns], Same.refl _, .cons (.scr hS) .nil, rfl, ?_⟩
  rw [h ns hl]
  intro v Hf' H' _ r
  cases r
  exact q H'
theorem noCX {P : Program} {w : World} {outer : List Env} {H : Hp} {s s' : Shared} {u : Value} (h : L2.CX P w outer H s (fun _ _ _ => False) u s') : False := by
  obtain ⟨_, _, _, _, _, _, _, _, _, _, _, _, q⟩ := h
  exact q
theorem law_top {P : Program} {w : World} {K : PySem.W.Frag} {mg : Str → Option Value} {fa : Addr} {k : Nat} {st : Stmt} {Fn : List D → R D} (hmg : mg "law" = some (.ref fa)) (T : Def K mg "law" st ["script"])
    (h : ∀ base : Heap, OkF P w K mg base "law" ["script"] k Fn) (imp : ∀ ns : List Int, ns.length ≤ 63 → Fn [scrD ns] = .ok (.bool true)) :
    ∃ fd : FuncData, (∀ (s : Shared) (u : Value), BindsTo s fd ⟨[u], []⟩ [("script", u)]) ∧ ∀ base : Heap, K.In base → base.Ns mainGlobals mg → FnOk P w K mg base (L2.CX P w) k fa fd ["script"] (spLaw K) := by
  obtain ⟨f, fd, F, b, m⟩ := T
  obtain ⟨oc, od, osl, lk⟩ := fun_look F
  refine ⟨fd, fun s u => .of_eq (b [u] rfl), fun base _ _ => ?_⟩
  obtain ⟨f', fd', G, kp, b', m', oc', od', osl', lk'⟩ := h base
  have e1 : f' = f := by rw [m] at m'; injection m' with m'; injection m' with m'; exact m'.symm
  subst e1
  have e2 : f' = fa := by rw [m] at hmg; injection hmg with hmg; injection hmg
  subst e2
  rw [lk] at lk'
  injection lk' with lk'
  injection lk' with _ _ h3 _
  injection h3 with h3
  subst h3
  exact G.imp (spLaw_imp imp)
end Pu
/-! PuQ: more rules: zip, frozen -/
namespace Pu
open PySem L2
section
variable {X : Cx} {W : WE} {a b c tg : Expr} {F G Fc : En → R D} {pos p : Pos}
/-- zip(a, b), both frozen lists or both tuples -/
theorem iZipZ {elts : List Expr} {kk : Nat} {tpos : Pos} (hg : Gl X "zip") (hm : X.mg "zip" = none) (ha : PE X a (tE (X.kw ea) W F)) (hb : PE X b (tE (X.kw ea) W G))
    (hs : starEach [a, b] X.env = (false, eval a X.env) :: starEach [b] X.env := by rfl) (hs2 : starEach [b] X.env = [(false, eval b X.env)] := by rfl) : PI X (.Tuple elts kk tpos) (.Call (.Name "zip" p) [a, b] [] pos) (tI (X.kw ea) W true (izip F G)) :=
  PI_weak (pi_zipF hg hm (pa_cons ha (pa_cons hb pa_nil hs2) hs) hs (by rw [hs2]; rfl)) fun σ H Q ⟨H0, Hf0, Hf, e, S, p⟩ => ⟨H0, Hf0, Hf, e, S, p.bind.mono fun x H1 ⟨Hf1, d, g, r, p1⟩ => ⟨H0, Hf0, Hf1, e, S.grow g, p1.bind.mono fun y H2 ⟨Hf2, d', g2, r2, p2⟩ => by
    obtain ⟨ds, ez, q⟩ := p2.of_opt
    have r' := Rp.mono g2.ff r
    cases r' with
    | lst hl ra =>
      cases r2 with
      | lst hl' ra' =>
        cases ez
        exact ⟨_, _, _, _, rfl, .inl ⟨SqL.of (g2.fh _ _ hl), SqL.of (g2.fh _ _ hl'), q _ Hf2 H2 (Grow.refl g2.fh) (Wk.zipL (SqL.of hl) (SqL.of hl') ra ra')⟩⟩
      | _ => cases ez
    | tup hl ra =>
      cases r2 with
      | tup hl' ra' =>
        cases ez
        exact ⟨_, _, _, _, rfl, .inr ⟨(hl.mono g2.fh).sq, (hl'.mono g2.fh).sq, q _ Hf2 H2 (Grow.refl g2.fh) (Wk.zipT hl.sq hl'.sq ra ra')⟩⟩
      | _ => cases ez
    | _ => cases ez⟩⟩
end
end Pu
/-! PuR: raise, try, the caught error -/
namespace Pu
open PySem L2
/-- the error class x stands at C -/
structure ExD (K : PySem.W.Frag) (mg : Str → Option Value) (x : Str) (C : Addr) : Prop where
  g : mg x = some (.ref C)
  q : PySem.W.excIn K C [.type "ValueError", .type "Exception", .type "BaseException", .type "object"] "ValueError.__new__" = true
  k : PySem.W.keepIn K (.ref C) = true
  b : PySem.W.subIn K (.ref C) (.type "BaseException") = some true
  t : PySem.W.typeIn K (.ref C) = some (.type "type")
/-- errors of class x are caught by 'except y' -/
def Hit (K : PySem.W.Frag) (mg : Str → Option Value) (y x : Str) : Prop := ∃ C D, mg x = some (.ref C) ∧ mg y = some (.ref D) ∧ PySem.W.exmOne K (.ref C) (.ref D) = some true ∧ ExcC K C
/-- isinstance(e, y), e of class x -/
def Kit (K : PySem.W.Frag) (mg : Str → Option Value) (x y : Str) (b : Bool) : Prop := ∃ C D, mg x = some (.ref C) ∧ mg y = some (.ref D) ∧ PySem.W.kitOne K (.ref C) (.ref D) = some b
def KitT (K : PySem.W.Frag) (mg : Str → Option Value) (x : Str) (T : String) (b : Bool) : Prop := ∃ C, mg x = some (.ref C) ∧ PySem.W.kitOne K (.ref C) (.type T) = some b
theorem kit_own {K : PySem.W.Frag} {C D : Addr} {b : Bool} (h1 : PySem.W.isClsIn K C = true) (h2 : PySem.W.typeIn K (.ref C) = some (.type "type")) (h3 : PySem.W.subIn K (.ref D) (.ref C) = some b) (h4 : PySem.W.subIn K (.ref C) (.ref C) = some true) : PySem.W.kitOne K (.ref D) (.ref C) = some b := by
  unfold PySem.W.kitOne
  by_cases e : D = C
  · subst e
    rw [h3] at h4
    rw [h4, if_pos (beq_self_eq_true _)]
  · rw [if_neg (fun z => e (Value.ref.inj (beq_iff_eq.mp z)))]
    show (if ((PySem.W.clsIn K C).isSome && PySem.W.typeIn K (.ref C) == some (.type "type")) = true then PySem.W.subIn K (.ref D) (.ref C) else none) = _
    have h1 : (PySem.W.clsIn K C).isSome = true := h1
    rw [h1, h2, if_pos (by rfl)]
    exact h3
theorem kit_blt {K : PySem.W.Frag} {D : Addr} {T : String} {b : Bool} (h1 : PySem.W.kitMeta T = true) (h3 : PySem.W.subIn K (.ref D) (.type T) = some b) : PySem.W.kitOne K (.ref D) (.type T) = some b := by
  unfold PySem.W.kitOne
  rw [if_neg (by intro z; exact nomatch (beq_iff_eq.mp z))]
  show (if PySem.W.kitMeta T = true then PySem.W.subIn K (.ref D) (.type T) else none) = _
  rw [if_pos h1]
  exact h3
def srai (c : Str) : En → Fl := fun e => .ex c e
section
variable {X : Cx} {k : Nat} {W : WE} {x m : Str} {j : Nat} {p p2 pos pos' : Pos}
theorem sRaise (z : Cz X k W) (E : ∃ C, ExD X.K X.mg x C) (hg : Gl X x := by rfl) (hdb : (x == ("__debug__" : Str)) = false := by decide) :
    PS X (.Raise (some (.Call (.Name x p) [.Constant (.str m) j p2] [] pos)) none pos') (tS (X.kw ea) W (srai x)) := by
  obtain ⟨C, E⟩ := E
  exact PS_weak (ps_raise z.calm z.tk (pmk_own PySem.F.excBase_ValueError E.q E.g E.k (raises_own E.b E.t) hg hdb)) fun D σ H ⟨H0, Hf0, Hf, e, S, p⟩ => ⟨rfl, x, E.g, p σ Hf H S (Same.refl _)⟩
end
/-! ### from one place of the error to another -/
section
variable {K : PySem.W.Frag} {w : World} {a b : Addr} {H : Hp}
mutual
theorem Rp.at : ∀ {d : D} {v : V}, Rp ⟨K, w, a⟩ H v d → Rp ⟨K, w, b⟩ H v d
  | _, _, .non => .non
  | _, _, .bl b => .bl b
  | _, _, .int i => .int i
  | _, _, .str x => .str x
  | _, _, .lst h r => .lst h (RpAll.at r)
  | _, _, .tup h r => .tup h (RpAll.at r)
  | _, _, .dct h r => .dct h (RpDct.at r)
  | _, _, .scr h => .scr h
  | _, _, .tab h => .tab h
theorem RpAll.at : ∀ {ds : List D} {vs : List V}, RpAll ⟨K, w, a⟩ H vs ds → RpAll ⟨K, w, b⟩ H vs ds
  | _, _, .nil => .nil
  | _, _, .cons h r => .cons (Rp.at h) (RpAll.at r)
theorem RpDct.at : ∀ {kvs : List (D × D)} {xs : List (NestedKey × Addr × Value)}, RpDct ⟨K, w, a⟩ H xs kvs → RpDct ⟨K, w, b⟩ H xs kvs
  | _, _, .nil => .nil
  | _, _, .cons hk hd h rv h' r => .cons hk hd (Rp.at h) rv (Rp.at h') (RpDct.at r)
end
end
def unX1 : Sl → Sl
  | .exc => .un
  | s => s
def unX (e : En) : En := e.map unX1
theorem SR.at {K : PySem.W.Frag} {w : World} {a b : Addr} {H0 Hf0 Hf H : Hp} {σ : L2.St} {e : En} (S : SR ⟨K, w, a⟩ H0 Hf0 Hf H σ e) : SR ⟨K, w, b⟩ H0 Hf0 Hf H σ (unX e) := by
  have get : ∀ {i : Nat} {s : Sl}, (unX e)[i]? = some s → ∃ t, e[i]? = some t ∧ s = unX1 t := fun {i s} h => by
    unfold unX at h
    rw [List.getElem?_map] at h
    cases q : e[i]? with
    | none => rw [q] at h; cases h
    | some t => rw [q] at h; cases h; exact ⟨t, rfl, rfl⟩
  have own : ∀ {t : Sl}, (unX1 t).isOwn = true → t.isOwn = true := fun {t} h => by cases t <;> first | exact h | cases h
  refine ⟨S.gr, by unfold unX; rw [List.length_map]; exact S.len, fun i s v h1 h2 => ?_, fun i j s t c hij h1 h2 o1 o2 => ?_⟩
  · obtain ⟨t, q, rfl⟩ := get h1
    have z := S.sl i t v q h2
    cases t with
    | un => trivial
    | dat d => obtain ⟨x, ex, r⟩ := z; exact ⟨x, ex, r.at⟩
    | own ds => obtain ⟨c, xs, ev, ha, h0, hf, r⟩ := z; exact ⟨c, xs, ev, ha, h0, hf, r.at⟩
    | dic ks => obtain ⟨c, xs, ev, ha, h0, hf, r⟩ := z; exact ⟨c, xs, ev, ha, h0, hf, r.at⟩
    | exc => trivial
  · obtain ⟨s', q1, rfl⟩ := get h1
    obtain ⟨t', q2, rfl⟩ := get h2
    exact S.sep i j s' t' c hij q1 q2 (own o1) (own o2)
/-! ### try -/
/-- the suite for the class c -/
def gsel : List (Str × (En → Fl)) → Str → En → Fl
  | [], _ => fun _ => .bad
  | p :: r, c => if c = p.1 then p.2 else gsel r c
def endX (i : Nat) : Fl → Fl
  | .nx e => .nx (unX (e.set i .un))
  | .bk e => .bk (unX (e.set i .un))
  | .ct e => .ct (unX (e.set i .un))
  | .rt d => .rt d
  | .ex _ _ => .bad
  | .bad => .bad
def stryA (i : Nat) (l : List (Str × (En → Fl))) (A : En → Fl) : En → Fl := fun e => match A e with
  | .ex c e1 => endX i (gsel l c ((unX e1).set i .exc))
  | r => r
def noE : Fl → Fl
  | .ex _ _ => .bad
  | r => r
def stry (l : List (Str × (En → Fl))) (A : En → Fl) : En → Fl := fun e => match A e with
  | .ex c e1 => noE (gsel l c e1)
  | r => r
/-- the suites -/
def Hs (X : Cx) (y : Str) (as : Bool) (suite : List Stmt) (l : List (Str × (En → Fl))) : Prop := ∀ p ∈ l, ∃ C D, X.mg p.1 = some (.ref C) ∧ X.mg y = some (.ref D) ∧ PySem.W.exmOne X.K (.ref C) (.ref D) = some true ∧
  ∀ (a : Addr) (oe : Obj) (pn : List (Addr × Obj)), Zc (.ref C) none oe → (∃ vs, oe.data = .fields vs) → PSs (X.suite a ((a, oe) :: pn)) suite (tS (X.kw (if as then a else 0)) W0 p.2)
theorem hsNil {X : Cx} {y : Str} {as : Bool} {suite : List Stmt} : Hs X y as suite [] := fun _ h => nomatch h
/-- where the caught error stands -/
structure Cs (X : Cx) (c : Str) (a : Addr) (oe : Obj) (pn : List (Addr × Obj)) : Prop where
  nd : X.N.Nodup
  ex : ∃ C, X.mg c = some (.ref C) ∧ Zc (.ref C) none oe ∧ (∃ vs, oe.data = .fields vs) ∧ ExcC X.K C
theorem hsCons {X : Cx} {k : Nat} {W : WE} {y c : Str} {as : Bool} {suite : List Stmt} {A : En → Fl} {l : List (Str × (En → Fl))} (z : Cz X k W) (h : Hit X.K X.mg y c)
    (hs : ∀ (a : Addr) (oe : Obj) (pn : List (Addr × Obj)), Cs X c a oe pn → PSs (X.suite a ((a, oe) :: pn)) suite (tS (X.kw (if as then a else 0)) W0 A)) (r : Hs X y as suite l) : Hs X y as suite ((c, A) :: l) := fun p hp => by
  rcases List.mem_cons.mp hp with rfl | hp
  · obtain ⟨C, D, h1, h2, h3, h4⟩ := h
    exact ⟨C, D, h1, h2, h3, fun a oe pn zc hf => hs a oe pn ⟨z.nd, C, h1, zc, hf, h4⟩⟩
  · exact r p hp
theorem gsel_get : ∀ (l : List (Str × (En → Fl))) (c : Str), (∃ A, (c, A) ∈ l ∧ gsel l c = A) ∨ gsel l c = fun _ => .bad
  | [], _ => .inr rfl
  | p :: r, c => by
    by_cases h : c = p.1
    · left
      refine ⟨p.2, by rw [h]; exact List.mem_cons_self, ?_⟩
      unfold gsel
      rw [if_pos h]
    · have e : gsel (p :: r) c = gsel r c := by
        conv => lhs; unfold gsel
        rw [if_neg h]
      rw [e]
      rcases gsel_get r c with ⟨A, h1, h2⟩ | h1
      · exact .inl ⟨A, List.mem_cons_of_mem _ h1, h2⟩
      · exact .inr h1
def weOf (mg : Str → Option Value) (W : WX) : WE := fun c σ H => ∀ cls, mg c = some cls → W cls none σ H
theorem Cz.tr {X : Cx} {k : Nat} {W : WE} (z : Cz X k W) {pn : List (Addr × Obj)} {xe : Value → Shared → Prop} {W' : WX} (tk : Takes (X.tr pn xe) W') (po : PassesOwn (model X.prog X.w) X.A X.env xe) : Cz (X.tr pn xe) k (weOf X.mg W') :=
  ⟨z.calm, z.nd, tk.imp fun cls d σ H h => by
    obtain ⟨rfl, c, hc, q⟩ := h
    exact q cls hc, po, z.rm⟩
theorem PSs_ex {X : Cx} {ss : List Stmt} {ι : Type} {t : ι → TS} (h : ∀ i, PSs X ss (t i)) : PSs X ss (fun D σ H => ∃ i, t i D σ H) := ⟨fun pins s σ H D I ⟨i, q⟩ => (h i).run pins s σ H D I q⟩
section
variable {X : Cx} {k : Nat} {W : WE} {y n : Str} {i : Nat} {body suite : List Stmt} {b₀ : Stmt} {np pos pos' : Pos} {A : En → Fl} {l : List (Str × (En → Fl))}
theorem sTryA (i : Nat) (z : Cz X k W) (hh : Hs X y true (b₀ :: suite) l) (hb : ∀ (W' : WE) (pn : List (Addr × Obj)) (xe : Value → Shared → Prop), Cz (X.tr pn xe) k W' → PSs (X.tr pn xe) body (tS (X.kw 0) W' A))
    (cM : ∃ D, X.mg y = some (.ref D)) (hs : X.stack = X.env :: X.outer := by rfl) (hf : X.env.frame = some X.env.locals := by rfl) (hi : X.N[i]? = some n := by rfl) (hln : X.env.kindOf n = some .local := by rfl) (hg : Gl X y := by rfl) (hdb : (y == ("__debug__" : Str)) = false := by decide) :
    PS X (.Try body [.ExceptHandler (some (.Name y np)) (some n) (b₀ :: suite) pos'] [] [] pos) (tS (X.kw 0) W (stryA i l A)) := by
  obtain ⟨D, hD⟩ := cM
  let J := { q : (Str × (En → Fl)) × Addr // q.1 ∈ l ∧ X.mg q.1.1 = some (.ref q.2) }
  let ts : Addr → Value → Option Addr → TS := fun a cls d Dn σ H => ∃ q : { q : (Str × (En → Fl)) // q ∈ l ∧ X.mg q.1 = some cls ∧ d = none }, tS (X.kw a) W0 q.1.2 Dn σ H
  refine PS_weak (ps_try_as (i := i) (c := .ref D) (ts := ts) (Wout := wx X.mg W) (tb := fun W' => tS (X.kw 0) (weOf X.mg W') A) hs hf z.nd hi hln ⟨hg, hdb, .inl hD⟩ z.tk (fun W' pn xe tk po => hb _ pn xe (z.tr tk po)) fun a oe cls d pn zc hfl => PSs_ex fun q => ?_) fun Dn σ H h => ?_
  · obtain ⟨⟨c, B⟩, hq, hm, rfl⟩ := q
    obtain ⟨C, D', h1, h2, h3, h4⟩ := hh (c, B) hq
    have hm : X.mg c = some cls := hm
    have h1 : X.mg c = some (.ref C) := h1
    rw [h1] at hm
    cases hm
    exact h4 a oe pn zc hfl
  · obtain ⟨H0, Hf0, Hf, e, S, p⟩ := h
    refine ⟨H0, Hf0, Hf, e, S, ?_⟩
    unfold stryA at p
    revert p
    cases A e with
    | nx e1 => exact fun p => p
    | rt d => exact fun p => p
    | bk e1 => exact fun p => p
    | ct e1 => exact fun p => p
    | bad => exact fun p => p
    | ex c e1 =>
      show PoS (X.kw 0) W Dn H0 Hf0 Hf (endX i (gsel l c ((unX e1).set i .exc))) → _
      rcases gsel_get l c with ⟨B, hmem, eq⟩ | eq
      · rw [eq]
        intro p σ1 Hf1 H1 S1 s1 cls hcls
        obtain ⟨C, D', h1, h2, h3, h4⟩ := hh (c, B) hmem
        have h1 : X.mg c = some (.ref C) := h1
        have ec : cls = .ref C := Option.some.inj (hcls.symm.trans h1)
        have eD : D' = D := by
          rw [hD] at h2
          injection h2 with h2; injection h2 with h2; exact h2.symm
        subst ec eD
        refine ⟨true, h3, fun _ a na => ⟨⟨(c, B), hmem, h1, rfl⟩, H0, Hf0, Hf1, (unX e1).set i .exc, ?_, ?_⟩, fun q => nomatch q⟩
        · exact (S1.at (b := a)).put i (some (.ref a)) .exc rfl fun o => nomatch o
        · have p1 := PoS.same p s1
          revert p1
          show PoS (X.kw 0) W Dn H0 Hf0 Hf1 (endX i (B ((unX e1).set i .exc))) → PoS (X.kw a) W0 _ H0 Hf0 Hf1 (B ((unX e1).set i .exc))
          cases B ((unX e1).set i .exc) with
          | nx e2 => exact fun p1 σ2 Hf2 H2 S2 s2 => p1 (σ2.set i none) Hf2 H2 ((S2.put i none .un trivial fun o => nomatch o).at) s2
          | bk e2 => exact fun p1 σ2 Hf2 H2 S2 s2 => p1 (σ2.set i none) Hf2 H2 ((S2.put i none .un trivial fun o => nomatch o).at) s2
          | ct e2 => exact fun p1 σ2 Hf2 H2 S2 s2 => p1 (σ2.set i none) Hf2 H2 ((S2.put i none .un trivial fun o => nomatch o).at) s2
          | rt d => exact fun p1 v Hf2 H2 g r => p1 v Hf2 H2 g r.at
          | ex c e2 => exact fun p1 => p1.elim
          | bad => exact fun p1 => p1
      · rw [eq]
        exact fun p => p.elim
theorem sTry (z : Cz X k W) (hh : Hs X y false (b₀ :: suite) l) (hb : ∀ (W' : WE) (pn : List (Addr × Obj)) (xe : Value → Shared → Prop), Cz (X.tr pn xe) k W' → PSs (X.tr pn xe) body (tS (X.kw 0) W' A))
    (cM : ∃ D, X.mg y = some (.ref D)) (hs : X.stack = X.env :: X.outer := by rfl) (hf : X.env.frame = some X.env.locals := by rfl) (hg : Gl X y := by rfl) (hdb : (y == ("__debug__" : Str)) = false := by decide) :
    PS X (.Try body [.ExceptHandler (some (.Name y np)) none (b₀ :: suite) pos'] [] [] pos) (tS (X.kw 0) W (stry l A)) := by
  obtain ⟨D, hD⟩ := cM
  let ts : Addr → Value → Option Addr → TS := fun a cls d Dn σ H => ∃ q : { q : (Str × (En → Fl)) // q ∈ l ∧ X.mg q.1 = some cls ∧ d = none }, tS (X.kw 0) W0 q.1.2 Dn σ H
  refine PS_weak (ps_try_only (c := .ref D) (ts := ts) (Wout := wx X.mg W) (tb := fun W' => tS (X.kw 0) (weOf X.mg W') A) hs hf ⟨hg, hdb, .inl hD⟩ z.tk (fun W' pn xe tk po => hb _ pn xe (z.tr tk po)) fun a oe cls d pn zc hfl => PSs_ex fun q => ?_) fun Dn σ H h => ?_
  · obtain ⟨⟨c, B⟩, hq, hm, rfl⟩ := q
    obtain ⟨C, D', h1, h2, h3, h4⟩ := hh (c, B) hq
    have hm : X.mg c = some cls := hm
    have h1 : X.mg c = some (.ref C) := h1
    rw [h1] at hm
    cases hm
    exact h4 a oe pn zc hfl
  · obtain ⟨H0, Hf0, Hf, e, S, p⟩ := h
    refine ⟨H0, Hf0, Hf, e, S, ?_⟩
    unfold stry at p
    revert p
    cases A e with
    | nx e1 => exact fun p => p
    | rt d => exact fun p => p
    | bk e1 => exact fun p => p
    | ct e1 => exact fun p => p
    | bad => exact fun p => p
    | ex c e1 =>
      show PoS (X.kw 0) W Dn H0 Hf0 Hf (noE (gsel l c e1)) → _
      rcases gsel_get l c with ⟨B, hmem, eq⟩ | eq
      · rw [eq]
        intro p σ1 Hf1 H1 S1 s1 cls hcls
        obtain ⟨C, D', h1, h2, h3, h4⟩ := hh (c, B) hmem
        have h1 : X.mg c = some (.ref C) := h1
        have ec : cls = .ref C := Option.some.inj (hcls.symm.trans h1)
        have eD : D' = D := by
          rw [hD] at h2
          injection h2 with h2; injection h2 with h2; exact h2.symm
        subst ec eD
        refine ⟨true, h3, fun _ a na => ⟨⟨(c, B), hmem, h1, rfl⟩, H0, Hf0, Hf1, e1, S1, ?_⟩, fun q => nomatch q⟩
        have p1 := PoS.same p s1
        revert p1
        show PoS (X.kw 0) W Dn H0 Hf0 Hf1 (noE (B e1)) → PoS (X.kw 0) W0 Dn H0 Hf0 Hf1 (B e1)
        cases B e1 with
        | nx e2 => exact fun p1 => p1
        | bk e2 => exact fun p1 => p1
        | ct e2 => exact fun p1 => p1
        | rt d => exact fun p1 => p1
        | ex c e2 => exact fun p1 => p1.elim
        | bad => exact fun p1 => p1
      · rw [eq]
        exact fun p => p.elim
end
/-! ### in a suite -/
def xisx (i : Nat) (b : Bool) : En → R D := fun e => match e[i]? with
  | some .exc => .ok (.bool b)
  | _ => .bad
section
variable {X : Cx} {W : WE} {c x y : Str} {i : Nat} {a : Addr} {oe : Obj} {pn : List (Addr × Obj)} {b : Bool} {p px py pos : Pos} {T : String}
theorem isx_of {te : TA} (hcs : Cs X c a oe pn) {ts : TE} {v : V} {cv : Value} (hv : ∀ u, RelV v u → u = cv) (hkit : ∀ C, X.mg c = some (.ref C) → PySem.W.kitOne X.K (.ref C) cv = some b) {e2 : Expr} (h2 : PE (X.suite a ((a, oe) :: pn)) e2 (tC v))
    (hx : PE (X.suite a ((a, oe) :: pn)) (.Name x px) (tVar i)) (hg : Gl X "isinstance") (hm : X.mg "isinstance" = none) (he2 : starEach [.Name x px, e2] X.env = (false, eval (.Name x px) X.env) :: starEach [e2] X.env) (he3 : starEach [e2] X.env = [(false, eval e2 X.env)]) :
    PE (X.suite a ((a, oe) :: pn)) (.Call (.Name "isinstance" p) [.Name x px, e2] [] pos) (tE (X.kw a) W (xisx i b)) := by
  obtain ⟨nd, C, hc, zc, hf, ec⟩ := hcs
  refine PE_weak (pe_callB (X := X.suite a ((a, oe) :: pn)) (call_isE ec zc hf) hg hm bt_isinstance (pa_cons hx (pa_cons h2 pa_nil he3) he2) (by decide) (by decide) he2 (by rw [he3]; rfl)) fun σ H Q ⟨H0, Hf0, Hf, e, S, pp⟩ => ?_
  unfold xisx at pp
  cases q : e[i]? with
  | none => rw [q] at pp; exact pp.elim
  | some s =>
    rw [q] at pp
    cases s with
    | exc =>
      obtain ⟨u, hu⟩ := S.lt q
      have hz : u = some (.ref a) := S.sl i .exc u q hu
      subst hz
      exact ⟨_, hu, v, cv, b, rfl, hv, hkit C hc, pp _ Hf H (Grow.refl S.gr.fh) (.bl b)⟩
    | un => exact pp.elim
    | dat d => exact pp.elim
    | own ds => exact pp.elim
    | dic ks => exact pp.elim
theorem xIsO (hcs : Cs X c a oe pn) (hkit : Kit X.K X.mg c y b) (hx : PE (X.suite a ((a, oe) :: pn)) (.Name x px) (tVar i)) (hm : X.mg "isinstance" = none) (hg : Gl X "isinstance" := by rfl) (hgy : Gl X y := by rfl) (hdb : (y == ("__debug__" : Str)) = false := by decide)
    (he2 : starEach [.Name x px, .Name y py] X.env = (false, eval (.Name x px) X.env) :: starEach [.Name y py] X.env := by rfl) (he3 : starEach [Expr.Name y py] X.env = [(false, eval (.Name y py) X.env)] := by rfl) :
    PE (X.suite a ((a, oe) :: pn)) (.Call (.Name "isinstance" p) [.Name x px, .Name y py] [] pos) (tE (X.kw a) W (xisx i b)) := by
  obtain ⟨C, D, h1, h2, h3⟩ := hkit
  exact isx_of (te := fun _ _ _ => True) (ts := fun _ _ _ => True) hcs (v := .ref D) (cv := .ref D) (fun u h => h) (fun C' hC => by rw [h1] at hC; injection hC with hC; injection hC with hC; subst hC; exact h3) (pe_glob (X := X.suite a ((a, oe) :: pn)) hgy h2 rfl hdb) hx hg hm he2 he3
theorem xIsB (hcs : Cs X c a oe pn) (hkit : KitT X.K X.mg c T b) (hv : bootBuiltins y = some (.type T)) (hmy : X.mg y = none) (hx : PE (X.suite a ((a, oe) :: pn)) (.Name x px) (tVar i)) (hm : X.mg "isinstance" = none) (hg : Gl X "isinstance" := by rfl) (hgy : Gl X y := by rfl) (hn : y ≠ "__name__" := by decide) (hdb : (y == ("__debug__" : Str)) = false := by decide)
    (he2 : starEach [.Name x px, .Name y py] X.env = (false, eval (.Name x px) X.env) :: starEach [.Name y py] X.env := by rfl) (he3 : starEach [Expr.Name y py] X.env = [(false, eval (.Name y py) X.env)] := by rfl) :
    PE (X.suite a ((a, oe) :: pn)) (.Call (.Name "isinstance" p) [.Name x px, .Name y py] [] pos) (tE (X.kw a) W (xisx i b)) := by
  obtain ⟨C, h1, h3⟩ := hkit
  exact isx_of (te := fun _ _ _ => True) (ts := fun _ _ _ => True) hcs (v := .ty T) (cv := .type T) (fun u h => h) (fun C' hC => by rw [h1] at hC; injection hC with hC; injection hC with hC; subst hC; exact h3) (pe_bltn (X := X.suite a ((a, oe) :: pn)) (v := .ty T) hgy hmy hv rfl hn hdb) hx hg hm he2 he3
end
section
variable {X : Cx} {W : WE} {a : Expr} {F : En → R D} {pos px : Pos} {x : Str}
theorem sLetS (i : Nat) (nd : X.N.Nodup) (he : PE X a (tE (X.kw ea) W F)) (hi : X.N[i]? = some x := by rfl) (hx : Loc X.env.scope x := by first | exact .inl rfl | exact .inr rfl) (hs : swapsWith a (some (.Name x px)) pos.line X.env = pure false := by rfl) (hf : X.fn x = true ∨ X.env.scope.names.lookup x = some .local := by first | exact .inl rfl | exact .inr rfl) :
    PS X (.Assign [.Name x px] a pos) (tS (X.kw ea) W (sasg i F)) := sAsg nd hi hx he hs hf
end
theorem bt_ValueError : bootBuiltins "ValueError" = some (.type "ValueError") := by decide +kernel
end Pu
/-! Ev: how the words compute -/
namespace Pu
open PySem L2
/-! ### results and flows -/
def Fl.andThen (r : Fl) (B : En → Fl) : Fl := match r with
  | .nx e => B e
  | r => r
@[simp] theorem then_nx (e : En) (B : En → Fl) : (Fl.nx e).andThen B = B e := rfl
@[simp] theorem then_rt (d : D) (B : En → Fl) : (Fl.rt d).andThen B = .rt d := rfl
@[simp] theorem then_bk (e : En) (B : En → Fl) : (Fl.bk e).andThen B = .bk e := rfl
@[simp] theorem then_ct (e : En) (B : En → Fl) : (Fl.ct e).andThen B = .ct e := rfl
@[simp] theorem then_ex (c : Str) (e : En) (B : En → Fl) : (Fl.ex c e).andThen B = .ex c e := rfl
@[simp] theorem sseq_ev (A B : En → Fl) (e : En) : sseq A B e = (A e).andThen B := by
  unfold sseq Fl.andThen
  cases A e <;> rfl
@[simp] theorem snil_ev (e : En) : snil e = .nx e := rfl
@[simp] theorem scont_ev (e : En) : scont e = .ct e := rfl
@[simp] theorem liftE_ok (d : D) (e : En) (f : D → Fl) : liftE (.ok d) e f = f d := rfl
@[simp] theorem liftE_ex (c : Str) (e : En) (f : D → Fl) : liftE (.ex c) e f = .ex c e := rfl
@[simp] theorem sasg_ev (i : Nat) (F : En → R D) (e : En) : sasg i F e = liftE (F e) e fun d => .nx (e.set i (.dat d)) := rfl
def liftL (r : R (List D)) (e : En) (f : List D → Fl) : Fl := match r with
  | .ok d => f d
  | .ex c => .ex c e
  | .bad => .bad
@[simp] theorem liftL_ok (d : List D) (e : En) (f : List D → Fl) : liftL (.ok d) e f = f d := rfl
@[simp] theorem sasgN_ev (i : Nat) (F : En → R (List D)) (e : En) : sasgN i F e = liftL (F e) e fun d => .nx (e.set i (.own d)) := by
  unfold sasgN liftL
  cases F e <;> rfl
def optF (o : Option En) : Fl := match o with
  | some e' => .nx e'
  | none => .bad
@[simp] theorem optF_some (e : En) : optF (some e) = .nx e := rfl
@[simp] theorem sasgT_ev (f : Tg) (F : En → R D) (e : En) : sasgT f F e = liftE (F e) e fun d => optF (f d e) := rfl
def retF (r : R D) (e : En) : Fl := match r with
  | .ok d => .rt d
  | .ex c => .ex c e
  | .bad => .bad
@[simp] theorem retF_ok (d : D) (e : En) : retF (.ok d) e = .rt d := rfl
@[simp] theorem retF_ex (c : Str) (e : En) : retF (.ex c) e = .ex c e := rfl
@[simp] theorem sret_ev (F : En → R D) (e : En) : sret F e = retF (F (fz e)) (fz e) := by
  unfold sret retF
  cases F (fz e) <;> rfl
@[simp] theorem fz_nil : fz [] = [] := rfl
@[simp] theorem fz_cons (s : Sl) (e : En) : fz (s :: e) = frz1 s :: fz e := rfl
@[simp] theorem frz1_dat (d : D) : frz1 (.dat d) = .dat d := rfl
@[simp] theorem frz1_un : frz1 .un = .un := rfl
@[simp] theorem frz1_own (ds : List D) : frz1 (.own ds) = .dat (.list ds) := rfl
@[simp] theorem frz1_dic (ds : List (D × D)) : frz1 (.dic ds) = .dat (.dict ds) := rfl
@[simp] theorem sif_t {T : En → R Bool} {A B : En → Fl} {e : En} (h : T e = .ok true) : sif T A B e = A e := by unfold sif; rw [h]
@[simp] theorem sif_f {T : En → R Bool} {A B : En → Fl} {e : En} (h : T e = .ok false) : sif T A B e = B e := by unfold sif; rw [h]
theorem sif_b {T : En → R Bool} {A B : En → Fl} {e : En} {b : Bool} (h : T e = .ok b) : sif T A B e = if b = true then A e else B e := by unfold sif; rw [h]; cases b <;> rfl
/-! ### names, operations -/
@[simp] theorem xvE_ev (i : Nat) (e : En) : xvE i e = getE e i := rfl
@[simp] theorem xvV_ev (i : Nat) (e : En) : xvV i e = getV e i := rfl
@[simp] theorem getE_z (d : D) (e : En) : getE (.dat d :: e) 0 = .ok d := rfl
@[simp] theorem getE_s (s : Sl) (e : En) (i : Nat) : getE (s :: e) (i + 1) = getE e i := rfl
@[simp] theorem getV_z (d : D) (e : En) : getV (.dat d :: e) 0 = .ok d := rfl
@[simp] theorem getV_o (d : List D) (e : En) : getV (.own d :: e) 0 = .ok (.list d) := rfl
@[simp] theorem getV_d (d : List (D × D)) (e : En) : getV (.dic d :: e) 0 = .ok (.dict d) := rfl
@[simp] theorem getV_s (s : Sl) (e : En) (i : Nat) : getV (s :: e) (i + 1) = getV e i := rfl
@[simp] theorem xc_ev (d : D) (e : En) : xc d e = .ok d := rfl
@[simp] theorem bin_ev (f : D → D → Option D) (F G : En → R D) (e : En) : bin f F G e = (F e).bind fun x => (G e).bind fun y => opt (f x y) := rfl
@[simp] theorem un1_ev (f : D → Option D) (F : En → R D) (e : En) : un1 f F e = (F e).bind fun x => opt (f x) := rfl
@[simp] theorem un1N_ev (f : D → Option (List D)) (F : En → R D) (e : En) : un1N f F e = (F e).bind fun x => opt (f x) := rfl
@[simp] theorem binN_ev (f : D → D → Option (List D)) (F G : En → R D) (e : En) : binN f F G e = (F e).bind fun x => (G e).bind fun y => opt (f x y) := rfl
@[simp] theorem asL_ev (F : En → R (List D)) (e : En) : asL F e = (F e).bind fun ds => .ok (.list ds) := rfl
@[simp] theorem lnil_ev (e : En) : lnil e = .ok [] := rfl
@[simp] theorem lcons_ev (F : En → R D) (L : En → R (List D)) (e : En) : lcons F L e = (F e).bind fun d => (L e).bind fun ds => .ok (d :: ds) := rfl
@[simp] theorem xtup_ev (L : En → R (List D)) (e : En) : xtup L e = (L e).bind mkT := rfl
@[simp] theorem xlst_ev (L : En → R (List D)) (e : En) : xlst L e = (L e).bind mkL := rfl
@[simp] theorem mkT_ev {ds : List D} (h : ds.length ≤ 1000000) : mkT ds = .ok (.tuple ds) := by unfold mkT many; rw [if_pos h]
@[simp] theorem mkL_ev {ds : List D} (h : ds.length ≤ 1000000) : mkL ds = .ok ds := by unfold mkL many; rw [if_pos h]
@[simp] theorem xtru_ev (F : En → R D) (e : En) : xtru F e = (F e).bind fun d => opt (truD d) := rfl
@[simp] theorem xnot_ev (F : En → R D) (e : En) : xnot F e = (xtru F e).bind fun k => .ok (.bool (!k)) := rfl
def blD : D → R Bool
  | .bool b => .ok b
  | _ => .bad
@[simp] theorem blD_b (b : Bool) : blD (.bool b) = .ok b := rfl
@[simp] theorem xbl_ev (F : En → R D) (e : En) : xbl F e = (F e).bind blD := rfl
@[simp] theorem tand_ev (T U : En → R Bool) (e : En) : tand T U e = (T e).bind fun k => if k = true then U e else .ok false := rfl
@[simp] theorem tor_ev (T U : En → R Bool) (e : En) : tor T U e = (T e).bind fun k => if k = true then .ok true else U e := rfl
@[simp] theorem tnot_ev (T : En → R Bool) (e : En) : tnot T e = (T e).bind fun k => .ok (!k) := rfl
@[simp] theorem tyes_ev (e : En) : tyes e = .ok true := rfl
@[simp] theorem xif_ev (T : En → R Bool) (F G : En → R D) (e : En) : xif T F G e = (T e).bind fun k => if k = true then F e else G e := rfl
@[simp] theorem xandV_ev (F G : En → R D) (e : En) : xandV F G e = (F e).bind fun d => (opt (truD d)).bind fun k => if k = true then G e else .ok d := rfl
@[simp] theorem xorV_ev (F G : En → R D) (e : En) : xorV F G e = (F e).bind fun d => (opt (truD d)).bind fun k => if k = true then .ok d else G e := rfl
@[simp] theorem onone_ev (e : En) : onone e = .ok none := rfl
def intO : D → R (Option Int)
  | .int i => .ok (some i)
  | _ => .bad
@[simp] theorem intO_i (i : Int) : intO (.int i) = .ok (some i) := rfl
@[simp] theorem osome_ev (F : En → R D) (e : En) : osome F e = (F e).bind intO := rfl
@[simp] theorem xsl_ev (F : En → R D) (L U : En → R (Option Int)) (e : En) : xsl F L U e = (F e).bind fun d => (L e).bind fun lo => (U e).bind fun hi => opt (sliceD d lo hi) := rfl
@[simp] theorem xcall_ev {n : Nat} {Fn : List D → R D} {L : En → R (List D)} {e : En} : xcall n Fn L e = (L e).bind fun ds => if ds.length = n then Fn ds else .bad := rfl
@[simp] theorem iseq_ev (F : En → R D) (e : En) : iseq F e = (F e).bind fun d => opt (seqD d) := rfl
@[simp] theorem ienum_ev (F : En → R D) (e : En) : ienum F e = (F e).bind fun d => opt ((listN d).map enumL) := rfl
@[simp] theorem izip_ev (F G : En → R D) (e : En) : izip F G e = (F e).bind fun d => (G e).bind fun d' => opt (zipD d d') := rfl
@[simp] theorem irng1_ev (F : En → R D) (e : En) : irng1 F e = (F e).bind fun d => opt (rng1 d) := rfl
@[simp] theorem irng2_ev (F G : En → R D) (e : En) : irng2 F G e = (F e).bind fun d => (G e).bind fun d' => opt (rng2 d d') := rfl
@[simp] theorem gn_ev (i : Nat) (d : D) (e : En) : gn i d e = some (e.set i (.dat d)) := rfl
@[simp] theorem gnil_ev (e : En) : gnil [] e = some e := rfl
@[simp] theorem gcons_ev (f : Tg) (g : List D → En → Option En) (d : D) (ds : List D) (e : En) : gcons f g (d :: ds) e = (f d e).bind (g ds) := rfl
@[simp] theorem gtup_ev (g : List D → En → Option En) (ds : List D) (e : En) : gtup g (.tuple ds) e = g ds e := rfl
@[simp] theorem gtup_pair (g : List D → En → Option En) (x y : D) (e : En) : gtup g (pairD x y) e = g [x, y] e := rfl
@[simp] theorem add_ii (i j : Int) : addD (.int i) (.int j) = some (.int (i + j)) := rfl
@[simp] theorem sub_ii (i j : Int) : subD (.int i) (.int j) = some (.int (i - j)) := rfl
@[simp] theorem neg_i (i : Int) : negD (.int i) = some (.int (-i)) := rfl
theorem mul_ii {i j : Int} (h : small64 i = true ∨ small64 j = true) : mulD (.int i) (.int j) = some (.int (i * j)) := by
  show (if small64 i || small64 j then some (PyData.int (i * j)) else none) = _
  rw [if_pos (by rw [Bool.or_eq_true]; exact h)]
theorem small_le {i : Int} (h0 : -1000000000000000000 ≤ i) (h : i ≤ 1000000000000000000) : small64 i = true := by
  unfold small64
  rw [Bool.and_eq_true]
  exact ⟨decide_eq_true (by omega), decide_eq_true (by omega)⟩
theorem mod_ii {i j : Int} (h : 0 < j) : modD (.int i) (.int j) = some (.int (i % j)) := by
  show (if 0 < j then some (PyData.int (i % j)) else none) = _
  rw [if_pos h]
theorem fdiv_ii {i j : Int} (h : 0 < j) (h2 : j < 1073741824) : fdivD (.int i) (.int j) = some (.int (i / j)) := by
  show (if 0 < j ∧ j < 1073741824 then some (PyData.int (i / j)) else none) = _
  rw [if_pos ⟨h, h2⟩]
@[simp] theorem lt_ii (i j : Int) : ltD (.int i) (.int j) = some (.bool (decide (i < j))) := rfl
@[simp] theorem le_ii (i j : Int) : leD (.int i) (.int j) = some (.bool (decide (i ≤ j))) := rfl
@[simp] theorem gt_ii (i j : Int) : gtD (.int i) (.int j) = some (.bool (decide (j < i))) := rfl
@[simp] theorem ge_ii (i j : Int) : geD (.int i) (.int j) = some (.bool (decide (j ≤ i))) := rfl
@[simp] theorem max2_ii (i j : Int) : max2D (.int i) (.int j) = some (.int (max i j)) := by
  show some (PyData.int (if j > i then j else i)) = _
  congr 2
  omega
@[simp] theorem min2_ii (i j : Int) : min2D (.int i) (.int j) = some (.int (min i j)) := by
  show some (PyData.int (if j < i then j else i)) = _
  congr 2
  omega
@[simp] theorem is_none (x : D) : isD x .none = some (.bool (isNoneD x)) := by cases x <;> rfl
@[simp] theorem isNot_none (x : D) : isNotD x .none = some (.bool (!isNoneD x)) := by cases x <;> rfl
@[simp] theorem is_bb (a b : Bool) : isD (.bool a) (.bool b) = some (.bool (a == b)) := rfl
@[simp] theorem isNot_bb (a b : Bool) : isNotD (.bool a) (.bool b) = some (.bool (!(a == b))) := rfl
@[simp] theorem isNone_n : isNoneD .none = true := rfl
@[simp] theorem isNone_i (i : Int) : isNoneD (.int i) = false := rfl
@[simp] theorem isNone_t (ds : List D) : isNoneD (.tuple ds) = false := rfl
@[simp] theorem isNone_l (ds : List D) : isNoneD (.list ds) = false := rfl
@[simp] theorem isNone_s (x : Str) : isNoneD (.str x) = false := rfl
@[simp] theorem isNone_b (x : Bool) : isNoneD (.bool x) = false := rfl
@[simp] theorem len_l (ds : List D) : lenD (.list ds) = some (.int ds.length) := rfl
@[simp] theorem len_t (ds : List D) : lenD (.tuple ds) = some (.int ds.length) := rfl
@[simp] theorem tuple_l (ds : List D) : tupleD (.list ds) = some (.tuple ds) := rfl
@[simp] theorem tuple_t (ds : List D) : tupleD (.tuple ds) = some (.tuple ds) := rfl
@[simp] theorem list_l (ds : List D) : listN (.list ds) = some ds := rfl
@[simp] theorem list_t (ds : List D) : listN (.tuple ds) = some ds := rfl
@[simp] theorem seq_l (ds : List D) : seqD (.list ds) = some ds := rfl
@[simp] theorem seq_t (ds : List D) : seqD (.tuple ds) = some ds := rfl
@[simp] theorem tru_b (b : Bool) : truD (.bool b) = some b := rfl
@[simp] theorem tru_i (i : Int) : truD (.int i) = some (i != 0) := rfl
@[simp] theorem tru_n : truD .none = some false := rfl
@[simp] theorem tru_l (ds : List D) : truD (.list ds) = some (!ds.isEmpty) := rfl
@[simp] theorem tru_t (ds : List D) : truD (.tuple ds) = some (!ds.isEmpty) := rfl
@[simp] theorem int_b (b : Bool) : intD (.bool b) = some (.int (if b then 1 else 0)) := rfl
@[simp] theorem int_i (i : Int) : intD (.int i) = some (.int i) := rfl
theorem atI_n {α : Type} (xs : List α) (i : Nat) : atI xs (i : Int) = xs[i]? := by
  unfold atI ixN
  by_cases h : i < xs.length
  · simp [h]
  · rw [if_pos (by omega), if_neg (by omega), List.getElem?_eq_none (by omega)]; rfl
@[simp] theorem ix_l (ds : List D) (i : Int) : ixD (.list ds) (.int i) = atI ds i := rfl
@[simp] theorem ix_t (ds : List D) (i : Int) : ixD (.tuple ds) (.int i) = atI ds i := rfl
@[simp] theorem atI_0 {α : Type} (x : α) (xs : List α) : atI (x :: xs) 0 = some x := atI_n (x :: xs) 0
@[simp] theorem atI_1 {α : Type} (x y : α) (xs : List α) : atI (x :: y :: xs) 1 = some y := atI_n (x :: y :: xs) 1
@[simp] theorem atI_2 {α : Type} (x y z : α) (xs : List α) : atI (x :: y :: z :: xs) 2 = some z := atI_n (x :: y :: z :: xs) 2
@[simp] theorem rev_t (ds : List D) : revD (.tuple ds) = some (.tuple ds.reverse) := rfl
/-- a def's call -/
theorem runD_rt {m : Nat} {B : En → Fl} {ds : List D} {d : D} (h : B (startE m ds) = .rt d) : runD m B ds = .ok d := by unfold runD; rw [h]
theorem runD_nx {m : Nat} {B : En → Fl} {ds : List D} {e : En} (h : B (startE m ds) = .nx e) : runD m B ds = .ok .none := by unfold runD; rw [h]
theorem runD_ex {m : Nat} {B : En → Fl} {ds : List D} {c : Str} {e : En} (h : B (startE m ds) = .ex c e) : runD m B ds = .ex c := by unfold runD; rw [h]
/-! ### comprehensions -/
theorem lcL_map {α : Type} {enc : α → D} {f : Tg} {T : En → R Bool} {E : En → R D} {e : En} {t : α → Bool} {g : α → D} : ∀ (xs : List α), (∀ x ∈ xs, ∃ e1, f (enc x) e = some e1 ∧ T e1 = .ok (t x) ∧ (t x = true → E e1 = .ok (g x))) →
    lcL f T E e (xs.map enc) = .ok ((xs.filter t).map g)
  | [], _ => rfl
  | x :: xs, h => by
    obtain ⟨e1, h1, h2, h3⟩ := h x List.mem_cons_self
    have ih := lcL_map (enc := enc) (f := f) (T := T) (E := E) (e := e) (t := t) (g := g) xs fun y hy => h y (List.mem_cons_of_mem _ hy)
    rw [List.map_cons]
    unfold lcL
    rw [h1, ih, opt_some, bind_ok, h2, bind_ok]
    cases ht : t x with
    | true => rw [if_pos rfl, h3 ht, List.filter_cons_of_pos (by rw [ht])]; rfl
    | false => rw [if_neg Bool.false_ne_true, List.filter_cons_of_neg (by rw [ht]; exact Bool.false_ne_true)]
theorem xlc_map {α : Type} {enc : α → D} {vs : List Nat} {L : En → R (List D)} {f : Tg} {T : En → R Bool} {E : En → R D} {e : En} {xs : List α} (t : α → Bool) (g : α → D) (hL : L e = .ok (xs.map enc)) (hl : xs.length ≤ 1000000)
    (h : ∀ x ∈ xs, ∃ e1, f (enc x) (wipeE e vs) = some e1 ∧ T e1 = .ok (t x) ∧ (t x = true → E e1 = .ok (g x))) : xlc vs L f T E e = .ok ((xs.filter t).map g) := by
  unfold xlc
  rw [hL, bind_ok, if_pos (by rw [List.length_map]; exact hl), lcL_map xs h]
  rfl
/-- without a test -/
theorem xlc_all {α : Type} {enc : α → D} {vs : List Nat} {L : En → R (List D)} {f : Tg} {T : En → R Bool} {E : En → R D} {e : En} {xs : List α} (g : α → D) (hL : L e = .ok (xs.map enc)) (hl : xs.length ≤ 1000000)
    (h : ∀ x ∈ xs, ∃ e1, f (enc x) (wipeE e vs) = some e1 ∧ T e1 = .ok true ∧ E e1 = .ok (g x)) : xlc vs L f T E e = .ok (xs.map g) := by
  have := xlc_map (enc := enc) (vs := vs) (L := L) (f := f) (T := T) (E := E) (e := e) (xs := xs) (fun _ => true) g hL hl fun x hx => by
    obtain ⟨e1, h1, h2, h3⟩ := h x hx
    exact ⟨e1, h1, h2, fun _ => h3⟩
  rw [this, List.filter_eq_self.mpr (fun _ _ => rfl)]
/-! ### loops -/
theorem forL_inv {α : Type} {enc : α → D} {f : Tg} {B : En → Fl} (P : List α → En → Prop) : ∀ (xs pre : List α) (e : En), P pre e →
    (∀ p x r e, pre ++ xs = p ++ x :: r → P p e → ∃ e1 e2, f (enc x) e = some e1 ∧ (B e1 = .nx e2 ∨ B e1 = .ct e2) ∧ P (p ++ [x]) e2) → ∃ e', forL f B (xs.map enc) e = .nx e' ∧ P (pre ++ xs) e'
  | [], pre, e, h, _ => ⟨e, rfl, by rw [List.append_nil]; exact h⟩
  | x :: xs, pre, e, h, st => by
    obtain ⟨e1, e2, h1, h2, h3⟩ := st pre x xs e rfl h
    have ea : pre ++ x :: xs = (pre ++ [x]) ++ xs := by rw [List.append_assoc]; rfl
    obtain ⟨e', h4, h5⟩ := forL_inv (enc := enc) (f := f) (B := B) P xs (pre ++ [x]) e2 h3 fun p y r e0 q => st p y r e0 (ea.trans q)
    refine ⟨e', ?_, by rw [ea]; exact h5⟩
    rw [List.map_cons]
    unfold forL
    rw [h1]
    rcases h2 with h2 | h2
    · show (match B e1 with | .nx e2 => _ | .ct e2 => _ | .bk e2 => _ | r => r) = _
      rw [h2]; exact h4
    · show (match B e1 with | .nx e2 => _ | .ct e2 => _ | .bk e2 => _ | r => r) = _
      rw [h2]; exact h4
/-- a loop with an invariant that hangs on nothing -/
theorem forL_stay {α : Type} {enc : α → D} {f : Tg} {B : En → Fl} (P : En → Prop) (xs : List α) (e : En) (h : P e) (st : ∀ x e, x ∈ xs → P e → ∃ e1 e2, f (enc x) e = some e1 ∧ (B e1 = .nx e2 ∨ B e1 = .ct e2) ∧ P e2) : ∃ e', forL f B (xs.map enc) e = .nx e' ∧ P e' :=
  forL_inv (fun _ e => P e) xs [] e h fun p x r e0 q h0 => st x e0 (by rw [List.nil_append] at q; rw [q]; simp) h0
/-- a loop that folds -/
theorem forL_fold {α σ : Type} {enc : α → D} {f : Tg} {B : En → Fl} (P : σ → En → Prop) (g : σ → α → σ) (xs : List α) (s : σ) (e : En) (h : P s e) (st : ∀ s x e, x ∈ xs → P s e → ∃ e1 e2, f (enc x) e = some e1 ∧ (B e1 = .nx e2 ∨ B e1 = .ct e2) ∧ P (g s x) e2) :
    ∃ e', forL f B (xs.map enc) e = .nx e' ∧ P (xs.foldl g s) e' := by
  have := forL_inv (enc := enc) (f := f) (B := B) (fun p e => P (p.foldl g s) e) xs [] e h fun p x r e0 q h0 => by
    obtain ⟨e1, e2, h1, h2, h3⟩ := st (p.foldl g s) x e0 (by rw [List.nil_append] at q; rw [q]; simp) h0
    exact ⟨e1, e2, h1, h2, by rw [List.foldl_append]; exact h3⟩
  rwa [List.nil_append] at this
theorem sfor_nx {L : En → R (List D)} {f : Tg} {B : En → Fl} {e e' : En} {ds : List D} (hL : L e = .ok ds) (h : forL f B ds e = .nx e') : sfor L f B e = .nx e' := by
  unfold sfor
  rw [hL]
  exact h
/-! ### range -/
theorem in62_le {i : Int} (h0 : -1000000000000000000 ≤ i) (h : i ≤ 1000000000000000000) : in62 i = true := by
  unfold in62
  rw [Bool.and_eq_true]
  exact ⟨decide_eq_true (by omega), decide_eq_true (by omega)⟩
/-- range(n) -/
def upto (n : Nat) : List Int := (List.range n).map fun k : Nat => (k : Int)
theorem rng1_ev {j : Int} (h0 : -1000000000000000000 ≤ j) (h : j ≤ 1000000000000000000) : rng1 (.int j) = some ((upto j.toNat).map PyData.int) := by
  show (if in62 j then some (rangeL 0 j.toNat) else none) = _
  rw [if_pos (in62_le h0 h)]
  unfold rangeL upto
  rw [List.map_map]
  congr 1
  apply List.map_congr_left
  intro k _
  show PyData.int (0 + (k : Int)) = PyData.int (k : Int)
  rw [Int.zero_add]
def uptoFrom (lo : Int) (n : Nat) : List Int := (List.range n).map fun k : Nat => lo + (k : Int)
theorem rng2_ev {i j : Int} (hi0 : -1000000000000000000 ≤ i) (hi : i ≤ 1000000000000000000) (h0 : -1000000000000000000 ≤ j) (h : j ≤ 1000000000000000000) : rng2 (.int i) (.int j) = some ((uptoFrom i (j - i).toNat).map PyData.int) := by
  show (if in62 i && in62 j then some (rangeL i (j - i).toNat) else none) = _
  rw [if_pos (by rw [in62_le hi0 hi, in62_le h0 h]; rfl)]
  unfold rangeL uptoFrom
  rw [List.map_map]
  rfl
theorem upto_mem {n : Nat} {x : Int} : x ∈ upto n ↔ 0 ≤ x ∧ x < n := by
  unfold upto
  rw [List.mem_map]
  constructor
  · rintro ⟨k, hk, rfl⟩
    have := List.mem_range.mp hk
    omega
  · rintro ⟨h0, h1⟩
    exact ⟨x.toNat, List.mem_range.mpr (by omega), by omega⟩
theorem upto_length (n : Nat) : (upto n).length = n := by unfold upto; rw [List.length_map, List.length_range]
end Pu
/-! Ev2: data: equality, order, sorting, dicts, places -/
namespace Pu
open PySem L2
/-! ### equality of data without bools -/
mutual
def plD : D → Bool
  | .none => true
  | .int _ => true
  | .str _ => true
  | .list ds => plAll ds
  | .tuple ds => plAll ds
  | .bool _ => false
  | .dict _ => false
def plAll : List D → Bool
  | [] => true
  | d :: ds => plD d && plAll ds
end
mutual
theorem eqv_self : ∀ x : D, plD x = true → PyData.eqv x x = true
  | .none, _ => by simp [PyData.eqv]
  | .int i, _ => by simp [PyData.eqv]
  | .str i, _ => by simp [PyData.eqv]
  | .list ds, h => by simp only [PyData.eqv]; exact eqvAll_self ds (by simpa [plD] using h)
  | .tuple ds, h => by simp only [PyData.eqv]; exact eqvAll_self ds (by simpa [plD] using h)
  | .bool _, h => by simp [plD] at h
  | .dict _, h => by simp [plD] at h
theorem eqvAll_self : ∀ xs : List D, plAll xs = true → PyData.eqvAll xs xs = true
  | [], _ => by simp [PyData.eqvAll]
  | x :: xs, h => by
    simp only [plAll, Bool.and_eq_true] at h
    simp only [PyData.eqvAll, Bool.and_eq_true]
    exact ⟨eqv_self x h.1, eqvAll_self xs h.2⟩
end
mutual
theorem eq_of_eqv : ∀ x y : D, plD x = true → plD y = true → PyData.eqv x y = true → x = y
  | .none, y, _, h, e => by cases y <;> simp_all [PyData.eqv, plD]
  | .int i, y, _, h, e => by cases y <;> simp_all [PyData.eqv, plD]
  | .str i, y, _, h, e => by cases y <;> simp_all [PyData.eqv, plD]
  | .list ds, y, g, h, e => by
    cases y with
    | list es =>
      simp only [PyData.eqv] at e
      rw [eq_of_eqvAll ds es (by simpa [plD] using g) (by simpa [plD] using h) e]
    | _ => simp_all [PyData.eqv, plD]
  | .tuple ds, y, g, h, e => by
    cases y with
    | tuple es =>
      simp only [PyData.eqv] at e
      rw [eq_of_eqvAll ds es (by simpa [plD] using g) (by simpa [plD] using h) e]
    | _ => simp_all [PyData.eqv, plD]
  | .bool _, _, h, _, _ => by simp [plD] at h
  | .dict _, _, h, _, _ => by simp [plD] at h
theorem eq_of_eqvAll : ∀ xs ys : List D, plAll xs = true → plAll ys = true → PyData.eqvAll xs ys = true → xs = ys
  | [], [], _, _, _ => rfl
  | [], _ :: _, _, _, e => by simp [PyData.eqvAll] at e
  | _ :: _, [], _, _, e => by simp [PyData.eqvAll] at e
  | x :: xs, y :: ys, g, h, e => by
    simp only [plAll, Bool.and_eq_true] at g h
    simp only [PyData.eqvAll, Bool.and_eq_true] at e
    rw [eq_of_eqv x y g.1 h.1 e.1, eq_of_eqvAll xs ys g.2 h.2 e.2]
end
theorem eqv_iff {x y : D} (hx : plD x = true) (hy : plD y = true) : PyData.eqv x y = true ↔ x = y :=
  ⟨eq_of_eqv x y hx hy, fun e => by subst e; exact eqv_self x hx⟩
/-- of encoded things -/
theorem eqv_enc {α : Type} [DecidableEq α] {enc : α → D} (inj : ∀ a b, enc a = enc b → a = b) (pl : ∀ a, plD (enc a) = true) (a b : α) : PyData.eqv (enc a) (enc b) = decide (a = b) := by
  by_cases h : a = b
  · subst h; rw [eqv_self _ (pl a)]; simp
  · rw [decide_eq_false h]
    cases q : PyData.eqv (enc a) (enc b) with
    | false => rfl
    | true => exact absurd (inj _ _ (eq_of_eqv _ _ (pl a) (pl b) q)) h
theorem eq_ev {x y : D} (hx : SeqAt.shaped x = true) (hy : SeqAt.shaped y = true) : eqD x y = some (.bool (PyData.eqv x y)) := by
  unfold eqD
  rw [hx, hy]
  rfl
theorem ne_ev {x y : D} (hx : SeqAt.shaped x = true) (hy : SeqAt.shaped y = true) : neD x y = some (.bool (!PyData.eqv x y)) := by
  unfold neD
  rw [hx, hy]
  rfl
/-! ### shapes -/
theorem canLayAll_iff : ∀ ds : List D, PyData.canLayAll0 ds = true ↔ ∀ d ∈ ds, d.canLay0 = true
  | [] => by simp [PyData.canLayAll0]
  | d :: ds => by simp [PyData.canLayAll0, canLayAll_iff ds]
theorem depthAll_le : ∀ (ds : List D) (k : Nat), PyData.depthAll ds ≤ k ↔ ∀ d ∈ ds, d.depth ≤ k
  | [], k => by simp [PyData.depthAll]
  | d :: ds, k => by
    simp only [PyData.depthAll, List.mem_cons, forall_eq_or_imp, ← depthAll_le ds k]
    omega
/-- layable, at most so deep -/
def shp (k : Nat) (d : D) : Prop := d.canLay0 = true ∧ d.depth ≤ k
theorem shp.shaped {k : Nat} {d : D} (h : shp k d) (hk : k ≤ 64 := by decide) : SeqAt.shaped d = true := by
  unfold SeqAt.shaped
  rw [h.1, decide_eq_true (Nat.le_trans h.2 hk)]
  rfl
theorem shp.up {k j : Nat} {d : D} (h : shp k d) (hk : k ≤ j) : shp j d := ⟨h.1, Nat.le_trans h.2 hk⟩
theorem shp_int (i : Int) : shp 0 (.int i) := ⟨by simp [PyData.canLay0], by simp [PyData.depth]⟩
theorem shp_none : shp 0 .none := ⟨by simp [PyData.canLay0], by simp [PyData.depth]⟩
theorem shp_bool (b : Bool) : shp 0 (.bool b) := ⟨by simp [PyData.canLay0], by simp [PyData.depth]⟩
theorem shp_tup {k : Nat} {ds : List D} (h : ∀ d ∈ ds, shp k d) : shp (k + 1) (.tuple ds) :=
  ⟨by simp only [PyData.canLay0]; exact (canLayAll_iff ds).mpr fun d hd => (h d hd).1, by simp only [PyData.depth]; have := (depthAll_le ds k).mpr fun d hd => (h d hd).2; omega⟩
theorem shp_list {k : Nat} {ds : List D} (h : ∀ d ∈ ds, shp k d) : shp (k + 1) (.list ds) :=
  ⟨by simp only [PyData.canLay0]; exact (canLayAll_iff ds).mpr fun d hd => (h d hd).1, by simp only [PyData.depth]; have := (depthAll_le ds k).mpr fun d hd => (h d hd).2; omega⟩
@[simp] theorem shaped_int (i : Int) : SeqAt.shaped (.int i) = true := (shp_int i).shaped
@[simp] theorem shaped_none : SeqAt.shaped .none = true := shp_none.shaped
@[simp] theorem shaped_bool (b : Bool) : SeqAt.shaped (.bool b) = true := (shp_bool b).shaped
@[simp] theorem eqv_ii (i j : Int) : PyData.eqv (.int i) (.int j) = decide (i = j) := by simp only [PyData.eqv]; rfl
@[simp] theorem eqv_in (i : Int) : PyData.eqv (.int i) .none = false := by simp only [PyData.eqv]
@[simp] theorem eqv_ni (i : Int) : PyData.eqv .none (.int i) = false := by simp only [PyData.eqv]
@[simp] theorem eqv_nn : PyData.eqv .none .none = true := by simp only [PyData.eqv]
@[simp] theorem eqv_bb (a b : Bool) : PyData.eqv (.bool a) (.bool b) = (a == b) := by simp only [PyData.eqv]
@[simp] theorem eq_ii (i j : Int) : eqD (.int i) (.int j) = some (.bool (decide (i = j))) := by rw [eq_ev (shaped_int i) (shaped_int j), eqv_ii]
@[simp] theorem ne_ii (i j : Int) : neD (.int i) (.int j) = some (.bool (!decide (i = j))) := by rw [ne_ev (shaped_int i) (shaped_int j), eqv_ii]
@[simp] theorem ne_bb (i j : Bool) : neD (.bool i) (.bool j) = some (.bool (!(i == j))) := by rw [ne_ev (shaped_bool i) (shaped_bool j), eqv_bb]
@[simp] theorem eq_bb (i j : Bool) : eqD (.bool i) (.bool j) = some (.bool (i == j)) := by rw [eq_ev (shaped_bool i) (shaped_bool j), eqv_bb]
/-! ### x in xs -/
theorem in_t {α : Type} [DecidableEq α] {enc : α → D} {k : Nat} (inj : ∀ a b, enc a = enc b → a = b) (pl : ∀ a, plD (enc a) = true) (sh : ∀ a, shp k (enc a)) (hk : k + 1 ≤ 64) (x : α) (xs : List α) : inB (enc x) (.tuple (xs.map enc)) = some (decide (x ∈ xs)) := by
  show (if SeqAt.shaped (enc x) && SeqAt.shaped (.tuple (xs.map enc)) then some ((xs.map enc).any fun z => PyData.eqv z (enc x)) else none) = _
  rw [(sh x).shaped (by omega), (shp_tup (k := k) (ds := xs.map enc) fun d hd => by obtain ⟨y, _, rfl⟩ := List.mem_map.mp hd; exact sh y).shaped hk]
  rw [if_pos (show (true && true) = true from rfl), List.any_map]
  congr 1
  rw [Bool.eq_iff_iff, List.any_eq_true, decide_eq_true_eq]
  constructor
  · rintro ⟨y, hy, e⟩
    have : PyData.eqv (enc y) (enc x) = true := e
    rw [eqv_enc inj pl, decide_eq_true_eq] at this
    rw [← this]; exact hy
  · intro hx
    exact ⟨x, hx, by show PyData.eqv (enc x) (enc x) = true; exact eqv_self _ (pl x)⟩
theorem in_l {α : Type} [DecidableEq α] {enc : α → D} {k : Nat} (inj : ∀ a b, enc a = enc b → a = b) (pl : ∀ a, plD (enc a) = true) (sh : ∀ a, shp k (enc a)) (hk : k + 1 ≤ 64) (x : α) (xs : List α) : inB (enc x) (.list (xs.map enc)) = some (decide (x ∈ xs)) := by
  show (if SeqAt.shaped (enc x) && SeqAt.shaped (.list (xs.map enc)) then some ((xs.map enc).any fun z => PyData.eqv z (enc x)) else none) = _
  rw [(sh x).shaped (by omega), (shp_list (k := k) (ds := xs.map enc) fun d hd => by obtain ⟨y, _, rfl⟩ := List.mem_map.mp hd; exact sh y).shaped hk]
  rw [if_pos (show (true && true) = true from rfl), List.any_map]
  congr 1
  rw [Bool.eq_iff_iff, List.any_eq_true, decide_eq_true_eq]
  constructor
  · rintro ⟨y, hy, e⟩
    have : PyData.eqv (enc y) (enc x) = true := e
    rw [eqv_enc inj pl, decide_eq_true_eq] at this
    rw [← this]; exact hy
  · intro hx
    exact ⟨x, hx, by show PyData.eqv (enc x) (enc x) = true; exact eqv_self _ (pl x)⟩
theorem int_inj : ∀ a b : Int, PyData.int a = PyData.int b → a = b := fun _ _ h => by injection h
theorem int_pl : ∀ a : Int, plD (.int a) = true := fun _ => rfl
theorem in_ints_t (x : Int) (xs : List Int) : inB (.int x) (.tuple (xs.map PyData.int)) = some (decide (x ∈ xs)) := in_t int_inj int_pl shp_int (by decide) x xs
theorem in_ints_l (x : Int) (xs : List Int) : inB (.int x) (.list (xs.map PyData.int)) = some (decide (x ∈ xs)) := in_l int_inj int_pl shp_int (by decide) x xs
/-! ### order -/
theorem leS_int (i j : Int) : leS (.int i) (.int j) = decide (i ≤ j) := by
  unfold leS PySem.W.dataLe PySem.W.sortLe
  simp only [cond_false, id, PySem.W.keyToks, PyProof.Rows.lexLt, PyProof.Rows.itemLt, PyProof.Rows.itemOrd]
  by_cases h : i ≤ j
  · simp [h, show ¬ j < i by omega]
  · simp [h, show j < i by omega]
/-- tuples of ints -/
def tJ (xs : List Int) : D := .tuple (xs.map PyData.int)
def lexLe : List Int → List Int → Bool
  | [], _ => true
  | _ :: _, [] => false
  | x :: xs, y :: ys => decide (x < y) || (decide (x = y) && lexLe xs ys)
theorem toks_tJ : ∀ xs ys : List Int, (!PyProof.Rows.lexLt PyProof.Rows.itemOrd (PySem.W.keyToksAll (ys.map PyData.int)) (PySem.W.keyToksAll (xs.map PyData.int))) = lexLe xs ys
  | [], [] => by simp [PySem.W.keyToksAll, PyProof.Rows.lexLt, PyProof.Rows.itemLt, lexLe]
  | [], y :: ys => by simp [PySem.W.keyToksAll, PyProof.Rows.lexLt, PyProof.Rows.itemLt, lexLe]
  | x :: xs, [] => by simp [PySem.W.keyToksAll, PyProof.Rows.lexLt, PyProof.Rows.itemLt, lexLe]
  | x :: xs, y :: ys => by
    have ih := toks_tJ xs ys
    simp only [List.map_cons, PySem.W.keyToksAll, PySem.W.keyToks, List.singleton_append, PyProof.Rows.lexLt, PyProof.Rows.itemLt, lexLe, ← ih]
    by_cases h1 : x < y
    · simp [h1, show ¬ y < x by omega]
    · by_cases h2 : x = y
      · subst h2; simp
      · simp [h1, h2, show y < x by omega]
theorem leS_tJ (xs ys : List Int) : leS (tJ xs) (tJ ys) = lexLe xs ys := by
  rw [← toks_tJ xs ys]
  unfold leS PySem.W.dataLe PySem.W.sortLe tJ
  simp only [cond_false, id, PySem.W.keyToks]
theorem lexLe_total : ∀ xs ys : List Int, (lexLe xs ys || lexLe ys xs) = true
  | [], _ => by simp [lexLe]
  | _ :: _, [] => by simp [lexLe]
  | x :: xs, y :: ys => by
    have ih := lexLe_total xs ys
    simp only [lexLe]
    by_cases h1 : x < y
    · simp [h1]
    · by_cases h2 : x = y
      · subst h2; simpa using ih
      · simp [show y < x by omega]
theorem lexLe_trans : ∀ xs ys zs : List Int, lexLe xs ys = true → lexLe ys zs = true → lexLe xs zs = true
  | [], _, _, _, _ => by simp [lexLe]
  | _ :: _, [], _, h, _ => by simp [lexLe] at h
  | _ :: _, _ :: _, [], _, h => by simp [lexLe] at h
  | x :: xs, y :: ys, z :: zs, h1, h2 => by
    simp only [lexLe, Bool.or_eq_true, Bool.and_eq_true, decide_eq_true_eq] at h1 h2 ⊢
    rcases h1 with h1 | ⟨h1, h1'⟩
    · rcases h2 with h2 | ⟨h2, h2'⟩
      · left; omega
      · left; omega
    · rcases h2 with h2 | ⟨h2, h2'⟩
      · left; omega
      · right; exact ⟨by omega, lexLe_trans xs ys zs h1' h2'⟩
theorem lexLe_antisymm : ∀ xs ys : List Int, lexLe xs ys = true → lexLe ys xs = true → xs = ys
  | [], [], _, _ => rfl
  | [], _ :: _, _, h => by simp [lexLe] at h
  | _ :: _, [], h, _ => by simp [lexLe] at h
  | x :: xs, y :: ys, h1, h2 => by
    simp only [lexLe, Bool.or_eq_true, Bool.and_eq_true, decide_eq_true_eq] at h1 h2
    rcases h1 with h1 | ⟨h1, h1'⟩
    · rcases h2 with h2 | ⟨h2, _⟩ <;> omega
    · rcases h2 with h2 | ⟨_, h2'⟩
      · omega
      · rw [h1, lexLe_antisymm xs ys h1' h2']
/-! ### sorting -/
structure GoodLe {α : Type} (le : α → α → Bool) : Prop where
  total : ∀ a b, (le a b || le b a) = true
  trans : ∀ a b c, le a b = true → le b c = true → le a c = true
  anti : ∀ a b, le a b = true → le b a = true → a = b
theorem goodInt : GoodLe (fun a b : Int => decide (a ≤ b)) := ⟨fun a b => by simp only [Bool.or_eq_true, decide_eq_true_eq]; omega, fun a b c => by simp only [decide_eq_true_eq]; omega, fun a b => by simp only [decide_eq_true_eq]; omega⟩
theorem goodLex : GoodLe lexLe := ⟨lexLe_total, lexLe_trans, lexLe_antisymm⟩
theorem GoodLe.on {α β : Type} {le : α → α → Bool} (g : GoodLe le) (f : β → α) (inj : ∀ a b, f a = f b → a = b) : GoodLe (fun a b => le (f a) (f b)) :=
  ⟨fun a b => g.total _ _, fun a b c => g.trans _ _ _, fun a b h1 h2 => inj _ _ (g.anti _ _ h1 h2)⟩
section
variable {α : Type} {le : α → α → Bool}
theorem GoodLe.sorted (g : GoodLe le) (xs : List α) : (xs.mergeSort le).Pairwise fun a b => le a b = true := List.pairwise_mergeSort g.trans g.total xs
/-- two sorted lists of the same things -/
theorem GoodLe.unique (g : GoodLe le) : ∀ (xs ys : List α), xs.Pairwise (fun a b => le a b = true) → ys.Pairwise (fun a b => le a b = true) → xs.Perm ys → xs = ys := fun xs ys h1 h2 p => List.Perm.eq_of_pairwise (fun a b _ _ => g.anti a b) h1 h2 p
theorem GoodLe.perm (g : GoodLe le) {xs ys : List α} (p : xs.Perm ys) : xs.mergeSort le = ys.mergeSort le :=
  g.unique _ _ (g.sorted xs) (g.sorted ys) ((List.mergeSort_perm _ _).trans (p.trans (List.mergeSort_perm _ _).symm))
theorem GoodLe.same (g : GoodLe le) {xs : List α} (h : xs.Pairwise fun a b => le a b = true) : xs.mergeSort le = xs :=
  g.unique _ _ (g.sorted xs) h (List.mergeSort_perm _ _)
theorem sortD_map {enc : α → D} (h : ∀ x y, leS (enc x) (enc y) = le x y) {xs : List α} (hs : sortable (xs.map enc) = true) (hl : xs.length ≤ 1000000) : sortD (xs.map enc) = some ((xs.mergeSort le).map enc) := by
  unfold sortD
  rw [hs, decide_eq_true (show (xs.map enc).length ≤ many by rw [List.length_map]; exact hl), if_pos (show (true && true) = true from rfl)]
  congr 1
  exact (List.map_mergeSort fun a _ b _ => (h a b).symm).symm
end
theorem sortable_ints (ns : List Int) : sortable (ns.map PyData.int) = true := by
  unfold sortable
  rw [Bool.or_eq_true]
  left
  rw [List.all_eq_true]
  intro d hd
  obtain ⟨n, _, rfl⟩ := List.mem_map.mp hd
  rfl
theorem isTupD_tJ {t : List Int} (h : t ≠ []) : isTupD (tJ t) = true := by
  cases t with
  | nil => exact absurd rfl h
  | cons x r =>
    show ((x :: r).map PyData.int).all isIntD = true
    rw [List.all_eq_true]
    intro d hd
    obtain ⟨n, _, rfl⟩ := List.mem_map.mp hd
    rfl
theorem sortable_tJ {α : Type} {f : α → List Int} (hf : ∀ a, f a ≠ []) (xs : List α) : sortable (xs.map fun a => tJ (f a)) = true := by
  unfold sortable
  rw [Bool.or_eq_true]
  right
  rw [List.all_eq_true]
  intro d hd
  obtain ⟨n, _, rfl⟩ := List.mem_map.mp hd
  exact isTupD_tJ (hf n)
/-- sorted(..) of ints -/
def sortI (ns : List Int) : List Int := ns.mergeSort fun a b => decide (a ≤ b)
theorem sort_ints {ns : List Int} (hl : ns.length ≤ 1000000) : sortD (ns.map PyData.int) = some ((sortI ns).map PyData.int) := sortD_map leS_int (sortable_ints ns) hl
/-- sorted(..) of tuples of ints -/
def sortT {α : Type} (f : α → List Int) (xs : List α) : List α := xs.mergeSort fun a b => lexLe (f a) (f b)
theorem sort_tJ {α : Type} {f : α → List Int} (hf : ∀ a, f a ≠ []) {xs : List α} (hl : xs.length ≤ 1000000) : sortD (xs.map fun a => tJ (f a)) = some ((sortT f xs).map fun a => tJ (f a)) :=
  sortD_map (fun x y => leS_tJ (f x) (f y)) (sortable_tJ hf xs) hl
@[simp] theorem sortN_l (ds : List D) : sortN (.list ds) = sortD ds := rfl
@[simp] theorem sortN_t (ds : List D) : sortN (.tuple ds) = sortD ds := rfl
@[simp] theorem sortN_d (kvs : List (D × D)) : sortN (.dict kvs) = sortD (kvKeys kvs) := rfl
theorem sortT_perm {α : Type} (f : α → List Int) (xs : List α) : (sortT f xs).Perm xs := List.mergeSort_perm _ _
theorem sortI_perm (xs : List Int) : (sortI xs).Perm xs := List.mergeSort_perm _ _
/-! ### dicts whose values are True -/
section
variable {α : Type} [DecidableEq α] {enc : α → D} {key : α → NestedKey}
def tDict (enc : α → D) (ks : List α) : List (D × D) := ks.map fun a => (enc a, .bool true)
def addK (ks : List α) (a : α) : List α := if a ∈ ks then ks else ks ++ [a]
theorem dget_t (hk : ∀ a, nk (enc a) = some (key a)) (inj : ∀ a b, key a = key b → a = b) (ks : List α) (a : α) : dget (tDict enc ks) (key a) = if a ∈ ks then some (.bool true) else none := by
  induction ks with
  | nil => rfl
  | cons b ks ih =>
    show (if nk (enc b) = some (key a) then some (PyData.bool true) else dget (tDict enc ks) (key a)) = _
    rw [ih, hk]
    by_cases h : b = a
    · subst h; simp
    · have : ¬ (some (key b) = some (key a)) := fun z => h (inj _ _ (Option.some.inj z))
      rw [if_neg this]
      have h' : ¬ a = b := fun z => h z.symm
      simp [h']
theorem dput_t (hk : ∀ a, nk (enc a) = some (key a)) (inj : ∀ a b, key a = key b → a = b) (ks : List α) (a : α) : dput (tDict enc ks) (key a) (enc a) (.bool true) = tDict enc (addK ks a) := by
  unfold dput addK
  rw [dget_t hk inj]
  by_cases h : a ∈ ks
  · rw [if_pos h, if_pos h]
    show (if true = true then _ else _) = _
    rw [if_pos rfl]
    unfold tDict
    rw [List.map_map]
    apply List.map_congr_left
    intro b _
    show (if nk (enc b) = some (key a) then (enc b, PyData.bool true) else (enc b, PyData.bool true)) = _
    split <;> rfl
  · rw [if_neg h, if_neg h]
    show (if false = true then _ else _) = _
    rw [if_neg Bool.false_ne_true]
    unfold tDict
    rw [List.map_append]
    rfl
theorem kvKeys_t (ks : List α) : kvKeys (tDict enc ks) = ks.map enc := by
  unfold kvKeys tDict
  rw [List.map_map]
  rfl
theorem addK_nodup {ks : List α} {a : α} (h : ks.Nodup) : (addK ks a).Nodup := by
  unfold addK
  split
  · exact h
  · rename_i hn
    rw [List.nodup_append]
    exact ⟨h, by simp, fun x hx y hy => by simp at hy; subst hy; exact fun e => hn (e ▸ hx)⟩
theorem addK_mem {ks : List α} {a b : α} : b ∈ addK ks a ↔ b ∈ ks ∨ b = a := by
  unfold addK
  split
  · rename_i h
    exact ⟨fun z => .inl z, fun z => z.elim (fun z => z) fun e => e ▸ h⟩
  · simp
theorem addK_len {ks : List α} {a : α} : (addK ks a).length ≤ ks.length + 1 := by
  unfold addK
  split <;> simp
end
def keyI (t : List Int) : NestedKey := .tup (t.map NestedKey.num)
theorem nkAll_ints : ∀ t : List Int, nkAll (t.map PyData.int) = some (t.map NestedKey.num)
  | [] => by simp [nkAll]
  | x :: t => by simp [nkAll, nk, nkAll_ints t]
theorem nk_tJ (t : List Int) : nk (tJ t) = some (keyI t) := by
  unfold tJ
  simp only [nk, nkAll_ints]
  rfl
theorem keyI_inj {s t : List Int} (h : keyI s = keyI t) : s = t := by
  unfold keyI at h
  injection h with h
  have go : ∀ s t : List Int, s.map NestedKey.num = t.map NestedKey.num → s = t := by
    intro s
    induction s with
    | nil => intro t h; cases t with
      | nil => rfl
      | cons _ _ => cases h
    | cons x s ih => intro t h; cases t with
      | nil => cases h
      | cons y t =>
        rw [List.map_cons, List.map_cons] at h
        injection h with h1 h2
        injection h1 with h1
        rw [h1, ih t h2]
  exact go s t h
theorem keyI_depth (t : List Int) : (keyI t).depth = 1 := by
  have : ∀ t : List Int, NestedKey.depthAll (t.map NestedKey.num) = 0 := by
    intro t
    induction t with
    | nil => simp [NestedKey.depthAll]
    | cons x t ih => simp [NestedKey.depthAll, NestedKey.depth, ih]
  unfold keyI
  simp [NestedKey.depth, this]
theorem keyD_tJ (t : List Int) : keyD (tJ t) = some (keyI t) := by
  unfold keyD
  rw [show isTup (tJ t) = true from rfl, if_pos rfl, nk_tJ]
  show (if (keyI t).depth ≤ 8 then some (keyI t) else none) = _
  rw [if_pos (by rw [keyI_depth]; decide)]
/-! ### sorting by putting in: the same, and it computes -/
def ins1 (x : D) : List D → List D
  | [] => [x]
  | y :: ys => if leS x y then x :: y :: ys else y :: ins1 x ys
def isort : List D → List D
  | [] => []
  | x :: xs => ins1 x (isort xs)
theorem leS_tot : PySem.W.TotalLe leS := by unfold leS PySem.W.dataLe; exact PySem.W.sortLe_total _ _ _
theorem ins1_perm (x : D) : ∀ ys : List D, (ins1 x ys).Perm (x :: ys)
  | [] => List.Perm.refl _
  | y :: ys => by
    unfold ins1
    split
    · exact List.Perm.refl _
    · exact ((ins1_perm x ys).cons y).trans (List.Perm.swap x y ys)
theorem isort_perm : ∀ xs : List D, (isort xs).Perm xs
  | [] => List.Perm.refl _
  | x :: xs => (ins1_perm x (isort xs)).trans ((isort_perm xs).cons x)
theorem ins1_sorted (x : D) : ∀ ys : List D, ys.Pairwise (fun a b => leS a b = true) → (ins1 x ys).Pairwise fun a b => leS a b = true
  | [], _ => by simp [ins1]
  | y :: ys, h => by
    unfold ins1
    rw [List.pairwise_cons] at h
    split
    · rename_i hxy
      rw [List.pairwise_cons, List.pairwise_cons]
      refine ⟨fun z hz => ?_, h⟩
      rcases List.mem_cons.mp hz with rfl | hz
      · exact hxy
      · exact leS_tot.trans _ _ _ hxy (h.1 z hz)
    · rename_i hxy
      rw [List.pairwise_cons]
      refine ⟨fun z hz => ?_, ins1_sorted x ys h.2⟩
      rcases List.mem_cons.mp ((ins1_perm x ys).mem_iff.mp hz) with rfl | hz
      · rcases leS_tot.total y z with h1 | h1
        · exact h1
        · exact absurd h1 hxy
      · exact h.1 z hz
theorem isort_sorted : ∀ xs : List D, (isort xs).Pairwise fun a b => leS a b = true
  | [] => List.Pairwise.nil
  | x :: xs => ins1_sorted x _ (isort_sorted xs)
theorem sortable_anti {ds : List D} (h : sortable ds = true) {x y : D} (hx : x ∈ ds) (hy : y ∈ ds) (h1 : leS x y = true) (h2 : leS y x = true) : x = y := by
  unfold sortable at h
  rw [Bool.or_eq_true, List.all_eq_true, List.all_eq_true] at h
  rcases h with h | h
  · have a := h x hx
    have b := h y hy
    cases x with
    | int i => cases y with
      | int j =>
        rw [leS_int, decide_eq_true_eq] at h1 h2
        rw [show i = j by omega]
      | _ => cases b
    | _ => cases a
  · have sh : ∀ d ∈ ds, ∃ t, d = tJ t := fun d hd => by
      have a := h d hd
      cases d with
      | tuple xs =>
        cases xs with
        | nil => cases a
        | cons z r =>
          have a : (z :: r).all isIntD = true := a
          have : ∃ t : List Int, z :: r = t.map PyData.int := by
            have go : ∀ l : List D, l.all isIntD = true → ∃ t : List Int, l = t.map PyData.int := by
              intro l
              induction l with
              | nil => exact fun _ => ⟨[], rfl⟩
              | cons u l ih =>
                intro q
                rw [List.all_cons, Bool.and_eq_true] at q
                obtain ⟨t, rfl⟩ := ih q.2
                cases u with
                | int i => exact ⟨i :: t, rfl⟩
                | _ => cases q.1
            exact go _ a
          obtain ⟨t, ht⟩ := this
          exact ⟨t, by unfold tJ; rw [ht]⟩
      | _ => cases a
    obtain ⟨s, rfl⟩ := sh x hx
    obtain ⟨t, rfl⟩ := sh y hy
    rw [leS_tJ] at h1 h2
    rw [lexLe_antisymm _ _ h1 h2]
theorem merge_isort {ds : List D} (h : sortable ds = true) : ds.mergeSort leS = isort ds := by
  have p : (ds.mergeSort leS).Perm (isort ds) := (List.mergeSort_perm _ _).trans (isort_perm ds).symm
  exact List.Perm.eq_of_pairwise (fun a b ha hb => sortable_anti h ((List.mergeSort_perm ds leS).mem_iff.mp ha) ((isort_perm ds).mem_iff.mp hb)) (List.pairwise_mergeSort leS_tot.trans (fun a b => by rw [Bool.or_eq_true]; exact leS_tot.total a b) ds) (isort_sorted ds) p
def sortD' (ds : List D) : Option (List D) := if sortable ds && decide (ds.length ≤ many) then some (isort ds) else none
theorem sortD_eq : sortD = sortD' := by
  funext ds
  unfold sortD sortD'
  by_cases h : sortable ds = true
  · rw [merge_isort h]
  · rw [Bool.eq_false_iff.mpr h]; rfl
def sortN' : D → Option (List D)
  | .list ds => sortD' ds
  | .tuple ds => sortD' ds
  | .dict kvs => sortD' (kvKeys kvs)
  | _ => none
theorem sortN_eq : sortN = sortN' := by
  funext d
  cases d <;> first | rfl | exact congrFun sortD_eq _
end Pu
/-! Ev3: changes, enumerate, counts, places -/
namespace Pu
open PySem L2
theorem sdnew_ev (i : Nat) (e : En) : sdnew i e = .nx (e.set i (.dic [])) := rfl
theorem sdput_ev {i : Nat} {G F : En → R D} {e : En} {v x : D} {kvs : List (D × D)} {k : NestedKey} (hF : F e = .ok v) (hi : e[i]? = some (.dic kvs)) (hG : G e = .ok x) (hk : keyD x = some k) (hl : kvs.length < 1000000) :
    sdput i G F e = .nx (e.set i (.dic (dput kvs k x v))) := by
  unfold sdput
  rw [hF, liftE_ok, hi]
  show liftE (G e) e (dputAt i e kvs v) = _
  rw [hG, liftE_ok]
  unfold dputAt
  rw [hk]
  show (if kvs.length < many then _ else _) = _
  rw [if_pos (show kvs.length < many from hl)]
theorem sapp_ev {i : Nat} {F : En → R D} {e : En} {d : D} {ds : List D} (hi : e[i]? = some (.own ds)) (hF : F e = .ok d) (hl : ds.length < 1000000) : sapp i F e = .nx (e.set i (.own (ds ++ [d]))) := by
  unfold sapp
  rw [hi]
  show liftE (F e) e _ = _
  rw [hF, liftE_ok, if_pos (show ds.length < many from hl)]
theorem sext_ev {i : Nat} {F : En → R D} {e : En} {d : D} {ds es : List D} (hi : e[i]? = some (.own ds)) (hF : F e = .ok d) (hd : listN d = some es) (hl : ds.length + es.length ≤ 1000000) : sext i F e = .nx (e.set i (.own (ds ++ es))) := by
  unfold sext
  rw [hi]
  show liftE (F e) e _ = _
  rw [hF, liftE_ok, hd]
  show (if ds.length + es.length ≤ many then _ else _) = _
  rw [if_pos (show ds.length + es.length ≤ many from hl)]
theorem sput_ev {i : Nat} {G F : En → R D} {e : En} {d : D} {n : Int} {m : Nat} {ds : List D} (hF : F e = .ok d) (hi : e[i]? = some (.own ds)) (hG : G e = .ok (.int n)) (hn : ixN ds.length n = some m) : sput i G F e = .nx (e.set i (.own (ds.set m d))) := by
  unfold sput
  rw [hF, liftE_ok, hi]
  show liftE (G e) e (putAt i e ds d) = _
  rw [hG, liftE_ok]
  show (match ixN ds.length n with | some m => Fl.nx (e.set i (.own (ds.set m d))) | none => .bad) = _
  rw [hn]
theorem ixN_nat {n : Nat} {i : Int} (h0 : 0 ≤ i) (h : i < n) : ixN n i = some i.toNat := by
  unfold ixN
  rw [if_pos h0, if_pos h]
theorem atI_some {α : Type} {xs : List α} {i : Int} {x : α} (h0 : 0 ≤ i) (h : xs[i.toNat]? = some x) : atI xs i = some x := by
  obtain ⟨j, rfl⟩ : ∃ j : Nat, i = j := ⟨i.toNat, by omega⟩
  rw [atI_n]
  simpa using h
/-! ### men -/
def oM : Option Int → D
  | none => .none
  | some i => .int i
@[simp] theorem oM_n : oM none = .none := rfl
@[simp] theorem oM_s (i : Int) : oM (some i) = .int i := rfl
theorem oM_inj (a b : Option Int) (h : oM a = oM b) : a = b := by
  cases a <;> cases b <;> simp_all [oM]
theorem oM_pl (a : Option Int) : plD (oM a) = true := by cases a <;> rfl
theorem oM_shp (a : Option Int) : shp 0 (oM a) := by
  cases a with
  | none => exact shp_none
  | some i => exact shp_int i
@[simp] theorem oM_shaped (a : Option Int) : SeqAt.shaped (oM a) = true := (oM_shp a).shaped
@[simp] theorem isNone_oM (a : Option Int) : isNoneD (oM a) = a.isNone := by cases a <;> rfl
theorem eqv_oM (a b : Option Int) : PyData.eqv (oM a) (oM b) = decide (a = b) := eqv_enc oM_inj oM_pl a b
theorem eqv_oMi (a : Option Int) (i : Int) : PyData.eqv (oM a) (.int i) = decide (a = some i) := eqv_enc oM_inj oM_pl a (some i)
theorem eq_oMi (a : Option Int) (i : Int) : eqD (oM a) (.int i) = some (.bool (decide (a = some i))) := by rw [eq_ev (oM_shaped a) (shaped_int i), eqv_oMi]
/-- the man at a point -/
def mAt (ms : List (Option Int)) (p : Int) : Option Int := ms.getD p.toNat none
theorem atI_men {ms : List (Option Int)} {p : Int} (h0 : 0 ≤ p) (h : p < ms.length) : atI (ms.map oM) p = some (oM (mAt ms p)) := by
  apply atI_some h0
  rw [List.getElem?_map, List.getElem?_eq_getElem (show p.toNat < ms.length by omega)]
  unfold mAt
  rw [List.getD_eq_getElem?_getD, List.getElem?_eq_getElem (show p.toNat < ms.length by omega)]
  rfl
theorem mAt_set {ms : List (Option Int)} {p q : Int} {m : Option Int} (hp : 0 ≤ p) (hp2 : p < ms.length) (hq : 0 ≤ q) : mAt (ms.set p.toNat m) q = if q = p then m else mAt ms q := by
  unfold mAt
  rw [List.getD_eq_getElem?_getD, List.getD_eq_getElem?_getD, List.getElem?_set]
  by_cases h : q = p
  · subst h
    rw [if_pos rfl, if_pos rfl, if_pos (by omega)]
    rfl
  · rw [if_neg (by omega), if_neg h]
/-! ### enumerate -/
def enumM (ms : List (Option Int)) : List (Int × Option Int) := ms.mapIdx fun i m => ((i : Int), m)
def encE (p : Int × Option Int) : D := pairD (.int p.1) (oM p.2)
theorem enum_men (ms : List (Option Int)) : enumL (ms.map oM) = (enumM ms).map encE := by
  unfold enumL enumM encE
  apply List.ext_getElem?
  intro i
  rw [List.getElem?_mapIdx, List.getElem?_map, List.getElem?_map, List.getElem?_mapIdx]
  cases ms[i]? <;> rfl
theorem enumM_mem {ms : List (Option Int)} {p : Int × Option Int} : p ∈ enumM ms ↔ 0 ≤ p.1 ∧ ms[p.1.toNat]? = some p.2 := by
  unfold enumM
  rw [List.mem_mapIdx]
  constructor
  · rintro ⟨i, hi, rfl⟩
    exact ⟨by simp, by simp [hi]⟩
  · rintro ⟨h0, h⟩
    obtain ⟨hi, e⟩ := List.getElem?_eq_some_iff.mp h
    exact ⟨p.1.toNat, hi, by apply Prod.ext <;> simp [e]; omega⟩
theorem enumM_length (ms : List (Option Int)) : (enumM ms).length = ms.length := by unfold enumM; rw [List.length_mapIdx]
/-- the places whose men are so -/
def whr (c : Option Int → Bool) (ms : List (Option Int)) : List Int := ((enumM ms).filter fun p => c p.2).map (·.1)
theorem whr_mem {c : Option Int → Bool} {ms : List (Option Int)} {p : Int} : p ∈ whr c ms ↔ 0 ≤ p ∧ p < ms.length ∧ c (mAt ms p) = true := by
  unfold whr
  rw [List.mem_map]
  constructor
  · rintro ⟨⟨q, m⟩, hq, rfl⟩
    rw [List.mem_filter, enumM_mem] at hq
    obtain ⟨⟨h0, h1⟩, h2⟩ := hq
    simp only at h0 h1 h2 ⊢
    have h3 : q.toNat < ms.length := (List.getElem?_eq_some_iff.mp h1).1
    refine ⟨h0, by omega, ?_⟩
    unfold mAt
    rw [List.getD_eq_getElem?_getD, h1]
    exact h2
  · rintro ⟨h0, h1, h2⟩
    refine ⟨(p, mAt ms p), ?_, rfl⟩
    rw [List.mem_filter, enumM_mem]
    refine ⟨⟨h0, ?_⟩, h2⟩
    unfold mAt
    rw [List.getD_eq_getElem?_getD, List.getElem?_eq_getElem (show p.toNat < ms.length by omega)]
    rfl
theorem enumM_sorted (ms : List (Option Int)) : (enumM ms).Pairwise fun p q => p.1 < q.1 := by
  unfold enumM
  rw [List.pairwise_iff_getElem]
  intro i j hi hj hij
  rw [List.getElem_mapIdx, List.getElem_mapIdx]
  show (i : Int) < (j : Int)
  omega
theorem whr_sorted (c : Option Int → Bool) (ms : List (Option Int)) : (whr c ms).Pairwise (· < ·) := by
  unfold whr
  rw [List.pairwise_map]
  exact (enumM_sorted ms).filter _
theorem whr_length (c : Option Int → Bool) (ms : List (Option Int)) : (whr c ms).length ≤ ms.length := by
  unfold whr
  rw [List.length_map, ← enumM_length ms]
  exact List.length_filter_le _ _
/-- [p for p, man in enumerate(men) if ..] -/
theorem xlc_whr {vs : List Nat} {L : En → R (List D)} {f : Tg} {T : En → R Bool} {E : En → R D} {e : En} {ms : List (Option Int)} (c : Option Int → Bool) (hL : L e = .ok (enumL (ms.map oM))) (hl : ms.length ≤ 1000000)
    (h : ∀ (p : Int) (m : Option Int), 0 ≤ p → p < ms.length → m = mAt ms p → ∃ e1, f (pairD (.int p) (oM m)) (wipeE e vs) = some e1 ∧ T e1 = .ok (c m) ∧ E e1 = .ok (.int p)) : xlc vs L f T E e = .ok ((whr c ms).map PyData.int) := by
  rw [enum_men] at hL
  rw [xlc_map (enc := encE) (xs := enumM ms) (fun p => c p.2) (fun p => .int p.1) hL (by rw [enumM_length]; exact hl) fun x hx => ?_]
  · unfold whr
    rw [List.map_map]
    rfl
  · obtain ⟨h0, h1⟩ := enumM_mem.mp hx
    have h3 : x.1.toNat < ms.length := (List.getElem?_eq_some_iff.mp h1).1
    obtain ⟨e1, a1, a2, a3⟩ := h x.1 x.2 h0 (by omega) (by unfold mAt; rw [List.getD_eq_getElem?_getD, h1]; rfl)
    exact ⟨e1, a1, a2, fun _ => a3⟩
/-! ### counts -/
theorem count_men_l (ms : List (Option Int)) (w : Int) : countD (.list (ms.map oM)) (.int w) = some (.int (ms.count (some w) : Nat)) := by
  show (if SeqAt.shaped (.int w) && SeqAt.shaped (.list (ms.map oM)) then some (PyData.int ((ms.map oM).countP fun z => PyData.eqv z (.int w) : Nat)) else none) = _
  rw [shaped_int, (shp_list (k := 0) (ds := ms.map oM) fun d hd => by obtain ⟨y, _, rfl⟩ := List.mem_map.mp hd; exact oM_shp y).shaped]
  rw [if_pos (show (true && true) = true from rfl), List.countP_map]
  congr 3
  unfold List.count
  congr 1
  funext m
  show PyData.eqv (oM m) (.int w) = _
  rw [eqv_oMi, Bool.eq_iff_iff, decide_eq_true_eq, beq_iff_eq]
theorem count_men_t (ms : List (Option Int)) (w : Int) : countD (.tuple (ms.map oM)) (.int w) = some (.int (ms.count (some w) : Nat)) := by
  show (if SeqAt.shaped (.int w) && SeqAt.shaped (.tuple (ms.map oM)) then some (PyData.int ((ms.map oM).countP fun z => PyData.eqv z (.int w) : Nat)) else none) = _
  rw [shaped_int, (shp_tup (k := 0) (ds := ms.map oM) fun d hd => by obtain ⟨y, _, rfl⟩ := List.mem_map.mp hd; exact oM_shp y).shaped]
  rw [if_pos (show (true && true) = true from rfl), List.countP_map]
  congr 3
  unfold List.count
  congr 1
  funext m
  show PyData.eqv (oM m) (.int w) = _
  rw [eqv_oMi, Bool.eq_iff_iff, decide_eq_true_eq, beq_iff_eq]
theorem xcount_ev {F G : En → R D} {e : En} {x y z : D} (hF : F e = .ok x) (hG : G e = .ok y) (hx : (∃ ds, x = .list ds) ∨ ∃ ds, x = .tuple ds) (hz : countD x y = some z) : xcount F G e = .ok z := by
  unfold xcount xmt
  rw [hF, bind_ok]
  rcases hx with ⟨ds, rfl⟩ | ⟨ds, rfl⟩
  · show (if "list" ∈ ["list", "tuple"] then _ else _) = _
    rw [if_pos (by simp), hG, bind_ok, hz]
    rfl
  · show (if "tuple" ∈ ["list", "tuple"] then _ else _) = _
    rw [if_pos (by simp), hG, bind_ok, hz]
    rfl
end Pu
namespace Pf
open PySem L2 Pu
def b_law_mix : En → Fl :=
  (sseq (sasg 3 (bin modD (bin mulD (xvE 0) (xc (.int 48271))) (xvE 1)))
  (sret (bin modD (bin modD (bin mulD (xvE 3) (bin addD (xvE 3) (xc (.int 7)))) (xvE 1)) (xvE 2))))
def f_law_mix : List D → R D := runD 4 b_law_mix
def lb_law_drawn_board_1 : En → Fl :=
  (sseq (sasg 5 (xcall 3 f_law_mix (lcons (bin addD (xvE 0) (bin mulD (xc (.int 7)) (xvE 4))) (lcons (xc (.int 9949)) (lcons (xvE 2) lnil)))))
  (sseq (sasg 6 (xcall 3 f_law_mix (lcons (bin addD (xvE 0) (bin mulD (xc (.int 11)) (xvE 4))) (lcons (xc (.int 9941)) (lcons (xvE 2) lnil)))))
  (sif (xbl (bin neD (xvV 5) (xvV 6))) (sdput 3 (xtup (lcons (bin min2D (xvV 5) (xvV 6)) (lcons (bin max2D (xvV 5) (xvV 6)) lnil))) (xc (.bool true))) snil)))
def l_law_drawn_board_1 : En → Fl :=
  (sfor (irng1 (xcall 3 f_law_mix (lcons (xvE 0) (lcons (xc (.int 9967)) (lcons (bin mulD (xc (.int 2)) (xvE 2)) lnil))))) (gn 4) lb_law_drawn_board_1)
def q_law_drawn_board_1 : En → R (List D) :=
  (xlc [9] (irng1 (xc (.int 3))) (gn 9) tyes (xcall 3 f_law_mix (lcons (bin addD (bin addD (xvE 0) (bin mulD (xc (.int 13)) (xvE 4))) (xvE 9)) (lcons (xc (.int 9929)) (lcons (xvE 2) lnil)))))
def lb_law_drawn_board_2 : En → Fl :=
  (sseq (sasg 8 (asL (un1N sortSetN (asL q_law_drawn_board_1))))
  (sif (xbl (bin eqD (un1 lenD (xvV 8)) (xc (.int 3)))) (sdput 7 (un1 tupleD (xvV 8)) (xc (.bool true))) snil))
def l_law_drawn_board_2 : En → Fl :=
  (sfor (irng1 (xcall 3 f_law_mix (lcons (xvE 0) (lcons (xc (.int 9931)) (lcons (xc (.int 6)) lnil))))) (gn 4) lb_law_drawn_board_2)
def b_law_drawn_board : En → Fl :=
  (sseq (sasg 2 (bin addD (xc (.int 5)) (xcall 3 f_law_mix (lcons (xvE 0) (lcons (xc (.int 9973)) (lcons (bin subD (xvE 1) (xc (.int 4))) lnil))))))
  (sseq (sdnew 3)
  (sseq l_law_drawn_board_1
  (sseq (sdnew 7)
  (sseq l_law_drawn_board_2
  (sret (xtup (lcons (xvE 2) (lcons (un1 tupleD (asL (un1N sortN (xvV 3)))) (lcons (un1 tupleD (asL (un1N sortN (xvV 7)))) lnil))))))))))
def f_law_drawn_board : List D → R D := runD 10 b_law_drawn_board
def q_law_ring_board_1 : En → R (List D) :=
  (xlc [5] (irng1 (xc (.int 8))) (gn 5) tyes (bin addD (bin mulD (xc (.int 8)) (xvE 3)) (xvE 5)))
def q_law_ring_board_2 : En → R (List D) :=
  (xlc [5] (irng1 (xc (.int 8))) (gn 5) tyes (un1 tupleD (asL (un1N sortN (xsl (xvV 4) (osome (xvE 5)) (osome (bin addD (xvE 5) (xc (.int 2)))))))))
def q_law_ring_board_3 : En → R (List D) :=
  (xlc [5] (iseq (xtup (lcons (xc (.int 0)) (lcons (xc (.int 2)) (lcons (xc (.int 4)) (lcons (xc (.int 6)) lnil)))))) (gn 5) tyes (un1 tupleD (asL (un1N sortN (xsl (xvV 4) (osome (xvE 5)) (osome (bin addD (xvE 5) (xc (.int 3)))))))))
def q_law_ring_board_4 : En → R (List D) :=
  (xlc [5] (iseq (xtup (lcons (xc (.int 1)) (lcons (xc (.int 3)) (lcons (xc (.int 5)) (lcons (xc (.int 7)) lnil)))))) (gn 5) tyes (xtup (lcons (bin subD (bin ixD (xvV 4) (xvV 5)) (xc (.int 8))) (lcons (bin ixD (xvV 4) (xvV 5)) lnil))))
def lb_law_ring_board_1 : En → Fl :=
  (sseq (sasg 4 (bin addD (asL q_law_ring_board_1) (asL (xlst (lcons (bin mulD (xc (.int 8)) (xvE 3)) lnil)))))
  (sseq (sasg 1 (bin addD (xvE 1) (asL q_law_ring_board_2)))
  (sseq (sasg 2 (bin addD (xvE 2) (asL q_law_ring_board_3)))
  (sif (xbl (bin gtD (xvV 3) (xc (.int 0)))) (sasg 1 (bin addD (xvE 1) (asL q_law_ring_board_4))) snil))))
def l_law_ring_board_1 : En → Fl :=
  (sfor (irng1 (xvE 0)) (gn 3) lb_law_ring_board_1)
def q_law_ring_board_5 : En → R (List D) :=
  (xlc [5] (iseq (xtup (lcons (xc (.int 1)) (lcons (xc (.int 3)) (lcons (xc (.int 5)) (lcons (xc (.int 7)) lnil)))))) (gn 5) tyes (xtup (lcons (xvE 5) (lcons (bin addD (xvE 5) (xc (.int 8))) (lcons (bin addD (xvE 5) (xc (.int 16))) lnil)))))
def b_law_ring_board : En → Fl :=
  (sseq (sasg 1 (asL (xlst lnil)))
  (sseq (sasg 2 (asL (xlst lnil)))
  (sseq l_law_ring_board_1
  (sseq (sif (xbl (bin eqD (xvV 0) (xc (.int 3)))) (sasg 2 (bin addD (xvE 2) (asL q_law_ring_board_5))) snil)
  (sret (xtup (lcons (bin mulD (xc (.int 8)) (xvE 0)) (lcons (un1 tupleD (asL (un1N sortN (xvV 1)))) (lcons (un1 tupleD (asL (un1N sortN (xvV 2)))) lnil)))))))))
def f_law_ring_board : List D → R D := runD 6 b_law_ring_board
def lb_law_grid_board_1 : En → Fl :=
  (sif (tor (xbl (bin eqD (bin subD (xvE 2) (xvE 1)) (xc (.int 3)))) (tand (xbl (bin eqD (bin subD (xvE 2) (xvE 1)) (xc (.int 1)))) (xbl (bin gtD (bin modD (xvE 2) (xc (.int 3))) (xc (.int 0)))))) (sapp 0 (xtup (lcons (xvE 1) (lcons (xvE 2) lnil)))) snil)
def l_law_grid_board_1 : En → Fl :=
  (sfor (irng2 (bin addD (xvE 1) (xc (.int 1))) (xc (.int 9))) (gn 2) lb_law_grid_board_1)
def lb_law_grid_board_2 : En → Fl :=
  l_law_grid_board_1
def l_law_grid_board_2 : En → Fl :=
  (sfor (irng1 (xc (.int 9))) (gn 1) lb_law_grid_board_2)
def b_law_grid_board : En → Fl :=
  (sseq (sasgN 0 (xlst lnil))
  (sseq l_law_grid_board_2
  (sseq (sasg 3 (xtup (lcons (xtup (lcons (xc (.int 0)) (lcons (xc (.int 1)) (lcons (xc (.int 2)) lnil)))) (lcons (xtup (lcons (xc (.int 0)) (lcons (xc (.int 3)) (lcons (xc (.int 6)) lnil)))) (lcons (xtup (lcons (xc (.int 1)) (lcons (xc (.int 4)) (lcons (xc (.int 7)) lnil)))) (lcons (xtup (lcons (xc (.int 2)) (lcons (xc (.int 5)) (lcons (xc (.int 8)) lnil)))) (lcons (xtup (lcons (xc (.int 3)) (lcons (xc (.int 4)) (lcons (xc (.int 5)) lnil)))) (lcons (xtup (lcons (xc (.int 6)) (lcons (xc (.int 7)) (lcons (xc (.int 8)) lnil)))) lnil))))))))
  (sret (xtup (lcons (xc (.int 9)) (lcons (un1 tupleD (xvV 0)) (lcons (xvE 3) lnil))))))))
def f_law_grid_board : List D → R D := runD 4 b_law_grid_board
def b_law_board : En → Fl :=
  (sseq (sasg 2 (xcall 3 f_law_mix (lcons (xvE 0) (lcons (xc (.int 9923)) (lcons (xc (.int 6)) lnil)))))
  (sseq (sif (tand (xbl (bin eqD (xvV 2) (xc (.int 0)))) (xbl (bin gtD (xvV 1) (xc (.int 23))))) (sret (xcall 1 f_law_ring_board (lcons (xc (.int 3)) lnil))) snil)
  (sseq (sif (tand (xbl (bin ltD (xvV 2) (xc (.int 3)))) (xbl (bin gtD (xvV 1) (xc (.int 15))))) (sret (xcall 1 f_law_ring_board (lcons (bin addD (xc (.int 1)) (bin modD (xvE 2) (xc (.int 2)))) lnil))) snil)
  (sseq (sif (xbl (bin ltD (xvV 2) (xc (.int 4)))) (sret (xcall 0 f_law_grid_board lnil)) snil)
  (sret (xcall 2 f_law_drawn_board (lcons (bin addD (xvE 0) (xc (.int 1))) (lcons (bin min2D (xvV 1) (xc (.int 12))) lnil))))))))
def f_law_board : List D → R D := runD 3 b_law_board
def q_law_stand_1 : En → R (List D) :=
  (xlc [9] (irng1 (bin ixD (xvV 0) (xc (.int 0)))) (gn 9) tyes (xc .none))
def q_law_stand_2 : En → R (List D) :=
  (xlc [9, 10] (ienum (xvV 3)) (gtup (gcons (gn 9) (gcons (gn 10) gnil))) (xbl (bin isD (xvV 10) (xc .none))) (xvE 9))
def lb_law_stand_1 : En → Fl :=
  (sseq (sasg 7 (asL q_law_stand_2))
  (sif (tand (xbl (bin gtD (un1 lenD (xvV 7)) (xvV 4))) (tor (xbl (bin eqD (xvV 2) (xc (.int 0)))) (xbl (bin ltD (xcount (xvV 3) (xvV 6)) (xvV 2))))) (sput 3 (bin ixD (xvV 7) (xcall 3 f_law_mix (lcons (bin addD (bin addD (xvE 1) (bin mulD (xc (.int 23)) (xvE 5))) (bin mulD (xc (.int 5)) (xvE 6))) (lcons (xc (.int 9901)) (lcons (un1 lenD (xvV 7)) lnil))))) (xvE 6)) snil))
def l_law_stand_1 : En → Fl :=
  (sfor (iseq (xtup (lcons (xc (.int 0)) (lcons (xc (.int 1)) lnil)))) (gn 6) lb_law_stand_1)
def lb_law_stand_2 : En → Fl :=
  l_law_stand_1
def l_law_stand_2 : En → Fl :=
  (sfor (irng1 (bin addD (xcall 3 f_law_mix (lcons (xvE 1) (lcons (xc (.int 9907)) (lcons (bin addD (xc (.int 4)) (bin mulD (xc (.int 6)) (un1 intD (bin eqD (xvV 2) (xc (.int 0)))))) lnil)))) (xc (.int 3)))) (gn 5) lb_law_stand_2)
def b_law_stand : En → Fl :=
  (sseq (sasgN 3 q_law_stand_1)
  (sseq (sasg 4 (xcall 3 f_law_mix (lcons (xvE 1) (lcons (xc (.int 9871)) (lcons (xc (.int 4)) lnil)))))
  (sseq l_law_stand_2
  (sseq (sasg 8 (xtup (lcons (xc (.int 0)) (lcons (xc (.int 0)) lnil))))
  (sseq (sif (tand (xbl (bin eqD (xvV 2) (xc (.int 0)))) (xbl (bin eqD (bin modD (xvE 1) (xc (.int 3))) (xc (.int 0))))) (sasg 8 (xtup (lcons (xcall 3 f_law_mix (lcons (xvE 1) (lcons (xc (.int 9887)) (lcons (xc (.int 4)) lnil)))) (lcons (xcall 3 f_law_mix (lcons (xvE 1) (lcons (xc (.int 9883)) (lcons (xc (.int 4)) lnil)))) lnil)))) snil)
  (sret (xtup (lcons (un1 tupleD (xvV 3)) (lcons (xvE 8) (lcons (bin modD (xvE 1) (xc (.int 2))) lnil))))))))))
def f_law_stand : List D → R D := runD 11 b_law_stand
def b_law_cell : En → Fl :=
  (sseq (sif (xbl (bin ltD (xvV 1) (un1 lenD (xvV 0)))) (sret (bin ixD (xvV 0) (xvV 1))) snil)
  (sret (xc (.int 0))))
def f_law_cell : List D → R D := runD 2 b_law_cell
end Pf
namespace Pf
open PySem L2 Pu
def qfull_rows_1 : En → R (List D) :=
  (xlc [4] (iseq (xvV 3)) (gn 4) tyes (bin eqD (bin ixD (xvV 1) (xvV 4)) (xvV 2)))
def qfull_rows_2 : En → R (List D) :=
  (xlc [3] (iseq (bin ixD (xvV 0) (xc (.int 2)))) (gn 3) (xtru (un1 allD (asL qfull_rows_1))) (xvE 3))
def bfull_rows : En → Fl :=
  (sret (asL qfull_rows_2))
def ffull_rows : List D → R D := runD 5 bfull_rows
def bfull : En → Fl :=
  (sret (un1 tupleD (xcall 3 ffull_rows (lcons (xvE 0) (lcons (bin ixD (xvV 1) (xc (.int 0))) (lcons (xvE 2) lnil))))))
def ffull : List D → R D := runD 3 bfull
end Pf
namespace Pf
open PySem L2 Pu
def qpoints_of_1 : En → R (List D) :=
  (xlc [2, 3] (ienum (bin ixD (xvV 0) (xc (.int 0)))) (gtup (gcons (gn 2) (gcons (gn 3) gnil))) (xbl (bin eqD (xvV 3) (xvV 1))) (xvE 2))
def bpoints_of : En → Fl :=
  (sret (asL qpoints_of_1))
def fpoints_of : List D → R D := runD 4 bpoints_of
def bcount : En → Fl :=
  (sret (bin addD (un1 lenD (xcall 2 fpoints_of (lcons (xvE 0) (lcons (xvE 1) lnil)))) (bin ixD (bin ixD (xvV 0) (xc (.int 1))) (xvV 1))))
def fcount : List D → R D := runD 2 bcount
def lbneighbours_1 : En → Fl :=
  (sseq (sif (xbl (bin eqD (xvV 3) (xvV 1))) (sapp 2 (xvE 4)) snil)
  (sif (xbl (bin eqD (xvV 4) (xvV 1))) (sapp 2 (xvE 3)) snil))
def lneighbours_1 : En → Fl :=
  (sfor (iseq (bin ixD (xvV 0) (xc (.int 1)))) (gtup (gcons (gn 3) (gcons (gn 4) gnil))) lbneighbours_1)
def bneighbours : En → Fl :=
  (sseq (sasgN 2 (xlst lnil))
  (sseq lneighbours_1
  (sret (xvE 2))))
def fneighbours : List D → R D := runD 5 bneighbours
def qsteps_1 : En → R (List D) :=
  (xlc [10, 11] (ienum (xvV 2)) (gtup (gcons (gn 10) (gcons (gn 11) gnil))) (xbl (bin isD (xvV 11) (xc .none))) (xvE 10))
def qsteps_2 : En → R (List D) :=
  (xlc [12] (iseq (xvV 5)) (gn 12) tyes (xtup (lcons (un1 negD (xc (.int 1))) (lcons (xvE 12) lnil))))
def qsteps_3 : En → R (List D) :=
  (xlc [10] (iseq (xcall 2 fneighbours (lcons (xvE 0) (lcons (xvE 8) lnil)))) (gn 10) (xbl (bin isD (bin ixD (xvV 2) (xvV 10)) (xc .none))) (xvE 10))
def qsteps_4 : En → R (List D) :=
  (xlc [12] (iseq (xvV 9)) (gn 12) tyes (xtup (lcons (xvE 8) (lcons (xvE 12) lnil))))
def lbsteps_1 : En → Fl :=
  (sseq (sasg 9 (xvE 5))
  (sseq (sif (xbl (bin gtD (un1 lenD (xvV 6)) (xc (.int 3)))) (sasg 9 (asL qsteps_3)) snil)
  (sext 7 (asL qsteps_4))))
def lsteps_1 : En → Fl :=
  (sfor (iseq (xvE 6)) (gn 8) lbsteps_1)
def bsteps : En → Fl :=
  (sseq (sasgT (gtup (gcons (gn 2) (gcons (gn 3) (gcons (gn 4) gnil)))) (xvE 1))
  (sseq (sasg 5 (asL qsteps_1))
  (sseq (sif (xbl (bin gtD (bin ixD (xvV 3) (xvV 4)) (xc (.int 0)))) (sret (asL qsteps_2)) snil)
  (sseq (sasg 6 (xcall 2 fpoints_of (lcons (xvE 1) (lcons (xvE 4) lnil))))
  (sseq (sasgN 7 (xlst lnil))
  (sseq lsteps_1
  (sret (xvE 7))))))))
def fsteps : List D → R D := runD 13 bsteps
def bwinner : En → Fl :=
  (sseq (sasg 2 (bin ixD (xvV 1) (xc (.int 2))))
  (sseq (sif (tor (xbl (bin ltD (xcall 2 fcount (lcons (xvE 1) (lcons (xvE 2) lnil))) (xc (.int 3)))) (tnot (xtru (xcall 2 fsteps (lcons (xvE 0) (lcons (xvE 1) lnil)))))) (sret (bin subD (xc (.int 1)) (xvE 2))) snil)
  (sret (xc .none))))
def fwinner : List D → R D := runD 3 bwinner
def qtakings_1 : En → R (List D) :=
  (xlc [9] (iseq (xcall 3 ffull_rows (lcons (xvE 0) (lcons (xvE 1) (lcons (xvE 3) lnil))))) (gn 9) tyes (bin inD (xvV 2) (xvV 9)))
def qtakings_2 : En → R (List D) :=
  (xlc [7, 8] (ienum (xvV 1)) (gtup (gcons (gn 7) (gcons (gn 8) gnil))) (xbl (bin eqD (xvV 8) (bin subD (xc (.int 1)) (xvE 3)))) (xvE 7))
def qtakings_3 : En → R (List D) :=
  (xlc [9] (iseq (xvV 5)) (gn 9) tyes (bin inD (xvV 7) (xvV 9)))
def qtakings_4 : En → R (List D) :=
  (xlc [7] (iseq (xvV 4)) (gn 7) (tnot (xtru (un1 anyD (asL qtakings_3)))) (xvE 7))
def btakings : En → Fl :=
  (sseq (sif (tnot (xtru (un1 anyD (asL qtakings_1)))) (sret (asL (xlst (lcons (un1 negD (xc (.int 1))) lnil)))) snil)
  (sseq (sasg 4 (asL qtakings_2))
  (sseq (sasg 5 (xcall 3 ffull_rows (lcons (xvE 0) (lcons (xvE 1) (lcons (bin subD (xc (.int 1)) (xvE 3)) lnil)))))
  (sseq (sasg 6 (asL qtakings_4))
  (sret (xorV (xvE 6) (xorV (xvE 4) (asL (xlst (lcons (un1 negD (xc (.int 1))) lnil))))))))))
def ftakings : List D → R D := runD 10 btakings
def bwith_step : En → Fl :=
  (sseq (sasgN 4 (un1N listN (xvV 0)))
  (sseq (sif (xbl (bin geD (xvV 1) (xc (.int 0)))) (sput 4 (xvE 1) (xc .none)) snil)
  (sseq (sput 4 (xvE 2) (xvE 3))
  (sret (un1 tupleD (xvV 4))))))
def fwith_step : List D → R D := runD 5 bwith_step
def qall_moves_1 : En → R (List D) :=
  (xlc [9] (iseq (xvV 8)) (gn 9) tyes (xtup (lcons (xvE 6) (lcons (xvE 7) (lcons (xvE 9) lnil)))))
def lball_moves_1 : En → Fl :=
  (sseq (sasg 8 (xcall 4 ftakings (lcons (xvE 0) (lcons (xcall 4 fwith_step (lcons (xvE 2) (lcons (xvE 6) (lcons (xvE 7) (lcons (xvE 4) lnil))))) (lcons (xvE 7) (lcons (xvE 4) lnil))))))
  (sext 5 (asL qall_moves_1)))
def lall_moves_1 : En → Fl :=
  (sfor (iseq (xcall 2 fsteps (lcons (xvE 0) (lcons (xvE 1) lnil)))) (gtup (gcons (gn 6) (gcons (gn 7) gnil))) lball_moves_1)
def ball_moves : En → Fl :=
  (sseq (sasgT (gtup (gcons (gn 2) (gcons (gn 3) (gcons (gn 4) gnil)))) (xvE 1))
  (sseq (sasgN 5 (xlst lnil))
  (sseq lall_moves_1
  (sret (xvE 5)))))
def fall_moves : List D → R D := runD 10 ball_moves
def bmoves : En → Fl :=
  (sseq (sif (xbl (bin isNotD (xcall 2 fwinner (lcons (xvE 0) (lcons (xvE 1) lnil))) (xc .none))) (sret (xtup lnil)) snil)
  (sret (un1 tupleD (asL (un1N sortN (xcall 2 fall_moves (lcons (xvE 0) (lcons (xvE 1) lnil))))))))
def fmoves : List D → R D := runD 2 bmoves
end Pf
namespace Pf
open PySem L2 Pu
def q_law_steps_1 : En → R (List D) :=
  (xlc [10] (irng1 (bin ixD (xvV 0) (xc (.int 0)))) (gn 10) (xbl (bin isD (bin ixD (xvV 2) (xvV 10)) (xc .none))) (xvE 10))
def q_law_steps_2 : En → R (List D) :=
  (xlc [9] (iseq (xvV 5)) (gn 9) tyes (xtup (lcons (un1 negD (xc (.int 1))) (lcons (xvE 9) lnil))))
def q_law_steps_3 : En → R (List D) :=
  (xlc [10] (irng1 (bin ixD (xvV 0) (xc (.int 0)))) (gn 10) (xbl (bin eqD (bin ixD (xvV 2) (xvV 10)) (xvV 4))) (xvE 10))
def lb_law_steps_1 : En → Fl :=
  (sif (tor (xbl (bin ltD (un1 lenD (xvV 6)) (xc (.int 4)))) (xbl (bin inD (xtup (lcons (bin min2D (xvV 8) (xvV 9)) (lcons (bin max2D (xvV 8) (xvV 9)) lnil))) (bin ixD (xvV 0) (xc (.int 1)))))) (sapp 7 (xtup (lcons (xvE 8) (lcons (xvE 9) lnil)))) snil)
def l_law_steps_1 : En → Fl :=
  (sfor (iseq (xvE 5)) (gn 9) lb_law_steps_1)
def lb_law_steps_2 : En → Fl :=
  l_law_steps_1
def l_law_steps_2 : En → Fl :=
  (sfor (iseq (xvE 6)) (gn 8) lb_law_steps_2)
def b_law_steps : En → Fl :=
  (sseq (sasgT (gtup (gcons (gn 2) (gcons (gn 3) (gcons (gn 4) gnil)))) (xvE 1))
  (sseq (sasg 5 (asL q_law_steps_1))
  (sseq (sif (xbl (bin gtD (bin ixD (xvV 3) (xvV 4)) (xc (.int 0)))) (sret (asL q_law_steps_2)) snil)
  (sseq (sasg 6 (asL q_law_steps_3))
  (sseq (sasgN 7 (xlst lnil))
  (sseq l_law_steps_2
  (sret (xvE 7))))))))
def f_law_steps : List D → R D := runD 11 b_law_steps
def b_law_winner : En → Fl :=
  (sseq (sasgT (gtup (gcons (gn 2) (gcons (gn 3) (gcons (gn 4) gnil)))) (xvE 1))
  (sseq (sif (tor (xbl (bin ltD (bin addD (xcount (xvV 2) (xvV 4)) (bin ixD (xvV 3) (xvV 4))) (xc (.int 3)))) (tnot (xtru (xcall 2 f_law_steps (lcons (xvE 0) (lcons (xvE 1) lnil)))))) (sret (bin subD (xc (.int 1)) (xvE 4))) snil)
  (sret (xc .none))))
def f_law_winner : List D → R D := runD 5 b_law_winner
def q_law_rows_of_1 : En → R (List D) :=
  (xlc [4] (iseq (xvV 3)) (gn 4) tyes (bin ixD (xvV 1) (xvV 4)))
def q_law_rows_of_2 : En → R (List D) :=
  (xlc [3] (iseq (bin ixD (xvV 0) (xc (.int 2)))) (gn 3) (xbl (bin eqD (asL q_law_rows_of_1) (asL (xlst (lcons (xvE 2) (lcons (xvE 2) (lcons (xvE 2) lnil))))))) (xvE 3))
def b_law_rows_of : En → Fl :=
  (sret (asL q_law_rows_of_2))
def f_law_rows_of : List D → R D := runD 5 b_law_rows_of
def q_law_moves_1 : En → R (List D) :=
  (xlc [14, 15] (ienum (xvV 2)) (gtup (gcons (gn 14) (gcons (gn 15) gnil))) tyes (xif (xbl (bin eqD (xvV 14) (xvV 6))) (xc .none) (xvE 15)))
def q_law_moves_2 : En → R (List D) :=
  (xlc [11] (iseq (xcall 3 f_law_rows_of (lcons (xvE 0) (lcons (xvE 8) (lcons (xvE 4) lnil))))) (gn 11) (xbl (bin inD (xvV 7) (xvV 11))) (xvE 11))
def lb_law_moves_1 : En → Fl :=
  (sext 10 (xvE 11))
def l_law_moves_1 : En → Fl :=
  (sfor (iseq (xcall 3 f_law_rows_of (lcons (xvE 0) (lcons (xvE 8) (lcons (bin subD (xc (.int 1)) (xvE 4)) lnil))))) (gn 11) lb_law_moves_1)
def q_law_moves_3 : En → R (List D) :=
  (xlc [14] (irng1 (bin ixD (xvV 0) (xc (.int 0)))) (gn 14) (xbl (bin eqD (bin ixD (xvV 8) (xvV 14)) (bin subD (xc (.int 1)) (xvE 4)))) (xvE 14))
def q_law_moves_4 : En → R (List D) :=
  (xlc [14] (iseq (xvV 12)) (gn 14) (xbl (bin notInD (xvV 14) (xvV 10))) (xvE 14))
def q_law_moves_5 : En → R (List D) :=
  (xlc [16] (iseq (xvV 9)) (gn 16) tyes (xtup (lcons (xvE 6) (lcons (xvE 7) (lcons (xvE 16) lnil)))))
def lb_law_moves_2 : En → Fl :=
  (sseq (sasgN 8 q_law_moves_1)
  (sseq (sput 8 (xvE 7) (xvE 4))
  (sseq (sasg 9 (asL (xlst (lcons (un1 negD (xc (.int 1))) lnil))))
  (sseq (sfz 8 (sif (xtru (asL q_law_moves_2)) (sseq (sasgN 10 (xlst lnil))
  (sseq l_law_moves_1
  (sseq (sasg 12 (asL q_law_moves_3))
  (sseq (sasg 13 (asL q_law_moves_4))
  (sif (xtru (xvV 13)) (sasg 9 (xvE 13)) (sif (xtru (xvV 12)) (sasg 9 (xvE 12)) snil)))))) snil))
  (sext 5 (asL q_law_moves_5))))))
def l_law_moves_2 : En → Fl :=
  (sfor (iseq (xcall 2 f_law_steps (lcons (xvE 0) (lcons (xvE 1) lnil)))) (gtup (gcons (gn 6) (gcons (gn 7) gnil))) lb_law_moves_2)
def b_law_moves : En → Fl :=
  (sseq (sasgT (gtup (gcons (gn 2) (gcons (gn 3) (gcons (gn 4) gnil)))) (xvE 1))
  (sseq (sif (xbl (bin isNotD (xcall 2 f_law_winner (lcons (xvE 0) (lcons (xvE 1) lnil))) (xc .none))) (sret (xtup lnil)) snil)
  (sseq (sasgN 5 (xlst lnil))
  (sseq l_law_moves_2
  (sret (un1 tupleD (asL (un1N sortN (xvV 5)))))))))
def f_law_moves : List D → R D := runD 17 b_law_moves
def q_law_same_1 (F_law_same : List D → R D) : En → R (List D) :=
  (xlc [2, 3] (izip (xvV 0) (xvV 1)) (gtup (gcons (gn 2) (gcons (gn 3) gnil))) tyes (xcall 2 F_law_same (lcons (xvE 2) (lcons (xvE 3) lnil))))
def b_law_same (F_law_same : List D → R D) : En → Fl :=
  (sseq (sif (xtru (un1 (isiD "tuple") (xvV 1))) (sseq (sif (tor (tnot (xtru (un1 (isiD "tuple") (xvV 0)))) (xbl (bin neD (un1 lenD (xvV 0)) (un1 lenD (xvV 1))))) (sret (xc (.bool false))) snil)
  (sret (un1 allD (asL (q_law_same_1 F_law_same))))) snil)
  (sseq (sif (xbl (bin isD (xvV 1) (xc .none))) (sret (bin isD (xvV 0) (xc .none))) snil)
  (sseq (sif (tor (xtru (un1 (isiD "bool") (xvV 1))) (xtru (un1 (isiD "bool") (xvV 0)))) (sret (xandV (un1 (isiD "bool") (xvV 1)) (xandV (un1 (isiD "bool") (xvV 0)) (bin eqD (xvV 0) (xvV 1))))) snil)
  (sret (xandV (un1 (isi2D "int" "str") (xvV 0)) (bin eqD (xvV 0) (xvV 1)))))))
def f_law_same : Nat → List D → R D
  | 0 => fun _ => .bad
  | n + 1 => runD 4 (b_law_same (f_law_same n))
end Pf
namespace Pf
open PySem L2 Pu
def bdone : En → Fl :=
  (sseq (sasgT (gtup (gcons (gn 2) (gcons (gn 3) (gcons (gn 4) gnil)))) (xvE 0))
  (sseq (sasgT (gtup (gcons (gn 5) (gcons (gn 6) (gcons (gn 7) gnil)))) (xvE 1))
  (sseq (sasgN 8 (un1N listN (xcall 4 fwith_step (lcons (xvE 2) (lcons (xvE 5) (lcons (xvE 6) (lcons (xvE 4) lnil)))))))
  (sseq (sif (xbl (bin geD (xvV 7) (xc (.int 0)))) (sput 8 (xvE 7) (xc .none)) snil)
  (sseq (sif (xbl (bin ltD (xvV 5) (xc (.int 0)))) (sseq (sasgN 9 (xlst (lcons (bin ixD (xvV 3) (xc (.int 0))) (lcons (bin ixD (xvV 3) (xc (.int 1))) lnil))))
  (sseq (sput 9 (xvE 4) (bin subD (bin ixD (xvV 9) (xvV 4)) (xc (.int 1))))
  (sasg 3 (un1 tupleD (xvV 9))))) snil)
  (sret (xtup (lcons (un1 tupleD (xvV 8)) (lcons (xvE 3) (lcons (bin subD (xc (.int 1)) (xvE 4)) lnil))))))))))
def fdone : List D → R D := runD 10 bdone
def q_law_after_1 : En → R (List D) :=
  (xlc [9, 10] (ienum (xvV 2)) (gtup (gcons (gn 9) (gcons (gn 10) gnil))) tyes (xif (xbl (bin inD (xvV 9) (xtup (lcons (xvE 5) (lcons (xvE 7) lnil))))) (xc .none) (xvE 10)))
def b_law_after : En → Fl :=
  (sseq (sasgT (gtup (gcons (gn 2) (gcons (gn 3) (gcons (gn 4) gnil)))) (xvE 0))
  (sseq (sasgT (gtup (gcons (gn 5) (gcons (gn 6) (gcons (gn 7) gnil)))) (xvE 1))
  (sseq (sasgN 8 q_law_after_1)
  (sseq (sput 8 (xvE 6) (xvE 4))
  (sseq (sif (xbl (bin ltD (xvV 5) (xc (.int 0)))) (sasg 3 (xtup (lcons (bin subD (bin ixD (xvV 3) (xc (.int 0))) (un1 intD (bin eqD (xvV 4) (xc (.int 0))))) (lcons (bin subD (bin ixD (xvV 3) (xc (.int 1))) (un1 intD (bin eqD (xvV 4) (xc (.int 1))))) lnil)))) snil)
  (sret (xtup (lcons (un1 tupleD (xvV 8)) (lcons (xvE 3) (lcons (bin subD (xc (.int 1)) (xvE 4)) lnil))))))))))
def f_law_after : List D → R D := runD 11 b_law_after
end Pf
/-! PuS: sorted(set(..)) of a list of tuples of ints, few of them unlike -/
namespace Pu
open PySem PySem.Spec PyProof.Rows
section
variable {P : Program} {w : World} {A : Around} {E : Value → Shared → Prop} {s : Shared}
/-- a set is filled from an iterator, by what stands after i of its items -/
theorem set_fill {R : Result → Shared → Prop} {j S : Addr} {fp wr : List Addr} {G : Array GenState → Array GenState → Prop} {n : Nat} {Pv : Nat → Value → Prop} {St : Nat → Shared → Prop} (W : WalksS P w A.in1 j fp wr G n Pv St) (own : S ∉ fp) (J : Nat → Heap → Prop)
    (calm : ∀ (i : Nat) (h h' : Heap), J i h → (∀ b o, b ∉ wr → h.get? b = some o → h'.get? b = some o) → J i h')
    (put : ∀ (i : Nat) (v : Value) (s : Shared) (Q : Bool → Shared → Prop) (E : Value → Shared → Prop), Pv i v → J i s.heap → (∀ b h' tk, Heap.SameBut S s.heap h' → s.toks ≤ tk → J (i + 1) h' → Q b { s with heap := h', toks := tk }) → wpAny (model P w) A.in1 (setAdd S v) Q E s) :
    ∀ (m : Nat) (s : Shared), m ≤ n → St (n - m) s → J (n - m) s.heap → (∀ s', Moved (S :: wr) G s s' → J n s'.heap → R (.ok (.ret .none)) s') → codeAny (model P w) A (.builtin "set.update.loop" ⟨[.ref S, .ref j], []⟩) R s
  | 0, s, _, st, inv, fin => by
    apply codeAny_builtin F.entry_set_update_loop
    rw [Around.under_plainId F.plain_set_update_loop]
    refine wpAny_bind (W.done s _ _ st fun s' mv => wpAny_pure ?_)
    exact fin s' ⟨fun b o nb => mv.heap b o fun y => nb (List.mem_cons_of_mem _ y), mv.gens, mv.drawn, mv.os, mv.toks⟩ (calm _ _ _ inv mv.heap)
  | m + 1, s, le, st, inv, fin => by
    have up : n - (m + 1) + 1 = n - m := by omega
    have wide : ∀ {s1 s2 : Shared}, Moved wr G s1 s2 → Moved (S :: wr) G s1 s2 := fun mv => ⟨fun b o nb => mv.heap b o fun y => nb (List.mem_cons_of_mem _ y), mv.gens, mv.drawn, mv.os, mv.toks⟩
    apply codeAny_builtin F.entry_set_update_loop
    rw [Around.under_plainId F.plain_set_update_loop]
    refine wpAny_bind (W.item (n - (m + 1)) s _ _ (by omega) st fun v s1 pv st1 mv => ?_)
    refine wpAny_bind (wpAny_holding (put _ v s1 _ _ pv (calm _ _ _ inv mv.heap) fun b h' tk same le' inv' => ?_))
    rw [up] at st1 inv'
    have kept : ∀ c ∈ fp, ∀ o, s1.heap.get? c = some o → h'.get? c = some o := fun c hc o g => (same.2 c fun e => own (e ▸ hc)).trans g
    refine wpAny_pure ⟨plainId_quiet F.plain_set_update_loop _, set_fill W own J calm put m _ (by omega) (W.frame _ s1 h' tk st1 le' kept) inv' fun s2 mv2 => fin s2 (Moved.trans W.gtrans (Moved.then_heap (wide mv) le' fun c o nc g => ?_) mv2)⟩
    exact (same.2 c fun e => nc (e ▸ List.mem_cons_self)).trans g
/-- what a set has of the tuples ks after i of them -/
def HasT (P : Program) (w : World) (h0 : Heap) (S : Addr) (ks : List (Addr × List Int)) (i : Nat) (h : Heap) : Prop :=
  (∀ b o, h0.get? b = some o → h.get? b = some o) ∧ ∃ L es ep t, L2.SetTR P w h S L es ep t ∧ (∀ p ∈ L, p ∈ ks) ∧ ∀ p ∈ ks.take i, p.2 ∈ L.map (·.2)
/-- not more than m unlike -/
def FewT (ks : List (Addr × List Int)) (m : Nat) : Prop := ∀ M : List (List Int), M.Nodup → (∀ k ∈ M, k ∈ ks.map (·.2)) → M.length ≤ m
theorem put_tup {h0 : Heap} {S x : Addr} {k : List Int} {ks : List (Addr × List Int)} {i : Nat} {Q : Bool → Shared → Prop} (few : FewT ks 62) (tups : ∀ p ∈ ks, L2.IsT P w h0 p.2 p.1) (off : h0.get? S = none) (hx : ks[i]? = some (x, k)) (hu : A.units < cLine) (J : HasT P w h0 S ks i s.heap)
    (q : ∀ b h' tk, Heap.SameBut S s.heap h' → s.toks ≤ tk → HasT P w h0 S ks (i + 1) h' → Q b { s with heap := h', toks := tk }) : wpAny (model P w) A (setAdd S (.ref x)) Q E s := by
  obtain ⟨kp, L, es, ep, t, R, sub, all⟩ := J
  have mem : (x, k) ∈ ks := List.mem_of_getElem? hx
  have len : L.length ≤ 62 := by
    have := few (L.map (·.2)) R.nd fun y hy => by
      obtain ⟨p, hp, rfl⟩ := List.mem_map.mp hy
      exact List.mem_map.mpr ⟨p, sub p hp, rfl⟩
    simpa using this
  have isx : L2.IsT P w s.heap k x := L2.isT_keep (tups _ mem) kp
  unfold setAdd
  apply wpAny_holding
  apply wpAny_bind
  apply wpAny_pyHash_tuple hu isx
  refine L2.add_at (s := { s with toks := s.toks + (k.length + 1) }) R isx hu (by omega) fun b h' L' es' ep' t' same R' old new => q b h' _ same (Nat.le_add_right _ _) ⟨fun c o g => ?_, L', es', ep', t', R', ?_⟩
  · exact (same.2 c fun e => nomatch (e ▸ off).symm.trans g).trans (kp c o g)
  · have tk : ks.take (i + 1) = ks.take i ++ [(x, k)] := by rw [List.take_succ, hx]; rfl
    rcases Classical.em (k ∈ L.map (·.2)) with y | y
    · have e := old y
      subst e
      refine ⟨sub, fun p hp => ?_⟩
      rw [tk, List.mem_append, List.mem_singleton] at hp
      exact hp.elim (all p) fun e => e ▸ y
    · have pm := new y
      refine ⟨fun p hp => ?_, fun p hp => ?_⟩
      · exact (List.mem_cons.mp (pm.subset hp)).elim (fun e => e ▸ mem) (sub p)
      · rw [tk, List.mem_append, List.mem_singleton] at hp
        refine (pm.map (·.2)).symm.subset ?_
        rw [List.map_cons]
        exact hp.elim (fun z => List.mem_cons_of_mem _ (all p z)) fun e => e ▸ List.mem_cons_self
/-- set(l), l a list of tuples of ints -/
theorem set_tups {l : Addr} {ks : List (Addr × List Int)} {Q : Value → Shared → Prop} (hh : A.handled = none) (hl : s.heap.IsList l (ks.map fun p => Value.ref p.1).toArray) (tups : ∀ p ∈ ks, L2.IsT P w s.heap p.2 p.1) (few : FewT ks 62) (hu : A.units + 8 < cLine)
    (h : ∀ (h' : Heap) (tk : Nat) (L : List (Addr × List Int)), L2.SetT0 P w h' s.heap.objs.size L → (∀ p ∈ L, p ∈ ks) → (∀ p ∈ ks, p.2 ∈ L.map (·.2)) → (∀ b o, s.heap.get? b = some o → h'.get? b = some o) → Q (.ref s.heap.objs.size) { s with heap := h', toks := tk }) :
    wpAny (model P w) A (call (.type "set") [.ref l]) Q E s := by
  have ll : l < s.heap.objs.size := let ⟨_, g, _⟩ := hl; Heap.lt_size g
  have off : ∀ b, s.heap.objs.size ≤ b → s.heap.get? b = none := fun b hb => by
    cases g : s.heap.get? b with
    | none => rfl
    | some o => exact absurd (Heap.lt_size g) (Nat.not_lt.mpr hb)
  have sz : (s.heap.push (set0 w)).objs.size = s.heap.objs.size + 1 := Heap.size_push ..
  have at0 : (setOn w s.heap l).get? s.heap.objs.size = some (set0 w) := Heap.get?_push_of_some _ (Heap.get?_push_size _ rfl)
  have at1 : (setOn w s.heap l).get? (s.heap.objs.size + 1) = some (lit0 l) := sz ▸ Heap.get?_push_size _ rfl
  have kp : ∀ b o, s.heap.get? b = some o → (setOn w s.heap l).get? b = some o := fun b o g => Heap.get?_push_of_some _ (Heap.get?_push_of_some _ g)
  have own : s.heap.objs.size ∉ [s.heap.objs.size + 1, l] := fun m => (List.mem_cons.mp m).elim (fun e => Nat.succ_ne_self _ e.symm) fun m => Nat.ne_of_gt ll (List.mem_singleton.mp m)
  refine setOf_list hl fun A' hA uA => ?_
  have W := (Walks.list (prog := P) (w := w) (A := A'.in1) (by simp [hA, hh]) (s.heap.objs.size + 1) l (Nat.ne_of_lt (Nat.lt_succ_of_lt ll)) (ks.map fun p => Value.ref p.1).toArray).toS
  have len : (ks.map fun p => Value.ref p.1).toArray.size = ks.length := by simp
  have u1 : A'.in1.units < cLine := by show A'.units + 1 < cLine; omega
  refine set_fill W own (HasT P w s.heap s.heap.objs.size ks) (fun i h h' ⟨k0, L, es, ep, t, R, sub, all⟩ k1 => ?_) (fun i v s1 Q1 E1 pv J q => ?_) ks.length _ (Nat.le_of_eq len.symm) ?_ ?_ fun s2 mv J => ⟨rfl, ?_⟩
  · have k2 : ∀ b o, s.heap.get? b = some o → h'.get? b = some o := fun b o g => k1 b o (fun m => Nat.ne_of_lt (Nat.lt_succ_of_lt (Heap.lt_size g)) (List.mem_singleton.mp m)) (k0 b o g)
    exact ⟨k2, L, es, ep, t, R.keep (fun o g => k1 _ o (fun m => Nat.succ_ne_self _ (List.mem_singleton.mp m).symm) g) fun p hp => L2.isT_keep (tups p (sub p hp)) k2, sub, all⟩
  · have gi : (ks.map fun p => Value.ref p.1)[i]? = some v := by simpa using pv
    rw [List.getElem?_map] at gi
    cases g : ks[i]? with
    | none => rw [g] at gi; cases gi
    | some p =>
      rw [g] at gi
      cases gi
      exact put_tup few tups (off _ (Nat.le_refl _)) g u1 J q
  · rw [len, Nat.sub_self]
    exact ⟨⟨_, at1, rfl, rfl⟩, hl.at fun o g => kp l o g⟩
  · rw [len, Nat.sub_self]
    exact ⟨kp, [], #[], 0, _, L2.setTR_fresh at0, fun p hp => (nomatch hp), fun p hp => (nomatch (show p ∈ ([] : List (Addr × List Int)) by simpa using hp))⟩
  · obtain ⟨k0, L, es, ep, t, R, sub, all⟩ := J
    rw [len, List.take_length] at all
    have es2 : s2 = { s with heap := s2.heap, toks := s2.toks } := by
      cases s2
      have e1 := mv.gens
      have e2 := mv.drawn
      have e3 := mv.os
      cases e1
      cases e2
      cases e3
      rfl
    rw [es2]
    exact h s2.heap s2.toks L R.t0 sub all k0
end
end Pu
namespace Pu
open PySem L2
/-! ### the tuples as data -/
def keysT : List D → Option (List (List Int))
  | [] => some []
  | .tuple es :: r => (intsOf es).bind fun k => (keysT r).map (k :: ·)
  | _ => none
def tupI (k : List Int) : D := .tuple (k.map PyData.int)
theorem keysT_eq : ∀ {ds : List D} {ks : List (List Int)}, keysT ds = some ks → ds = ks.map tupI
  | [], ks, h => by cases h; rfl
  | d :: r, ks, h => by
    cases d with
    | tuple es =>
      unfold keysT at h
      cases h1 : intsOf es with
      | none => rw [h1] at h; cases h
      | some k =>
        rw [h1] at h
        cases h2 : keysT r with
        | none => rw [h2] at h; cases h
        | some ls =>
          rw [h2] at h
          cases h
          rw [List.map_cons, keysT_eq h2, intsOf_eq h1]
          rfl
    | _ => cases h
def keyOk (d : Nat) (k : List Int) : Bool := decide (k.length = d) && k.all fun m => decide (0 ≤ m) && decide (m < 64)
theorem keyOk_of {d : Nat} {k : List Int} (h : keyOk d k = true) : k.length = d ∧ TS.Bd 64 k := by
  unfold keyOk at h
  rw [Bool.and_eq_true, List.all_eq_true] at h
  refine ⟨of_decide_eq_true h.1, fun m hm => ?_⟩
  have := h.2 m hm
  rw [Bool.and_eq_true] at this
  exact ⟨of_decide_eq_true this.1, of_decide_eq_true this.2⟩
theorem code_inj : ∀ {k l : List Int}, k.length = l.length → TS.Bd 64 k → TS.Bd 64 l → TS.code 64 k = TS.code 64 l → k = l
  | [], [], _, _, _, _ => rfl
  | [], y :: l, h, _, _, _ => by cases h
  | x :: k, [], h, _, _, _ => by cases h
  | x :: k, y :: l, h, b1, b2, e => by
    have hl : k.length = l.length := Nat.succ.inj h
    rcases Int.lt_trichotomy x y with c | c | c
    · have := TS.code_lt hl b1.tail b2.tail c
      omega
    · subst c
      have n1 : ¬ TS.code 64 k < TS.code 64 l := fun z => by have := (TS.code_same (B := 64) (d := x) hl).mpr z; omega
      have n2 : ¬ TS.code 64 l < TS.code 64 k := fun z => by have := (TS.code_same (B := 64) (d := x) hl.symm).mpr z; omega
      rw [code_inj hl b1.tail b2.tail (by omega)]
    · have := TS.code_lt hl.symm b2.tail b1.tail c
      omega
def dedupT : List (List Int) → List (List Int)
  | [] => []
  | x :: r => if x ∈ r then dedupT r else x :: dedupT r
theorem dedupT_mem : ∀ (ks : List (List Int)) (k : List Int), k ∈ dedupT ks ↔ k ∈ ks
  | [], k => Iff.rfl
  | x :: r, k => by
    unfold dedupT
    split
    · rename_i h
      rw [dedupT_mem r k, List.mem_cons]
      exact ⟨.inr, fun z => z.elim (fun e => e ▸ h) id⟩
    · rw [List.mem_cons, List.mem_cons, dedupT_mem r k]
theorem dedupT_nodup : ∀ ks : List (List Int), (dedupT ks).Nodup
  | [] => List.nodup_nil
  | x :: r => by
    unfold dedupT
    split
    · exact dedupT_nodup r
    · rename_i h
      exact List.nodup_cons.mpr ⟨fun z => h ((dedupT_mem r x).mp z), dedupT_nodup r⟩
theorem nodup_len {α : Type} [DecidableEq α] : ∀ (M N : List α), M.Nodup → (∀ x ∈ M, x ∈ N) → M.length ≤ N.length
  | [], N, _, _ => Nat.zero_le _
  | x :: M, N, nd, sub => by
    rw [List.nodup_cons] at nd
    have hx : x ∈ N := sub x List.mem_cons_self
    have := nodup_len M (N.erase x) nd.2 fun y hy => by
      have hne : y ≠ x := fun e => nd.1 (e ▸ hy)
      exact (List.mem_erase_of_ne hne).mpr (sub y (List.mem_cons_of_mem _ hy))
    rw [List.length_erase_of_mem hx] at this
    have := List.length_pos_of_mem hx
    rw [List.length_cons]
    omega
def tsort (ks : List (List Int)) : List (List Int) := (dedupT ks).mergeSort fun a b => decide (TS.code 64 a ≤ TS.code 64 b)
theorem tsort_mem (ks : List (List Int)) (k : List Int) : k ∈ tsort ks ↔ k ∈ ks := by
  unfold tsort
  rw [List.mem_mergeSort, dedupT_mem]
theorem tsort_nodup (ks : List (List Int)) : (tsort ks).Nodup := (List.mergeSort_perm _ _).nodup_iff.mpr (dedupT_nodup ks)
theorem tsort_len (ks : List (List Int)) : (tsort ks).length = (dedupT ks).length := List.length_mergeSort _
theorem tsort_le (ks : List (List Int)) : (tsort ks).Pairwise fun a b => TS.code 64 a ≤ TS.code 64 b :=
  (List.pairwise_mergeSort (le := fun a b => decide (TS.code 64 a ≤ TS.code 64 b)) (fun a b c => by simp only [decide_eq_true_eq]; omega) (fun a b => by simp only [Bool.or_eq_true, decide_eq_true_eq]; omega) _).imp fun h => of_decide_eq_true h
theorem map_inj_on {α β : Type} {f : α → β} : ∀ {a b : List α}, (∀ x ∈ a, ∀ y ∈ b, f x = f y → x = y) → a.map f = b.map f → a = b
  | [], [], _, _ => rfl
  | [], y :: b, _, e => by cases e
  | x :: a, [], _, e => by cases e
  | x :: a, y :: b, h, e => by
    rw [List.map_cons, List.map_cons, List.cons.injEq] at e
    rw [h x List.mem_cons_self y List.mem_cons_self e.1, map_inj_on (fun u hu v hv => h u (List.mem_cons_of_mem _ hu) v (List.mem_cons_of_mem _ hv)) e.2]
/-- lists of the same keys, each once, in the codes' order -/
theorem tsort_one {d : Nat} {a b : List (List Int)} (oa : ∀ k ∈ a, k.length = d ∧ TS.Bd 64 k) (na : a.Nodup) (nb : b.Nodup) (pa : a.Pairwise fun x y => TS.code 64 x ≤ TS.code 64 y) (pb : b.Pairwise fun x y => TS.code 64 x ≤ TS.code 64 y) (h : ∀ k, k ∈ a ↔ k ∈ b) : a = b := by
  have inj : ∀ x ∈ a, ∀ y ∈ a, TS.code 64 x = TS.code 64 y → x = y := fun x hx y hy e => code_inj ((oa x hx).1.trans (oa y hy).1.symm) (oa x hx).2 (oa y hy).2 e
  have strict : ∀ {l : List (List Int)}, (∀ x ∈ l, x ∈ a) → l.Nodup → l.Pairwise (fun x y => TS.code 64 x ≤ TS.code 64 y) → (l.map (TS.code 64)).Pairwise (· < ·) := fun {l} sub nd pw => by
    rw [List.pairwise_map]
    refine List.Pairwise.imp_of_mem (fun {x y} hx hy hxy => ?_) (pw.and nd)
    have ne : TS.code 64 x ≠ TS.code 64 y := fun e => hxy.2 (inj x (sub x hx) y (sub y hy) e)
    have := hxy.1
    omega
  refine map_inj_on (f := TS.code 64) (fun x hx y hy => inj x hx y ((h y).mpr hy)) ?_
  refine lt_unique _ _ (strict (fun x hx => hx) na pa) (strict (fun x hx => (h x).mpr hx) nb pb) fun c => ?_
  rw [List.mem_map, List.mem_map]
  exact ⟨fun ⟨k, hk, e⟩ => ⟨k, (h k).mp hk, e⟩, fun ⟨k, hk, e⟩ => ⟨k, (h k).mpr hk, e⟩⟩
/-- sorted(set(..)) of tuples of d ints from 0 to 63 -/
def sortSetT (d : Nat) : D → Option (List D)
  | .list ds => (keysT ds).bind fun ks => if ks.all (keyOk d) && decide ((dedupT ks).length ≤ 62) then some ((tsort ks).map tupI) else none
  | _ => none
/-! ### the rule -/
/-- what set(l) asks of a list of tuples, and what it gives: a set of some of them, one of each key -/
def rSetOfD (K : PySem.W.Frag) (P : Program) (w : World) : List V → Hp → VK → Prop := fun vs H Q => ∃ ks : List (Addr × List Int), FewT ks 62 ∧ (∀ u ∈ ks, SqT K H u.1 (u.2.map V.int)) ∧
  (∀ (L : List (Addr × List Int)) (b : Addr), (∀ u ∈ L, u ∈ ks) ∧ (∀ u ∈ ks, u.2 ∈ L.map (·.2)) → H b = none → Q (.ref b) (upd H b (SetTO P w b L))) ∧ ∃ l : Addr, SqL K H l (ks.map fun u => V.ref u.1) ∧ vs = [.ref l]
theorem cr_setOfD {X : Cx} (hc : X.calm = true) (hu : X.A.units + 8 < cLine) : CallR X (.type "set") (rSetOfD X.K X.prog X.w) := fun pins s σ H _ _ Q I rs ⟨ks, few, hk, q, l, hl, ex⟩ => by
  subst ex
  obtain ⟨_, rfl, rfl⟩ := vals1 rs
  obtain ⟨us, ru, pl, _⟩ := I.list hl
  obtain rfl := refs_of_vals ru
  exact set_tups (I.ok.hd hc) pl.isList (fun p hp => I.isT (hk p hp)) few hu fun g tk L R sub all kp => ⟨.ref s.heap.objs.size, _, I.laid (t' := tk) kp (Nat.le_refl _) (setTO_new R), rfl, q L _ ⟨sub, all⟩ (I.hok.fresh (Nat.le_refl _))⟩
theorem RpAll.keys {K : Kw} {H : Hp} : ∀ {ks : List (List Int)} {ys : List V}, RpAll K H ys (ks.map tupI) → ∃ ps : List (Addr × List Int), ys = ps.map (fun p => V.ref p.1) ∧ ps.map (·.2) = ks ∧ ∀ p ∈ ps, SqF H p.1 (p.2.map V.int) ∧ Rp K H (.ref p.1) (tupI p.2)
  | [], _, .nil => ⟨[], rfl, rfl, fun p hp => (nomatch hp)⟩
  | k :: ks, _, .cons (v := v) h t => by
    obtain ⟨ps, e1, e2, e3⟩ := RpAll.keys t
    obtain ⟨a, xs, ev, ha, ra⟩ := (VRp.e (H := H) h).tuple (Same.refl _)
    subst ev
    rw [ra.ints] at ha
    refine ⟨(a, k) :: ps, by rw [List.map_cons, e1], by rw [List.map_cons, e2], fun p hp => ?_⟩
    rcases List.mem_cons.mp hp with e | hp
    · rw [e]; exact ⟨ha, h⟩
    · exact e3 p hp
theorem RpAll.ofKeys {K : Kw} {H : Hp} : ∀ {ps : List (Addr × List Int)}, (∀ p ∈ ps, Rp K H (.ref p.1) (tupI p.2)) → RpAll K H (ps.map fun p => V.ref p.1) ((ps.map (·.2)).map tupI)
  | [], _ => .nil
  | p :: ps, h => .cons (h p List.mem_cons_self) (RpAll.ofKeys fun q hq => h q (List.mem_cons_of_mem _ hq))
section
variable {X : Cx} {W : WE} {a : Expr} {F : En → R D} {pos p p2 q : Pos} {k d : Nat}
theorem xSSetT (hd : 1 ≤ d) (z : Cz X k W) (m : X.mg "sorted" = none) (m2 : X.mg "set" = none) (ha : PE X a (tV (X.kw ea) W F)) (hg : Gl X "sorted" := by rfl) (hg2 : Gl X "set" := by rfl) (he : starEach [a] X.env = [(false, eval a X.env)] := by rfl)
    (he2 : starEach [Expr.Call (.Name "set" p2) [a] [] q] X.env = [(false, eval (Expr.Call (.Name "set" p2) [a] [] q) X.env)] := by rfl) : PE X (.Call (.Name "sorted" p) [.Call (.Name "set" p2) [a] [] q] [] pos) (tN (X.kw ea) W (un1N (sortSetT d) F)) :=
  PE_weak (pe_callB (cr_sortedT z.calm) hg m bt_sorted (pa_cons (pe_callTy (cr_setOfD z.calm (by have := z.rm.un; omega)) hg2 m2 bt_set (pa_cons ha pa_nil he) (by decide) (by decide) he) pa_nil he2) (by decide) (by decide) he2) fun σ H Q ⟨H0, Hf0, Hf, e, S, pp⟩ => ⟨H0, Hf0, Hf, e, S, pp.bind.mono fun x H1 ⟨Hf1, dd, g, r, p1⟩ => by
    obtain ⟨zz, ez, qq⟩ := p1.of_opt
    cases dd with
    | list ds =>
      obtain ⟨l, ys, rfl, hl, ra⟩ := r.list g.fh
      have ez' : ((keysT ds).bind fun ks => if ks.all (keyOk d) && decide ((dedupT ks).length ≤ 62) then some ((tsort ks).map tupI) else none) = some zz := ez
      cases h1 : keysT ds with
      | none => rw [h1] at ez'; cases ez'
      | some ks =>
        rw [h1] at ez'
        have ez2 : (if ks.all (keyOk d) && decide ((dedupT ks).length ≤ 62) then some ((tsort ks).map tupI) else none) = some zz := ez'
        by_cases hn : (ks.all (keyOk d) && decide ((dedupT ks).length ≤ 62)) = true
        · rw [if_pos hn] at ez2
          cases ez2
          rw [Bool.and_eq_true, List.all_eq_true] at hn
          have okk : ∀ y ∈ ks, y.length = d ∧ TS.Bd 64 y := fun y hy => keyOk_of (hn.1 y hy)
          rw [keysT_eq h1] at ra
          obtain ⟨ps, e1, e2, e3⟩ := ra.keys
          subst e1
          have few : FewT ps 62 := fun M nd sub => Nat.le_trans (nodup_len M (dedupT ks) nd fun y hy => (dedupT_mem ks y).mpr (e2 ▸ sub y hy)) (of_decide_eq_true hn.2)
          refine ⟨ps, few, fun u hu => ((e3 u hu).1.mono g.fh).sq, fun L s ⟨sub, all⟩ hs => ⟨s, L, d, 64, rfl, upd_same, fun u hu => (((e3 u (sub u hu)).1.mono g.fh).mono (same_upd hs)).sq, hd, fun u hu => okk _ (e2 ▸ List.mem_map.mpr ⟨u, sub u hu, rfl⟩), fun L' t pm nd _ pw ht => ?_⟩, l, SqL.of hl, rfl⟩
          have mem : ∀ y, y ∈ L'.map (·.2) ↔ y ∈ ks := fun y => by
            rw [(pm.map (·.2)).mem_iff, ← e2]
            constructor
            · intro hy
              obtain ⟨u, hu, eu⟩ := List.mem_map.mp hy
              exact List.mem_map.mpr ⟨u, sub u hu, eu⟩
            · intro hy
              obtain ⟨u, hu, eu⟩ := List.mem_map.mp hy
              rw [← eu]
              exact all u hu
          have em : L'.map (·.2) = tsort ks := tsort_one (fun y hy => okk y ((mem y).mp hy)) nd (tsort_nodup ks) (by rw [List.pairwise_map]; exact pw) (tsort_le ks) fun y => by rw [mem, tsort_mem]
          have g2 := Grow.lay (o := SetTO X.prog X.w s L) g.fh hs
          have g3 := Grow.lay (o := HO.lst (L'.map fun u => V.ref u.1)) g2.fh ht
          refine qq t _ Hf1 _ (g2.trans g3) (g2.hh.free ht) (g.fh.free (g2.hh.free ht)) upd_same ?_
          rw [← em]
          exact RpAll.ofKeys fun u hu => (e3 u (sub u (pm.subset hu))).2
        · rw [if_neg hn] at ez2; cases ez2
    | _ => cases ez⟩
end
end Pu
/-! PuT: methods of texts; dicts of the module that are read alone -/
namespace Pu
open PySem L2
def strsOf : List D → Option (List Str)
  | [] => some []
  | .str x :: r => (strsOf r).map (x :: ·)
  | _ => none
theorem strsOf_eq : ∀ {ds : List D} {ys : List Str}, strsOf ds = some ys → ds = ys.map PyData.str
  | [], ys, h => by cases h; rfl
  | d :: r, ys, h => by
    cases d with
    | str x =>
      unfold strsOf at h
      cases q : strsOf r with
      | none => rw [q] at h; cases h
      | some zs => rw [q] at h; cases h; rw [List.map_cons, ← strsOf_eq q]
    | _ => cases h
theorem strsOf_map : ∀ ys : List Str, strsOf (ys.map PyData.str) = some ys
  | [] => rfl
  | y :: ys => by
    rw [List.map_cons]
    unfold strsOf
    rw [strsOf_map ys]
    rfl
theorem RpAll.texts {K : Kw} {H : Hp} : ∀ {ys : List Str} {vs : List V}, RpAll K H vs (ys.map PyData.str) → vs = ys.map V.str
  | [], _, .nil => rfl
  | y :: ys, _, .cons (.str _) t => by rw [RpAll.texts t]; rfl
theorem RpAll.ofTexts {K : Kw} {H : Hp} : ∀ ys : List Str, RpAll K H (ys.map V.str) (ys.map PyData.str)
  | [] => .nil
  | y :: ys => .cons (.str y) (RpAll.ofTexts ys)
def joinD : D → D → Option D
  | .str a, .list ds => (strsOf ds).bind fun ys => if (ys.map (·.length)).sum + ys.length * a.length ≤ 16777216 then some (.str (Txt.join a ys)) else none
  | _, _ => none
def splitN : D → D → Option (List D)
  | .str a, .str b => if b.length ≠ 0 ∧ a.length ≤ many then some ((Txt.split a b).map PyData.str) else none
  | _, _ => none
def partD : D → D → Option D
  | .str a, .str b => if b.length ≠ 0 ∧ a.length ≤ many then some (.tuple [.str (Txt.partition a b).1, .str (Txt.partition a b).2.1, .str (Txt.partition a b).2.2]) else none
  | _, _ => none
def tcountD : D → D → Option D
  | .str a, .str b => some (.int (Txt.count a b))
  | _, _ => none
section
variable {X : Cx}
theorem m_join : Mt1 X "join" joinD "str" "str.join" where
  pa := F.plainAttrs_str
  slot := F.slot_str_join
  ty := F.type_str_join
  run := fun ea pins s σ Hf H x y v u dx dy z Q I rx ry f hx hy ht hz q => by
    cases dx with
    | str a =>
      obtain rfl : x = .str a := hx.str
      cases dy with
      | list ds =>
        have hz' : ((strsOf ds).bind fun ys => if (ys.map (·.length)).sum + ys.length * a.length ≤ 16777216 then some (PyData.str (Txt.join a ys)) else none) = some z := hz
        cases h1 : strsOf ds with
        | none => rw [h1] at hz'; cases hz'
        | some ys =>
          rw [h1] at hz'
          have hz2 : (if (ys.map (·.length)).sum + ys.length * a.length ≤ 16777216 then some (PyData.str (Txt.join a ys)) else none) = some z := hz'
          by_cases hn : (ys.map (·.length)).sum + ys.length * a.length ≤ 16777216
          · rw [if_pos hn] at hz2
            cases hz2
            obtain ⟨p, xs, rfl, hp, rp⟩ := hy.list f
            rw [strsOf_eq h1] at rp
            rw [rp.texts] at hp
            exact mt_join pins s σ H _ [.ref p] v [u] Q I rx (.cons ry .nil) ⟨a, p, ys, rfl, rfl, .inl (SqL.of hp), hn, q _ Hf H (Grow.refl f) (.str _)⟩
          · rw [if_neg hn] at hz2; cases hz2
      | _ => cases hz
    | _ => cases hz
theorem m_count : Mt1 X "count" tcountD "str" "str.count" where
  pa := F.plainAttrs_str
  slot := F.slot_str_count
  ty := F.type_str_count
  run := fun ea pins s σ Hf H x y v u dx dy z Q I rx ry f hx hy ht hz q => by
    cases dx with
    | str a =>
      obtain rfl : x = .str a := hx.str
      cases dy with
      | str b =>
        cases hz
        obtain rfl : y = .str b := hy.str
        exact mt_count pins s σ H _ [.str b] v [u] Q I rx (.cons ry .nil) ⟨a, b, rfl, rfl, q _ Hf H (Grow.refl f) (.int _)⟩
      | _ => cases hz
    | _ => cases hz
/-- a.partition(b), the parts in a new tuple -/
theorem mt_partF : MtR X "str.partition" (fun x xs H Q => ∃ a b, x = .str a ∧ xs = [.str b] ∧ (b.length == 0) = false ∧ a.length ≤ sizeLine ∧ TupN H Q [.str (Txt.partition a b).1, .str (Txt.partition a b).2.1, .str (Txt.partition a b).2.2]) :=
  fun pins s σ H _ _ v us Q I rx rs ⟨a, b, ex, es, hb, hz, q⟩ => by
    subst ex es
    obtain ⟨t, rfl⟩ := rx
    obtain ⟨_, rfl, u, rfl⟩ := vals1 rs
    have three : ∀ (x y z : Str) (t1 t2 t3 : Tok) (k : Nat), TupN H Q [.str x, .str y, .str z] → EP X pins σ Q (.ref s.heap.objs.size) { s with heap := s.heap.push { cls := .type "tuple", data := .seq [Value.str x t1, .str y t2, .str z t3].toArray }, toks := k } := fun x y z t1 t2 t3 k n =>
      tup_new (tk := k) (xs := [.str x, .str y, .str z]) I (.cons ⟨t1, rfl⟩ (.cons ⟨t2, rfl⟩ (.cons ⟨t3, rfl⟩ .nil))) (show 3 ≤ sizeLine by decide) n
    have isT := typeIs_str s a t
    refine call_meets F.slot_str_partition isT F.entry_str_partition (F.args_str_partition_2 _ _) (meets_str_partition a b t u hb hz) ?_
    unfold Txt.partition at q
    generalize Builtin.Str.occurrences a b 0 a.length 1 = oc at q ⊢
    cases oc with
    | nil => exact three _ _ _ _ _ _ _ q
    | cons i r => exact three _ _ _ _ _ _ _ q
theorem len_pos {b : Str} (h : b.length ≠ 0) : (b.length == 0) = false := beq_eq_false_iff_ne.mpr h
theorem m_part : Mt1 X "partition" partD "str" "str.partition" where
  pa := F.plainAttrs_str
  slot := F.slot_str_partition
  ty := F.type_str_partition
  run := fun ea pins s σ Hf H x y v u dx dy z Q I rx ry f hx hy ht hz q => by
    cases dx with
    | str a =>
      obtain rfl : x = .str a := hx.str
      cases dy with
      | str b =>
        obtain rfl : y = .str b := hy.str
        have hz' : (if b.length ≠ 0 ∧ a.length ≤ many then some (PyData.tuple [.str (Txt.partition a b).1, .str (Txt.partition a b).2.1, .str (Txt.partition a b).2.2]) else none) = some z := hz
        by_cases hn : b.length ≠ 0 ∧ a.length ≤ many
        · rw [if_pos hn] at hz'
          cases hz'
          exact mt_partF pins s σ H _ [.str b] v [u] Q I rx (.cons ry .nil) ⟨a, b, rfl, rfl, len_pos hn.1, many_line hn.2, TupN.of f (.cons (.str _) (.cons (.str _) (.cons (.str _) .nil))) q⟩
        · rw [if_neg hn] at hz'; cases hz'
      | _ => cases hz
    | _ => cases hz
end
section
variable {X : Cx} {W : WE} {a b c o : Expr} {F G : En → R D} {pos p apos cpos : Pos} {k : Nat}
theorem one_str {f : D → D → Option D} {name : Str} {id : String} (h : Mt1 X name f "str" id) : ∀ T ∈ ["str"], ∃ id, Mt1 X name f T id := fun T hT => ⟨id, List.mem_singleton.mp hT ▸ h⟩
theorem xJoin (ho : PE X o (tV (X.kw ea) W F)) (ha : PE X a (tV (X.kw ea) W G)) (hbase : attributeBase o "join" X.env (eval o X.env) = eval o X.env := by rfl)
    (hfew : ((backTo cpos (starEach [a] X.env)).all (fun x => !x.1) && (backToKw cpos (keywordEach [] X.env)).all (fun x => x.1.isSome) && decide ([a].length + ([] : List Keyword).length + (if ([] : List Keyword).isEmpty then 0 else 1) < 30)) = true := by rfl)
    (hline : (apos.endLine == cpos.line) = true := by rfl) (hs : starEach [a] X.env = [(false, eval a X.env)] := by rfl) : PE X (.Call (.Attribute o "join" apos) [a] [] cpos) (tE (X.kw ea) W (xmt ["str"] joinD F G)) := xMt (one_str m_join) ho ha hbase hfew hline hs
theorem xTCount (ho : PE X o (tV (X.kw ea) W F)) (ha : PE X a (tV (X.kw ea) W G)) (hbase : attributeBase o "count" X.env (eval o X.env) = eval o X.env := by rfl)
    (hfew : ((backTo cpos (starEach [a] X.env)).all (fun x => !x.1) && (backToKw cpos (keywordEach [] X.env)).all (fun x => x.1.isSome) && decide ([a].length + ([] : List Keyword).length + (if ([] : List Keyword).isEmpty then 0 else 1) < 30)) = true := by rfl)
    (hline : (apos.endLine == cpos.line) = true := by rfl) (hs : starEach [a] X.env = [(false, eval a X.env)] := by rfl) : PE X (.Call (.Attribute o "count" apos) [a] [] cpos) (tE (X.kw ea) W (xmt ["str"] tcountD F G)) := xMt (one_str m_count) ho ha hbase hfew hline hs
theorem xPart (ho : PE X o (tV (X.kw ea) W F)) (ha : PE X a (tV (X.kw ea) W G)) (hbase : attributeBase o "partition" X.env (eval o X.env) = eval o X.env := by rfl)
    (hfew : ((backTo cpos (starEach [a] X.env)).all (fun x => !x.1) && (backToKw cpos (keywordEach [] X.env)).all (fun x => x.1.isSome) && decide ([a].length + ([] : List Keyword).length + (if ([] : List Keyword).isEmpty then 0 else 1) < 30)) = true := by rfl)
    (hline : (apos.endLine == cpos.line) = true := by rfl) (hs : starEach [a] X.env = [(false, eval a X.env)] := by rfl) : PE X (.Call (.Attribute o "partition" apos) [a] [] cpos) (tE (X.kw ea) W (xmt ["str"] partD F G)) := xMt (one_str m_part) ho ha hbase hfew hline hs
/-- a.split(b) -/
def xsplit (F G : En → R D) : En → R (List D) := fun e => (F e).bind fun x => match x with
  | .str a => (G e).bind fun y => opt (splitN (.str a) y)
  | _ => .bad
theorem xSplit (ho : PE X o (tV (X.kw ea) W F)) (ha : PE X a (tV (X.kw ea) W G)) (hs : starEach [a] X.env = [(false, eval a X.env)] := by rfl) (hbase : attributeBase o "split" X.env (eval o X.env) = eval o X.env := by rfl) (hline : (apos.endLine == cpos.line) = true := by rfl) :
    PE X (.Call (.Attribute o "split" apos) [a] [] cpos) (tN (X.kw ea) W (xsplit F G)) :=
  PE_weak (pe_split ho ha hs hbase hline) fun σ H Q ⟨H0, Hf0, Hf, e, S, pp⟩ => ⟨H0, Hf0, Hf, e, S, pp.bind.mono fun x H1 ⟨Hf1, dx, g1, rx, p1⟩ => by
    cases dx with
    | str t =>
      obtain rfl : x = .str t := rx.str
      refine ⟨⟨t, rfl⟩, H0, Hf0, Hf1, e, S.grow g1, PoN.bind p1 |>.mono fun y H2 ⟨Hf2, dy, g2, ry, p2⟩ => ?_⟩
      obtain ⟨z, ez, q⟩ := p2.of_opt
      cases dy with
      | str b =>
        obtain rfl : y = .str b := ry.str
        have ez' : (if b.length ≠ 0 ∧ t.length ≤ many then some ((Txt.split t b).map PyData.str) else none) = some z := ez
        by_cases hn : b.length ≠ 0 ∧ t.length ≤ many
        · rw [if_pos hn] at ez'
          cases ez'
          have hl : t.length + 2 ≤ sizeLine := by have := hn.2; unfold many at this; rw [sizeLine_eq]; omega
          exact ⟨t, b, rfl, rfl, len_pos hn.1, hl, fun pt ht => q pt _ Hf2 _ (Grow.lay g2.fh ht) ht (g2.fh.free ht) upd_same (RpAll.ofTexts _)⟩
        · rw [if_neg hn] at ez'; cases ez'
      | _ => cases ez
    | _ => exact p1.elim⟩
end
end Pu
/-! PuU: a dict of the module, of None, ints and texts, that is read alone -/
namespace Pu
open PySem L2
def seekT (tab : List (D × D)) (k : Option Key) : Option D := (tab.find? fun p => decide (keyV p.1 = some k)).map (·.2)
def lookT (tab : List (D × D)) (x : D) : Option D := (keyV x).bind (seekT tab)
def hasT (tab : List (D × D)) (x : D) : Option D := (keyV x).map fun k => .bool (seekT tab k).isSome
/-! ### what lies there -/
def tabO (o : Obj) : Option (List (Option (Option Key) × Int × Option D)) := match o with
  | ⟨.type c, none, .dict es _, sl⟩ => if c = "dict" ∧ sl = #[] then some (es.toList.map entC) else none
  | _ => none
/-- the dict at d has these rows -/
structure KTab (K : PySem.W.Frag) (w : World) (d : Addr) (tab : List (D × D)) : Prop where
  low : (d == sysModules) = false
  all : tab.all (fun p => (keyV p.1).isSome) = true
  ex : ∃ o, K.lookup d = some o ∧ tabO o = some (tab.map (rowC w.params))
def GTab (K : PySem.W.Frag) (w : World) (mg : Str → Option Value) (x : Str) (tab : List (D × D)) : Prop := ∃ d, mg x = some (.ref d) ∧ KTab K w d tab
theorem keyC_is {v : Value} {k : Option Key} (h : keyC v = some k) : nkIs k v = true := by
  cases v with
  | none => cases h; rfl
  | int i t => cases h; exact keyIs_int i t
  | str x t => cases h; exact keyIs_str x t
  | _ => cases h
theorem is_keyC {v : Value} {k : Option Key} (h : nkIs k v = true) : keyC v = some k := by
  cases k with
  | none => rw [nk_none h]; rfl
  | some k =>
    rcases keyIs_shape h with ⟨i, t, rfl, rfl⟩ | ⟨x, t, rfl, rfl⟩ <;> rfl
theorem valC_rp {v : Value} {d : D} (h : valC v = some d) : ∃ x : V, RelV x v ∧ ∀ (K : Kw) (H : Hp), Rp K H x d := by
  cases v with
  | none => cases h; exact ⟨.non, rfl, fun _ _ => .non⟩
  | int i t => cases h; exact ⟨.int i, ⟨t, rfl⟩, fun _ _ => .int i⟩
  | str x t => cases h; exact ⟨.str x, ⟨t, rfl⟩, fun _ _ => .str x⟩
  | _ => cases h
theorem hashP_eq (w : World) (P : Program) (k : Option Key) : hashP w.params k = (noneKind P w).hash k := by
  cases k with
  | none => rfl
  | some k => cases k <;> rfl
theorem rows_keys {w : World} {P : Program} : ∀ {l : List DictEntry} {tab : List (D × D)}, l.map entC = tab.map (rowC w.params) → tab.all (fun p => (keyV p.1).isSome) = true → ∀ e ∈ l, ∃ k, (noneKind P w).is k e.key = true ∧ e.hash = (noneKind P w).hash k
  | [], _, _, _, e, he => by cases he
  | e0 :: l, [], h, _, _, _ => by cases h
  | e0 :: l, p :: tab, h, al, e, he => by
    rw [List.map_cons, List.map_cons, List.cons.injEq] at h
    rw [List.all_cons, Bool.and_eq_true] at al
    rcases List.mem_cons.mp he with q | q
    · subst q
      have h1 : keyC e.key = keyV p.1 := congrArg (·.1) h.1
      have h2 : e.hash = ((keyV p.1).map (hashP w.params)).getD 0 := congrArg (·.2.1) h.1
      obtain ⟨k, hk⟩ := Option.isSome_iff_exists.mp al.1
      rw [hk] at h1 h2
      exact ⟨k, keyC_is h1, h2.trans (hashP_eq w P k)⟩
    · exact rows_keys h.2 al.2 e q
theorem rows_find {w : World} : ∀ {l : List DictEntry} {tab : List (D × D)}, l.map entC = tab.map (rowC w.params) → ∀ k : Option Key,
    (l.find? fun e => nkIs k e.key) = none ∧ seekT tab k = none ∨ ∃ e d, (l.find? fun e => nkIs k e.key) = some e ∧ seekT tab k = some d ∧ valC e.val = some d
  | [], [], _, k => .inl ⟨rfl, rfl⟩
  | [], p :: tab, h, k => by cases h
  | e :: l, [], h, k => by cases h
  | e :: l, p :: tab, h, k => by
    rw [List.map_cons, List.map_cons, List.cons.injEq] at h
    have h1 : keyC e.key = keyV p.1 := congrArg (·.1) h.1
    have h3 : valC e.val = some p.2 := congrArg (·.2.2) h.1
    unfold seekT
    by_cases c : nkIs k e.key = true
    · have c2 : keyV p.1 = some k := h1.symm.trans (is_keyC c)
      refine .inr ⟨e, p.2, ?_, ?_, h3⟩
      · simp [List.find?_cons, c]
      · simp [List.find?_cons, c2]
    · have c2 : ¬ keyV p.1 = some k := fun z => c (keyC_is (h1.trans z))
      have f1 : ((e :: l).find? fun e => nkIs k e.key) = l.find? fun e => nkIs k e.key := by simp [List.find?_cons, c]
      have f2 : ((p :: tab).find? fun p => decide (keyV p.1 = some k)) = tab.find? fun p => decide (keyV p.1 = some k) := by simp [List.find?_cons, c2]
      rw [f1, f2]
      exact rows_find h.2 k
section
variable {X : Cx} {d : Addr} {tab : List (D × D)} {pins : List (Addr × Obj)} {s : Shared} {σ : L2.St} {H : Hp}
theorem KTab.map (T : KTab X.K X.w d tab) (I : L2.Inv X pins σ H s) : ∃ es : Array DictEntry, s.heap.MapOf (noneKind X.prog X.w) d (fun k => findBy nkIs es k) ∧ es.toList.map entC = tab.map (rowC X.w.params) := by
  obtain ⟨o, hl, ht⟩ := T.ex
  obtain ⟨oc, od, dt, sl⟩ := o
  unfold tabO at ht
  split at ht
  · rename_i c es n sl' e
    cases e
    split at ht
    · rename_i h
      obtain ⟨rfl, rfl⟩ := h
      have he : es.toList.map entC = tab.map (rowC X.w.params) := Option.some.inj ht
      exact ⟨es, ⟨_, es, n, I.kIn _ _ hl, ⟨rfl, rfl, rfl⟩, rfl, fun e he' => rows_keys he T.all e (Array.mem_toList_iff.mpr he'), fun _ => rfl⟩, he⟩
    · cases ht
  · cases ht
theorem find_list (es : Array DictEntry) (k : Option Key) : findBy nkIs es k = (es.toList.find? fun e => nkIs k e.key).map (·.val) := by
  unfold findBy
  rw [← Array.find?_toList]
/-- a key's value -/
theorem key_of {ea : Addr} {Hf : Hp} {x : V} {v : Value} {dx : D} {k : Option Key} (r : RelV x v) (h : VRp (X.kw ea) Hf H x dx) (hk : keyV dx = some k) : (noneKind X.prog X.w).is k v = true := by
  cases dx with
  | none => cases hk; cases h with | e h => cases h; exact (show nkIs none v = true by cases (show v = Value.none from r); rfl)
  | int i => cases hk; obtain rfl : x = .int i := h.int; obtain ⟨t, rfl⟩ := r; exact keyIs_int i t
  | str z => cases hk; obtain rfl : x = .str z := h.str; obtain ⟨t, rfl⟩ := r; exact keyIs_str z t
  | _ => cases hk
/-- d[k], of the module's dict -/
def rTab (K : Kw) (d : Addr) (tab : List (D × D)) : R2 := fun x y H Q => ∃ Hf dy z, x = .ref d ∧ Same Hf H ∧ VRp K Hf H y dy ∧ lookT tab dy = some z ∧ ∀ v, Rp K Hf v z → Q v H
theorem ix_tab {ea : Addr} (T : KTab X.K X.w d tab) : IxR X (rTab (X.kw ea) d tab) := fun value slice pins s σ H x y v u Q I rx ry ⟨Hf, dy, z, ex, f, hy, hz, q⟩ hs => by
  subst ex
  obtain rfl : v = .ref d := rx
  obtain ⟨es, mp, he⟩ := T.map I
  unfold lookT at hz
  cases hk : keyV dy with
  | none => rw [hk] at hz; cases hz
  | some k =>
    rw [hk] at hz
    have hz' : seekT tab k = some z := hz
    rcases rows_find he k with ⟨_, n⟩ | ⟨e, d', fe, sd, ve⟩
    · rw [n] at hz'; cases hz'
    · rw [sd] at hz'
      cases hz'
      obtain ⟨v0, rv, rp⟩ := valC_rp ve
      have fnd : findBy nkIs es k = some e.val := by rw [find_list, fe]; rfl
      exact PyProof.Rows.tail_any mp.typeIs slot_dict_getitem.lookup (wpAny_getItem_of (key_of ry hy hk) mp fnd ⟨v0, H, I.tok _, rv, q v0 (rp _ _)⟩) hs
def rHas (K : Kw) (d : Addr) (tab : List (D × D)) (g : Bool → Bool) : R2 := fun x y H Q => ∃ Hf dx k, y = .ref d ∧ VRp K Hf H x dx ∧ keyV dx = some k ∧ Q (.bl (g (seekT tab k).isSome)) H
theorem has_tab {es : Array DictEntry} (he : es.toList.map entC = tab.map (rowC X.w.params)) (k : Option Key) : (findBy nkIs es k).isSome = (seekT tab k).isSome := by
  rw [find_list]
  rcases rows_find he k with ⟨a, b⟩ | ⟨e, d', fe, sd, _⟩
  · rw [a, b]; rfl
  · rw [fe, sd]; rfl
theorem op_inTab {ea : Addr} (T : KTab X.K X.w d tab) : OpR X (compareOp .In) (rHas (X.kw ea) d tab id) := fun pins s σ H x y v u Q I rx ry ⟨Hf, dx, k, ey, hx, hk, q⟩ => by
  subst ey
  obtain rfl : u = .ref d := ry
  obtain ⟨es, mp, he⟩ := T.map I
  refine wpAny_in_of (key_of rx hx hk) T.low mp ⟨.bl _, H, I.tok _, rfl, ?_⟩
  rw [has_tab he]
  exact q
theorem op_notInTab {ea : Addr} (T : KTab X.K X.w d tab) : OpR X (compareOp .NotIn) (rHas (X.kw ea) d tab not) := fun pins s σ H x y v u Q I rx ry ⟨Hf, dx, k, ey, hx, hk, q⟩ => by
  subst ey
  obtain rfl : u = .ref d := ry
  obtain ⟨es, mp, he⟩ := T.map I
  refine wpAny_notIn_of (key_of rx hx hk) T.low mp ⟨.bl _, H, I.tok _, rfl, ?_⟩
  rw [has_tab he]
  exact q
end
section
variable {X : Cx} {W : WE} {a b : Expr} {F : En → R D} {pos px : Pos} {x : Str} {tab : List (D × D)}
/-- x[b], x a dict of the module -/
theorem xTab (T : GTab X.K X.w X.mg x tab) (hb : PE X b (tV (X.kw ea) W F)) (hs : PlainIx b) (hg : Gl X x := by rfl) (hd : (x == ("__debug__" : Str)) = false := by decide) : PE X (.Subscript (.Name x px) b pos) (tE (X.kw ea) W (un1 (lookT tab) F)) := by
  obtain ⟨d, hm, T⟩ := T
  exact PE_weak (pe_ix (ix_tab (ea := ea) T) (pe_glob (v := .ref d) hg hm rfl hd) hb hs) fun σ H Q ⟨H0, Hf0, Hf, e, S, p⟩ => ⟨H0, Hf0, Hf, e, S, p.bind.mono fun y H1 ⟨Hf1, dy, g1, ry, p1⟩ => by
    obtain ⟨z, ez, q⟩ := p1.of_opt
    exact ⟨Hf1, dy, z, rfl, g1.fh, ry, ez, fun v r => q v Hf1 H1 (Grow.refl g1.fh) r⟩⟩
/-- a in x, a not in x, x a dict of the module -/
def hasTN (tab : List (D × D)) (x : D) : Option D := (keyV x).map fun k => .bool (!(seekT tab k).isSome)
theorem xTabIn (T : GTab X.K X.w X.mg x tab) (ha : PE X a (tV (X.kw ea) W F)) (hm : behindInMarks .In (.Name x px) = false := by with_unfolding_all rfl) (hg : Gl X x := by rfl) (hd : (x == ("__debug__" : Str)) = false := by decide) : PE X (.Compare a [.In] [.Name x px] pos) (tE (X.kw ea) W (un1 (hasT tab) F)) := by
  obtain ⟨d, hx, T⟩ := T
  exact PE_weak (pe_cmpR (op_inTab (ea := ea) T) ha (pe_glob (v := .ref d) hg hx rfl hd) hm) fun σ H Q ⟨H0, Hf0, Hf, e, S, p⟩ => ⟨H0, Hf0, Hf, e, S, p.bind.mono fun y H1 ⟨Hf1, dy, g1, ry, p1⟩ => by
    obtain ⟨z, ez, q⟩ := p1.of_opt
    unfold hasT at ez
    cases hk : keyV dy with
    | none => rw [hk] at ez; cases ez
    | some k => rw [hk] at ez; cases ez; exact ⟨Hf1, dy, k, rfl, ry, hk, q _ Hf1 H1 (Grow.refl g1.fh) (.bl _)⟩⟩
end
/-! ### range(i, j, c) -/
def rng3 : D → D → D → Option (List D)
  | .int i, .int j, .int c => if (decide (0 < c) && decide (c < 1000)) && Builtin.Range.small i j c then some (rangeC i c (Builtin.Range.rangeSize i j c).toNat) else none
  | _, _, _ => none
def irng3 (F G J : En → R D) : En → R (List D) := fun e => (F e).bind fun d => (G e).bind fun d' => (J e).bind fun d2 => opt (rng3 d d' d2)
theorem size_pos {i j c : Int} (hc : 0 < c) : 0 ≤ Builtin.Range.rangeSize i j c := by
  unfold Builtin.Range.rangeSize
  rw [if_pos hc]
  split
  · have := Int.ediv_nonneg (a := j - i - 1) (b := c) (by omega) (by omega)
    omega
  · exact Int.le_refl _
section
variable {X : Cx} {W : WE} {a b c tg : Expr} {F G J : En → R D} {pos p : Pos}
theorem iRange3 {fz : Bool} (hg : Gl X "range") (hm : X.mg "range" = none) (ha : PE X a (tE (X.kw ea) W F)) (hb : PE X b (tE (X.kw ea) W G)) (hc : PE X c (tE (X.kw ea) W J)) (hs : starEach [a, b, c] X.env = (false, eval a X.env) :: starEach [b, c] X.env := by rfl)
    (hs2 : starEach [b, c] X.env = (false, eval b X.env) :: starEach [c] X.env := by rfl) (hs3 : starEach [c] X.env = [(false, eval c X.env)] := by rfl) (hpl : (backTo pos (starEach [b, c] X.env)).any (·.1) = false := by rfl) :
    PI X tg (.Call (.Name "range" p) [a, b, c] [] pos) (tI (X.kw ea) W fz (irng3 F G J)) :=
  PI_weak (pi_range3 hg hm (pa_cons ha (pa_cons hb (pa_cons hc pa_nil hs3) hs2) hs) hs hpl) fun σ H Q ⟨H0, Hf0, Hf, e, S, p⟩ => ⟨H0, Hf0, Hf, e, S, p.bind.mono fun x H1 ⟨Hf1, d, g, r, p1⟩ => ⟨H0, Hf0, Hf1, e, S.grow g, p1.bind.mono fun y H2 ⟨Hf2, d', g2, r2, p2⟩ => ⟨H0, Hf0, Hf2, e, (S.grow g).grow g2, p2.bind.mono fun z H3 ⟨Hf3, d3, g3, r3, p3⟩ => by
    obtain ⟨ds, ez, q⟩ := p3.of_opt
    cases r with
    | int i =>
      cases r2 with
      | int j =>
        cases r3 with
        | int k =>
          have ez' : (if (decide (0 < k) && decide (k < 1000)) && Builtin.Range.small i j k then some (rangeC i k (Builtin.Range.rangeSize i j k).toNat) else none) = some ds := ez
          split at ez'
          · rename_i hh
            cases ez'
            rw [Bool.and_eq_true, Bool.and_eq_true] at hh
            have k0 : 0 < k := of_decide_eq_true hh.1.1
            have k1 : k < 1000 := of_decide_eq_true hh.1.2
            exact ⟨i, j, k, _, rfl, ⟨by omega, by omega, hh.2, (Int.toNat_of_nonneg (size_pos k0)).symm⟩, q _ Hf3 H3 (Grow.refl g3.fh) (Wk.rangeC i k _)⟩
          · cases ez'
        | _ => cases ez
      | _ => cases ez
    | _ => cases ez⟩⟩⟩
end
/-! ### a op b op' c as a test -/
section
variable {X : Cx} {W : WE} {a b c : Expr} {F G Fc : En → R D} {pos : Pos} {f f' : D → D → Option D} {σ : L2.St} {H : Hp} {Q : VK}
theorem chn_tr {ea : Addr} : tE (X.kw ea) W (chn f f' F G Fc) σ H Q → tChain (rB (X.kw ea) (VRp (X.kw ea)) f) (rB (X.kw ea) (VRp (X.kw ea)) f') (tV (X.kw ea) W F) (tV (X.kw ea) W G) (tV (X.kw ea) W Fc) σ H Q :=
  fun ⟨H0, Hf0, Hf, e, S, p⟩ => ⟨H0, Hf0, Hf, e, S, p.bind.mono fun x H1 ⟨Hf1, dx, g1, rx, p1⟩ => ⟨H0, Hf0, Hf1, e, S.grow g1, p1.bind.mono fun y H2 ⟨Hf2, dy, g2, ry, p2⟩ => by
    cases hz : f dx dy with
    | none => rw [hz] at p2; exact p2.elim
    | some z =>
      rw [hz] at p2
      refine ⟨Hf2, dx, dy, z, g2.fh, rx.mono g2, ry, hz, fun v Hf3 H3 g3 r3 => ?_⟩
      have S3 := ((S.grow g1).grow g2).grow g3
      cases z with
      | bool k =>
        cases r3
        cases k with
        | true =>
          refine ⟨true, rfl, ?_⟩
          rw [if_pos rfl]
          have p3 : Po (ERp (X.kw ea)) W Q σ Hf2 H2 ((Fc e).bind fun w => opt (f' dy w)) := p2
          refine ⟨H0, Hf0, Hf3, e, S3, (p3.grow g3).bind.mono fun w H4 ⟨Hf4, dw, g4, rw4, p4⟩ => ?_⟩
          obtain ⟨z', ez, q⟩ := p4.of_opt
          exact ⟨Hf4, dy, dw, z', g4.fh, (ry.mono g3).mono g4, rw4, ez, q⟩
        | false =>
          refine ⟨false, rfl, ?_⟩
          rw [if_neg Bool.false_ne_true]
          have p3 : ∀ v Hf' H', Grow Hf2 H2 Hf' H' → Rp (X.kw ea) Hf' v (.bool false) → Q v H' := p2
          exact p3 _ Hf3 H3 g3 (.bl false)
      | none => exact p2.elim
      | int i => exact p2.elim
      | str i => exact p2.elim
      | list i => exact p2.elim
      | tuple i => exact p2.elim
      | dict i => exact p2.elim⟩⟩

theorem tChn {op op' : CmpOp} (ho : OpR X (compareOp op) (rB (X.kw ea) (VRp (X.kw ea)) f)) (ho' : OpR X (compareOp op') (rB (X.kw ea) (VRp (X.kw ea)) f')) (ha : PE X a (tV (X.kw ea) W F)) (hb : PE X b (tV (X.kw ea) W G)) (hc : PE X c (tV (X.kw ea) W Fc))
    (hm : lastMarks [op, op'] [b, c] = false := by with_unfolding_all rfl) : PT X (.Compare a [op, op'] [b, c] pos) (tT (X.kw ea) W (xbl (chn f f' F G Fc))) :=
  PT_weak (pt_chain ho ho' ha hb hc hm) fun σ H Q ⟨H0, Hf0, Hf, e, S, p⟩ => chn_tr ⟨H0, Hf0, Hf, e, S, p.bind.mono fun x H1 ⟨Hf1, dx, g1, rx, p1⟩ => by
    cases dx with
    | bool k => cases rx; exact ⟨k, rfl, p1 Hf1 H1 (Grow.refl g1.fh)⟩
    | _ => exact p1.elim⟩
end
/-! ### the signs of texts -/
def tSIGNS : List (D × D) := [(.none, .str "."), (.int 0, .str "x"), (.int 1, .str "o")]
def tMEN : List (D × D) := [(.str ".", .none), (.str "x", .int 0), (.str "o", .int 1)]
end Pu
/-! PuV: a dict of constants that is made and read in one place -/
namespace Pu
open PySem L2
def plainV : D → Bool
  | .none => true
  | .int _ => true
  | .str _ => true
  | _ => false
def vOf : D → V
  | .int i => .int i
  | .str x => .str x
  | _ => .non
def kOf (d : D) : Option Key := (keyV d).getD none
theorem kOf_key {d : D} (h : plainV d = true) : keyV d = some (kOf d) := by
  cases d with
  | none => rfl
  | int i => rfl
  | str x => rfl
  | _ => cases h
theorem vOf_rp {d : D} (h : plainV d = true) (K : Kw) (H : Hp) : Rp K H (vOf d) d := by
  cases d with
  | none => exact .non
  | int i => exact .int i
  | str x => exact .str x
  | _ => cases h
theorem vOf_key {P : Program} {w : World} {d : D} {u : Value} (h : plainV d = true) (r : RelV (vOf d) u) : (noneKind P w).is (kOf d) u = true := by
  cases d with
  | none => cases (show u = Value.none from r); rfl
  | int i => obtain ⟨t, rfl⟩ := r; exact keyIs_int i t
  | str x => obtain ⟨t, rfl⟩ := r; exact keyIs_str x t
  | _ => cases h
def tabOk (tab : List (D × D)) : Bool := tab.all (fun p => plainV p.1 && plainV p.2) && decide (tab.map fun p => kOf p.1).Nodup
abbrev RowR (p : D × D) (r : Option Key × Value) : Prop := kOf p.1 = r.1 ∧ RelV (vOf p.2) r.2
theorem stored_new {rs : List (Option Key × Value)} {k : Option Key} {v : Value} (h : k ∉ rs.map (·.1)) : stored rs k v = rs ++ [(k, v)] := by
  unfold stored
  rw [if_neg]
  intro z
  obtain ⟨x, hx, e⟩ := List.any_eq_true.mp z
  exact h (List.mem_map.mpr ⟨x, hx, of_decide_eq_true e⟩)
theorem merged_new : ∀ (rs acc : List (Option Key × Value)), ((acc ++ rs).map (·.1)).Nodup → merged acc rs = acc ++ rs
  | [], acc, _ => by rw [List.append_nil]; rfl
  | r :: rs, acc, h => by
    have hn : r.1 ∉ acc.map (·.1) := fun z => by
      rw [List.map_append] at h
      exact (List.nodup_append.mp h).2.2 _ z _ (by simp) rfl
    show merged (stored acc r.1 r.2) rs = _
    rw [stored_new hn, merged_new rs (acc ++ [(r.1, r.2)]) (by rw [List.append_assoc]; exact h), List.append_assoc]
    rfl
theorem rows_carry {P : Program} {w : World} : ∀ {tab : List (D × D)} {ws : List (Value × Value)}, tab.all (fun p => plainV p.1 && plainV p.2) = true → VV (tab.map fun p => (vOf p.1, vOf p.2)) ws → ∃ rs, Carries (noneKind P w) ws rs ∧ Paired RowR tab rs
  | [], _, _, r => by cases r; exact ⟨[], True.intro, .nil⟩
  | p :: tab, _, al, r => by
    rw [List.all_cons, Bool.and_eq_true, Bool.and_eq_true] at al
    cases r with
    | @cons _ b _ bs h t =>
      obtain ⟨rs, c, q⟩ := rows_carry (P := P) (w := w) al.2 t
      exact ⟨(kOf p.1, b.2) :: rs, ⟨vOf_key al.1.1 h.1, rfl, c⟩, .cons ⟨rfl, h.2⟩ q⟩
theorem rows_names : ∀ {tab : List (D × D)} {rs : List (Option Key × Value)}, Paired RowR tab rs → rs.map (·.1) = tab.map fun p => kOf p.1
  | [], _, .nil => rfl
  | p :: tab, _, .cons h t => by rw [List.map_cons, List.map_cons, rows_names t, h.1]
theorem vOf_val {d : D} {u : Value} (h : plainV d = true) (r : RelV (vOf d) u) : valC u = some d := by
  cases d with
  | none => cases (show u = Value.none from r); rfl
  | int i => obtain ⟨t, rfl⟩ := r; rfl
  | str x => obtain ⟨t, rfl⟩ := r; rfl
  | _ => cases h
theorem rows_lie {P : Program} {w : World} : ∀ {tab : List (D × D)} {rs : List (Option Key × Value)} {l : List DictEntry}, Paired RowR tab rs → tab.all (fun p => plainV p.1 && plainV p.2) = true → Pairs (noneKind P w) l rs → (∀ e ∈ l, ∃ k, (noneKind P w).is k e.key = true ∧ e.hash = (noneKind P w).hash k) → l.map entC = tab.map (rowC w.params)
  | [], _, _, .nil, _, .nil, _ => rfl
  | p :: tab, _, [], .cons _ _, _, hp, _ => by cases hp
  | p :: tab, _, e :: l, @Paired.cons _ _ _ _ r _ rs h t, al, .cons hk hv hp, ks => by
    rw [List.all_cons, Bool.and_eq_true, Bool.and_eq_true] at al
    have ih := rows_lie (P := P) (w := w) t al.2 hp fun e he => ks e (List.mem_cons_of_mem _ he)
    obtain ⟨k, hk2, hh⟩ := ks e List.mem_cons_self
    have ek : r.1 = k := (noneKind P w).inj e.key r.1 k hk hk2
    have h1 : keyC e.key = some r.1 := is_keyC hk
    have h2 : keyV p.1 = some r.1 := by rw [kOf_key al.1.1, h.1]
    have h3 : valC e.val = some p.2 := by rw [hv]; exact vOf_val al.1.2 h.2
    rw [List.map_cons, List.map_cons, ih]
    congr 1
    unfold entC rowC
    rw [h1, h2, h3, hh, ← ek]
    rw [← hashP_eq w P r.1]
    rfl
section
variable {X : Cx} {keys : List (Option Expr)} {values : List Expr} {tab : List (D × D)} {dpos pos : Pos}
def tTab (w : World) (tab : List (D × D)) : TE := fun _ H Q => ∀ p, H p = none → Q (.ref p) (upd H p (TabO w p tab))
theorem pairs_tab {σ : L2.St} {H : Hp} : ∀ (tab : List (D × D)) (Q : List (V × V) → Hp → Prop), Q (tab.map fun p => (vOf p.1, vOf p.2)) H → tPairs (tab.map fun p => (tC (vOf p.1), tC (vOf p.2))) σ H Q
  | [], _, q => q
  | p :: tab, Q, q => pairs_tab tab (fun ps H3 => Q ((vOf p.1, vOf p.2) :: ps) H3) q
theorem tab_stays {P : Program} {w : World} {H : Hp} {h : Heap} {a : Addr} (t : TabF w a tab h) : ObjOk P w H h a (TabO w a tab) := by
  refine ⟨t, ?_, fun h1 h2 ⟨o, es, ep, ho, z⟩ k => ⟨o, es, ep, k o ho, z⟩⟩
  obtain ⟨o, es, ep, ho, _⟩ := t
  exact ⟨o, ho⟩
theorem pe_tab (h : PPs X dpos keys values (tab.map fun p => (tC (vOf p.1), tC (vOf p.2)))) (hall : keys.all (·.isSome) = true) (hl : keys.length = values.length) (h0 : keys ≠ []) (h15 : keys.length ≤ 15) (ok : tabOk tab = true) : PE X (.Dict keys values dpos) (tTab X.w tab) := by
  unfold tabOk at ok
  rw [Bool.and_eq_true] at ok
  have nd := of_decide_eq_true ok.2
  refine ⟨fun pins s σ H Q I q => ?_⟩
  generalize ha : s.heap.objs.size = a
  have free : H a = none := I.hok.fresh (Nat.le_of_eq ha)
  have ob : (s.heap.push { cls := .type "dict", data := .dict #[] }).get? a = some { cls := .type "dict", data := .dict #[] } := by rw [← ha]; exact Heap.get?_push_size _ rfl
  have dn : TabF X.w a [] (s.heap.push { cls := .type "dict", data := .dict #[] }) := ⟨_, #[], 0, ob, ⟨rfl, rfl, rfl⟩, rfl, rfl⟩
  have I1 := I.laid (a := a) (o := TabO X.w a []) (t' := s.toks) (fun b u e => Heap.get?_push_of_some _ e) (Nat.le_of_eq ha) (tab_stays dn)
  refine wpAny_Dict_walk (knd := noneKind X.prog X.w) hall hl h0 h15 ?_
  rw [ha]
  refine thn (h.run pins _ σ _ (fun ps H2 => ps = (tab.map fun p => (vOf p.1, vOf p.2)) ∧ H2 = upd H a (TabO X.w a [])) I1 (pairs_tab tab _ ⟨rfl, rfl⟩)) fun ws s2 ⟨ps, H2, I2, rel, e, eH⟩ => ?_
  subst e eH
  obtain ⟨rs, c, rk⟩ := rows_carry (P := X.prog) (w := X.w) ok.1 rel
  have mg : merged [] rs = rs := merged_new rs [] (by rw [List.nil_append, rows_names rk]; exact nd)
  obtain ⟨⟨o, es, ep, ho, hx, hd, he⟩, _, _⟩ := (show ObjOk X.prog X.w _ s2.heap a (TabO X.w a []) from I2.hok a _ upd_same)
  have d0 : s2.heap.DictOf (noneKind X.prog X.w) a [] := by
    have e0 : es.toList = [] := List.map_eq_nil_iff.mp he
    refine ⟨o, es, ep, ho, hx, hd, fun e h => ?_, by rw [e0]; exact .nil, List.nodup_nil⟩
    rw [← Array.mem_toList_iff, e0] at h
    cases h
  refine ⟨rs, c, d0, fun h' dd hs => ?_⟩
  rw [mg] at dd
  obtain ⟨o', es', ep', ho', hx', hd', hk', hp', _⟩ := dd
  have tf : TabF X.w a tab h' := ⟨o', es', ep', ho', hx', hd', rows_lie rk ok.1 hp' fun e h => hk' e (Array.mem_toList_iff.mp h)⟩
  have I3 := d_write (ob := TabO X.w a tab) (t' := s2.toks + ws.length) I2 (by rw [upd_same]; exact True.intro) hs ⟨o', ho'⟩ (tab_stays tf)
  rw [upd_upd] at I3
  exact ⟨.ref a, _, I3, rfl, q a free⟩
/-- {..} -/
theorem xDisp {W : WE} (h : PPs X dpos keys values (tab.map fun p => (tC (vOf p.1), tC (vOf p.2)))) (ok : tabOk tab = true) (hall : keys.all (·.isSome) = true := by rfl) (hl : keys.length = values.length := by rfl) (h0 : keys ≠ [] := by simp) (h15 : keys.length ≤ 15 := by decide) :
    PE X (.Dict keys values dpos) (tE (X.kw ea) W (xc (tabD tab))) :=
  PE_weak (pe_tab h hall hl h0 h15 ok) fun σ H Q ⟨H0, Hf0, Hf, e, S, p⟩ a ha => p (.ref a) _ _ (Grow.new S.gr.fh ha) (.tab upd_same)
/-! ### a row of it -/
theorem TabF.map {pins : List (Addr × Obj)} {s : Shared} {σ : L2.St} {H : Hp} {a : Addr} (al : tab.all (fun p => (keyV p.1).isSome) = true) (I : L2.Inv X pins σ H s) (t : TabF X.w a tab s.heap) : ∃ es : Array DictEntry, s.heap.MapOf (noneKind X.prog X.w) a (fun k => findBy nkIs es k) ∧ es.toList.map entC = tab.map (rowC X.w.params) := by
  obtain ⟨o, es, ep, ho, hx, hd, he⟩ := t
  exact ⟨es, ⟨o, es, ep, ho, hx, hd, fun e h => rows_keys he al e (Array.mem_toList_iff.mpr h), fun _ => rfl⟩, he⟩
def lookD : D → D → Option D
  | .dict ((.none, .none) :: t), x => if t.all (fun p => (keyV p.1).isSome) then lookT t x else none
  | _, _ => none
def rTabL (K : Kw) : R2 := fun x y H Q => ∃ (a : Addr) (Hf : Hp) (tab : List (D × D)) (dy z : D), x = .ref a ∧ tab.all (fun p => (keyV p.1).isSome) = true ∧ H a = some (TabO K.w a tab) ∧ VRp K Hf H y dy ∧ lookT tab dy = some z ∧ ∀ v, Rp K Hf v z → Q v H
theorem ix_tabL {ea : Addr} : IxR X (rTabL (X.kw ea)) := fun value slice pins s σ H x y v u Q I rx ry ⟨a, Hf, tab, dy, z, ex, al, ha, hy, hz, q⟩ hs => by
  subst ex
  obtain rfl : v = .ref a := rx
  obtain ⟨tf, _, _⟩ := (show ObjOk X.prog X.w H s.heap a (TabO X.w a tab) from I.hok a _ ha)
  obtain ⟨es, mp, he⟩ := tf.map al I
  unfold lookT at hz
  cases hk : keyV dy with
  | none => rw [hk] at hz; cases hz
  | some k =>
    rw [hk] at hz
    have hz' : seekT tab k = some z := hz
    rcases rows_find he k with ⟨_, n⟩ | ⟨e, d', fe, sd, ve⟩
    · rw [n] at hz'; cases hz'
    · rw [sd] at hz'
      cases hz'
      obtain ⟨v0, rv, rp⟩ := valC_rp ve
      have fnd : findBy nkIs es k = some e.val := by rw [find_list, fe]; rfl
      exact PyProof.Rows.tail_any mp.typeIs slot_dict_getitem.lookup (wpAny_getItem_of (key_of ry hy hk) mp fnd ⟨v0, H, I.tok _, rv, q v0 (rp _ _)⟩) hs
theorem Rp.table {K : Kw} {H : Hp} {v : V} {t : List (D × D)} (r : Rp K H v (tabD t)) : ∃ a, v = .ref a ∧ H a = some (TabO K.w a t) := by
  have gen : ∀ {d : D}, Rp K H v d → d = tabD t → ∃ a, v = .ref a ∧ H a = some (TabO K.w a t) := by
    intro d r e
    cases r with
    | dct h r =>
      unfold tabD at e
      injection e with e
      subst e
      exact r.none_no.elim
    | scr h =>
      unfold tabD scrD at e
      injection e with e
      injection e with e1 e2
      injection e1 with e1 e3
      cases e3
    | tab h =>
      unfold tabD at e
      injection e with e
      injection e with e1 e2
      subst e2
      exact ⟨_, rfl, h⟩
    | _ => cases e
  exact gen r rfl
theorem VRp.table {K : Kw} {Hf H : Hp} {v : V} {t : List (D × D)} (f : Same Hf H) (r : VRp K Hf H v (tabD t)) : ∃ a, v = .ref a ∧ H a = some (TabO K.w a t) := by
  have gen : ∀ {d : D}, VRp K Hf H v d → d = tabD t → ∃ a, v = .ref a ∧ H a = some (TabO K.w a t) := by
    intro d r e
    cases r with
    | e h =>
      rw [e] at h
      obtain ⟨a, ev, ha⟩ := h.table
      exact ⟨a, ev, f _ _ ha⟩
    | l h r => cases e
    | d h r =>
      unfold tabD at e
      injection e with e
      subst e
      exact r.none_no.elim
  exact gen r rfl
/-- a[b], a such a dict -/
theorem xIxT {W : WE} {a b : Expr} {F G : En → R D} (ha : PE X a (tV (X.kw ea) W F)) (hb : PE X b (tV (X.kw ea) W G)) (hs : PlainIx b) : PE X (.Subscript a b pos) (tE (X.kw ea) W (bin lookD F G)) :=
  PE_weak (pe_ix (ix_tabL (ea := ea)) ha hb hs) fun σ H Q ⟨H0, Hf0, Hf, e, S, p⟩ => ⟨H0, Hf0, Hf, e, S, p.bind.mono fun x H1 ⟨Hf1, dx, g1, rx, p1⟩ => ⟨H0, Hf0, Hf1, e, S.grow g1, p1.bind.mono fun y H2 ⟨Hf2, dy, g2, ry, p2⟩ => by
    obtain ⟨z, ez, q⟩ := p2.of_opt
    unfold lookD at ez
    split at ez
    · rename_i t _
      split at ez
      · rename_i al
        obtain ⟨a0, ev, h0⟩ := VRp.table (t := t) g1.fh rx
        exact ⟨a0, Hf2, t, dy, z, ev, al, g2.hh _ _ h0, ry, ez, fun v r => q v Hf2 H2 (Grow.refl g2.fh) r⟩
      · cases ez
    · cases ez⟩⟩
/-- {..}[b] -/
theorem xDispIx {W : WE} {b : Expr} {F : En → R D} (h : PPs X dpos keys values (tab.map fun p => (tC (vOf p.1), tC (vOf p.2)))) (ok : tabOk tab = true) (hb : PE X b (tV (X.kw ea) W F)) (hs : PlainIx b) (hall : keys.all (·.isSome) = true := by rfl) (hl : keys.length = values.length := by rfl) (h0 : keys ≠ [] := by simp) (h15 : keys.length ≤ 15 := by decide) :
    PE X (.Subscript (.Dict keys values dpos) b pos) (tE (X.kw ea) W (un1 (lookT tab) F)) :=
  PE_weak (pe_ix (ix_tabL (ea := ea)) (pe_tab h hall hl h0 h15 ok) hb hs) fun σ H Q ⟨H0, Hf0, Hf, e, S, p⟩ a ha => by
    have g0 : Grow Hf H Hf (upd H a (TabO X.w a tab)) := Grow.lay S.gr.fh ha
    have al : tab.all (fun p => (keyV p.1).isSome) = true := by
      unfold tabOk at ok
      rw [Bool.and_eq_true, List.all_eq_true] at ok
      rw [List.all_eq_true]
      intro p hp
      have := ok.1 p hp
      rw [Bool.and_eq_true] at this
      rw [kOf_key this.1]
      rfl
    refine ⟨H0, Hf0, Hf, e, S.grow g0, (p.grow g0).bind.mono fun y H1 ⟨Hf1, dy, g1, ry, p1⟩ => ?_⟩
    obtain ⟨z, ez, q⟩ := p1.of_opt
    exact ⟨a, Hf1, tab, dy, z, rfl, al, g1.hh _ _ upd_same, ry, ez, fun v r => q v Hf1 H1 (Grow.refl g1.fh) r⟩
end
/-! ### (a, b, ..) = a list -/
def glst (g : List D → En → Option En) : Tg := fun d e => match d with
  | .list ds => g ds e
  | _ => none
section
variable {X : Cx} {W : WE} {pos : Pos} {k : Nat}
theorem gL {es : List Expr} {kk n : Nat} {is : List Nat} {g : List D → En → Option En} (z : Cz X k W) (hl : ∀ ds e e', g ds e = some e' → ds.length = n) (h : PGs X es (tGs (X.kw ea) is g)) (hn : (assignEach es X.env).length = n := by rfl) (hst : (assignEach es X.env).findIdx? (·.1) = none := by rfl) :
    PG X (.Tuple es kk pos) (tG (X.kw ea) is (glst g)) :=
  PG_weak (pg_unl z.calm h hn hst) fun v σ H Q ⟨H0, Hf0, Hf, e, d, e', S, r, he, q⟩ => by
    cases r with
    | lst hp ra => exact ⟨_, _, rfl, SqL.of (S.gr.fh _ _ hp), by rw [ra.length]; exact hl _ _ _ he, H0, Hf0, Hf, e, _, e', S, ra, he, q⟩
    | _ => cases he
end
end Pu
/-! PuW: len(set(..)) of a list of texts that are all unlike -/
namespace Pu
open PySem PySem.Spec PyProof.Rows
section
variable {P : Program} {w : World} {A : Around} {E : Value → Shared → Prop} {s : Shared}
theorem txt_is (y : Str) (t : Tok) : (strKind P w).is y (.str y t) = true := by
  show Value.isStrOf y (.str y t) = true
  simp [Value.isStrOf]
/-- what a set has of the texts ys after i of them -/
def HasX (P : Program) (w : World) (h0 : Heap) (S : Addr) (ys : List Str) (i : Nat) (h : Heap) : Prop :=
  (∀ b o, h0.get? b = some o → h.get? b = some o) ∧ ∃ Sf, h.SetOf (strKind P w) S Sf i ∧ ∀ k, Sf k = true ↔ k ∈ ys.take i
theorem put_txt {h0 : Heap} {S : Addr} {y : Str} {t : Tok} {ys : List Str} {i : Nat} {Q : Bool → Shared → Prop} (nd : ys.Nodup) (few : ys.length < 4000) (off : h0.get? S = none) (hy : ys[i]? = some y) (J : HasX P w h0 S ys i s.heap)
    (q : ∀ b h' tk, Heap.SameBut S s.heap h' → s.toks ≤ tk → HasX P w h0 S ys (i + 1) h' → Q b { s with heap := h', toks := tk }) : wpAny (model P w) A (setAdd S (.str y t)) Q E s := by
  obtain ⟨kp, Sf, R, mem⟩ := J
  obtain ⟨hi, ey⟩ := List.getElem?_eq_some_iff.mp hy
  have tk : ys.take (i + 1) = ys.take i ++ [y] := by rw [List.take_succ, hy]; rfl
  have hn : Sf y = false := by
    cases c : Sf y with
    | false => rfl
    | true =>
      have h1 := (mem y).mp c
      have h2 : (ys.take (i + 1)).Nodup := nd.sublist (List.take_sublist _ _)
      rw [tk, List.nodup_append] at h2
      exact absurd rfl (h2.2.2 y h1 y (by simp))
  unfold setAdd
  apply wpAny_holding
  apply wpAny_bind
  refine (strKind P w).pyHash (txt_is y t) ?_
  refine wpAny_setAddHashed_of (s := { s with toks := s.toks + 1 }) (txt_is y t) rfl R (by show i + 1 < 4096; omega) fun h' same R' => q _ h' _ same (Nat.le_succ _) ⟨fun c o g => ?_, fun k => Sf k || decide (k = y), ?_, fun k => ?_⟩
  · exact (same.2 c fun e => nomatch (e ▸ off).symm.trans g).trans (kp c o g)
  · rw [hn] at R'
    exact R'
  · rw [tk, Bool.or_eq_true, mem k, decide_eq_true_eq, List.mem_append, List.mem_singleton]
theorem set_txts {l : Addr} {ys : List Str} {us : List Value} {Q : Value → Shared → Prop} (hh : A.handled = none) (hl : s.heap.IsList l us.toArray) (ru : L2.Vals (ys.map L2.V.str) us) (nd : ys.Nodup) (few : ys.length < 4000)
    (h : ∀ (h' : Heap) (tk : Nat) (Sf : Str → Bool), h'.SetOf (strKind P w) s.heap.objs.size Sf ys.length → (∀ b o, s.heap.get? b = some o → h'.get? b = some o) → Q (.ref s.heap.objs.size) { s with heap := h', toks := tk }) :
    wpAny (model P w) A (call (.type "set") [.ref l]) Q E s := by
  have ll : l < s.heap.objs.size := let ⟨_, g, _⟩ := hl; Heap.lt_size g
  have off : ∀ b, s.heap.objs.size ≤ b → s.heap.get? b = none := fun b hb => by
    cases g : s.heap.get? b with
    | none => rfl
    | some o => exact absurd (Heap.lt_size g) (Nat.not_lt.mpr hb)
  have sz : (s.heap.push (set0 w)).objs.size = s.heap.objs.size + 1 := Heap.size_push ..
  have at0 : (setOn w s.heap l).get? s.heap.objs.size = some (set0 w) := Heap.get?_push_of_some _ (Heap.get?_push_size _ rfl)
  have at1 : (setOn w s.heap l).get? (s.heap.objs.size + 1) = some (lit0 l) := sz ▸ Heap.get?_push_size _ rfl
  have kp : ∀ b o, s.heap.get? b = some o → (setOn w s.heap l).get? b = some o := fun b o g => Heap.get?_push_of_some _ (Heap.get?_push_of_some _ g)
  have own : s.heap.objs.size ∉ [s.heap.objs.size + 1, l] := fun m => (List.mem_cons.mp m).elim (fun e => Nat.succ_ne_self _ e.symm) fun m => Nat.ne_of_gt ll (List.mem_singleton.mp m)
  have ul : us.length = ys.length := by have := ru.length; simpa using this.symm
  refine setOf_list hl fun A' hA uA => ?_
  have W := (Walks.list (prog := P) (w := w) (A := A'.in1) (by simp [hA, hh]) (s.heap.objs.size + 1) l (Nat.ne_of_lt (Nat.lt_succ_of_lt ll)) us.toArray).toS
  have len : us.toArray.size = ys.length := by simp [ul]
  refine set_fill W own (HasX P w s.heap s.heap.objs.size ys) (fun i h h' ⟨k0, Sf, R, mem⟩ k1 => ?_) (fun i v s1 Q1 E1 pv J q => ?_) ys.length _ (Nat.le_of_eq len.symm) ?_ ?_ fun s2 mv J => ⟨rfl, ?_⟩
  · refine ⟨fun b o g => k1 b o (fun m => Nat.ne_of_lt (Nat.lt_succ_of_lt (Heap.lt_size g)) (List.mem_singleton.mp m)) (k0 b o g), Sf, ?_, mem⟩
    obtain ⟨o, es, ep, t, ho, z⟩ := R
    exact ⟨o, es, ep, t, k1 _ o (fun m => Nat.succ_ne_self _ (List.mem_singleton.mp m).symm) ho, z⟩
  · have gi : us[i]? = some v := by simpa using pv
    have hi : i < ys.length := by rw [← ul]; exact (List.getElem?_eq_some_iff.mp gi).1
    cases g : ys[i]? with
    | none => rw [List.getElem?_eq_getElem hi] at g; cases g
    | some y =>
      obtain ⟨u, hu, rx⟩ := L2.Vals.get ru (i := i) (x := .str y) (by rw [List.getElem?_map, g]; rfl)
      obtain rfl : u = v := Option.some.inj (hu.symm.trans gi)
      obtain ⟨t, rfl⟩ := rx
      exact put_txt nd few (off _ (Nat.le_refl _)) g J q
  · rw [len, Nat.sub_self]
    exact ⟨⟨_, at1, rfl, rfl⟩, hl.at fun o g => kp l o g⟩
  · rw [len, Nat.sub_self]
    exact ⟨kp, fun _ => false, ⟨_, #[], 0, _, at0, ⟨rfl, rfl, rfl⟩, rfl, fun e he => by simp at he, fun k => by simp, by decide, rfl, rfl⟩, fun k => by simp⟩
  · obtain ⟨k0, Sf, R, mem⟩ := J
    rw [len] at R
    have es2 : s2 = { s with heap := s2.heap, toks := s2.toks } := by
      cases s2
      have e1 := mv.gens
      have e2 := mv.drawn
      have e3 := mv.os
      cases e1
      cases e2
      cases e3
      rfl
    rw [es2]
    exact h s2.heap s2.toks Sf R k0
end
end Pu
namespace Pu
open PySem L2
def TxF (P : Program) (w : World) (a : Addr) (n : Nat) (h : Heap) : Prop := ∃ Sf, h.SetOf (strKind P w) a Sf n
theorem tx_stays {P : Program} {w : World} {H : Hp} {h : Heap} {a : Addr} {n : Nat} (t : TxF P w a n h) : ObjOk P w H h a (.ext (TxF P w a n)) := by
  refine ⟨t, ?_, fun h1 h2 ⟨Sf, o, es, ep, t, ho, z⟩ k => ⟨Sf, o, es, ep, t, k o ho, z⟩⟩
  obtain ⟨Sf, o, es, ep, t, ho, _⟩ := t
  exact ⟨o, ho⟩
def rSetX (K : PySem.W.Frag) (P : Program) (w : World) : List V → Hp → VK → Prop := fun vs H Q => ∃ (l : Addr) (ys : List Str), vs = [.ref l] ∧ SqL K H l (ys.map V.str) ∧ ys.Nodup ∧ ys.length < 4000 ∧ ∀ b : Addr, H b = none → Q (.ref b) (upd H b (.ext (TxF P w b ys.length)))
theorem cr_setX {X : Cx} (hc : X.calm = true) : CallR X (.type "set") (rSetX X.K X.prog X.w) := fun pins s σ H _ _ Q I rs ⟨l, ys, ex, hl, nd, few, q⟩ => by
  subst ex
  obtain ⟨_, rfl, rfl⟩ := vals1 rs
  obtain ⟨us, ru, pl, _⟩ := I.list hl
  exact set_txts (I.ok.hd hc) pl.isList ru nd few fun g tk Sf R kp => ⟨.ref s.heap.objs.size, _, I.laid (t' := tk) kp (Nat.le_refl _) (tx_stays ⟨Sf, R⟩), rfl, q _ (I.hok.fresh (Nat.le_refl _))⟩
def rLenX (P : Program) (w : World) : List V → Hp → VK → Prop := fun vs H Q => ∃ (a : Addr) (n : Nat), vs = [.ref a] ∧ H a = some (.ext (TxF P w a n)) ∧ n < 4000 ∧ Q (.int n) H
theorem cr_lenX {X : Cx} : CallR X (.builtin "len") (rLenX X.prog X.w) := fun pins s σ H _ _ Q I rs ⟨a, n, ex, ha, few, q⟩ => by
  subst ex
  obtain ⟨_, rfl, rfl⟩ := vals1 rs
  obtain ⟨⟨Sf, o, es, ep, t, ho, hx, hd, _, _, _, hf, hn⟩, _, _⟩ := (show ObjOk X.prog X.w H s.heap a (.ext (TxF X.prog X.w a n)) from I.hok a _ ha)
  refine call_len_set ho hx hd hf (by rw [hn]; omega) ⟨.int n, H, I.tok _, ⟨s.toks + 1, by rw [hn]⟩, q⟩
/-- len(set(..)) of texts that are all unlike -/
def lenSetD : D → Option D
  | .list ds => (strsOf ds).bind fun ys => if ys.Nodup ∧ ys.length < 4000 then some (.int ys.length) else none
  | _ => none
section
variable {X : Cx} {W : WE} {a : Expr} {F : En → R D} {pos p p2 q : Pos} {k : Nat}
theorem xLenSet (z : Cz X k W) (m : X.mg "len" = none) (m2 : X.mg "set" = none) (ha : PE X a (tV (X.kw ea) W F)) (hg : Gl X "len" := by rfl) (hg2 : Gl X "set" := by rfl) (he : starEach [a] X.env = [(false, eval a X.env)] := by rfl)
    (he2 : starEach [Expr.Call (.Name "set" p2) [a] [] q] X.env = [(false, eval (Expr.Call (.Name "set" p2) [a] [] q) X.env)] := by rfl) : PE X (.Call (.Name "len" p) [.Call (.Name "set" p2) [a] [] q] [] pos) (tE (X.kw ea) W (un1 lenSetD F)) :=
  PE_weak (pe_callB cr_lenX hg m bt_len (pa_cons (pe_callTy (cr_setX z.calm) hg2 m2 bt_set (pa_cons ha pa_nil he) (by decide) (by decide) he) pa_nil he2) (by decide) (by decide) he2) fun σ H Q ⟨H0, Hf0, Hf, e, S, pp⟩ => ⟨H0, Hf0, Hf, e, S, pp.bind.mono fun x H1 ⟨Hf1, dd, g, r, p1⟩ => by
    obtain ⟨zz, ez, qq⟩ := p1.of_opt
    cases dd with
    | list ds =>
      obtain ⟨l, xs, rfl, hl, ra⟩ := r.list g.fh
      have ez' : ((strsOf ds).bind fun ys => if ys.Nodup ∧ ys.length < 4000 then some (PyData.int ys.length) else none) = some zz := ez
      cases h1 : strsOf ds with
      | none => rw [h1] at ez'; cases ez'
      | some ys =>
        rw [h1] at ez'
        have ez2 : (if ys.Nodup ∧ ys.length < 4000 then some (PyData.int ys.length) else none) = some zz := ez'
        by_cases hn : ys.Nodup ∧ ys.length < 4000
        · rw [if_pos hn] at ez2
          cases ez2
          rw [strsOf_eq h1] at ra
          rw [ra.texts] at hl
          refine ⟨l, ys, rfl, SqL.of hl, hn.1, hn.2, fun b hb => ⟨b, ys.length, rfl, upd_same, hn.2, ?_⟩⟩
          exact qq _ Hf1 _ (Grow.lay g.fh hb) (.int _)
        · rw [if_neg hn] at ez2; cases ez2
    | _ => cases ez⟩
end
end Pu
/-! PuX: l[2:0:-1] of a list of four -/
namespace Pu
open PySem L2
def mid2D : D → Option D
  | .list [_, b, c, _] => some (.list [c, b])
  | _ => none
theorem pick_mid (a b c d : Value) : slicePick #[a, b, c, d] (some 2) (some 0) (some (-1)) = #[c, b] := by rfl
theorem RpAll.four {K : Kw} {H : Hp} {xs : List V} {a b c d : D} (r : RpAll K H xs [a, b, c, d]) : ∃ x y z w, xs = [x, y, z, w] ∧ Rp K H y b ∧ Rp K H z c := by
  cases r with
  | cons r1 t => cases t with
    | cons r2 t => cases t with
      | cons r3 t => cases t with
        | cons r4 t => cases t; exact ⟨_, _, _, _, rfl, r2, r3⟩
theorem vals_four {x y z w : V} {us : List Value} (r : Vals [x, y, z, w] us) : ∃ a b c d, us = [a, b, c, d] ∧ RelV y b ∧ RelV z c := by
  cases r with
  | cons r1 t => cases t with
    | cons r2 t => cases t with
      | cons r3 t => cases t with
        | cons r4 t => cases t; exact ⟨_, _, _, _, rfl, r2, r3⟩
section
variable {X : Cx} {W : WE} {a : Expr} {F : En → R D} {pos p2 q1 q2 pu pc : Pos} {j j1 j2 : Nat}
open PySem.Spec PyProof.Rows in
theorem xMid2 (ha : PE X a (tV (X.kw ea) W F)) : PE X (.Subscript a (.Slice (some (.Constant (.int 2) j1 q1)) (some (.Constant (.int 0) j2 q2)) (some (.UnaryOp .USub (.Constant (.int 1) j pc) pu)) p2) pos) (tE (X.kw ea) W (un1 mid2D F)) := by
  refine ⟨fun pins s σ H Q I ⟨H0, Hf0, Hf, e, S, q⟩ => ?_⟩
  refine Subscript_ (thn (ha.run pins s σ H _ I ⟨H0, Hf0, Hf, e, S, q.bind⟩) fun v s1 ⟨x, H1, I1, r1, Hf1, d, g1, rx, qq⟩ => ?_)
  obtain ⟨z, ez, qz⟩ := qq.of_opt
  unfold mid2D at ez
  split at ez
  · rename_i d0 d1 d2 d3
    cases ez
    obtain ⟨l, xs, rfl, hl, ra⟩ := rx.list g1.fh
    obtain ⟨x0, x1, x2, x3, rfl, ry, rz⟩ := ra.four
    cases r1
    have k2 : PO X (some (.Constant (.int 2) j1 q1)) (tPart (tC (.int 2))) := po_some pe_int
    have k0 : PO X (some (.Constant (.int 0) j2 q2)) (tPart (tC (.int 0))) := po_some pe_int
    have k1 : PO X (some (.UnaryOp .USub (.Constant (.int 1) j pc) pu)) (tPart (tUn (fun x H Q => ∃ i, x = .int i ∧ Q (.int (-i)) H) (tC (.int 1)))) := po_some (pe_un un_neg pe_int)
    refine wpAny_Slice (thn (k2.run pins s1 σ H1 (fun o H' => o = some 2 ∧ H' = H1) I1 ⟨2, rfl, rfl, rfl⟩) fun vl s2 ⟨o, H2, I2, pl, eo, eH⟩ => ?_)
    subst eo eH
    refine thn (k0.run pins s2 σ H2 (fun o H' => o = some 0 ∧ H' = H2) I2 ⟨0, rfl, rfl, rfl⟩) fun vh s3 ⟨o, H3, I3, ph, eo, eH⟩ => ?_
    subst eo eH
    refine thn (k1.run pins s3 σ H3 (fun o H' => o = some (-1) ∧ H' = H3) I3 ⟨1, rfl, -1, rfl, rfl, rfl⟩) fun vk s4 ⟨o, H4, I4, pk, eo, eH⟩ => ?_
    subst eo eH
    have I5 : L2.Inv X pins σ H4 { s4 with heap := s4.heap.push { cls := .type "slice", data := .fields #[vl, vh, vk] } } := I4.kept (t' := s4.toks) fun b ob q => Heap.get?_push_of_some _ q
    obtain ⟨us, rv, pl', hz⟩ := I5.list (SqL.of hl)
    obtain ⟨u0, u1, u2, u3, rfl, w1, w2⟩ := vals_four rv
    show wpAny (model X.prog X.w) X.A (subscriptTail a (.Slice (some (.Constant (.int 2) j1 q1)) (some (.Constant (.int 0) j2 q2)) (some (.UnaryOp .USub (.Constant (.int 1) j pc) pu)) p2) (.ref l) (.ref s4.heap.objs.size)) (EP X pins σ Q) X.xe { s4 with heap := s4.heap.push { cls := .type "slice", data := .fields #[vl, vh, vk] } }
    refine tail_any (ops := [.ref l, .ref s4.heap.objs.size]) pl'.isList.typeIs PySem.slot_list_getitem.lookup ?_ (by with_unfolding_all rfl)
    refine wpAny_getItem_list_slice pl'.isList (Heap.IsSliceOf.new ..) pl ph pk (by decide) ?_ (by show 4 ≤ sizeLine; decide)
    rw [pick_mid]
    have fr := I5.hok.fresh (Nat.le_refl _)
    refine ⟨.ref _, _, I5.laid (t' := s4.toks) (o := .lst [x2, x1]) (fun b ob q => Heap.get?_push_of_some _ q) (Nat.le_refl _) ⟨by show 2 ≤ sizeLine; decide, _, 0, .cons w2 (.cons w1 .nil), Heap.get?_push_size _ rfl⟩, rfl, ?_⟩
    have g2 := Grow.new (o := HO.lst [x2, x1]) g1.fh fr
    exact qz _ _ _ g2 (.lst upd_same (.cons (rz.mono g2.ff) (.cons (ry.mono g2.ff) .nil)))
  · cases ez
end
end Pu
/-! PuY: list(range(..)), tuple(range(..)), dict([(key, value), ..]) with keys that are tuples -/
namespace Pu
open PySem L2
/-! ### ranges -/
def rgN : D → Option (List D)
  | .int j => if 0 ≤ j ∧ j ≤ 1000000 then some (rangeL 0 j.toNat) else none
  | _ => none
def rgT (d : D) : Option D := (rgN d).map PyData.tuple
theorem rp_rg {K : Kw} {H : Hp} (j : Int) : RpAll K H (rgV 0 j) (rangeL 0 j.toNat) := by
  unfold rgV rangeL
  rw [show j - 0 = j by omega]
  generalize List.range j.toNat = l
  induction l with
  | nil => exact .nil
  | cons i l ih => exact .cons (.int _) ih
theorem rg_ok {j : Int} (h : 0 ≤ j ∧ j ≤ 1000000) : RgOk 0 j := RgOk.of_le (by omega) (by omega) (by omega) (by omega)
section
variable {X : Cx} {W : WE} {a : Expr} {F : En → R D} {pos p p2 q : Pos} {k : Nat}
theorem xListRg (z : Cz X k W) (m : X.mg "list" = none) (m2 : X.mg "range" = none) (ha : PE X a (tE (X.kw ea) W F)) (hg : Gl X "list" := by rfl) (hg2 : Gl X "range" := by rfl) (he : starEach [a] X.env = (false, eval a X.env) :: starEach [] X.env := by rfl)
    (he2 : starEach [Expr.Call (.Name "range" p2) [a] [] q] X.env = (false, eval (Expr.Call (.Name "range" p2) [a] [] q) X.env) :: starEach [] X.env := by rfl) : PE X (.Call (.Name "list" p) [.Call (.Name "range" p2) [a] [] q] [] pos) (tN (X.kw ea) W (un1N rgN F)) :=
  PE_weak (pe_listRg z.calm hg m (prg_1 hg2 m2 ha he) he2) fun σ H Q ⟨H0, Hf0, Hf, e, S, pp⟩ => ⟨H0, Hf0, Hf, e, S, pp.bind.mono fun x H1 ⟨Hf1, d, g, r, p1⟩ => by
    obtain ⟨ds, ez, qq⟩ := p1.of_opt
    cases r with
    | int j =>
      have ez' : (if 0 ≤ j ∧ j ≤ 1000000 then some (rangeL 0 j.toNat) else none) = some ds := ez
      split at ez'
      · rename_i hj
        cases ez'
        refine ⟨j, rfl, rg_ok hj, fun b hb => qq b _ Hf1 _ (Grow.lay g.fh hb) hb (g.fh.free hb) upd_same (rp_rg j)⟩
      · cases ez'
    | _ => cases ez⟩
open PySem.Spec PyProof.Rows in
theorem xTupRg (z : Cz X k W) (m : X.mg "tuple" = none) (m2 : X.mg "range" = none) (ha : PE X a (tE (X.kw ea) W F)) (hg : Gl X "tuple" := by rfl) (hg2 : Gl X "range" := by rfl) (he : starEach [a] X.env = (false, eval a X.env) :: starEach [] X.env := by rfl)
    (he2 : starEach [Expr.Call (.Name "range" p2) [a] [] q] X.env = (false, eval (Expr.Call (.Name "range" p2) [a] [] q) X.env) :: starEach [] X.env := by rfl) : PE X (.Call (.Name "tuple" p) [.Call (.Name "range" p2) [a] [] q] [] pos) (tE (X.kw ea) W (un1 rgT F)) := by
  refine ⟨fun pins s σ H Q I ⟨H0, Hf0, Hf, e, S, pp⟩ => ?_⟩
  have rg := prg_1 (p := p2) (pos := q) hg2 m2 ha he pins s σ H (fun i j H1 => i = 0 ∧ (0 ≤ j ∧ j ≤ 1000000) ∧ TupN H1 Q (rgV 0 j)) I ⟨H0, Hf0, Hf, e, S, pp.bind.mono fun x H1 ⟨Hf1, d, g, r, p1⟩ => by
    obtain ⟨y, ez, qq⟩ := p1.of_opt
    cases r with
    | int j =>
      have ez' : ((if 0 ≤ j ∧ j ≤ 1000000 then some (rangeL 0 j.toNat) else none).map PyData.tuple) = some y := ez
      split at ez'
      · rename_i hj
        cases ez'
        exact ⟨j, rfl, rfl, hj, TupN.of g.fh (rp_rg j) qq⟩
      · cases ez'
    | _ => cases ez⟩
  refine Call_ (ld_blt I hg m boot_tuple (PyProof.Rows.callWith_type1 (args_cons (thn rg fun x s1 ⟨r, i, j, t, u, v, H1, ex, hr, I1, ei, hj, qq⟩ => args_nil ?_) he2) he2))
  subst ex ei
  obtain ⟨b1, b2, b3, b4, b5⟩ := rg_ok hj
  refine call_tuple_range (n := (j - 0).toNat) (I1.ok.hd z.calm) hr (small_one b1 b2 b3 b4) (rangeSize_nat 0 j) b5 fun g tk acc kp hi => ?_
  have I2 : L2.Inv X pins σ H1 { s1 with heap := g, toks := tk } := I1.kept kp
  have := tup_new (tk := tk) (us := acc.toList) I2 (vals_rg hi) (by rw [rgV_length, sizeLine_eq]; omega) qq
  rwa [Array.toArray_toList] at this
end
/-! ### dict([(key, value), ..]) -/
def pairsD : List D → Option (List (D × D))
  | [] => some []
  | .tuple [k, v] :: r => (pairsD r).map ((k, v) :: ·)
  | _ => none
def keyT (d : D) : Option NestedKey := match d with
  | .tuple ds => nk (.tuple ds)
  | _ => none
def keysOk (kvs : List (D × D)) : Bool := kvs.all (fun p => match keyT p.1 with | some k => decide (k.depth ≤ 8) | none => false) && decide (kvs.map fun p => keyT p.1).Nodup
def dictD : D → Option D
  | .list ds => (pairsD ds).bind fun kvs => if keysOk kvs && decide (kvs.length ≤ many) then some (.dict kvs) else none
  | _ => none
/-- a pair's tuple, its key's tuple, its value -/
abbrev Row3 := Addr × Addr × V
abbrev Row3R (K : Kw) (Hf : Hp) (r : Row3) (kv : D × D) : Prop := SqF Hf r.1 [.ref r.2.1, r.2.2] ∧ Rp K Hf (.ref r.2.1) kv.1 ∧ Rp K Hf r.2.2 kv.2
theorem RpAll.pairs {K : Kw} {Hf : Hp} : ∀ {ds : List D} {kvs : List (D × D)} {xs : List V}, pairsD ds = some kvs → (∀ p ∈ kvs, (keyT p.1).isSome = true) → RpAll K Hf xs ds → ∃ rows : List Row3, xs = rows.map (fun r => V.ref r.1) ∧ Paired (Row3R K Hf) rows kvs
  | [], kvs, _, h, _, .nil => by cases h; exact ⟨[], rfl, .nil⟩
  | d :: ds, kvs, _, h, ok, .cons (v := x) (vs := xs) r t => by
    unfold pairsD at h
    split at h
    · cases ‹d :: ds = []›
    · rename_i k v r' e
      cases e
      cases h1 : pairsD ds with
      | none => rw [h1] at h; cases h
      | some kvs' =>
        rw [h1] at h
        cases h
        obtain ⟨rows, e1, pr⟩ := RpAll.pairs h1 (fun p hp => ok p (List.mem_cons_of_mem _ hp)) t
        obtain ⟨a, ys, ev, ha, ra⟩ := (VRp.e (H := Hf) r).tuple (Same.refl _)
        subst ev
        cases ra with
        | @cons y1 _ _ _ rk t1 => cases t1 with
          | @cons y2 _ _ _ rv t2 =>
            cases t2
            have ko := ok (k, v) List.mem_cons_self
            cases k with
            | tuple es =>
              obtain ⟨b, zs, ev, hb, rb⟩ := (VRp.e (H := Hf) rk).tuple (Same.refl _)
              subst ev
              exact ⟨(a, b, y2) :: rows, by rw [List.map_cons, e1], .cons ⟨ha, rk, rv⟩ pr⟩
            | _ => cases ko
    · cases h
section
variable {X : Cx} {pins : List (Addr × Obj)} {σ : L2.St} {H Hf : Hp} {s : Shared}
theorem rows_are (I : L2.Inv X pins σ H s) (f : Same Hf H) : ∀ {rows : List Row3} {kvs : List (D × D)}, Paired (Row3R (X.kw ea) Hf) rows kvs → (∀ p ∈ kvs, ∃ k, keyT p.1 = some k ∧ k.depth ≤ 8) →
    ∃ es : List (NestedKey × Addr × Value), es.map (fun x => some x.1) = kvs.map (fun p => keyT p.1) ∧ RpDct (X.kw ea) Hf es kvs ∧ es.length = rows.length ∧ (∀ (j : Nat) (x : NestedKey × Addr × Value), es[j]? = some x → ∃ t : Addr, (rows.map (·.1))[j]? = some t ∧ s.heap.IsTuple t #[.ref x.2.1, x.2.2]) ∧ Paired (fun (r : Row3) (x : NestedKey × Addr × Value) => x.2.1 = r.2.1 ∧ RelV r.2.2 x.2.2) rows es
  | [], _, .nil, _ => ⟨[], rfl, .nil, rfl, fun j x h => by simp at h, .nil⟩
  | r :: rows, kv :: kvs, .cons h t, ok => by
    obtain ⟨es, e1, e2, e3, e4, e5⟩ := rows_are I f t fun p hp => ok p (List.mem_cons_of_mem _ hp)
    obtain ⟨k, hk, hd⟩ := ok kv List.mem_cons_self
    obtain ⟨us, rv, p, _⟩ := I.tuple (h.1.mono f).sq
    obtain ⟨u1, u2, eu, r1, r2⟩ := Vals.two rv
    subst eu
    obtain rfl : u1 = .ref r.2.1 := r1
    have hn : nk kv.1 = some k := by
      unfold keyT at hk
      split at hk
      · rename_i e; rw [e]; exact hk
      · cases hk
    refine ⟨(k, r.2.1, u2) :: es, by rw [List.map_cons, List.map_cons, e1, hk], .cons hn hd h.2.1 r2 h.2.2 e2, by rw [List.length_cons, List.length_cons, e3], fun j x hx => ?_, .cons ⟨rfl, r2⟩ e5⟩
    cases j with
    | zero => cases hx; exact ⟨r.1, rfl, p⟩
    | succ j => exact e4 j x hx
theorem stored_all : ∀ (ps acc : List (NestedKey × Addr × Value)), ((acc ++ ps).map (·.1)).Nodup → storedAllH acc ps = acc ++ ps
  | [], acc, _ => by rw [List.append_nil]; rfl
  | p :: ps, acc, h => by
    have hn : p.1 ∉ acc.map (·.1) := fun z => by
      rw [List.map_append] at h
      exact (List.nodup_append.mp h).2.2 _ z _ (by simp) rfl
    have e : storedH acc p.1 p.2.1 p.2.2 = acc ++ [p] := by
      unfold storedH
      rw [if_neg]
      intro z
      unfold atKey at z
      rw [Option.isSome_map] at z
      obtain ⟨x, hx⟩ := Option.isSome_iff_exists.mp z
      exact hn (List.mem_map.mpr ⟨x, List.mem_of_find?_eq_some hx, by simpa using List.find?_some hx⟩)
    show storedAllH (storedH acc p.1 p.2.1 p.2.2) ps = _
    rw [e, stored_all ps (acc ++ [p]) (by rw [List.append_assoc]; exact h), List.append_assoc]
    rfl
end
def rDictL (K : Kw) : List V → Hp → VK → Prop := fun vs H Q => ∃ (l : Addr) (Hf : Hp) (rows : List Row3) (kvs : List (D × D)), vs = [.ref l] ∧ Same Hf H ∧ SqL K.K H l (rows.map fun r => V.ref r.1) ∧ Paired (Row3R K Hf) rows kvs ∧ keysOk kvs = true ∧ kvs.length ≤ many ∧
  ∀ (b : Addr) (es : DX), H b = none → RpDct K Hf es.1 kvs → Paired (fun (r : Row3) (x : NestedKey × Addr × Value) => x.2.1 = r.2.1 ∧ RelV r.2.2 x.2.2) rows es.1 → Q (.ref b) (upd H b (DicO K.w b es))
theorem cr_dictL {X : Cx} (hc : X.calm = true) (hu : X.A.units + 16 < cLine) : CallR X (.type "dict") (rDictL (X.kw ea)) := fun pins s σ H _ _ Q I rs ⟨l, Hf, rows, kvs, ex, f, hl, pr, ok, hm, q⟩ => by
  subst ex
  obtain ⟨_, rfl, rfl⟩ := vals1 rs
  obtain ⟨us, ru, pl, hz⟩ := I.list hl
  unfold keysOk at ok
  rw [Bool.and_eq_true, List.all_eq_true] at ok
  have nd := of_decide_eq_true ok.2
  have okk : ∀ p ∈ kvs, ∃ k, keyT p.1 = some k ∧ k.depth ≤ 8 := fun p hp => by
    have := ok.1 p hp
    cases hk : keyT p.1 with
    | none => rw [hk] at this; cases this
    | some k => rw [hk] at this; exact ⟨k, rfl, of_decide_eq_true this⟩
  obtain ⟨es, e1, e2, e3, e4, e5⟩ := rows_are I f pr okk
  have uv : us = (rows.map (·.1)).map Value.ref := by
    have e : (rows.map fun r => V.ref r.1) = (rows.map (·.1)).map V.ref := by rw [List.map_map]; rfl
    rw [e] at ru
    exact refs_at ru
  obtain ⟨o, n, ho, hcl, hdi, hda⟩ := pl
  have lenp : pr.length = pr.length := rfl
  have hlen : rows.length = kvs.length := Paired.length pr
  have ndk : (es.map (·.1)).Nodup := by
    have h2 : (es.map fun x => some x.1).Nodup := by rw [e1]; exact nd
    rw [List.Nodup, List.pairwise_map] at h2 ⊢
    exact h2.imp fun h e => h (by rw [e])
  have PA := PairArg.list (prog := X.prog) (w := X.w) l us.toArray (fun j => ((rows.map (·.1))[j]?).getD 0) (es.map fun x => (Value.ref x.2.1, x.2.2))
  have oks : PlainSeq "list" s.heap l us.toArray ∧ PairItems s.heap us.toArray (fun j => ((rows.map (·.1))[j]?).getD 0) (es.map fun x => (Value.ref x.2.1, x.2.2)) := by
    refine ⟨⟨o, n, ho, hcl, hdi, hda⟩, by rw [List.size_toArray, uv]; simp [e3], fun j k v hj => ?_⟩
    rw [List.getElem?_map] at hj
    cases hx : es[j]? with
    | none => rw [hx] at hj; cases hj
    | some x =>
      rw [hx] at hj
      cases hj
      obtain ⟨t, ht, it⟩ := e4 j x hx
      refine ⟨?_, .inl ?_⟩
      · rw [uv]
        simp only [List.getElem?_toArray, List.getElem?_map] at ht ⊢
        rw [ht]
        rfl
      · show s.heap.IsTuple (((rows.map (·.1))[j]?).getD 0) _
        rw [ht]
        exact it
  refine call_dict_pairsH (knd := nestedKind X.prog X.w) (ps := es) PA (I.ok.hd hc) (by show X.A.in1.in1.units + 8 < cLine; have : X.A.in1.in1.units = X.A.units + 1 + 1 := rfl; omega) oks ⟨by simp, fun i key v h => ?_⟩ (fun h' kp x hx => ?_) (by simp; rw [e3, hlen]; exact many_line hm) fun h' tk dd kp => ?_
  · have h : (es.map fun x => (Value.ref x.2.1, x.2.2))[i]? = some (key, v) := h
    rw [List.getElem?_map] at h
    cases hx : es[i]? with
    | none => rw [hx] at h; cases h
    | some x =>
      rw [hx] at h
      cases h
      exact ⟨x.1, x.2.1, rfl, rfl⟩
  · have is0 := RpDct.is (ea := ea) I (RpDct.mono f e2) x hx
    exact nestedKind_stays.stays (fun b o vs n hb _ => kp b o (Nat.ne_of_lt (Heap.lt_size hb)) (by simp) hb) is0
  · rw [stored_all es [] (by rw [List.nil_append]; exact ndk), List.nil_append] at dd
    obtain ⟨ep, ok⟩ := dic_ok (H := H) (by rw [e3, hlen]; exact many_line hm) (beq_eq_false_iff_ne.mpr (Nat.ne_of_gt I.big)) dd
    refine ⟨.ref s.heap.objs.size, _, I.laid (t' := tk) (o := DicO X.w s.heap.objs.size (es, ep)) (fun b u hb => kp b u (by simp) hb) (Nat.le_refl _) ok, rfl, q _ (es, ep) (I.hok.fresh (Nat.le_refl _)) e2 e5⟩
section
variable {X : Cx} {W : WE} {a : Expr} {F : En → R D} {pos p : Pos} {k : Nat}
theorem xDictL (z : Cz X k W) (m : X.mg "dict" = none) (ha : PE X a (tV (X.kw ea) W F)) (hg : Gl X "dict" := by rfl) (he : starEach [a] X.env = [(false, eval a X.env)] := by rfl) : PE X (.Call (.Name "dict" p) [a] [] pos) (tE (X.kw ea) W (un1 dictD F)) :=
  PE_weak (pe_callTy (cr_dictL (ea := ea) z.calm (by have := z.rm.un; omega)) hg m bt_dict (pa_cons ha pa_nil he) (by decide) (by decide) he) fun σ H Q ⟨H0, Hf0, Hf, e, S, pp⟩ => ⟨H0, Hf0, Hf, e, S, pp.bind.mono fun x H1 ⟨Hf1, dd, g, r, p1⟩ => by
    obtain ⟨zz, ez, qq⟩ := p1.of_opt
    cases dd with
    | list ds =>
      obtain ⟨l, xs, rfl, hl, ra⟩ := r.list g.fh
      have ez' : ((pairsD ds).bind fun kvs => if keysOk kvs && decide (kvs.length ≤ many) then some (PyData.dict kvs) else none) = some zz := ez
      cases h1 : pairsD ds with
      | none => rw [h1] at ez'; cases ez'
      | some kvs =>
        rw [h1] at ez'
        have ez2 : (if keysOk kvs && decide (kvs.length ≤ many) then some (PyData.dict kvs) else none) = some zz := ez'
        split at ez2
        · rename_i hn
          cases ez2
          rw [Bool.and_eq_true] at hn
          have oks : ∀ p ∈ kvs, (keyT p.1).isSome = true := fun p hp => by
            have h := hn.1
            unfold keysOk at h
            rw [Bool.and_eq_true, List.all_eq_true] at h
            have := h.1 p hp
            cases hk : keyT p.1 with
            | none => rw [hk] at this; cases this
            | some k => rfl
          obtain ⟨rows, e1, pr⟩ := ra.pairs h1 oks
          subst e1
          refine ⟨l, Hf1, rows, kvs, rfl, g.fh, SqL.of hl, pr, hn.1, of_decide_eq_true hn.2, fun b es hb rd _ => ?_⟩
          have g2 := Grow.new (o := DicO X.w b es) g.fh hb
          exact qq _ _ _ g2 (.dct upd_same (rd.mono g2.ff))
        · cases ez2
    | _ => cases ez⟩
end
end Pu
/-! PuZ: sorted(set(..)) of a tuple of tuples of ints, all of one length -/
namespace Pu
open PySem PySem.Spec PyProof.Rows
abbrev lit1 (l : Addr) : Obj := { cls := .type "tuple_iterator", data := .fields #[.ref l, .int 0 0] }
abbrev setOnT (w : World) (h : Heap) (l : Addr) : Heap := (h.push (set0 w)).push (lit1 l)
/-- set(l), l a tuple: the set's loop over a new iterator -/
theorem setOf_tup {P : Program} {w : World} {A : Around} {E : Value → Shared → Prop} {s : Shared} {l : Addr} {us : Array Value} {Q : Value → Shared → Prop} (hl : s.heap.IsTuple l us)
    (loop : ∀ A' : Around, A'.handled = A.handled → A'.units ≤ A.units + 3 → codeAny (model P w) A' (.builtin "set.update.loop" ⟨[.ref s.heap.objs.size, .ref (s.heap.objs.size + 1)], []⟩) (fun r s2 => r = .ok (.ret .none) ∧ Q (.ref s.heap.objs.size) s2) { s with heap := setOnT w s.heap l }) :
    wpAny (model P w) A (call (.type "set") [.ref l]) Q E s := by
  refine call_class (Q1 := fun x s1 => x = .ref s.heap.objs.size ∧ s1 = { s with heap := s.heap.push (set0 w) }) F.called_set (F.typeCall_set_1 _) (fun A' => L2.code_set_led1 _ ⟨rfl, rfl⟩) fun A' x s1 hA' uA' ⟨ex, e1⟩ => ?_
  subst ex e1
  have at0 : (s.heap.push (set0 w)).get? s.heap.objs.size = some (set0 w) := Heap.get?_push_size _ rfl
  have ty : Shared.TypeIs { s with heap := s.heap.push (set0 w) } (.ref s.heap.objs.size) "set" := ⟨_, at0, rfl⟩
  have hl1 : (s.heap.push (set0 w)).IsTuple l us := hl.push _
  refine ⟨ty, codeAny_call_builtin F.called_set.init.plain F.entry_set_init (check_set_init_1 ty ?_)⟩
  obtain ⟨⟨cl, dd, da, sl⟩, gl, ec, n, ed⟩ := id hl1
  obtain rfl : cl = .type "tuple" := ec
  obtain rfl : da = .seq us n := ed
  have n1 := F.sub_tuple_set
  have n2 := F.sub_tuple_frozenset
  have n3 : (Value.type "tuple" == Value.type "dict") = false := by decide
  unfold Builtin.«set.__init__» noKeywords Builtin.Frozenset.updateFrom
  generalize eP : pyIter = pI
  wp_walk
  subst eP
  apply wpAny_pyIter_tuple hl1
  apply wpAny_bind
  apply wpAny_runValue
  have sz : (s.heap.push (set0 w)).objs.size = s.heap.objs.size + 1 := Heap.size_push ..
  rw [sz]
  refine codeAny_mono (loop _ (by simp [hA']) (by have := uA'; show A'.units + 1 ≤ A.units + 3; omega)) fun r s2 ⟨er, q⟩ => ?_
  subst er
  exact wpAny_pure (wpAny_pure ⟨rfl, q⟩)
section
variable {P : Program} {w : World} {A : Around} {E : Value → Shared → Prop} {s : Shared}
/-- set(l), l a tuple of tuples of ints -/
theorem set_tupsT {l : Addr} {ks : List (Addr × List Int)} {Q : Value → Shared → Prop} (hh : A.handled = none) (hl : s.heap.IsTuple l (ks.map fun p => Value.ref p.1).toArray) (tups : ∀ p ∈ ks, L2.IsT P w s.heap p.2 p.1) (few : FewT ks 62) (hu : A.units + 8 < cLine)
    (h : ∀ (h' : Heap) (tk : Nat) (L : List (Addr × List Int)), L2.SetT0 P w h' s.heap.objs.size L → (∀ p ∈ L, p ∈ ks) → (∀ p ∈ ks, p.2 ∈ L.map (·.2)) → (∀ b o, s.heap.get? b = some o → h'.get? b = some o) → Q (.ref s.heap.objs.size) { s with heap := h', toks := tk }) :
    wpAny (model P w) A (call (.type "set") [.ref l]) Q E s := by
  have ll : l < s.heap.objs.size := let ⟨_, g, _⟩ := hl; Heap.lt_size g
  have off : ∀ b, s.heap.objs.size ≤ b → s.heap.get? b = none := fun b hb => by
    cases g : s.heap.get? b with
    | none => rfl
    | some o => exact absurd (Heap.lt_size g) (Nat.not_lt.mpr hb)
  have sz : (s.heap.push (set0 w)).objs.size = s.heap.objs.size + 1 := Heap.size_push ..
  have at0 : (setOnT w s.heap l).get? s.heap.objs.size = some (set0 w) := Heap.get?_push_of_some _ (Heap.get?_push_size _ rfl)
  have at1 : (setOnT w s.heap l).get? (s.heap.objs.size + 1) = some (lit1 l) := sz ▸ Heap.get?_push_size _ rfl
  have kp : ∀ b o, s.heap.get? b = some o → (setOnT w s.heap l).get? b = some o := fun b o g => Heap.get?_push_of_some _ (Heap.get?_push_of_some _ g)
  have own : s.heap.objs.size ∉ [s.heap.objs.size + 1, l] := fun m => (List.mem_cons.mp m).elim (fun e => Nat.succ_ne_self _ e.symm) fun m => Nat.ne_of_gt ll (List.mem_singleton.mp m)
  refine setOf_tup hl fun A' hA uA => ?_
  have W := (Walks.tuple (prog := P) (w := w) (A := A'.in1) (by simp [hA, hh]) (s.heap.objs.size + 1) l (Nat.ne_of_lt (Nat.lt_succ_of_lt ll)) (ks.map fun p => Value.ref p.1).toArray).toS
  have len : (ks.map fun p => Value.ref p.1).toArray.size = ks.length := by simp
  have u1 : A'.in1.units < cLine := by show A'.units + 1 < cLine; omega
  refine set_fill W own (HasT P w s.heap s.heap.objs.size ks) (fun i h h' ⟨k0, L, es, ep, t, R, sub, all⟩ k1 => ?_) (fun i v s1 Q1 E1 pv J q => ?_) ks.length _ (Nat.le_of_eq len.symm) ?_ ?_ fun s2 mv J => ⟨rfl, ?_⟩
  · have k2 : ∀ b o, s.heap.get? b = some o → h'.get? b = some o := fun b o g => k1 b o (fun m => Nat.ne_of_lt (Nat.lt_succ_of_lt (Heap.lt_size g)) (List.mem_singleton.mp m)) (k0 b o g)
    exact ⟨k2, L, es, ep, t, R.keep (fun o g => k1 _ o (fun m => Nat.succ_ne_self _ (List.mem_singleton.mp m).symm) g) fun p hp => L2.isT_keep (tups p (sub p hp)) k2, sub, all⟩
  · have gi : (ks.map fun p => Value.ref p.1)[i]? = some v := by simpa using pv
    rw [List.getElem?_map] at gi
    cases g : ks[i]? with
    | none => rw [g] at gi; cases gi
    | some p =>
      rw [g] at gi
      cases gi
      exact put_tup few tups (off _ (Nat.le_refl _)) g u1 J q
  · rw [len, Nat.sub_self]
    exact ⟨⟨_, at1, rfl, rfl⟩, hl.at fun o g => kp l o g⟩
  · rw [len, Nat.sub_self]
    exact ⟨kp, [], #[], 0, _, L2.setTR_fresh at0, fun p hp => (nomatch hp), fun p hp => (nomatch (show p ∈ ([] : List (Addr × List Int)) by simpa using hp))⟩
  · obtain ⟨k0, L, es, ep, t, R, sub, all⟩ := J
    rw [len, List.take_length] at all
    have es2 : s2 = { s with heap := s2.heap, toks := s2.toks } := by
      cases s2
      have e1 := mv.gens
      have e2 := mv.drawn
      have e3 := mv.os
      cases e1
      cases e2
      cases e3
      rfl
    rw [es2]
    exact h s2.heap s2.toks L R.t0 sub all k0
end
end Pu
namespace Pu
open PySem L2
def sortSetA : D → Option (List D)
  | .tuple ds => (keysT ds).bind fun ks => if (decide (1 ≤ (ks.headD []).length) && ks.all (keyOk (ks.headD []).length)) && decide ((dedupT ks).length ≤ 62) then some ((tsort ks).map tupI) else none
  | _ => none
def rSetOfT (K : PySem.W.Frag) (P : Program) (w : World) : List V → Hp → VK → Prop := fun vs H Q => ∃ ks : List (Addr × List Int), FewT ks 62 ∧ (∀ u ∈ ks, SqT K H u.1 (u.2.map V.int)) ∧
  (∀ (L : List (Addr × List Int)) (b : Addr), (∀ u ∈ L, u ∈ ks) ∧ (∀ u ∈ ks, u.2 ∈ L.map (·.2)) → H b = none → Q (.ref b) (upd H b (SetTO P w b L))) ∧ ∃ l : Addr, SqT K H l (ks.map fun u => V.ref u.1) ∧ vs = [.ref l]
theorem cr_setOfT {X : Cx} (hc : X.calm = true) (hu : X.A.units + 8 < cLine) : CallR X (.type "set") (rSetOfT X.K X.prog X.w) := fun pins s σ H _ _ Q I rs ⟨ks, few, hk, q, l, hl, ex⟩ => by
  subst ex
  obtain ⟨_, rfl, rfl⟩ := vals1 rs
  obtain ⟨us, ru, pl, _⟩ := I.tuple hl
  obtain rfl := refs_of_vals ru
  exact set_tupsT (I.ok.hd hc) pl (fun p hp => I.isT (hk p hp)) few hu fun g tk L R sub all kp => ⟨.ref s.heap.objs.size, _, I.laid (t' := tk) kp (Nat.le_refl _) (setTO_new R), rfl, q L _ ⟨sub, all⟩ (I.hok.fresh (Nat.le_refl _))⟩
section
variable {X : Cx} {W : WE} {a : Expr} {F : En → R D} {pos p p2 q : Pos} {k : Nat}
theorem xSSetA (z : Cz X k W) (m : X.mg "sorted" = none) (m2 : X.mg "set" = none) (ha : PE X a (tV (X.kw ea) W F)) (hg : Gl X "sorted" := by rfl) (hg2 : Gl X "set" := by rfl) (he : starEach [a] X.env = [(false, eval a X.env)] := by rfl)
    (he2 : starEach [Expr.Call (.Name "set" p2) [a] [] q] X.env = [(false, eval (Expr.Call (.Name "set" p2) [a] [] q) X.env)] := by rfl) : PE X (.Call (.Name "sorted" p) [.Call (.Name "set" p2) [a] [] q] [] pos) (tN (X.kw ea) W (un1N sortSetA F)) :=
  PE_weak (pe_callB (cr_sortedT z.calm) hg m bt_sorted (pa_cons (pe_callTy (cr_setOfT z.calm (by have := z.rm.un; omega)) hg2 m2 bt_set (pa_cons ha pa_nil he) (by decide) (by decide) he) pa_nil he2) (by decide) (by decide) he2) fun σ H Q ⟨H0, Hf0, Hf, e, S, pp⟩ => ⟨H0, Hf0, Hf, e, S, pp.bind.mono fun x H1 ⟨Hf1, dd, g, r, p1⟩ => by
    obtain ⟨zz, ez, qq⟩ := p1.of_opt
    cases dd with
    | tuple ds =>
      obtain ⟨l, ys, rfl, hl, ra⟩ := r.tuple g.fh
      have ez' : ((keysT ds).bind fun ks => if (decide (1 ≤ (ks.headD []).length) && ks.all (keyOk (ks.headD []).length)) && decide ((dedupT ks).length ≤ 62) then some ((tsort ks).map tupI) else none) = some zz := ez
      cases h1 : keysT ds with
      | none => rw [h1] at ez'; cases ez'
      | some ks =>
        rw [h1] at ez'
        have ez2 : (if (decide (1 ≤ (ks.headD []).length) && ks.all (keyOk (ks.headD []).length)) && decide ((dedupT ks).length ≤ 62) then some ((tsort ks).map tupI) else none) = some zz := ez'
        by_cases hn : ((decide (1 ≤ (ks.headD []).length) && ks.all (keyOk (ks.headD []).length)) && decide ((dedupT ks).length ≤ 62)) = true
        · rw [if_pos hn] at ez2
          cases ez2
          rw [Bool.and_eq_true, Bool.and_eq_true, List.all_eq_true] at hn
          generalize (ks.headD []).length = d at hn
          have hd : 1 ≤ d := of_decide_eq_true hn.1.1
          have okk : ∀ y ∈ ks, y.length = d ∧ TS.Bd 64 y := fun y hy => keyOk_of (hn.1.2 y hy)
          rw [keysT_eq h1] at ra
          obtain ⟨ps, e1, e2, e3⟩ := ra.keys
          subst e1
          have few : FewT ps 62 := fun M nd sub => Nat.le_trans (nodup_len M (dedupT ks) nd fun y hy => (dedupT_mem ks y).mpr (e2 ▸ sub y hy)) (of_decide_eq_true hn.2)
          refine ⟨ps, few, fun u hu => ((e3 u hu).1.mono g.fh).sq, fun L s ⟨sub, all⟩ hs => ⟨s, L, d, 64, rfl, upd_same, fun u hu => (((e3 u (sub u hu)).1.mono g.fh).mono (same_upd hs)).sq, hd, fun u hu => okk _ (e2 ▸ List.mem_map.mpr ⟨u, sub u hu, rfl⟩), fun L' t pm nd _ pw ht => ?_⟩, l, hl.sq, rfl⟩
          have mem : ∀ y, y ∈ L'.map (·.2) ↔ y ∈ ks := fun y => by
            rw [(pm.map (·.2)).mem_iff, ← e2]
            constructor
            · intro hy
              obtain ⟨u, hu, eu⟩ := List.mem_map.mp hy
              exact List.mem_map.mpr ⟨u, sub u hu, eu⟩
            · intro hy
              obtain ⟨u, hu, eu⟩ := List.mem_map.mp hy
              rw [← eu]
              exact all u hu
          have em : L'.map (·.2) = tsort ks := tsort_one (fun y hy => okk y ((mem y).mp hy)) nd (tsort_nodup ks) (by rw [List.pairwise_map]; exact pw) (tsort_le ks) fun y => by rw [mem, tsort_mem]
          have g2 := Grow.lay (o := SetTO X.prog X.w s L) g.fh hs
          have g3 := Grow.lay (o := HO.lst (L'.map fun u => V.ref u.1)) g2.fh ht
          refine qq t _ Hf1 _ (g2.trans g3) (g2.hh.free ht) (g.fh.free (g2.hh.free ht)) upd_same ?_
          rw [← em]
          exact RpAll.ofKeys fun u hu => (e3 u (sub u (pm.subset hu))).2
        · rw [if_neg hn] at ez2; cases ez2
    | _ => cases ez⟩
end
/-! ### max(t), t a tuple of ints -/
def maxTD : D → Option D
  | .tuple ds => (intsOf ds).bind fun ns => (maxL ns).map PyData.int
  | _ => none
theorem most_is (n : Int) : ∀ (ns : List Int) (m : Int), ns.foldl (fun a y => if PySem.W.DatumOrd.lt a y = true then y else a) m = ns.foldl max m := by
  intro ns
  induction ns with
  | nil => intro m; rfl
  | cons y ns ih =>
    intro m
    rw [List.foldl_cons, List.foldl_cons, ih]
    congr 1
    have e : (PySem.W.DatumOrd.lt m y = true) = (m < y) := by
      show (decide (m < y) = true) = (m < y)
      rw [decide_eq_true_eq]
    simp only [e]
    split <;> omega
def rMaxT (K : Kw) : List V → Hp → VK → Prop := fun vs H Q => ∃ (a : Addr) (n : Int) (ns : List Int), vs = [.ref a] ∧ SqT K.K H a ((n :: ns).map V.int) ∧ Q (.int (ns.foldl max n)) H
theorem cr_maxT {X : Cx} (hc : X.calm = true) (hu : X.A.units + 1 < cLine) : CallR X (.builtin "max") (rMaxT (X.kw ea)) := fun pins s σ H _ _ Q I rs ⟨a, n, ns, ex, ha, q⟩ => by
  subst ex
  obtain ⟨_, rfl, rfl⟩ := vals1 rs
  obtain ⟨us, ru, pl, _⟩ := I.tuple ha
  refine PySem.W.max_tuple_datum (α := Int) (x := n) (xs := ns) (I.ok.hd hc) pl (PySem.W.HoldAll.of_ints (by simpa using ru.ints)) (by show X.A.units + 1 + 0 < cLine; omega) fun i v h' tk hi hv kp => ?_
  obtain ⟨bs, r⟩ := hv
  have e : PySem.W.maxOf n ns = ns.foldl max n := most_is 0 ns n
  rw [e] at r
  have r : Reads h' v (.int (ns.foldl max n)) bs := r
  cases r with
  | int _ t => exact ⟨.int _, H, I.kept kp, ⟨t, rfl⟩, q⟩
section
variable {X : Cx} {W : WE} {a : Expr} {F : En → R D} {pos p : Pos} {k : Nat}
theorem xMaxT (z : Cz X k W) (m : X.mg "max" = none) (ha : PE X a (tV (X.kw ea) W F)) (hg : Gl X "max" := by rfl) (he : starEach [a] X.env = [(false, eval a X.env)] := by rfl) : PE X (.Call (.Name "max" p) [a] [] pos) (tE (X.kw ea) W (un1 maxTD F)) :=
  PE_weak (pe_callB (cr_maxT (ea := ea) z.calm (by have := z.rm.un; omega)) hg m bt_max (pa_cons ha pa_nil he) (by decide) (by decide) he) fun σ H Q ⟨H0, Hf0, Hf, e, S, pp⟩ => ⟨H0, Hf0, Hf, e, S, pp.bind.mono fun x H1 ⟨Hf1, dd, g, r, p1⟩ => by
    obtain ⟨zz, ez, qq⟩ := p1.of_opt
    cases dd with
    | tuple ds =>
      obtain ⟨l, xs, rfl, hl, ra⟩ := r.tuple g.fh
      have ez' : ((intsOf ds).bind fun ns => (maxL ns).map PyData.int) = some zz := ez
      cases h1 : intsOf ds with
      | none => rw [h1] at ez'; cases ez'
      | some ns =>
        rw [h1] at ez'
        rw [intsOf_eq h1] at ra
        rw [ra.ints] at hl
        cases ns with
        | nil => cases ez'
        | cons n ns =>
          cases ez'
          exact ⟨l, n, ns, rfl, hl.sq, qq _ Hf1 H1 (Grow.refl g.fh) (.int _)⟩
    | _ => cases ez⟩
end
end Pu
/-! PuLX: a list comprehension whose element, a call, may raise -/
namespace L2
open PySem PySem.Spec PyProof.Rows
theorem frames_less {h B B' : Heap} (k : ∀ b, B.get? b = none → B'.get? b = none) : ∀ {l : List Env}, h.FunFrames B l → h.FunFrames B' l
  | [], _ => trivial
  | _ :: _, ⟨y, ⟨L, o, e, n, g, d⟩, r⟩ => ⟨y, ⟨L, o, e, k L n, g, d⟩, frames_less k r⟩
section
variable {X : Cx} {W : WX} {pins : List (Addr × Obj)} {σ : St} {H : Hp} {s s' : Shared} {C : Addr} {m : Str → Option Value} {cenv : Env} {E : XK} {u : Value}
/-- what a call lets out goes on out of a comprehension's block at C -/
theorem out_block (tk : Takes X W) (hst : X.stack = X.env :: X.outer) (hf : X.env.frame = some X.env.locals) (I : Inv X pins σ H s) (fC : FpOk X pins H C) (hn : s.heap.Ns C m) (hl : cenv.locals = C) (hfr : cenv.frame = X.env.frame)
    (hW : ∀ cls d H', E cls d H' → W cls d σ H') (c : CX X.prog X.w X.stack H s E u s') : notedBy (model X.prog X.w) X.A cenv (CompFails (model X.prog X.w) X.A X.xe cenv) u s' := by
  obtain ⟨a, B, H', cls, d, rfl, fl, hok, ub, na, os, ag, hX⟩ := c
  obtain ⟨oC, es, ep, gC, dC, rC⟩ := id hn
  have noC : ∀ vs, oC.data ≠ .fields vs := fun vs q => by rw [dC] at q; cases q
  have offC : C ∉ frs X.stack := fun z => (List.mem_cons.mp (I.stkSub C z)).elim fC.2.1 fC.2.2.1
  have bC : B.get? C = some oC := ub.keep C oC gC fC.1 offC
  have nC : H' C = none := ub.free C oC gC fC.1
  have ns' : s'.heap.Ns C m := ⟨oC, es, ep, fl.1 C oC bC, dC, rC⟩
  have fl' := fl
  rw [hst] at fl'
  have frm : X.A.frames = some (X.env :: X.outer) := by rw [I.ok.frames, hst]
  -- the ground without C
  have gone : (PySem.W.hideAll B [C]).get? C = none := PySem.W.hideAll_none [C] (List.mem_singleton.mpr rfl)
  have less : ∀ b, B.get? b = none → (PySem.W.hideAll B [C]).get? b = none := fun b n => by
    cases q : (PySem.W.hideAll B [C]).get? b with
    | none => rfl
    | some o => rw [PySem.W.of_hideAll [C] q] at n; cases n
  have inB : ∀ b o, (PySem.W.hideAll B [C]).get? b = some o → B.get? b = some o ∧ b ≠ C := fun b o q => ⟨PySem.W.of_hideAll [C] q, fun e => by rw [e, gone] at q; cases q⟩
  have toB : ∀ b o, B.get? b = some o → b ≠ C → (PySem.W.hideAll B [C]).get? b = some o := fun b o q ne => PySem.W.hideAll_get [C] q fun z => ne (List.mem_singleton.mp z)
  show wpAny _ _ (noteFrame (.ref a) cenv) _ _ s'
  rw [noteFrame_env _ hfr]
  refine HandSPX.looks_onZ Zc.steady frm hf fl' fun h1 held up1 => ?_
  obtain ⟨sl1, g1C⟩ := up1 C oC (fl.1 C oC bC) noC
  have ns1 : h1.Ns C m := ⟨_, es, ep, g1C, dC, rC⟩
  refine ⟨m, by rw [hl]; exact ns1, fun h2 m2 hn2 sb2 => ?_⟩
  rw [hl] at hn2 sb2
  have same2 : ∀ b, b ≠ C → h2.get? b = h1.get? b := fun b ne => sb2.2 b ne
  obtain ⟨st1, nb1, ff1, oe, vs, T, oT, ts, ge, ze, de, e1, nT, Te, gT, dT, e3⟩ := held
  have aC : a ≠ C := fun z => by rw [z, g1C] at ge; cases ge; exact noC vs de
  have tC : T ≠ C := fun z => by rw [z, g1C] at gT; cases gT; exact noC ts dT
  have held2 : HandSPX.HeldZ (PySem.W.hideAll B [C]) (X.env :: X.outer) a (Zc cls d) X.env.locals h2 :=
    ⟨fun b o q => (same2 b (inB b o q).2).trans (st1 b o (inB b o q).1), less a nb1, frames_less less (Heap.FunFrames.sameBut sb2 hn2 ff1),
      oe, vs, T, oT, ts, (same2 a aC).trans ge, ze, de, e1, less T nT, Te, (same2 T tC).trans gT, dT, e3⟩
  unfold PySem.passOn
  refine wpAny_bind (wpAny_field (((same2 a aC).trans ge)) de e1 ?_)
  rw [if_neg (show ¬ ((Value.ref T == Value.none) = true) from by simp), hfr, hf]
  refine wpAny_bind (HandSPX.setFlight_onZ (s := { s' with heap := h2 }) held2 fun h3 held3 up3 => wpAny_throw (tk _ _ ?_))
  -- the state without the error
  obtain ⟨G, g1, g2⟩ := restrict s'.heap fun b => ((PySem.W.hideAll B [C]).get? b).isSome || decide (b ∈ frs X.stack)
  have inG : ∀ b o, G.get? b = some o → s'.heap.get? b = some o ∧ ((∃ o', (PySem.W.hideAll B [C]).get? b = some o') ∨ b ∈ frs X.stack) := fun b o q => by
    cases y : (((PySem.W.hideAll B [C]).get? b).isSome || decide (b ∈ frs X.stack)) with
    | false => rw [g2 b y] at q; cases q
    | true =>
      rw [Bool.or_eq_true, Option.isSome_iff_exists, decide_eq_true_eq] at y
      exact ⟨(g1 b (by rw [Bool.or_eq_true, Option.isSome_iff_exists, decide_eq_true_eq]; exact y)).symm.trans q, y⟩
  have toG : ∀ b o, B.get? b = some o → b ≠ C → G.get? b = some o := fun b o q ne => (g1 b (by rw [toB b o q ne]; rfl)).trans (fl.1 b o q)
  have frG : ∀ b, b ∈ frs X.stack → G.get? b = s'.heap.get? b := fun b y => g1 b (by rw [decide_eq_true y, Bool.or_true])
  have neC : ∀ {b}, b ∉ [C] → b ≠ C := fun n z => n (List.mem_singleton.mpr z)
  have un : Un (frs X.stack) [C] H H' s.heap G := ⟨fun b o e n y z => toG b o (ub.keep b o e n y) (neC z), fun b o e _ y _ => by
      obtain ⟨sl, q⟩ := ub.slot b o e y
      exact ⟨sl, (frG b y).trans q⟩, fun b o e n _ => ub.free b o e n, fun b o e z => by
      by_cases y : b ∈ frs X.stack
      · obtain ⟨sl, q⟩ := ub.slot b o e y
        exact ⟨_, (frG b y).trans q⟩
      · obtain ⟨o', q⟩ := ub.there b o e y
        exact ⟨o', toG b o' q (neC z)⟩, ub.tups, ub.frzs, ub.tbls⟩
  have hokG : HOk X.prog X.w H' (PySem.W.hideAll B [C]) := fun b o q => (hok b o q).stay (fun c v hc r => toB c v r fun e => by
      rcases hc with z | z
      · rw [← z, e, nC] at q; cases q
      · rw [e, nC] at z; cases z) (fun _ r => r) fun _ _ r => r
  have I2 : Inv X pins σ H' { s with heap := G, gens := s'.gens, drawn := s'.drawn, toks := s'.toks } := I.call (ch := [C]) un (hokG.kept fun b o q => toG b o (inB b o q).1 (inB b o q).2) ag fun b hb => by
    rw [List.mem_singleton.mp hb]
    exact ⟨fC.2.2.2.1, fC.2.1, fC.2.2.2.2.1, fC.2.2.2.2.2⟩
  refine ⟨a, PySem.W.hideAll B [C], _, pins, σ, H', cls, d, rfl, I2, fun b o q y => ?_, fun b o q nf => ?_, ?_, na, os, ag, hW _ _ _ hX⟩
  · obtain ⟨q', alt⟩ := inG b o q
    rcases alt with ⟨o', z⟩ | z
    · have w := fl.1 b o' (inB b o' z).1
      rw [q'] at w
      cases w
      exact z
    · exact absurd z y
  · obtain ⟨q', alt⟩ := inG b o q
    have ne : b ≠ C := by
      rcases alt with ⟨o', z⟩ | z
      · exact (inB b o' z).2
      · exact fun e => offC (e ▸ z)
    obtain ⟨sl, w1⟩ := up1 b o q' nf
    have w2 := (same2 b ne).trans w1
    obtain ⟨sl3, w3⟩ := up3 b _ w2 nf
    exact ⟨sl3, w3⟩
  · rw [hst]
    exact .inr (.inr held3)
end
section
variable {X : Cx} {W : WX}
/-- [elt for target in iter], elt by a reading of its own for each σ -/
def tLx (wi : TI) (g : TG) (te : St → TE) (vs : List Nat) : TE := fun σ H Q => wi σ H fun J H1 => ∀ D, H1 D = none → ∃ P : Nat → Nat → Hp → Prop, (∃ n, P 0 n (upd H1 D (.lst []))) ∧ ∀ i n H2, P i n H2 →
  (J.stop i H2 ∧ Q (.ref D) H2) ∨ (J.go i H2 ∧ ∀ x H3, J.yld i H2 x H3 → g x (wipe σ vs) H3 fun σ4 H4 => wipe σ4 vs = wipe σ vs ∧ te σ σ4 H4 fun y H5 => ∃ acc, H5 D = some (.lst acc) ∧ acc.length < sizeLine ∧ ∃ n', n' < n ∧ P (i + 1) n' (upd H5 D (.lst (acc ++ [y]))))
theorem pe_lx {elt tg iter : Expr} {scope : Scope} {own : List (Str × Nat)} {pos : Pos} {wi : TI} {g : TG} {te : St → TE} (hc : X.calm = true) (hN : X.N.Nodup) (tk : Takes X W) (hst : X.stack = X.env :: X.outer) (hf : X.env.frame = some X.env.locals) (hi : PI X tg iter wi) (ok : BlkOk X.N X.env.scope scope own)
    (hg : ∀ (s : Shared) (H : Hp) (C : Addr) (cl : List (Str × Addr)) (fp : List Addr), PG (X.blk s H scope (compEnvC scope cl C X.env) fp) tg g)
    (he : ∀ (s : Shared) (H : Hp) (C : Addr) (cl : List (Str × Addr)) (fp : List Addr) (xe : Value → Shared → Prop) (σ : St), (∀ τ, PassesAt (CX X.prog X.w) ((X.blk s H scope (compEnvC scope cl C X.env) fp).wish xe) τ fun cls d H' => W cls d σ H') → PE ((X.blk s H scope (compEnvC scope cl C X.env) fp).wish xe) elt (te σ))
    (hs : ∀ x, foldedSetIterable iter X.env x = pure x := by intro _; rfl) : PE X (.ListComp elt [⟨tg, iter, [], 0⟩] scope pos) (tLx wi g te (own.map (·.2))) := ⟨fun pins s σ H Q I h => by
  rw [eval_ListComp]
  have cls : ∀ y ∈ scope.names, y.2 = .free → ∃ c, X.env.cells.lookup y.1 = some c := fun y hy e => (ok.free y hy e).elim (fun k => I.ok.has _ (.inl k)) fun k => I.ok.has _ (.inr k)
  refine comprehension_at (use := none) rfl hs (closure_ok cls) ok.kind (fun y hy e => by rw [ok.uniq y hy, e]) (thn (hi.run pins s σ H _ I h) fun xv s1 hx => thn hx fun itv s2 ⟨it, fp, tn, J, H2, e, I2, T, st2, f2, q⟩ => ?_)
  subst e
  refine wpAny_newObj_type (newEnv_comp ?_) (Nat.zero_le sizeLine)
  have hDn : H2 s2.heap.objs.size = none := I2.hok.fresh (Nat.le_refl _)
  obtain ⟨P, ⟨n0, p0⟩, turn⟩ := q _ hDn
  -- the list
  obtain ⟨s3, es3⟩ : ∃ s3 : Shared, s3 = { s2 with heap := s2.heap.push { cls := .type "list", data := .seq ([] : List Value).toArray } } := ⟨_, rfl⟩
  have kp3 : ∀ b o, s2.heap.get? b = some o → s3.heap.get? b = some o := fun b o y => by rw [es3]; exact Heap.get?_push_of_some _ y
  have sz3 : s3.heap.objs.size = s2.heap.objs.size + 1 := by rw [es3]; exact Heap.size_push ..
  have I3 : Inv X pins σ (upd H2 s2.heap.objs.size (.lst [])) s3 := by
    rw [es3]
    exact I2.laid (t' := s2.toks) (fun b o y => Heap.get?_push_of_some _ y) (Nat.le_refl _) ⟨Nat.zero_le _, [], 0, .nil, Heap.get?_push_size _ rfl⟩
  have old : ∀ b ∈ fp, b < s2.heap.objs.size := fun b hb => let ⟨_, y, _⟩ := T.obj _ _ st2 b hb; Heap.lt_size y
  have f3 : ∀ b ∈ fp, FpOk X pins (upd H2 s2.heap.objs.size (.lst [])) b ∧ b < s3.heap.objs.size := fun b hb => ⟨⟨by rw [upd_ne (Nat.ne_of_lt (old b hb))]; exact (f2 b hb).1, (f2 b hb).2⟩, by rw [sz3]; exact Nat.lt_succ_of_lt (old b hb)⟩
  have st3 : tn 0 s3.heap := T.keep _ _ _ st2 fun b _ o y => kp3 b o y
  have IB := block_start I3 ok hN f3
  generalize eH : upd H2 s2.heap.objs.size (.lst []) = H3 at *
  generalize eD : s2.heap.objs.size = D at *
  rw [← es3]
  show codeAny _ _ (.compStart (.ListComp elt [⟨tg, iter, [], 0⟩] scope pos) 0 (.ref it) (.ref D) (compEnvC scope (cellsFrom (s3.heap.objs.size + 1) scope.names (cloFrom X.env.cells scope.names [])) s3.heap.objs.size X.env)) (compEnds (model X.prog X.w) X.A X.xe none (EP X pins σ Q) (.ref D) (compEnvC scope (cellsFrom (s3.heap.objs.size + 1) scope.names (cloFrom X.env.cells scope.names [])) s3.heap.objs.size X.env)) { s3 with heap := pushCells (s3.heap.push { cls := .type "dict", data := .dict #[] }) scope.names }
  have pg := hg s3 H3 s3.heap.objs.size (cellsFrom (s3.heap.objs.size + 1) scope.names (cloFrom X.env.cells scope.names [])) fp
  have pe := he s3 H3 s3.heap.objs.size (cellsFrom (s3.heap.objs.size + 1) scope.names (cloFrom X.env.cells scope.names [])) fp
  obtain ⟨ce, ece⟩ : ∃ ce, ce = compEnvC scope (cellsFrom (s3.heap.objs.size + 1) scope.names (cloFrom X.env.cells scope.names [])) s3.heap.objs.size X.env := ⟨_, rfl⟩
  have cl : ce.locals = s3.heap.objs.size := by rw [ece]; rfl
  have cf : ce.frame = X.env.frame := by rw [ece]; rfl
  rw [← ece] at IB pg pe ⊢
  obtain ⟨s4, es4⟩ : ∃ s4 : Shared, s4 = { s3 with heap := pushCells (s3.heap.push { cls := .type "dict", data := .dict #[] }) scope.names } := ⟨_, rfl⟩
  rw [← es4] at IB ⊢
  have st4 : tn 0 s4.heap := T.keep _ _ _ st3 fun b _ o y => by rw [es4]; exact pushCells_keeps _ _ _ _ (Heap.get?_push_of_some _ y)
  -- back in the def
  have back : ∀ {pl : List (Addr × Obj)} {τ : St} {H' : Hp} {s' : Shared}, Inv (X.blk s3 H3 scope ce fp) pl τ H' s' → Inv X pins σ H' s' ∧ FpOk X pins H' s3.heap.objs.size ∧ ∃ m, s'.heap.Ns s3.heap.objs.size m := fun {pl τ H' s'} J' => by
    have free : H' ce.locals = none := J'.free
    rw [cl] at free
    obtain ⟨m, hn, _⟩ := J'.loc
    have hn : s'.heap.Ns ce.locals m := hn
    rw [cl] at hn
    exact ⟨I3.call' (ch := fp) J'.os J'.base J'.hok J'.bare fun b hb => ⟨(f3 b hb).1.2.2.2.1, (f3 b hb).1.2.1, (f3 b hb).1.2.2.2.2.1, (f3 b hb).1.2.2.2.2.2⟩, I3.fpOk (Nat.le_refl _) free, m, hn⟩
  have pass : ∀ τ, PassesAt (CX X.prog X.w) ((X.blk s3 H3 scope ce fp).wish (notedBy (model X.prog X.w) X.A ce (CompFails (model X.prog X.w) X.A X.xe ce))) τ fun cls d H' => W cls d σ H' := fun τ pl H' s' u s'' J' c => by
    obtain ⟨IX, fC, m, hn⟩ := back J'.unwish
    exact out_block tk hst hf IX fC hn cl cf (fun _ _ _ y => y) c
  have pe' := pe _ σ pass
  have mine : ∀ {τ : St} {H' : Hp} {s' : Shared}, Inv (X.blk s3 H3 scope ce fp) [] τ H' s' → (∀ b ∈ fp, H' b = none) → ∀ b ∈ fp, FpOk (X.blk s3 H3 scope ce fp) [] H' b := fun J' n b hb => ⟨n b hb, (J'.ok.exf b hb).1, J'.ok.exfs b hb, .inl hb, (J'.ok.exf b hb).2, fun p hp => nomatch hp⟩
  have loop : codeAny (model X.prog X.w) X.A (.compLoop (.ListComp elt [⟨tg, iter, [], 0⟩] scope pos) 0 (.ref it) (.ref D) ce) (compEnds (model X.prog X.w) X.A X.xe none (EP X pins σ Q) (.ref D) ce) s4 := by
    refine compLoop_any (fun n s' => ∃ i H', Inv (X.blk s3 H3 scope ce fp) [] (wipe σ (own.map (·.2))) H' s' ∧ tn i s'.heap ∧ (∀ b ∈ fp, H' b = none) ∧ P i n H') (fun n s5 ⟨i, H5, I5, st5, n5, p5⟩ => ?_) n0 ⟨0, H3, IB, st4, fun b hb => (f3 b hb).1.1, p0⟩
    rcases turn i n H5 p5 with ⟨stop, fin⟩ | ⟨go, step⟩
    · refine thnF (T.done (X.blk s3 H3 scope ce fp) rfl rfl rfl hc i [] s5 _ H5 (fun _ _ => False) I5 (mine I5 n5) st5 stop) fun r s6 ⟨er, I6⟩ => ?_
      subst er
      obtain ⟨IX, fC, m, hn⟩ := back I6
      refine ⟨m, by rw [cl]; exact hn, fun h' sb => ?_⟩
      rw [cl] at sb
      exact ⟨.ref D, H5, IX.turned (t' := s6.toks) (fun b o ne y => (sb.2 b ne).trans y) fC.1 fC.2.1 fC.2.2.2.1 fC.2.2.2.2.1 fC.2.2.2.2.2, rfl, fin⟩
    · refine thnF (T.item (X.blk s3 H3 scope ce fp) rfl rfl rfl hc i [] s5 _ H5 (fun _ _ => False) I5 (mine I5 n5) st5 go) fun r s6 ⟨u, er, h6⟩ => ?_
      subst er
      refine thnF h6 fun _ s7 ⟨x, H7, I7, r7, yl7, st7, n7⟩ => ?_
      have I7p := I7.pinned (mine I7 n7) (T.obj _ _ st7)
      refine thnF (pg.run _ s7 _ H7 x u _ I7p r7 (step x H7 yl7)) fun _ s8 ⟨σ8, H8, I8, w8, q8⟩ => ?_
      refine wpAny_tests_nil ?_
      rw [if_pos rfl]
      refine wpAny_mono (pe'.run _ s8 σ8 H8 _ (I8.wish _) q8) (fun z s9 ⟨y, H9, I9, r9, acc, hD9, hz9, n', lt', p9⟩ => ?_) fun _ _ y => y
      refine app_ok (X := X.blk s3 H3 scope ce fp) I9.unwish hD9 hz9 r9 fun s10 I10 => ?_
      have pin : ∀ b ∈ fp, ∀ o, s7.heap.get? b = some o → s10.heap.get? b = some o ∧ (upd H9 D (.lst (acc ++ [y]))) b = none := fun b hb o yy =>
        let k := I10.pin (b, o) (List.mem_append_right _ (List.mem_append_right _ (mem_pinsAt hb yy)))
        ⟨k.1, k.2.1⟩
      refine ⟨n', lt', i + 1, _, (I10.unpinned (pins := [])).weak (by rw [← w8, wipe_length]) (fun j v yy => ?_), T.keep _ _ _ st7 fun b hb o yy => (pin b hb o yy).1, fun b hb => ?_, p9⟩
      · rw [← w8] at yy
        exact (wipe_some yy).1
      · obtain ⟨o, yy, _⟩ := T.obj _ _ st7 b hb
        exact (pin b hb o yy).2
  exact codeAny_compStart_list loop (T.self X.A 0 _ _ _ st4 loop)⟩
end
end L2
namespace Pu
open PySem L2
def lcX (f : Tg) (E : En → R D) (e : En) : List D → R (List D)
  | [] => .ok []
  | d :: ds => (opt (f d e)).bind fun e1 => (E e1).bind fun x => (lcX f E e ds).bind fun xs => .ok (x :: xs)
/-- [E for f in L], E may raise -/
def xlx (vs : List Nat) (L : En → R (List D)) (f : Tg) (E : En → R D) : En → R (List D) := fun e => (L e).bind fun ds => if ds.length ≤ many then lcX f E (wipeE e vs) ds else .bad
def andL (out : List D) (r : R (List D)) : R (List D) := r.bind fun xs => .ok (out ++ xs)
section
variable {K : Kw} {W : WE} {vs is : List Nat} {L : En → R (List D)} {f : Tg} {E : En → R D}
theorem tLx_of (hs : ∀ i ∈ is, i ∈ vs) {σ : L2.St} {H : Hp} {Q : VK} (h : tN K W (xlx vs L f E) σ H Q) : tLx (tI K W false L) (tG K is f) (fun σ => tE K (fun c _ H' => W c σ H') E) vs σ H Q := by
  obtain ⟨H0, Hf0, Hf, e, S, p⟩ := h
  refine ⟨H0, Hf0, Hf, e, S, ?_⟩
  unfold xlx at p
  revert p
  cases L e with
  | ex c => exact fun p => p
  | bad => exact fun p => p
  | ok ds =>
    intro p J Hf1 H1 g w D hD
    have p1 : PoN K W Q σ Hf1 H1 (if ds.length ≤ many then lcX f E (wipeE e vs) ds else .bad) := p.grow g
    by_cases hm : ds.length ≤ many
    · rw [if_pos hm] at p1
      have S1 := S.grow g
      refine ⟨fun i n H2 => n = ds.length - i ∧ i ≤ ds.length ∧ ∃ Hf2 acc out, Grow Hf1 H1 Hf2 H2 ∧ Hf2 D = none ∧ H2 D = some (.lst acc) ∧ RpAll K Hf2 acc out ∧ out.length ≤ i ∧ andL out (lcX f E (wipeE e vs) (ds.drop i)) = lcX f E (wipeE e vs) ds,
        ⟨ds.length, rfl, Nat.zero_le _, Hf1, [], [], Grow.lay g.fh hD, g.fh.free hD, upd_same, .nil, Nat.le_refl _, ?_⟩, ?_⟩
      · rw [List.drop_zero]
        cases lcX f E (wipeE e vs) ds <;> rfl
      · rintro i n H2 ⟨rfl, hi, Hf2, acc, out, g2, nD, hacc, ra, hlo, hrest⟩
        by_cases hlt : i < ds.length
        · refine .inr ⟨w.go i H2 g2.hh hlt, fun x H3 hy => ?_⟩
          have hdr : ds.drop i = ds[i] :: ds.drop (i + 1) := List.drop_eq_getElem_cons hlt
          rw [hdr] at hrest
          obtain ⟨Hf3, g3, rx⟩ := w.yl i H2 Hf2 H3 x ds[i] g2.hh g2.ff g2.fh (List.getElem?_eq_getElem hlt) hy
          have g13 := g2.trans g3
          have S3 := (S1.wipe vs).grow g13
          cases h1 : f ds[i] (wipeE e vs) with
          | none =>
            have z : lcX f E (wipeE e vs) (ds[i] :: ds.drop (i + 1)) = .bad := by unfold lcX; rw [h1]; rfl
            rw [z] at hrest
            rw [← hrest] at p1
            exact p1.elim
          | some e1 =>
            have z : lcX f E (wipeE e vs) (ds[i] :: ds.drop (i + 1)) = (E e1).bind fun x => (lcX f E (wipeE e vs) (ds.drop (i + 1))).bind fun xs => .ok (x :: xs) := by
              show (opt (f ds[i] (wipeE e vs))).bind _ = _
              rw [h1]
              rfl
            rw [z] at hrest
            refine ⟨H0, Hf0, Hf3, wipeE e vs, ds[i], e1, S3, rx, h1, fun σ2 l2 o2 S4 => ⟨wipe_eq l2 o2 hs, H0, Hf0, Hf3, e1, S4, ?_⟩⟩
            have hD3 := g3.hh _ _ hacc
            have nD3 := g3.nf _ _ hacc rfl nD
            cases h3 : E e1 with
            | bad =>
              rw [h3] at hrest
              rw [← hrest] at p1
              exact p1.elim
            | ex c =>
              rw [h3] at hrest
              rw [← hrest] at p1
              exact fun Hf' H' g4 => p1 Hf' H' (g13.trans g4)
            | ok y =>
              rw [h3] at hrest
              intro v Hf5 H5 g5 rv
              have hD5 := g5.hh _ _ hD3
              have nD5 := g5.nf _ _ hD3 rfl nD3
              refine ⟨acc, hD5, many_lt (by rw [ra.length]; omega), ds.length - (i + 1), by omega, rfl, hlt, Hf5, acc ++ [v], out ++ [y], ⟨Same.upd (g13.trans g5).hh hD, (g13.trans g5).ff, Same.upd g5.fh nD5, (g13.trans g5).nf⟩, nD5, upd_same, ((ra.mono g3.ff).mono g5.ff).snoc rv, ?_, ?_⟩
              · rw [List.length_append, List.length_singleton]; omega
              · rw [← hrest]
                show andL (out ++ [y]) (lcX f E (wipeE e vs) (ds.drop (i + 1))) = andL out ((lcX f E (wipeE e vs) (ds.drop (i + 1))).bind fun xs => .ok (y :: xs))
                cases lcX f E (wipeE e vs) (ds.drop (i + 1)) with
                | ok xs => show R.ok (out ++ [y] ++ xs) = R.ok (out ++ y :: xs); rw [List.append_assoc]; rfl
                | ex c => rfl
                | bad => rfl
        · have hi' : i = ds.length := by omega
          subst hi'
          rw [List.drop_length] at hrest
          have hrest : R.ok (out ++ []) = lcX f E (wipeE e vs) ds := hrest
          rw [List.append_nil] at hrest
          rw [← hrest] at p1
          exact .inl ⟨w.st H2 g2.hh, p1 D acc Hf2 H2 g2 hD nD hacc ra⟩
    · rw [if_neg hm] at p1
      exact p1.elim
end
section
variable {X : Cx} {W : WE} {pos p : Pos} {k j : Nat}
theorem xLx {elt tg iter : Expr} {scope : Scope} {own : List (Str × Nat)} {is : List Nat} {L : En → R (List D)} {f : Tg} {E : En → R D} (z : Cz X k W) (hst : X.stack = X.env :: X.outer) (hf : X.env.frame = some X.env.locals) (hi : PI X tg iter (tI (X.kw ea) W false L)) (ok : BlkOk X.N X.env.scope scope own) (his : ∀ i ∈ is, i ∈ own.map (·.2))
    (hg : ∀ (s : Shared) (H : Hp) (C : Addr) (cl : List (Str × Addr)) (fp : List Addr), PG (X.blk s H scope (compEnvC scope cl C X.env) fp) tg (tG (X.kw ea) is f))
    (he : ∀ (s : Shared) (H : Hp) (C : Addr) (cl : List (Str × Addr)) (fp : List Addr) (xe : Value → Shared → Prop) (σ : L2.St), (∀ τ, PassesAt (L2.CX X.prog X.w) ((X.blk s H scope (compEnvC scope cl C X.env) fp).wish xe) τ fun cls d H' => wx X.mg W cls d σ H') → PE ((X.blk s H scope (compEnvC scope cl C X.env) fp).wish xe) elt (tE (X.kw ea) (fun c _ H' => W c σ H') E))
    (hs : ∀ x, foldedSetIterable iter X.env x = pure x := by intro _; rfl) : PE X (.ListComp elt [⟨tg, iter, [], 0⟩] scope pos) (tN (X.kw ea) W (xlx (own.map (·.2)) L f E)) :=
  PE_weak (pe_lx z.calm z.nd z.tk hst hf hi ok hg he hs) fun σ H Q h => tLx_of his h
/-- f(e, ..), what it lets out by a wish of another place -/
theorem xC1P {σ : L2.St} {a : Expr} {es : List Expr} {L : En → R (List D)} {x : Str} {ps : List Str} {Fn : List D → R D} (G : OkF X.prog X.w X.K X.mg X.base x ps j Fn) (rm : Room k X.A) (hj : j ≤ k) (hx : ∀ τ, PassesAt (L2.CX X.prog X.w) X τ fun cls d H' => wx X.mg W cls d σ H') (ha : PA X (a :: es) (tA (X.kw 0) (fun c _ H' => W c σ H') L)) (hg : Gl X x := by rfl)
    (hdb : (x == ("__debug__" : Str)) = false := by decide) (he : starEach (a :: es) X.env = (false, eval a X.env) :: starEach es X.env := by rfl) (hpl : (backTo pos (starEach es X.env)).any (·.1) = false := by rfl) : PE X (.Call (.Name x p) (a :: es) [] pos) (tE (X.kw 0) (fun c _ H' => W c σ H') (xcall ps.length Fn L)) := by
  obtain ⟨f, fd, G, kp, b, m, _⟩ := G
  exact PE_weak (pe_callSD (dvs := []) (ds := []) (E := fun _ cls d H' => wx X.mg W cls d σ H') G (rm.mono hj) hg m kp b .nil hx ha hdb he hpl) fun σ' H Q ⟨H0, Hf0, Hf, e, S, q⟩ => ⟨H0, Hf0, Hf, e, S, q.bindA.mono fun vs H1 ⟨Hf1, ds, g, r, q1⟩ => by
    rw [List.append_nil]
    by_cases hn : ds.length = ps.length
    · rw [if_pos hn] at q1
      refine ⟨Hf1, ds, g.fh, r, hn, ?_⟩
      revert q1
      cases Fn ds with
      | ok d => exact fun q1 => q1
      | ex c => exact fun q1 cv Hf' H' hc g' => ⟨rfl, c, hc, q1 Hf' H' g'⟩
      | bad => exact fun q1 => q1
    · rw [if_neg hn] at q1; exact q1.elim⟩
end
end Pu
/-! PuRP: x.replace(y, z, 1), y and z written texts, where a token is out -/
namespace Pu
open PySem PySem.Spec PyProof.Rows PySem.Builtin PySem.Builtin.Str
/-- what the first y of x is made -/
def rep1 (x y z : PySem.Str) : PySem.Str := if (occurrences x y 0 x.length 1).isEmpty = true then x else glued z (partsBetween x (occurrences x y 0 x.length 1) y.length)
def pieces (x : PySem.Str) (l : List Nat) (n : Nat) : List PySem.Str := partsBetween x l n
theorem rep1_cuts (x y : PySem.Str) : (occurrences x y 0 x.length 1) = [] ∨ ∃ k, occurrences x y 0 x.length 1 = [k] := by
  have h := StrLaws.occ_length_le x y 0 x.length 1
  match q : occurrences x y 0 x.length 1 with
  | [] => exact .inl rfl
  | [k] => exact .inr ⟨k, rfl⟩
  | _ :: _ :: _ => rw [q] at h; simp at h
theorem rep1_list (x y z : PySem.Str) : rep1 x y z = x ∨ ∃ a b c d : Nat, (rep1 x y z).cps.toList = (x.cps.extract a b).toList ++ z.cps.toList ++ (x.cps.extract c d).toList := by
  unfold rep1
  rcases rep1_cuts x y with h | ⟨k, h⟩
  · left; rw [h]; rfl
  · right
    rw [h, if_neg (by simp)]
    refine ⟨0, k, k + y.length, x.length, ?_⟩
    show (((x.cps.extract 0 k) ++ z.cps) ++ (x.cps.extract (k + y.length) x.length)).toList = _
    rw [Array.toList_append, Array.toList_append]
theorem ext_len (a : Array Nat) (i j : Nat) : (a.extract i j).toList.length ≤ a.toList.length := by
  rw [Array.length_toList, Array.length_toList, Array.size_extract]
  omega
theorem rep1_len (x y z : PySem.Str) : (rep1 x y z).cps.toList.length ≤ 2 * x.cps.toList.length + z.cps.toList.length := by
  rcases rep1_list x y z with h | ⟨a, b, c, d, h⟩
  · rw [h]; omega
  · rw [h, List.length_append, List.length_append]
    have := ext_len x.cps a b
    have := ext_len x.cps c d
    omega
theorem rep1_mem (x y z : PySem.Str) : ∀ n ∈ (rep1 x y z).cps.toList, n ∈ x.cps.toList ∨ n ∈ z.cps.toList := fun n hn => by
  have ex : ∀ i j, n ∈ (x.cps.extract i j).toList → n ∈ x.cps.toList := fun i j h => by
    rw [Array.toList_extract] at h
    exact List.mem_of_mem_drop (List.mem_of_mem_take h)
  rcases rep1_list x y z with h | ⟨a, b, c, d, h⟩
  · rw [h] at hn; exact .inl hn
  · rw [h, List.mem_append, List.mem_append] at hn
    rcases hn with (hn | hn) | hn
    · exact .inl (ex _ _ hn)
    · exact .inr hn
    · exact .inl (ex _ _ hn)
theorem gives_ite {c : Prop} [Decidable c] {f g : Sem PySem.Fin} {m : Made} (hf : c → Gives f m) (hg : ¬ c → Gives g m) : Gives (if c then f else g) m := by
  by_cases h : c
  · rw [if_pos h]; exact hf h
  · rw [if_neg h]; exact hg h
theorem gives_rep1 (x y z : PySem.Str) (t u v r : Tok) (n0 : (u == 0 || v == 0) = false) (nn : (u == v) = false) (other : (y == z) = false) (long : (y.length == 0) = false) (fit : tooLong (x.length + (occurrences x y 0 x.length 1).length * z.length) = false) :
    Gives («str.replace» ⟨[.str x t, .str y u, .str z v, .int 1 r], []⟩) (if (occurrences x y 0 x.length 1).isEmpty = true then .val (.str x t) else .str (glued z (partsBetween x (occurrences x y 0 x.length 1) y.length))) := by
  show Gives (ite (((occurrences x y 0 x.length 1).isEmpty || _) = true) _ _) _
  refine gives_ite (fun c => ?_) fun c => ?_
  · rw [long, Bool.false_and, Bool.or_false] at c
    rw [if_pos c]
    exact .rule (.of_eq rfl)
  · rw [long, Bool.false_and, Bool.or_false] at c
    rw [if_neg c, isSame_str_other y z u v n0 nn other]
    show Gives (ite (tooLong _ = true) _ _) _
    exact gives_ite (fun d => nomatch fit.symm.trans d) fun _ => .of_eq rfl
theorem call_rep1 {P : Program} {w : World} {A : Around} {E : Value → Shared → Prop} {s : Shared} {x y z : PySem.Str} {t u v r : Tok} {Q : Value → Shared → Prop} (hu : u ≠ 0) (hv : v ≠ 0) (huv : u ≠ v) (hyz : (y == z) = false) (hy : (y.length == 0) = false) (hx : x.length ≤ 1000000) (hz : z.length ≤ 1000)
    (q : ∀ t' k, Q (.str (rep1 x y z) t') { s with toks := k }) : wpAny (model P w) A (call (.builtin "str.replace") [.str x t, .str y u, .str z v, .int 1 r]) Q E s := by
  have few := StrLaws.occ_length_le x y 0 x.length 1
  have hl : tooLong (x.length + (occurrences x y 0 x.length 1).length * z.length) = false := by
    have : (occurrences x y 0 x.length 1).length * z.length ≤ 1 * z.length := Nat.mul_le_mul_right _ few
    unfold tooLong sizeLine
    exact decide_eq_false (by omega)
  refine call_gives PySem.F.slot_str_replace (typeIs_str _ _ _) PySem.F.entry_str_replace (PySem.F.args_str_replace_4 _ _ _ _) (gives_rep1 x y z t u v r (by simp [hu, hv]) (by simp [huv]) hyz hy hl) ?_
  have ln := rep1_len x y z
  unfold rep1 at q ln
  cases hc : (occurrences x y 0 x.length 1).isEmpty
  · rw [hc] at q ln
    simp only [Bool.false_eq_true, if_false] at q ln ⊢
    refine ⟨?_, q _ _⟩
    have e1 : (glued z (partsBetween x (occurrences x y 0 x.length 1) y.length)).length = (glued z (partsBetween x (occurrences x y 0 x.length 1) y.length)).cps.toList.length := (Array.length_toList).symm
    have e2 : x.cps.toList.length = x.length := Array.length_toList
    have e3 : z.cps.toList.length = z.length := Array.length_toList
    rw [e1]
    unfold sizeLine
    omega
  · rw [hc] at q
    simp only [if_true] at q ⊢
    exact q t s.toks
end Pu
namespace L2
open PySem PySem.Spec PyProof.Rows
section
variable {X : Cx} {o a e : Expr} {es : List Expr} {te to : TE} {ta : TA} {y z : PySem.Str} {j k l : Nat} {c0 c1 c2 apos pos : Pos}
def tRep1 (to : TE) (y z : PySem.Str) : TE := fun σ H Q => to σ H fun v H1 => ∃ x, v = .str x ∧ x.length ≤ 1000000 ∧ Q (.str (Pu.rep1 x y z)) H1
theorem pet_rep1 (ho : PE X o to) (hyz : (y == z) = false := by decide) (hy : (y.length == 0) = false := by decide) (hz : z.length ≤ 1000 := by decide)
    (hst : starEach [.Constant (.str y) j c0, .Constant (.str z) k c1, .Constant (.int 1) l c2] X.env = [(false, eval (.Constant (.str y) j c0) X.env), (false, eval (.Constant (.str z) k c1) X.env), (false, eval (.Constant (.int 1) l c2) X.env)] := by rfl)
    (hbase : attributeBase o "replace" X.env (eval o X.env) = eval o X.env := by rfl) (hline : (apos.endLine == pos.line) = true := by rfl) : PET X (.Call (.Attribute o "replace" apos) [.Constant (.str y) j c0, .Constant (.str z) k c1, .Constant (.int 1) l c2] [] pos) (tRep1 to y z) := by
  intro pins s σ H Q h0 I h
  refine wpAny_Call_method_lateS hbase (by rw [hst]; rfl) hline ?_
  rw [hst]
  refine wpAny_mono (PySem.wpAny_toks (ho.run pins s σ H _ I h)) (fun v s1 ⟨up, v', H1, I1, r1, x, e1, hx, q⟩ => ?_) fun _ _ n => n.2
  subst e1
  obtain ⟨tx, e2⟩ := r1
  subst e2
  have slot := PySem.F.slot_str_replace
  have noRef : ∀ b, Value.str x tx = .ref b → ∃ ob, s1.heap.get? b = some ob ∧ ob.dict = none := fun _ n => by cases n
  refine ⟨"str", "str.replace", PySem.F.plainAttrs_str, slot, PySem.F.type_str_replace, typeIs_str s1 x tx, noRef, Calls.callWith_builtin rfl (Calls.evalArgs_plain ?_)⟩
  refine Calls.spliced_cons ?_
  refine Calls.Constant_str (k := j) (pos := c0) (Calls.spliced_cons (Calls.Constant_str (k := k) (pos := c1) (Calls.spliced_cons (wpAny_Constant_int (i := 1) (k := l) (pos := c2) (Calls.spliced_nil ?_)))))
  have pos1 : 1 ≤ s1.toks := Nat.le_trans h0 up
  exact Pu.call_rep1 (Nat.ne_of_gt pos1) (Nat.succ_ne_zero _) (Nat.ne_of_lt (Nat.lt_succ_self _)) hyz hy hx hz fun t' n => ⟨.str (Pu.rep1 x y z), H1, I1.tok n, ⟨t', rfl⟩, q⟩
/-- behind it a token is out -/
def PEp (X : Cx) (e : Expr) (t : TE) : Prop := ∀ pins s σ H Q, Inv X pins σ H s → t σ H Q → wpAny (model X.prog X.w) X.A (eval e X.env) (fun v z => 1 ≤ z.toks ∧ EP X pins σ Q v z) X.xe s
theorem pep_opC {op : Operator} {r : R2} {c : PySem.Str} (ho : OpR X (binaryOp op) r) (ha : PE X a te) : PEp X (.BinOp a op (.Constant (.str c) j c0) pos) (tOp r te (tC (.str c))) := fun pins s σ H Q I h =>
  wpAny_BinOp (thn (ha.run pins s σ H _ I h) fun v s1 ⟨x, H1, I1, r1, q1⟩ => Calls.Constant_str (wpAny_mono (PySem.wpAny_toks_of (n := 1) (s := { s1 with toks := s1.toks + 1 }) (Nat.le_add_left 1 s1.toks) (ho pins { s1 with toks := s1.toks + 1 } σ H1 x (.str c) v (.str c s1.toks) Q (I1.tok _) r1 ⟨_, rfl⟩ q1)) (fun _ _ y => y) fun _ _ y => y.2))
theorem pa_consP (ha : PEp X e te) (hr : PAT X es ta) (hs : starEach (e :: es) X.env = (false, eval e X.env) :: starEach es X.env := by rfl) : PA X (e :: es) (tCons te ta) := ⟨fun pos pins s σ H Q I h => by
  rw [hs]
  exact Calls.spliced_cons (thn (ha pins s σ H _ I h) fun v s1 ⟨up, x, H1, I1, r1, q1⟩ => thn (hr pos pins s1 σ H1 _ up I1 q1) fun us s2 ⟨xs, H2, I2, r2, q2⟩ => ⟨x :: xs, H2, I2, .cons r1 r2, q2⟩)⟩
end
end L2
namespace Pu
open PySem L2
section
variable {X : Cx} {W : WE} {a b : Expr} {es : List Expr} {F G : En → R D} {L : En → R (List D)} {pos apos c0 c1 c2 : Pos} {y z c : PySem.Str} {j k l : Nat}
def rep1D (y z : PySem.Str) : D → Option D
  | .str x => if x.length ≤ 1000000 then some (.str (rep1 x y z)) else none
  | _ => none
theorem tRep (ha : PE X a (tE (X.kw ea) W F)) (hyz : (y == z) = false := by decide) (hy : (y.length == 0) = false := by decide) (hz : z.length ≤ 1000 := by decide)
    (hst : starEach [.Constant (.str y) j c0, .Constant (.str z) k c1, .Constant (.int 1) l c2] X.env = [(false, eval (.Constant (.str y) j c0) X.env), (false, eval (.Constant (.str z) k c1) X.env), (false, eval (.Constant (.int 1) l c2) X.env)] := by rfl)
    (hbase : attributeBase a "replace" X.env (eval a X.env) = eval a X.env := by rfl) (hline : (apos.endLine == pos.line) = true := by rfl) : PET X (.Call (.Attribute a "replace" apos) [.Constant (.str y) j c0, .Constant (.str z) k c1, .Constant (.int 1) l c2] [] pos) (tE (X.kw ea) W (un1 (rep1D y z) F)) :=
  fun pins s σ H Q h0 I ⟨H0, Hf0, Hf, e, S, p⟩ => pet_rep1 ha hyz hy hz hst hbase hline pins s σ H Q h0 I ⟨H0, Hf0, Hf, e, S, p.bind.mono fun x H1 ⟨Hf1, d, g, r, p1⟩ => by
    obtain ⟨d2, ed, q⟩ := p1.of_opt
    cases r with
    | str x =>
      have ed : (if x.length ≤ 1000000 then some (PyData.str (rep1 x y z)) else none) = some d2 := ed
      split at ed
      · rename_i hl
        cases ed
        exact ⟨x, rfl, hl, q _ Hf1 H1 (Grow.refl g.fh) (.str _)⟩
      · cases ed
    | _ => cases ed⟩
theorem aTNil : PAT X [] (tA (X.kw ea) W lnil) := fun pos pins s σ H Q h0 I ⟨H0, Hf0, Hf, e, S, p⟩ => pat_nil pos pins s σ H Q h0 I (p [] Hf H (Grow.refl S.gr.fh) .nil)
theorem tCons_of {σ : L2.St} {H : Hp} {Q : List V → Hp → Prop} (h : tA (X.kw ea) W (lcons F L) σ H Q) : tCons (tE (X.kw ea) W F) (tA (X.kw ea) W L) σ H Q := by
  obtain ⟨H0, Hf0, Hf, e, S, p⟩ := h
  exact ⟨H0, Hf0, Hf, e, S, p.bind.mono fun v H1 ⟨Hf1, d, g, r, p1⟩ => ⟨H0, Hf0, Hf1, e, S.grow g, p1.bindA.mono fun vs H2 ⟨Hf2, ds, g2, r2, p2⟩ => p2 (v :: vs) Hf2 H2 (Grow.refl g2.fh) (.cons (r.mono g2.ff) r2)⟩⟩
theorem aTCons (ha : PET X a (tE (X.kw ea) W F)) (hr : PAT X es (tA (X.kw ea) W L)) (hs : starEach (a :: es) X.env = (false, eval a X.env) :: starEach es X.env := by rfl) : PAT X (a :: es) (tA (X.kw ea) W (lcons F L)) := fun pos pins s σ H Q h0 I h => pat_cons ha hr hs pos pins s σ H Q h0 I (tCons_of h)
theorem aTE (ha : PE X a (tE (X.kw ea) W F)) : PET X a (tE (X.kw ea) W F) := CwR.PET.of ha
/-- x + "..", ahead of what wants a token -/
theorem aPCons {f : D → D → Option D} {op : Operator} (ho : OpR X (binaryOp op) (rB (X.kw ea) (ERp (X.kw ea)) f)) (ha : PE X a (tE (X.kw ea) W F)) (hr : PAT X es (tA (X.kw ea) W L)) (hs : starEach (.BinOp a op (.Constant (.str c) j c0) pos :: es) X.env = (false, eval (.BinOp a op (.Constant (.str c) j c0) pos) X.env) :: starEach es X.env := by rfl) :
    PA X (.BinOp a op (.Constant (.str c) j c0) pos :: es) (tA (X.kw ea) W (lcons (bin f F (xc (.str c))) L)) := by
  have one : PEp X (.BinOp a op (.Constant (.str c) j c0) pos) (tE (X.kw ea) W (bin f F (xc (.str c)))) := fun pins s σ H Q I h => pep_opC ho ha pins s σ H Q I (by
    have h1 : tOp (rB (X.kw ea) (ERp (X.kw ea)) f) (tE (X.kw ea) W F) (tE (X.kw ea) W (xc (.str c))) σ H Q := tX_bin stE h
    obtain ⟨H0, Hf0, Hf, e, S, p⟩ := h1
    exact ⟨H0, Hf0, Hf, e, S, p.mono fun v H1 ⟨_, _, Hf', e', S', p'⟩ => p' (.str c) Hf' H1 (Grow.refl S'.gr.fh) (.str c)⟩)
  exact PA_weak (pa_consP one hr hs) fun σ H Q h => tCons_of h
end
end Pu
/-! PuRL: l[::-1] of a list -/
namespace Pu
open PySem L2
def revLD : D → Option D
  | .list ds => some (.list ds.reverse)
  | _ => none
section
variable {X : Cx} {W : WE} {a : Expr} {F : En → R D} {pos p2 pu pc : Pos} {j : Nat}
open PySem.Spec PyProof.Rows in
theorem xRevL (ha : PE X a (tV (X.kw ea) W F)) : PE X (.Subscript a (.Slice none none (some (.UnaryOp .USub (.Constant (.int 1) j pc) pu)) p2) pos) (tE (X.kw ea) W (un1 revLD F)) := by
  refine ⟨fun pins s σ H Q I ⟨H0, Hf0, Hf, e, S, q⟩ => ?_⟩
  refine Subscript_ (thn (ha.run pins s σ H _ I ⟨H0, Hf0, Hf, e, S, q.bind⟩) fun v s1 ⟨x, H1, I1, r1, Hf1, d, g1, rx, q1⟩ => ?_)
  obtain ⟨z, ez, q2⟩ := q1.of_opt
  cases d with
  | list ds =>
    cases ez
    obtain ⟨l, xs, rfl, hl, ra⟩ := rx.list g1.fh
    cases r1
    refine wpAny_Slice ?_
    rw [evalPart_none]
    refine wpAny_pure (wpAny_pure ?_)
    have k1 : PO X (some (.UnaryOp .USub (.Constant (.int 1) j pc) pu)) (tPart (tUn (fun x H Q => ∃ i, x = .int i ∧ Q (.int (-i)) H) (tC (.int 1)))) := po_some (pe_un un_neg pe_int)
    refine thn (k1.run pins s1 σ H1 (fun o H' => o = some (-1) ∧ H' = H1) I1 ⟨1, rfl, -1, rfl, rfl, rfl⟩) fun vk s4 ⟨o, H4, I4, pk, eo, eH⟩ => ?_
    subst eo eH
    have I5 : L2.Inv X pins σ H4 { s4 with heap := s4.heap.push { cls := .type "slice", data := .fields #[.none, .none, vk] } } := I4.kept (t' := s4.toks) fun b ob q => Heap.get?_push_of_some _ q
    obtain ⟨us, rv, pl', hz⟩ := I5.list (SqL.of hl)
    show wpAny (model X.prog X.w) X.A (subscriptTail a (.Slice none none (some (.UnaryOp .USub (.Constant (.int 1) j pc) pu)) p2) (.ref l) (.ref s4.heap.objs.size)) (EP X pins σ Q) X.xe { s4 with heap := s4.heap.push { cls := .type "slice", data := .fields #[.none, .none, vk] } }
    refine tail_any (ops := [.ref l, .ref s4.heap.objs.size]) pl'.isList.typeIs PySem.slot_list_getitem.lookup ?_ (by with_unfolding_all rfl)
    have szs : us.toArray.size ≤ sizeLine := by rw [List.size_toArray, ← rv.length]; exact hz
    refine wpAny_getItem_list_slice pl'.isList (Heap.IsSliceOf.new ..) .none .none pk (by decide) ?_ szs
    rw [PySem.W.krv_pick]
    have fr := I5.hok.fresh (Nat.le_refl _)
    refine ⟨.ref _, _, I5.laid (t' := s4.toks) (o := .lst xs.reverse) (fun b ob q => Heap.get?_push_of_some _ q) (Nat.le_refl _) ⟨by rw [List.length_reverse]; exact hz, _, 0, rv.reverse, Heap.get?_push_size _ rfl⟩, rfl, ?_⟩
    have g2 := Grow.new (o := HO.lst xs.reverse) g1.fh fr
    exact q2 _ _ _ g2 (.lst upd_same (ra.reverse.mono g2.ff))
  | _ => cases ez
end
end Pu
/-! PuDa: d[k], d.get(k, x) of a dict by tuples; x = l.pop() -/
namespace Pu
open PySem L2
/-- no dict of another sort -/
def headD : List (D × D) → Bool
  | (.none, _) :: _ => false
  | _ => true
theorem headD_no {kvs : List (D × D)} (h : headD kvs = true) : ∀ z l, kvs ≠ (.none, z) :: l := fun z l e => by
  subst e
  cases h
/-- what stands behind the key -/
def dixD : D → D → Option D
  | .dict kvs, x => if headD kvs then (keyD x).bind (dget kvs) else none
  | _, _ => none
theorem dixD_of {d x z : D} (h : dixD d x = some z) : ∃ kvs k, d = .dict kvs ∧ headD kvs = true ∧ keyD x = some k ∧ dget kvs k = some z := by
  cases d with
  | dict kvs =>
    have h : (if headD kvs then (keyD x).bind (dget kvs) else none) = some z := h
    split at h
    · rename_i hh
      cases hk : keyD x with
      | none => rw [hk] at h; cases h
      | some k => rw [hk] at h; exact ⟨kvs, k, rfl, hh, rfl, h⟩
    · cases h
  | _ => cases h
/-- the key's object -/
theorem key_ref {K : Kw} {Hf H : Hp} {y : V} {x : D} {k : NestedKey} (f : Same Hf H) (r : VRp K Hf H y x) (h : keyD x = some k) : nk x = some k ∧ k.depth ≤ 8 ∧ ∃ b, y = .ref b ∧ Rp K H (.ref b) x := by
  obtain ⟨h1, h2, ds, rfl⟩ := keyD_of h
  refine ⟨h1, h2, ?_⟩
  have r' := r.full f
  obtain ⟨a, xs, rfl, _⟩ := r.tuple f
  exact ⟨a, rfl, r'⟩
section
variable {X : Cx} {W : WE} {a b c : Expr} {F G E : En → R D} {pos p2 ps px : Pos} {k : Nat}
def rDix (K : Kw) : R2 := fun x y H Q => ∃ (a b : Addr) (Hf : Hp) (xs : DX) (kvs : List (D × D)) (d e : D) (k : NestedKey), x = .ref a ∧ y = .ref b ∧ Same Hf H ∧ H a = some (DicO K.w a xs) ∧ RpDct K Hf xs.1 kvs ∧ Rp K H (.ref b) d ∧ nk d = some k ∧ k.depth ≤ 8 ∧ dget kvs k = some e ∧ ∀ v, Rp K Hf v e → Q v H
theorem ix_dict (z : Cz X k W) : IxR X (rDix (X.kw ea)) := fun value slice pins s σ H x y v u Q I rx ry ⟨a, b, Hf, xs, kvs, d, e, kk, ex, ey, f, ha, rd, rb, hk, hd, hg, q⟩ hs => by
  subst ex ey
  obtain rfl : v = .ref a := rx
  obtain rfl : u = .ref b := ry
  obtain ⟨_, _, hm⟩ := dic_of (ea := ea) I ha (rd.mono f)
  have room : (nestedKind X.prog X.w).room X.A.in1 := by
    have := z.rm.un
    show X.A.units + 1 + 8 < cLine
    omega
  rcases atKey_get kk rd with ⟨_, h2⟩ | ⟨b', u', v', e', h1, h2, rv, re⟩
  · rw [h2] at hg; cases hg
  · obtain rfl : e' = e := Option.some.inj (h2.symm.trans hg)
    exact PyProof.Rows.tail_any hm.typeIs slot_dict_getitem.lookup (wpAny_getItem_heap room ⟨Rp.nested I rb rfl hk, hd⟩ hm h1 ⟨v', H, I.tok _, rv, q v' re⟩) hs
/-- a[b], a dict by tuples -/
theorem xDIx (z : Cz X k W) (ha : PE X a (tV (X.kw ea) W F)) (hb : PE X b (tV (X.kw ea) W G)) (hs : PlainIx b) : PE X (.Subscript a b pos) (tE (X.kw ea) W (bin dixD F G)) :=
  PE_weak (pe_ix (ix_dict (ea := ea) z) ha hb hs) fun σ H Q ⟨H0, Hf0, Hf, e, S, p⟩ => ⟨H0, Hf0, Hf, e, S, p.bind.mono fun x H1 ⟨Hf1, dx, g1, rx, p1⟩ => ⟨H0, Hf0, Hf1, e, S.grow g1, p1.bind.mono fun y H2 ⟨Hf2, dy, g2, ry, p2⟩ => by
    obtain ⟨zz, ez, q⟩ := p2.of_opt
    obtain ⟨kvs, kk, rfl, hh, hk, hg⟩ := dixD_of ez
    obtain ⟨a0, xs, rfl, h0, rd⟩ := VRp.dict g1.fh rx (headD_no hh)
    obtain ⟨h1, h2, b0, rfl, rb⟩ := key_ref g2.fh ry hk
    exact ⟨a0, b0, Hf2, xs, kvs, dy, zz, kk, rfl, rfl, g2.fh, g2.hh _ _ h0, rd.mono g2.ff, rb, h1, h2, hg, fun v r => q v Hf2 H2 (Grow.refl g2.fh) r⟩⟩⟩
/-- d.get(k, x) -/
def dorD : D → D → D → Option D
  | .dict kvs, x, y => if headD kvs then (keyD x).map fun k => (dget kvs k).getD y else none
  | _, _, _ => none
theorem dorD_of {d x y z : D} (h : dorD d x y = some z) : ∃ kvs k, d = .dict kvs ∧ headD kvs = true ∧ keyD x = some k ∧ z = (dget kvs k).getD y := by
  cases d with
  | dict kvs =>
    have h : (if headD kvs then (keyD x).map fun k => (dget kvs k).getD y else none) = some z := h
    split at h
    · rename_i hh
      cases hk : keyD x with
      | none => rw [hk] at h; cases h
      | some k => rw [hk] at h; exact ⟨kvs, k, rfl, hh, rfl, (Option.some.inj h).symm⟩
    · cases h
  | _ => cases h
/-- a dict by tuples -/
def isDic : D → Bool
  | .dict kvs => headD kvs
  | _ => false
def xdget (F G E : En → R D) : En → R D := fun e => (F e).bind fun d => if isDic d then (G e).bind fun x => (E e).bind fun y => opt (dorD d x y) else .bad
theorem xDGet (z : Cz X k W) (ho : PE X a (tV (X.kw ea) W F)) (he : PE X b (tV (X.kw ea) W G)) (hf : PE X c (tE (X.kw ea) W E)) (m : M2 X a "get" p2 b c pos) : PE X (.Call (.Attribute a "get" p2) [b, c] [] pos) (tE (X.kw ea) W (xdget F G E)) := by
  refine ⟨fun pins s σ H Q I ⟨H0, Hf0, Hf, e, S, p⟩ => ?_⟩
  refine wpAny_Call_method_late m.base m.few m.line rfl (thn (ho.run pins s σ H _ I ⟨H0, Hf0, Hf, e, S, p.bind⟩) fun u s1 ⟨x, H1, I1, r1, Hf1, d, g1, rx, q1⟩ => ?_)
  by_cases hd : isDic d = true
  · rw [if_pos hd] at q1
    cases d with
    | dict kvs =>
      obtain ⟨a0, xs, rfl, h0, rd⟩ := VRp.dict g1.fh rx (headD_no hd)
      obtain rfl : u = .ref a0 := r1
      obtain ⟨⟨_, _, o, es, ep, ob, hx, _⟩, _⟩ := (show ObjOk X.prog X.w H1 s1.heap a0 (DicO X.w a0 xs) from I1.hok a0 _ h0)
      refine ⟨"dict", "dict.get", PySem.F.plainAttrs_dict, PySem.F.slot_dict_get, PySem.F.type_dict_get, ⟨o, ob, hx.1⟩, fun a' e' => by cases e'; exact ⟨o, ob, hx.2.1⟩, ?_⟩
      rw [m.trees]
      refine Calls.callWith_builtin rfl (Calls.evalArgs_plain (Calls.spliced_cons (thn (he.run pins s1 σ H1 _ I1 ⟨H0, Hf0, Hf1, e, S.grow g1, q1.bind⟩) fun v2 s2 ⟨y, H2, I2, r2, Hf2, dy, g2, ry, q2⟩ => Calls.spliced_cons (thn (hf.run pins s2 σ H2 _ I2 ⟨H0, Hf0, Hf2, e, (S.grow g1).grow g2, q2.bind⟩) fun v3 s3 ⟨w3, H3, I3, r3, Hf3, dw, g3, rw3, q3⟩ => Calls.spliced_nil ?_))))
      obtain ⟨zz, ez, q⟩ := q3.of_opt
      obtain ⟨kvs', kk, e1, hh, hk, rfl⟩ := dorD_of ez
      cases e1
      obtain ⟨h1, h2, b0, rfl, rb⟩ := key_ref g2.fh ry hk
      obtain rfl : v2 = .ref b0 := r2
      have rd3 := (rd.mono g2.ff).mono g3.ff
      obtain ⟨_, hsm, hm⟩ := dic_of (ea := ea) I3 (g3.hh _ _ (g2.hh _ _ h0)) (rd3.mono g3.fh)
      have room : (nestedKind X.prog X.w).room X.A.in1 := by
        have := z.rm.un
        show X.A.units + 1 + 8 < cLine
        omega
      refine call_meetsIn PySem.F.slot_dict_get hm.typeIs PySem.F.entry_dict_get (PySem.F.args_dict_get_3 _ _ _) (meetsH_dict_get_default (nestedKind X.prog X.w) a0 b0 hsm v3) ⟨room, kk, xs.1, ⟨Rp.nested I3 (rb.mono g3.hh) rfl h1, h2⟩, hm, ?_⟩
      rcases atKey_get kk rd3 with ⟨n1, n2⟩ | ⟨b', u', v', e', n1, n2, rv, re⟩
      · rw [n1]
        rw [n2] at q
        exact ⟨w3, H3, I3.tok _, r3, q _ Hf3 H3 (Grow.refl g3.fh) rw3⟩
      · rw [n1]
        rw [n2] at q
        exact ⟨v', H3, I3.tok _, rv, q _ Hf3 H3 (Grow.refl g3.fh) re⟩
    | _ => cases hd
  · rw [if_neg hd] at q1
    exact q1.elim
/-- y = x.pop() -/
theorem sPop (i j : Nat) {x y : Str} {py pa : Pos} (hN : X.N.Nodup) (hi : X.N[j]? = some y) (hy : Loc X.env.scope y) (hx : PE X (.Name x px) (tVar i)) (hb : attributeBase (.Name x px) "pop" X.env (eval (.Name x px) X.env) = eval (.Name x px) X.env := by rfl) (hl : (pa.endLine == p2.line) = true := by rfl)
    (hs : swapsWith (.Call (.Attribute (.Name x px) "pop" pa) [] [] p2) (some (.Name y py)) pos.line X.env = pure false := by rfl) (hf : X.fn y = true ∨ X.env.scope.names.lookup y = some .local := by first | exact .inl rfl | exact .inr rfl | assumption) :
    PS X (.Assign [.Name y py] (.Call (.Attribute (.Name x px) "pop" pa) [] [] p2) pos) (tS (X.kw ea) W (spopTo i j)) :=
  PS_weak (ps_set hN hi hy (pe_bm0 PySem.F.plainAttrs_list PySem.F.slot_list_pop PySem.F.type_list_pop mt_pop hx hb hl) hs hf) fun D σ H ⟨H0, Hf0, Hf, e, S, p⟩ => by
    unfold spopTo at p
    cases q : e[i]? with
    | none => rw [q] at p; exact p.elim
    | some s =>
      rw [q] at p
      cases s with
      | own ds =>
        obtain ⟨l, xs, hv, h1, h2, h3, r⟩ := own_at S q
        have p : PoS (X.kw ea) W D H0 Hf0 Hf (match ds.getLast? with | some d => .nx ((e.set i (.own ds.dropLast)).set j (.dat d)) | none => .bad) := p
        cases hd : ds.getLast? with
        | none => rw [hd] at p; exact p.elim
        | some d =>
          rw [hd] at p
          rw [List.getLast?_eq_getElem?] at hd
          obtain ⟨v, hv2, rv⟩ := r.get hd
          rw [← r.length] at hv2
          refine ⟨.ref l, hv, .inl ⟨rfl, xs, SqL.of h1⟩, l, xs, v, rfl, rfl, h1, hv2, ?_⟩
          have r2 : RpAll (X.kw ea) Hf xs.dropLast ds.dropLast := by
            rw [List.dropLast_eq_take, List.dropLast_eq_take, r.length]
            exact r.take _
          exact p _ Hf _ ((S.mut (t := .own ds.dropLast) (u := .lst xs.dropLast) q rfl hv rfl ⟨l, _, rfl, upd_same, h2, h3, r2⟩).dat j rv) (Same.refl _)
      | _ => exact p.elim
end
/-! ### x = dict(..) as a dict of its own -/
section
variable {X : Cx} {W : WE} {a : Expr} {F : En → R D} {pos p p2 : Pos} {k : Nat}
def sasgD (i : Nat) (F : En → R D) : En → Fl := fun e => liftE (F e) e fun d => match dictD d with
  | some (.dict kvs) => .nx (e.set i (.dic kvs))
  | _ => .bad
theorem sDictL (i : Nat) {y : Str} {py : Pos} (z : Cz X k W) (m : X.mg "dict" = none) (hN : X.N.Nodup) (hi : X.N[i]? = some y) (hy : Loc X.env.scope y) (ha : PE X a (tV (X.kw ea) W F)) (hg : Gl X "dict" := by rfl) (he : starEach [a] X.env = [(false, eval a X.env)] := by rfl)
    (hs : swapsWith (.Call (.Name "dict" p) [a] [] p2) (some (.Name y py)) pos.line X.env = pure false := by rfl) (hf : X.fn y = true ∨ X.env.scope.names.lookup y = some .local := by first | exact .inl rfl | exact .inr rfl | assumption) :
    PS X (.Assign [.Name y py] (.Call (.Name "dict" p) [a] [] p2) pos) (tS (X.kw ea) W (sasgD i F)) :=
  PS_weak (ps_set hN hi hy (pe_callTy (cr_dictL (ea := ea) z.calm (by have := z.rm.un; omega)) hg m bt_dict (pa_cons ha pa_nil he) (by decide) (by decide) he) hs hf) fun D σ H ⟨H0, Hf0, Hf, e, S, pp⟩ => ⟨H0, Hf0, Hf, e, S, by
    revert pp
    unfold sasgD
    cases F e with
    | ok dd =>
      intro pp x Hf1 H1 g r
      have pp : PoS (X.kw ea) W D H0 Hf0 Hf (match dictD dd with | some (.dict kvs) => .nx (e.set i (.dic kvs)) | _ => .bad) := pp
      cases dd with
      | list ds =>
        obtain ⟨l, xs, rfl, hl, ra⟩ := r.list g.fh
        have ed : dictD (.list ds) = (pairsD ds).bind fun kvs => if keysOk kvs && decide (kvs.length ≤ many) then some (PyData.dict kvs) else none := rfl
        rw [ed] at pp
        cases h1 : pairsD ds with
        | none => rw [h1] at pp; exact pp.elim
        | some kvs =>
          rw [h1] at pp
          have pp : PoS (X.kw ea) W D H0 Hf0 Hf (match (if keysOk kvs && decide (kvs.length ≤ many) then some (PyData.dict kvs) else none) with | some (.dict kvs) => .nx (e.set i (.dic kvs)) | _ => .bad) := pp
          by_cases hn : (keysOk kvs && decide (kvs.length ≤ many)) = true
          · rw [if_pos hn] at pp
            rw [Bool.and_eq_true] at hn
            have oks : ∀ p ∈ kvs, (keyT p.1).isSome = true := fun p hp => by
              have h := hn.1
              unfold keysOk at h
              rw [Bool.and_eq_true, List.all_eq_true] at h
              have := h.1 p hp
              cases hk : keyT p.1 with
              | none => rw [hk] at this; cases this
              | some k => rfl
            obtain ⟨rows, e1, pr⟩ := ra.pairs h1 oks
            subst e1
            refine ⟨l, Hf1, rows, kvs, rfl, g.fh, SqL.of hl, pr, hn.1, of_decide_eq_true hn.2, fun b es hb rd _ => ?_⟩
            have g2 := Grow.lay (o := DicO X.w b es) g.fh hb
            have S1 := S.grow g
            exact pp _ Hf1 _ ((S1.grow g2).own i ⟨_, upd_same⟩ (S1.fresh hb) ⟨b, es, rfl, upd_same, S1.gr.hh.free hb, g.fh.free hb, rd⟩) g.ff
          · rw [if_neg hn] at pp
            exact pp.elim
      | _ => exact pp.elim
    | ex c => exact fun pp Hf1 H1 g => pp σ Hf1 H1 (S.grow g) g.ff
    | bad => exact fun pp => pp⟩
end
end Pu
/-! PuDb: a walk over the keys of a dict by tuples; list(d) -/
namespace Pu
open PySem L2
/-- the keys of the dict at d -/
def Itx (w : World) (d : Addr) (x : DX) : It where
  go := fun i H => i < x.1.length ∧ H d = some (DicO w d x)
  yld := fun i H v H' => H' = H ∧ (x.1[i]?).map (fun r => V.ref r.2.1) = some v
  stop := fun i H => x.1.length ≤ i ∧ H d = some (DicO w d x)
/-- the dict's object -/
theorem dic_at {X : Cx} {pins : List (Addr × Obj)} {σ : L2.St} {H : Hp} {s : Shared} {d : Addr} {x : DX} (I : L2.Inv X pins σ H s) (h : H d = some (DicO X.w d x)) : (d == sysModules) = false ∧ ∃ o es, s.heap.get? d = some o ∧ o.ExactDict ∧ o.data = .dict es x.2 ∧ es.size = x.1.length ∧ ∀ (i : Nat) r, x.1[i]? = some r → ∃ en, es[i]? = some en ∧ en.key = .ref r.2.1 := by
  obtain ⟨⟨_, hsm, o, es, ep, ho, hx, hd, he, _, hp⟩, _⟩ := (show ObjOk X.prog X.w H s.heap d (DicO X.w d x) from I.hok d _ h)
  subst hp
  refine ⟨hsm, o, es, ho, hx, hd, by rw [← Array.length_toList, he, List.length_map], fun i r hr => ⟨entW X.w r, ?_, rfl⟩⟩
  rw [← Array.getElem?_toList, he, List.getElem?_map, hr]
  rfl
open PySem.Spec PyProof.Rows in
theorem turn_dic {P : Program} {w : World} {K : PySem.W.Frag} {tg : Expr} (d it : Addr) (x : DX) : Turn P w K tg (Itx w d x) [it] it (fun i h => h.IsKeyIter it d i x.1.length x.2) := by
  have own : ∀ {X : Cx} {pins : List (Addr × Obj)} {σ : L2.St} {H : Hp} {s : Shared} {h' : Heap}, L2.Inv X pins σ H s → (∀ b ∈ [it], FpOk X pins H b) → (∀ b o, b ≠ it → s.heap.get? b = some o → h'.get? b = some o) → L2.Inv X pins σ H { s with heap := h' } := fun {X pins σ H s h'} I hf k => by
    obtain ⟨q0, q1, _, q3, q4, q5⟩ := hf it (List.mem_singleton.mpr rfl)
    exact I.turned (t' := s.toks) k q0 q1 q3 q4 q5
  constructor
  · exact List.mem_singleton.mpr rfl
  · intro i h st b hb
    cases List.mem_singleton.mp hb
    obtain ⟨o, g, _, gd⟩ := st
    exact ⟨o, g, fun v z => by rw [gd] at z; cases z⟩
  · exact fun i h h' st k => st.at fun o g => k it (List.mem_singleton.mpr rfl) o g
  · intro X eP ew eK _ i pins s σ H E I hf st ⟨hi, hH⟩
    subst eP ew eK
    obtain ⟨_, o, es, ho, _, hd, hz, hent⟩ := dic_at I hH
    have hr : x.1[i]? = some x.1[i] := List.getElem?_eq_getElem hi
    obtain ⟨en, hen, hkey⟩ := hent i _ hr
    refine next_key_item st ho hd hz hen fun h' st' sb => ⟨en.key, rfl, ?_⟩
    have I' := own I hf (fun b ob hb g => (sb.2 b hb).trans g)
    obtain ⟨oi, g, c, dd⟩ := id st'
    exact go_of (s := { s with heap := h' }) g c dd (by decide) ⟨.ref x.1[i].2.1, H, I', hkey, ⟨rfl, by rw [hr]; rfl⟩, st', fun b hb => (hf b hb).1⟩
  · intro X eP ew eK hc i pins s σ H E I hf st ⟨hi, hH⟩
    subst eP ew eK
    obtain ⟨_, o, es, ho, _, hd, hz, _⟩ := dic_at I hH
    exact next_key_end (I.ok.hd hc) st ho hd hz hi fun h' eb => ⟨rfl, own I hf eb⟩
  · intro A i s Q E st h
    exact wpAny_pyIter_slot st.typeIs PySem.F.slot_dict_keyiterator_iter (wpAny_call_entry PySem.F.slot_dict_keyiterator_iter st.typeIs PySem.F.entry_dict_keyiterator_iter (wpAny_pure ⟨_, rfl, "dict_keyiterator", _, st.typeIs, PySem.F.slot_dict_keyiterator_next.lookup, h⟩) (PySem.F.args_dict_keyiterator_iter_1 _))
theorem Wk.dic {K : Kw} {Hs Hf : Hp} {d : Addr} {x : DX} {kvs : List (D × D)} (h : Hs d = some (DicO K.w d x)) (r : RpDct K Hf x.1 kvs) : Wk K Hs Hf (Itx K.w d x) (kvKeys kvs) := by
  have n : (kvKeys kvs).length = x.1.length := by unfold kvKeys; rw [List.length_map, r.length]
  refine ⟨fun i H s hi => ⟨by rw [← n]; exact hi, s _ _ h⟩, fun H s => ⟨by rw [n]; exact Nat.le_refl _, s _ _ h⟩, fun i H Hf1 H' v dd s f1 f2 hd hy => ?_⟩
  obtain ⟨e, hv⟩ := hy
  subst e
  obtain ⟨v', hv', rv⟩ := r.keys.get hd
  rw [List.getElem?_map, List.getElem?_map, Option.map_map] at hv'
  have : v' = v := Option.some.inj (hv'.symm.trans hv)
  subst this
  exact ⟨Hf1, Grow.refl f2, rv.mono f1⟩
/-- the keys -/
def keysN : D → Option (List D)
  | .dict kvs => if headD kvs then some (kvKeys kvs) else none
  | _ => none
theorem keysN_of {d : D} {ds : List D} (h : keysN d = some ds) : ∃ kvs, d = .dict kvs ∧ headD kvs = true ∧ ds = kvKeys kvs := by
  cases d with
  | dict kvs =>
    have h : (if headD kvs then some (kvKeys kvs) else none) = some ds := h
    split at h
    · rename_i hh
      exact ⟨kvs, rfl, hh, (Option.some.inj h).symm⟩
    · cases h
  | _ => cases h
section
variable {X : Cx} {W : WE} {tg a : Expr} {F : En → R D} {pos p : Pos} {k : Nat}
def iDic (K : Kw) (tl : TE) : TI := fun σ H R => tl σ H fun x H1 => ∃ d y, x = .ref d ∧ H1 d = some (DicO K.w d y) ∧ R (Itx K.w d y) H1
theorem pi_dic (h : PE X a t) : PI X tg a (iDic (X.kw ea) t) := ⟨fun pins s σ H R I q => thn (h.run pins s σ H _ I q) fun v s1 ⟨x, H1, I1, r1, d, y, ex, hd, q1⟩ => by
  subst ex
  obtain rfl : v = .ref d := r1
  obtain ⟨hsm, o, es, ho, hx, hdt, hz, _⟩ := dic_at I1 hd
  refine iter_keys hsm ho hx hdt (pi_one (tk := s1.toks) I1 _ (turn_dic d _ y) ⟨_, Heap.get?_push_size _ rfl, rfl, ?_⟩ q1)
  rw [hz] <;> rfl⟩
def ikeys (F : En → R D) : En → R (List D) := fun e => (F e).bind fun d => opt (keysN d)
/-- for .. in d, d frozen -/
theorem iKeysF (h : PE X a (tE (X.kw ea) W F)) : PI X tg a (tI (X.kw ea) W true (ikeys F)) :=
  PI_weak (pi_dic (ea := ea) h) fun σ H Q ⟨H0, Hf0, Hf, e, S, p⟩ => ⟨H0, Hf0, Hf, e, S, p.bind.mono fun x H1 ⟨Hf1, d, g, r, p1⟩ => by
    obtain ⟨ds, ed, q⟩ := p1.of_opt
    obtain ⟨kvs, rfl, hh, rfl⟩ := keysN_of ed
    obtain ⟨b, y, rfl, hb, rd⟩ := r.dict (headD_no hh)
    exact ⟨b, y, rfl, g.fh _ _ hb, q _ Hf1 H1 (Grow.refl g.fh) (Wk.dic hb rd)⟩⟩
theorem iKeysV (h : PE X a (tV (X.kw ea) W F)) : PI X tg a (tI (X.kw ea) W false (ikeys F)) :=
  PI_weak (pi_dic (ea := ea) h) fun σ H Q ⟨H0, Hf0, Hf, e, S, p⟩ => ⟨H0, Hf0, Hf, e, S, p.bind.mono fun x H1 ⟨Hf1, d, g, r, p1⟩ => by
    obtain ⟨ds, ed, q⟩ := p1.of_opt
    obtain ⟨kvs, rfl, hh, rfl⟩ := keysN_of ed
    obtain ⟨b, y, rfl, hb, rd⟩ := r.dict g.fh (headD_no hh)
    exact ⟨b, y, rfl, hb, q _ Hf1 H1 (Grow.refl g.fh) (Wk.dic hb rd)⟩⟩
/-- list(d) -/
theorem call_listK (hc : X.calm = true) : CallR X (.type "list") (rC1N (X.kw ea) (VRp (X.kw ea)) keysN) := fun pins s σ H _ us Q I r ⟨x, Hf, dx, z, ex, f, hx, ez, q⟩ => by
  subst ex
  obtain ⟨u, rfl, rx⟩ := r.one
  obtain ⟨kvs, rfl, hh, rfl⟩ := keysN_of ez
  obtain ⟨d, y, rfl, hd, rd⟩ := hx.dict f (headD_no hh)
  obtain rfl : u = .ref d := rx
  obtain ⟨⟨hz, hsm, o, es, ep, ho, hxd, hdt, he, _⟩, _⟩ := (show ObjOk X.prog X.w H s.heap d (DicO X.w d y) from I.hok d _ hd)
  have n : es.size = y.1.length := by rw [← Array.length_toList, he, List.length_map]
  refine PySem.W.kdl_call (kdl_raw hsm hxd hdt) (I.ok.hd hc) ho (by rw [n]; exact hz) fun h' tk acc c kp e it => ?_
  have ea' : acc.toList = (y.1.map fun r => r.2.1).map Value.ref := keys_of he it.1 it.2
  have free := I.hok.fresh (Nat.le_refl s.heap.objs.size)
  refine ⟨.ref s.heap.objs.size, _, I.laid (t' := tk) (o := .lst ((y.1.map fun r => r.2.1).map V.ref)) kp (Nat.le_refl _) ⟨by rw [List.length_map, List.length_map]; exact hz, acc.toList, c, by rw [ea']; exact vals_refs _, by rw [Array.toArray_toList]; exact e⟩, rfl, ?_⟩
  exact q _ _ Hf _ (Grow.lay f free) free (f.free free) upd_same rd.keys
end
end Pu
/-! PuDc: a dict whose values are lists that grow -/
namespace Pu
open PySem L2
/-- one row: the list c that stands behind the key -/
def AhRow (K : Kw) (H0 Hf H : Hp) (σ : L2.St) (e : En) (r : NestedKey × Addr × Value) (p : D × D) : Prop :=
  ∃ (c : Addr) (xs : List V) (ds : List D), r.2.2 = .ref c ∧ p.2 = .list ds ∧ H c = some (.lst xs) ∧ H0 c = none ∧ Hf c = none ∧ NoOwn σ e c ∧ RpAll K Hf xs ds ∧ nk p.1 = some r.1 ∧ r.1.depth ≤ 8 ∧ Rp K Hf (.ref r.2.1) p.1
/-- the dict in the slot i -/
def Ah (K : Kw) (H0 Hf H : Hp) (σ : L2.St) (e : En) (i : Nat) (as : List (D × D)) : Prop :=
  ∃ (a : Addr) (x : DX), σ[i]? = some (some (.ref a)) ∧ H a = some (DicO K.w a x) ∧ H0 a = none ∧ Hf a = none ∧ NoOwn σ e a ∧ Paired (AhRow K H0 Hf H σ e) x.1 as ∧ (x.1.map fun r => r.2.2).Nodup
theorem Paired.imp2 {α β : Type} {G G' : α → β → Prop} : ∀ {l : List α} {m : List β}, (∀ x ∈ l, ∀ y ∈ m, G x y → G' x y) → Paired G l m → Paired G' l m
  | _, _, _, .nil => .nil
  | _, _, f, .cons h t => .cons (f _ List.mem_cons_self _ List.mem_cons_self h) (Paired.imp2 (fun x hx y hy => f x (List.mem_cons_of_mem _ hx) y (List.mem_cons_of_mem _ hy)) t)
section
variable {K : Kw} {H0 Hf H Hf' H' : Hp} {σ σ' : L2.St} {e e' : En} {i : Nat} {as : List (D × D)}
theorem AhRow.grow {r : NestedKey × Addr × Value} {p : D × D} (g : Grow Hf H Hf' H') (h : AhRow K H0 Hf H σ e r p) : AhRow K H0 Hf' H' σ e r p := by
  obtain ⟨c, xs, ds, h1, h2, h3, h4, h5, h6, h7, h8, h9, h10⟩ := h
  exact ⟨c, xs, ds, h1, h2, g.hh _ _ h3, h4, g.nf _ _ h3 rfl h5, h6, h7.mono g.ff, h8, h9, h10.mono g.ff⟩
theorem Ah.grow (g : Grow Hf H Hf' H') (h : Ah K H0 Hf H σ e i as) : Ah K H0 Hf' H' σ e i as := by
  obtain ⟨a, x, h1, h2, h3, h4, h5, h6, h7⟩ := h
  exact ⟨a, x, h1, g.hh _ _ h2, h3, g.nf _ _ h2 rfl h4, h5, Paired.imp2 (fun _ _ _ _ q => q.grow g) h6, h7⟩
/-- other names, other values -/
theorem Ah.env (hi : σ'[i]? = σ[i]?) (hn : ∀ c, NoOwn σ e c → NoOwn σ' e' c) (h : Ah K H0 Hf H σ e i as) : Ah K H0 Hf H σ' e' i as := by
  obtain ⟨a, x, h1, h2, h3, h4, h5, h6, h7⟩ := h
  refine ⟨a, x, by rw [hi]; exact h1, h2, h3, h4, hn a h5, Paired.imp2 (fun _ _ _ _ q => ?_) h6, h7⟩
  obtain ⟨c, xs, ds, q1, q2, q3, q4, q5, q6, q7⟩ := q
  exact ⟨c, xs, ds, q1, q2, q3, q4, q5, hn c q6, q7⟩
theorem NoOwn.dat {c : Addr} {j : Nat} {d : D} (ho : ∀ q, q ∉ [j] → σ'[q]? = σ[q]?) (h : NoOwn σ e c) : NoOwn σ' (e.set j (.dat d)) c := fun q t h1 h2 => by
  by_cases z : j = q
  · subst z
    by_cases hj : j < e.length
    · rw [List.getElem?_set_self hj] at h1
      cases h1
      cases h2
    · rw [List.getElem?_eq_none (by rw [List.length_set]; omega)] at h1
      cases h1
  · rw [List.getElem?_set_ne z] at h1
    rw [ho q (by simpa using fun y : q = j => z y.symm)]
    exact h q t h1 h2
theorem Ah.dat {j : Nat} {d : D} (hij : i ≠ j) (ho : ∀ q, q ∉ [j] → σ'[q]? = σ[q]?) (h : Ah K H0 Hf H σ e i as) : Ah K H0 Hf H σ' (e.set j (.dat d)) i as :=
  h.env (ho i (by simpa using hij)) fun c hc => hc.dat ho
/-- one more in the list behind a key -/
def appL : D → D → D
  | .list ds, s => .list (ds ++ [s])
  | d, _ => d
def dapp : List (D × D) → NestedKey → D → List (D × D)
  | [], _, _ => []
  | p :: r, k, s => if nk p.1 = some k then (p.1, appL p.2 s) :: r else p :: dapp r k s
theorem AhRow.other {r : NestedKey × Addr × Value} {p : D × D} {c : Addr} {o : HO} (h : AhRow K H0 Hf H σ e r p) (n : r.2.2 ≠ .ref c) : AhRow K H0 Hf (upd H c o) σ e r p := by
  obtain ⟨c', xs, ds, h1, h2, h3, h4⟩ := h
  have : c' ≠ c := fun z => n (by rw [h1, z])
  exact ⟨c', xs, ds, h1, h2, by rw [upd_ne this]; exact h3, h4⟩
theorem ah_rows {k : NestedKey} {b : Addr} {u : Value} : ∀ {rows : List (NestedKey × Addr × Value)} {as : List (D × D)}, Paired (AhRow K H0 Hf H σ e) rows as → (rows.map fun r => r.2.2).Nodup → atKey rows k = some (b, u) →
    ∃ (c : Addr) (xs : List V) (ds : List D), u = .ref c ∧ u ∈ (rows.map fun r => r.2.2) ∧ dget as k = some (.list ds) ∧ H c = some (.lst xs) ∧ H0 c = none ∧ Hf c = none ∧ NoOwn σ e c ∧ RpAll K Hf xs ds ∧ ∀ v d, Rp K Hf v d → Paired (AhRow K H0 Hf (upd H c (.lst (xs ++ [v]))) σ e) rows (dapp as k d)
  | _, _, .nil, _, h => by cases h
  | r :: rows, p :: as, .cons hr t, nd, h => by
    rw [List.map_cons, List.nodup_cons] at nd
    by_cases hk : r.1 = k
    · have e1 : atKey (r :: rows) k = some r.2 := by simp [atKey, hk]
      rw [e1] at h
      have er : r.2 = (b, u) := Option.some.inj h
      obtain ⟨rk, rb, ru⟩ := r
      obtain ⟨rfl, rfl⟩ := Prod.mk.inj er
      have hr' := hr
      obtain ⟨c, xs, ds, h1, h2, h3, h4, h5, h6, h7, h8, h9, h10⟩ := hr
      have e2 : dget (p :: as) k = some p.2 := by
        obtain ⟨p1, p2⟩ := p
        show (if nk p1 = some k then some p2 else dget as k) = _
        rw [if_pos (h8.trans (congrArg some hk))]
      refine ⟨c, xs, ds, h1, by rw [List.map_cons]; exact List.mem_cons_self, by rw [e2, h2], h3, h4, h5, h6, h7, fun v d rv => ?_⟩
      have e3 : dapp (p :: as) k d = (p.1, appL p.2 d) :: as := by
        show (if nk p.1 = some k then (p.1, appL p.2 d) :: as else p :: dapp as k d) = _
        rw [if_pos (h8.trans (congrArg some hk))]
      rw [e3]
      refine .cons ⟨c, xs ++ [v], ds ++ [d], h1, by rw [h2]; rfl, upd_same, h4, h5, h6, h7.snoc rv, h8, h9, h10⟩ (Paired.imp2 (fun x hx y _ q => q.other fun z => nd.1 ?_) t)
      rw [h1, ← z]
      exact List.mem_map.mpr ⟨x, hx, rfl⟩
    · have e1 : atKey (r :: rows) k = atKey rows k := by simp [atKey, hk]
      rw [e1] at h
      obtain ⟨c, xs, ds, h1, hm, h2, h3, h4, h5, h6, h7, h8⟩ := ah_rows t nd.2 h
      obtain ⟨_, _, _, _, _, _, _, _, _, _, hn, _⟩ := id hr
      have hne : ¬ (nk p.1 = some k) := fun z => hk (Option.some.inj (hn.symm.trans z))
      have e2 : dget (p :: as) k = dget as k := by
        obtain ⟨p1, p2⟩ := p
        show (if nk p1 = some k then some p2 else dget as k) = _
        rw [if_neg hne]
      refine ⟨c, xs, ds, h1, by rw [List.map_cons]; exact List.mem_cons_of_mem _ hm, by rw [e2]; exact h2, h3, h4, h5, h6, h7, fun v d rv => ?_⟩
      have e3 : dapp (p :: as) k d = p :: dapp as k d := by
        show (if nk p.1 = some k then (p.1, appL p.2 d) :: as else p :: dapp as k d) = _
        rw [if_neg hne]
      rw [e3]
      exact .cons (hr.other fun z => nd.1 (by rw [z, ← h1]; exact hm)) (h8 v d rv)
theorem ah_key : ∀ {rows : List (NestedKey × Addr × Value)} {as : List (D × D)} {k : NestedKey} {z : D}, Paired (AhRow K H0 Hf H σ e) rows as → dget as k = some z → ∃ b u, atKey rows k = some (b, u)
  | _, _, _, _, .nil, h => by cases h
  | r :: rows, p :: as, k, z, .cons hr t, h => by
    obtain ⟨_, _, _, _, _, _, _, _, _, _, hn, _⟩ := id hr
    obtain ⟨p1, p2⟩ := p
    by_cases hk : r.1 = k
    · exact ⟨r.2.1, r.2.2, by simp [atKey, hk]⟩
    · have e2 : dget ((p1, p2) :: as) k = dget as k := by
        show (if nk p1 = some k then some p2 else dget as k) = _
        rw [if_neg fun z => hk (Option.some.inj (hn.symm.trans z))]
      rw [e2] at h
      obtain ⟨b, u, g⟩ := ah_key t h
      exact ⟨b, u, by rw [← g]; simp [atKey, hk]⟩
theorem Paired.left {α β : Type} {G : α → β → Prop} : ∀ {l : List α} {m : List β}, Paired G l m → ∀ x ∈ l, ∃ y, G x y
  | _, _, .nil, x, h => by cases h
  | _, _, .cons h t, x, hx => by
    rcases List.mem_cons.mp hx with rfl | hx
    · exact ⟨_, h⟩
    · exact Paired.left t x hx
end
section
variable {X : Cx} {W : WE} {k : Nat}
/-- d[k], the value as it lies there -/
def rDixA (K : Kw) : R2 := fun x y H Q => ∃ (a b : Addr) (x' : DX) (d : D) (k : NestedKey) (b' : Addr) (u : Value) (v : V), x = .ref a ∧ y = .ref b ∧ H a = some (DicO K.w a x') ∧ (∀ r ∈ x'.1, ∃ d, nk d = some r.1 ∧ r.1.depth ≤ 8 ∧ Rp K H (.ref r.2.1) d) ∧ Rp K H (.ref b) d ∧ nk d = some k ∧ k.depth ≤ 8 ∧ atKey x'.1 k = some (b', u) ∧ RelV v u ∧ Q v H
theorem ix_dictA (z : Cz X k W) : IxR X (rDixA (X.kw ea)) := fun value slice pins s σ H x y v u Q I rx ry ⟨a, b, x', d, kk, b', u', v', ex, ey, ha, hks, rb, hk, hd, hat, rv, q⟩ hs => by
  subst ex ey
  obtain rfl : v = .ref a := rx
  obtain rfl : u = .ref b := ry
  obtain ⟨⟨_, _, o, es, ep, ho, hx, hdt, he, hn, _⟩, _⟩ := (show ObjOk X.prog X.w H s.heap a (DicO X.w a x') from I.hok a _ ha)
  have hm : s.heap.DictOfH (nestedKind X.prog X.w) a x'.1 := ⟨o, es, ep, ho, hx, hdt, he, fun r hr => by
    obtain ⟨dd, h1, h2, h3⟩ := hks r hr
    exact ⟨Rp.nested I h3 rfl h1, h2⟩, hn⟩
  have room : (nestedKind X.prog X.w).room X.A.in1 := by
    have := z.rm.un
    show X.A.units + 1 + 8 < cLine
    omega
  exact PyProof.Rows.tail_any hm.typeIs slot_dict_getitem.lookup (wpAny_getItem_heap room ⟨Rp.nested I rb rfl hk, hd⟩ hm hat ⟨v', H, I.tok _, rv, q⟩) hs
/-- a[o].append(s) -/
def tAh1 (K : Kw) (i j l : Nat) : TS := fun D σ H => ∃ H0 Hf0 Hf e as d1 d2 k ds, SR K H0 Hf0 Hf H σ e ∧ Ah K H0 Hf H σ e i as ∧ e[j]? = some (.dat d1) ∧ e[l]? = some (.dat d2) ∧ keyD d1 = some k ∧ dget as k = some (.list ds) ∧ ds.length < many ∧
  ∀ H', SR K H0 Hf0 Hf H' σ e → Ah K H0 Hf H' σ e i (dapp as k d2) → D.nx σ H'
theorem ps_ah1 {x y s : Str} {px py ps p1 p2 p3 pos : Pos} {i j l : Nat} (z : Cz X k W) (hA : PE X (.Name x px) (tVar i)) (hO : PE X (.Name y py) (tVar j)) (hS : PE X (.Name s ps) (tVar l)) (hix : PlainIx (.Name y py))
    (hb : attributeBase (.Subscript (.Name x px) (.Name y py) p1) "append" X.env (eval (.Subscript (.Name x px) (.Name y py) p1) X.env) = eval (.Subscript (.Name x px) (.Name y py) p1) X.env := by rfl)
    (hf : ((backTo p3 (starEach [.Name s ps] X.env)).all (fun x => !x.1) && (backToKw p3 (keywordEach [] X.env)).all (fun x => x.1.isSome) && decide (([.Name s ps] : List Expr).length + ([] : List Keyword).length + (if ([] : List Keyword).isEmpty then 0 else 1) < 30)) = true := by rfl)
    (hl : (p2.endLine == p3.line) = true := by rfl) (hs : starEach [.Name s ps] X.env = (false, eval (.Name s ps) X.env) :: starEach [] X.env := by rfl) (hp : (backTo p3 (starEach [] X.env)).any (·.1) = false := by rfl)
    (hw : swapsWith (.Call (.Attribute (.Subscript (.Name x px) (.Name y py) p1) "append" p2) [.Name s ps] [] p3) none pos.line X.env = pure false := by rfl) :
    PS X (.Expr (.Call (.Attribute (.Subscript (.Name x px) (.Name y py) p1) "append" p2) [.Name s ps] [] p3) pos) (tAh1 (X.kw ea) i j l) :=
  PS_weak (ps_expr (pe_bm PySem.F.plainAttrs_list PySem.F.slot_list_append PySem.F.type_list_append mt_append (pe_ix (ix_dictA (ea := ea) z) hA hO hix) (pa_cons hS pa_nil hs) hb hf hl hs hp) hw) fun D σ H ⟨H0, Hf0, Hf, e, as, d1, d2, kk, ds, S, A, hj, hlq, hk, hg, hz, q⟩ => by
    obtain ⟨a, x', ha, hH, h0, hf0, hno, hr, hnd⟩ := id A
    obtain ⟨v1, e1⟩ := S.lt hj
    obtain ⟨w1, ew1, r1⟩ := S.sl j _ v1 hj e1
    subst ew1
    obtain ⟨v2, e2⟩ := S.lt hlq
    obtain ⟨w2, ew2, r2⟩ := S.sl l _ v2 hlq e2
    subst ew2
    obtain ⟨k1, k2, b1, rfl, rb⟩ := key_ref S.gr.fh (.e r1) hk
    obtain ⟨b', u, hat⟩ := ah_key hr hg
    obtain ⟨c, xs, ds', rfl, _, hg', hc, hc0, hcf, hcn, rc, nx⟩ := ah_rows hr hnd hat
    obtain rfl : ds' = ds := by
      have := hg'.symm.trans hg
      injection this with this
      injection this
    refine ⟨.ref a, ha, .ref b1, e1, a, b1, x', d1, kk, b', .ref c, .ref c, rfl, rfl, hH, fun r hr' => ?_, rb, k1, k2, hat, rfl, .inl ⟨rfl, xs, SqL.of hc⟩, w2, e2, c, xs, w2, rfl, rfl, hc, many_lt (by rw [rc.length]; exact hz), ?_⟩
    · obtain ⟨p, c', _, _, _, _, _, _, _, _, _, n1, n2, n3⟩ := Paired.left hr r hr'
      exact ⟨p.1, n1, n2, n3.mono S.gr.fh⟩
    · refine q _ (S.other hc0 hcf hcn) ⟨a, x', ha, ?_, h0, hf0, hno, nx w2 d2 r2, hnd⟩
      have : a ≠ c := fun z => by
        rw [z] at hH
        rw [hc] at hH
        cases hH
      rw [upd_ne this]
      exact hH
end
end Pu
/-! PuDd: a dict of lists is filled -/
namespace Pu
open PySem L2
/-- alike but for some names -/
def Agr (vs : List Nat) (e e' : En) : Prop := e'.length = e.length ∧ ∀ j, j ∉ vs → e'[j]? = e[j]?
theorem Agr.refl (vs : List Nat) (e : En) : Agr vs e e := ⟨rfl, fun _ _ => rfl⟩
theorem Agr.trans {vs : List Nat} {e1 e2 e3 : En} (h : Agr vs e1 e2) (g : Agr vs e2 e3) : Agr vs e1 e3 := ⟨g.1.trans h.1, fun j hj => (g.2 j hj).trans (h.2 j hj)⟩
theorem Agr.set {vs : List Nat} {e : En} {j : Nat} (s : Sl) (h : j ∈ vs) : Agr vs e (e.set j s) := ⟨List.length_set .., fun q hq => List.getElem?_set_ne fun z => hq (by rw [← z]; exact h)⟩
theorem Agr.more {vs ws : List Nat} {e e' : En} (h : Agr vs e e') (hs : ∀ j ∈ vs, j ∈ ws) : Agr ws e e' := ⟨h.1, fun j hj => h.2 j fun z => hj (hs j z)⟩
def fillI (s : D) : List D → List (D × D) → Option (List (D × D))
  | [], as => some as
  | d :: ds, as => (keyD d).bind fun k => match dget as k with
    | some (.list zs) => if zs.length < many then fillI s ds (dapp as k s) else none
    | _ => none
theorem fillI_cons {s d : D} {ds : List D} {as r : List (D × D)} (h : fillI s (d :: ds) as = some r) : ∃ k zs, keyD d = some k ∧ dget as k = some (.list zs) ∧ zs.length < many ∧ fillI s ds (dapp as k s) = some r := by
  unfold fillI at h
  cases hk : keyD d with
  | none => rw [hk] at h; cases h
  | some k =>
    rw [hk] at h
    have h : (match dget as k with | some (.list zs) => if zs.length < many then fillI s ds (dapp as k s) else none | _ => none) = some r := h
    split at h
    · rename_i zs hz
      split at h
      · rename_i hl
        exact ⟨k, zs, rfl, hz, hl, h⟩
      · cases h
    · cases h
def fillO (kvs : List (D × D)) : List D → List (D × D) → Option (List (D × D))
  | [], as => some as
  | s :: r, as => match dixD (.dict kvs) s with
    | some (.list ds) => (fillI s ds as).bind (fillO kvs r)
    | _ => none
theorem fillO_cons {kvs : List (D × D)} {s : D} {ss : List D} {as r : List (D × D)} (h : fillO kvs (s :: ss) as = some r) : ∃ ds as2, dixD (.dict kvs) s = some (.list ds) ∧ fillI s ds as = some as2 ∧ fillO kvs ss as2 = some r := by
  unfold fillO at h
  split at h
  · rename_i ds hd
    cases h2 : fillI s ds as with
    | none => rw [h2] at h; cases h
    | some as2 => rw [h2] at h; exact ⟨ds, as2, hd, h2, h⟩
  · cases h
section
variable {X : Cx} {W : WE} {k : Nat}
/-- for o in c[s]: a[o].append(s) -/
def tAh2 (K : Kw) (c i j l : Nat) : TS := fun D σ H => ∃ H0 Hf0 Hf e as kvs d2 ds as', SR K H0 Hf0 Hf H σ e ∧ Ah K H0 Hf H σ e i as ∧ e[c]? = some (.dat (.dict kvs)) ∧ e[l]? = some (.dat d2) ∧ dixD (.dict kvs) d2 = some (.list ds) ∧ fillI d2 ds as = some as' ∧
  j < e.length ∧ ∀ σ' e' Hf' H', SR K H0 Hf0 Hf' H' σ' e' → Ah K H0 Hf' H' σ' e' i as' → Same Hf Hf' → Agr [j] e e' → D.nx σ' H'
theorem ps_ah2 {tg iter : Expr} {body : List Stmt} {pos : Pos} {c i j l : Nat} (hp : PassesOwn (model X.prog X.w) X.A X.env X.xe) (hc : X.calm = true) (hij : i ≠ j) (hcj : c ≠ j) (hlj : l ≠ j)
    (hi : PI X tg iter (tI (X.kw ea) W true (iseq (bin dixD (xvE c) (xvE l))))) (hg : PG X tg (tG (X.kw ea) [j] (gn j))) (hb : PSs X body (tAh1 (X.kw ea) i j l)) (hs : ∀ x, foldedSetIterable iter X.env x = pure x := by intro _; rfl) :
    PS X (.For tg iter body [] pos) (tAh2 (X.kw ea) c i j l) :=
  PS_weak (ps_for hp hc hi hg hb hs) fun D σ H ⟨H0, Hf0, Hf, e, as, kvs, d2, ds, as', S, A, hce, hle, hd, hfl, hje, q⟩ => ⟨H0, Hf0, Hf, e, S, by
    have ev : iseq (bin dixD (xvE c) (xvE l)) e = .ok ds := by
      unfold iseq bin xvE getE
      rw [hce, hle]
      show ((opt (dixD (.dict kvs) d2)).bind fun d => opt (seqD d)) = _
      rw [hd]
      rfl
    rw [ev]
    intro J Hf1 H1 g w
    have w : Wk (X.kw ea) Hf1 Hf1 J ds := w
    refine ⟨fun n m σ2 H2 => m = ds.length - n ∧ n ≤ ds.length ∧ ∃ Hf2 e2 as2, SR (X.kw ea) H0 Hf0 Hf2 H2 σ2 e2 ∧ Ah (X.kw ea) H0 Hf2 H2 σ2 e2 i as2 ∧ Same Hf1 Hf2 ∧ Agr [j] e e2 ∧ fillI d2 (ds.drop n) as2 = some as',
      ⟨ds.length, rfl, Nat.zero_le _, Hf1, e, as, S.grow g, A.grow g, Same.refl _, .refl _ _, hfl⟩, ?_⟩
    rintro n m σ2 H2 ⟨rfl, hn, Hf2, e2, as2, S2, A2, s2, ag, f2⟩
    by_cases hlt : n < ds.length
    · have hdr : ds.drop n = ds[n] :: ds.drop (n + 1) := List.drop_eq_getElem_cons hlt
      rw [hdr] at f2
      obtain ⟨kk, zs, hk, hz, hzl, f3⟩ := fillI_cons f2
      refine .inr ⟨w.go n H2 (s2.trans S2.gr.fh) hlt, fun σ3 H3 => ∃ Hf3 e3 as3, SR (X.kw ea) H0 Hf0 Hf3 H3 σ3 e3 ∧ Ah (X.kw ea) H0 Hf3 H3 σ3 e3 i as3 ∧ Same Hf1 Hf3 ∧ Agr [j] e e3 ∧ fillI d2 (ds.drop (n + 1)) as3 = some as',
        fun σ3 H3 n3 => ⟨ds.length - (n + 1), by omega, rfl, hlt, n3⟩, fun x H3 hy => ?_⟩
      obtain ⟨Hf3, g3, rx⟩ := w.yl n H2 Hf2 H3 x ds[n] (s2.trans S2.gr.fh) s2 S2.gr.fh (List.getElem?_eq_getElem hlt) hy
      refine ⟨H0, Hf0, Hf3, e2, ds[n], e2.set j (.dat ds[n]), S2.grow g3, rx, rfl, fun σ4 l4 o4 S4 => ?_⟩
      have A4 := (A2.grow g3).dat (d := ds[n]) hij o4
      have hj2 : j < e2.length := by rw [ag.1]; exact hje
      refine ⟨H0, Hf0, Hf3, e2.set j (.dat ds[n]), as2, ds[n], d2, kk, zs, S4, A4, List.getElem?_set_self hj2, ?_, hk, hz, hzl, fun H5 S5 A5 => ?_⟩
      · rw [List.getElem?_set_ne (fun z => hlj z.symm), ag.2 l (by simpa using hlj)]
        exact hle
      · exact ⟨Hf3, _, _, S5, A5, s2.trans g3.ff, ag.trans (.set _ (by simp)), f3⟩
    · have hn' : n = ds.length := by omega
      subst hn'
      rw [List.drop_length] at f2
      obtain rfl : as2 = as' := Option.some.inj f2
      exact .inl ⟨w.st H2 (s2.trans S2.gr.fh), q σ2 e2 Hf2 H2 S2 A2 (g.ff.trans s2) ag⟩⟩
/-- for s in c: for o in c[s]: a[o].append(s) -/
def tAh3 (K : Kw) (c i j l : Nat) : TS := fun D σ H => ∃ H0 Hf0 Hf e as kvs as', SR K H0 Hf0 Hf H σ e ∧ Ah K H0 Hf H σ e i as ∧ e[c]? = some (.dat (.dict kvs)) ∧ headD kvs = true ∧ fillO kvs (kvKeys kvs) as = some as' ∧
  j < e.length ∧ l < e.length ∧ ∀ σ' e' Hf' H', SR K H0 Hf0 Hf' H' σ' e' → Ah K H0 Hf' H' σ' e' i as' → Same Hf Hf' → Agr [l, j] e e' → D.nx σ' H'
theorem ps_ah3 {tg iter : Expr} {body : List Stmt} {pos : Pos} {c i j l : Nat} (hp : PassesOwn (model X.prog X.w) X.A X.env X.xe) (hc : X.calm = true) (hil : i ≠ l) (hcl : c ≠ l) (hcj : c ≠ j)
    (hi : PI X tg iter (tI (X.kw ea) W true (ikeys (xvE c)))) (hg : PG X tg (tG (X.kw ea) [l] (gn l))) (hb : PSs X body (tAh2 (X.kw ea) c i j l)) (hs : ∀ x, foldedSetIterable iter X.env x = pure x := by intro _; rfl) :
    PS X (.For tg iter body [] pos) (tAh3 (X.kw ea) c i j l) :=
  PS_weak (ps_for hp hc hi hg hb hs) fun D σ H ⟨H0, Hf0, Hf, e, as, kvs, as', S, A, hce, hh, hfl, hje, hle, q⟩ => ⟨H0, Hf0, Hf, e, S, by
    have ev : ikeys (xvE c) e = .ok (kvKeys kvs) := by
      unfold ikeys xvE getE
      rw [hce]
      show opt (if headD kvs then some (kvKeys kvs) else none) = _
      rw [if_pos hh]
      rfl
    rw [ev]
    generalize hds : kvKeys kvs = ds at hfl
    intro J Hf1 H1 g w
    have w : Wk (X.kw ea) Hf1 Hf1 J ds := w
    refine ⟨fun n m σ2 H2 => m = ds.length - n ∧ n ≤ ds.length ∧ ∃ Hf2 e2 as2, SR (X.kw ea) H0 Hf0 Hf2 H2 σ2 e2 ∧ Ah (X.kw ea) H0 Hf2 H2 σ2 e2 i as2 ∧ Same Hf1 Hf2 ∧ Agr [l, j] e e2 ∧ fillO kvs (ds.drop n) as2 = some as',
      ⟨ds.length, rfl, Nat.zero_le _, Hf1, e, as, S.grow g, A.grow g, Same.refl _, .refl _ _, hfl⟩, ?_⟩
    rintro n m σ2 H2 ⟨rfl, hn, Hf2, e2, as2, S2, A2, s2, ag, f2⟩
    by_cases hlt : n < ds.length
    · have hdr : ds.drop n = ds[n] :: ds.drop (n + 1) := List.drop_eq_getElem_cons hlt
      rw [hdr] at f2
      obtain ⟨es, as3, hdx, hfi, f3⟩ := fillO_cons f2
      refine .inr ⟨w.go n H2 (s2.trans S2.gr.fh) hlt, fun σ3 H3 => ∃ Hf3 e3 as3, SR (X.kw ea) H0 Hf0 Hf3 H3 σ3 e3 ∧ Ah (X.kw ea) H0 Hf3 H3 σ3 e3 i as3 ∧ Same Hf1 Hf3 ∧ Agr [l, j] e e3 ∧ fillO kvs (ds.drop (n + 1)) as3 = some as',
        fun σ3 H3 n3 => ⟨ds.length - (n + 1), by omega, rfl, hlt, n3⟩, fun x H3 hy => ?_⟩
      obtain ⟨Hf3, g3, rx⟩ := w.yl n H2 Hf2 H3 x ds[n] (s2.trans S2.gr.fh) s2 S2.gr.fh (List.getElem?_eq_getElem hlt) hy
      refine ⟨H0, Hf0, Hf3, e2, ds[n], e2.set l (.dat ds[n]), S2.grow g3, rx, rfl, fun σ4 l4 o4 S4 => ?_⟩
      have A4 := (A2.grow g3).dat (d := ds[n]) hil o4
      have hl2 : l < e2.length := by rw [ag.1]; exact hle
      refine ⟨H0, Hf0, Hf3, e2.set l (.dat ds[n]), as2, kvs, ds[n], es, as3, S4, A4, ?_, List.getElem?_set_self hl2, hdx, hfi, by rw [List.length_set, ag.1]; exact hje, fun σ5 e5 Hf5 H5 S5 A5 s5 ag5 => ?_⟩
      · rw [List.getElem?_set_ne (fun z => hcl z.symm), ag.2 c (by simp [hcl, hcj])]
        exact hce
      · exact ⟨Hf5, e5, as3, S5, A5, (s2.trans g3.ff).trans s5, (ag.trans (.set _ (by simp))).trans (ag5.more (by simp)), f3⟩
    · have hn' : n = ds.length := by omega
      subst hn'
      rw [List.drop_length] at f2
      obtain rfl : as2 = as' := Option.some.inj f2
      exact .inl ⟨w.st H2 (s2.trans S2.gr.fh), q σ2 e2 Hf2 H2 S2 A2 (g.ff.trans s2) ag⟩⟩
end
/-! ### all is frozen -/
section
variable {K : Kw} {H0 Hf0 Hf H : Hp} {σ : L2.St} {e : En}
open Classical in
theorem SR.frzP (S : SR K H0 Hf0 Hf H σ e) (P : Addr → Prop) (h : ∀ a, P a → H0 a = none ∧ NoOwn σ e a) : ∃ Hf', (∀ a, P a → Hf' a = H a) ∧ Same Hf Hf' ∧ SR K H0 Hf0 Hf' H σ e := by
  let Hf' : Hp := fun a => if P a then H a else Hf a
  have at_ : ∀ a, P a → Hf' a = H a := fun a p => if_pos p
  have no_ : ∀ a, ¬ P a → Hf' a = Hf a := fun a p => if_neg p
  have s1 : Same Hf Hf' := fun a o g => by
    by_cases p : P a
    · rw [at_ a p]; exact S.gr.fh a o g
    · rw [no_ a p]; exact g
  have s2 : Same Hf' H := fun a o g => by
    by_cases p : P a
    · rw [at_ a p] at g; exact g
    · rw [no_ a p] at g; exact S.gr.fh a o g
  refine ⟨Hf', at_, s1, ⟨S.gr.hh, S.gr.ff.trans s1, s2, fun a o g m n => ?_⟩, S.len, fun i s v h1 h2 => ?_, S.sep⟩
  · rw [no_ a fun p => by rw [(h a p).1] at g; cases g]
    exact S.gr.nf a o g m n
  · have z := S.sl i s v h1 h2
    cases s with
    | un => trivial
    | dat d => obtain ⟨x, ex, r⟩ := z; exact ⟨x, ex, r.mono s1⟩
    | own ds =>
      obtain ⟨a, xs, ev, ha, h0, hf, r⟩ := z
      exact ⟨a, xs, ev, ha, h0, by rw [no_ a fun p => (h a p).2 i _ h1 rfl (by rw [h2, ev])]; exact hf, r.mono s1⟩
    | dic ks =>
      obtain ⟨a, xs, ev, ha, h0, hf, r⟩ := z
      exact ⟨a, xs, ev, ha, h0, by rw [no_ a fun p => (h a p).2 i _ h1 rfl (by rw [h2, ev])]; exact hf, r.mono s1⟩
    | exc => exact z
theorem ah_dct {Hf' : Hp} (s : Same Hf Hf') : ∀ {rows : List (NestedKey × Addr × Value)} {as : List (D × D)}, Paired (AhRow K H0 Hf H σ e) rows as → (∀ c, Value.ref c ∈ (rows.map fun r => r.2.2) → Hf' c = H c) → RpDct K Hf' rows as
  | _, _, .nil, _ => .nil
  | (k, b, u) :: rows, (d, z) :: as, .cons h t, hs => by
    obtain ⟨c, xs, ds, h1, h2, h3, h4, h5, h6, h7, h8, h9, h10⟩ := h
    have h1 : u = .ref c := h1
    have h2 : z = .list ds := h2
    subst h1 h2
    refine .cons h8 h9 (h10.mono s) (v := .ref c) rfl (.lst ?_ (h7.mono s)) (ah_dct s t fun c' hc' => hs c' (by rw [List.map_cons]; exact List.mem_cons_of_mem _ hc'))
    rw [hs c (by rw [List.map_cons]; exact List.mem_cons_self)]
    exact h3
theorem SR.forget (S : SR K H0 Hf0 Hf H σ e) (j : Nat) : SR K H0 Hf0 Hf H σ (e.set j .un) := by
  by_cases hj : j < e.length
  · have := S.put j (σ[j]'(by rw [S.len]; exact hj)) .un trivial fun o => by cases o
    rw [set_get (List.getElem?_eq_getElem (by rw [S.len]; exact hj))] at this
    exact this
  · rw [List.set_eq_of_length_le (by omega)]
    exact S
/-- what was filled becomes data -/
theorem Ah.done {i : Nat} {as : List (D × D)} (S : SR K H0 Hf0 Hf H σ e) (A : Ah K H0 Hf H σ e i as) : ∃ Hf', Same Hf Hf' ∧ SR K H0 Hf0 Hf' H σ (e.set i (.dat (.dict as))) := by
  obtain ⟨a, x, h1, h2, h3, h4, h5, h6, h7⟩ := A
  obtain ⟨Hf', at_, s1, S'⟩ := S.frzP (fun c => c = a ∨ Value.ref c ∈ (x.1.map fun r => r.2.2)) fun c hc => by
    rcases hc with rfl | hc
    · exact ⟨h3, h5⟩
    · obtain ⟨r, hr, er⟩ := List.mem_map.mp hc
      obtain ⟨p, c', _, _, q1, _, _, q2, _, q3, _⟩ := Paired.left h6 r hr
      obtain rfl : c' = c := by rw [q1] at er; injection er
      exact ⟨q2, q3⟩
  refine ⟨Hf', s1, ?_⟩
  have := S'.dat i (v := .ref a) (d := .dict as) (.dct (by rw [at_ a (.inl rfl)]; exact h2) (ah_dct s1 h6 fun c hc => at_ c (.inr hc)))
  rw [set_get h1] at this
  exact this
end
end Pu
/-! PuDe: a = dict([(s, []) for s in c]); the whole of it -/
namespace Pu
open PySem L2
theorem Paired.map2 {α β γ δ : Type} {G : α → β → Prop} {G' : γ → δ → Prop} {ε : Type} (f : ε → β) (g : α → γ) (h : ε → δ) (k : ∀ x y, G x (f y) → G' (g x) (h y)) : ∀ {l : List α} {m : List ε}, Paired G l (m.map f) → Paired G' (l.map g) (m.map h)
  | [], [], _ => .nil
  | x :: l, y :: m, p => by
    rw [List.map_cons] at p
    rw [List.map_cons, List.map_cons]
    cases p with
    | cons a b => exact .cons (k x y a) (Paired.map2 f g h k b)
  | [], y :: m, p => by rw [List.map_cons] at p; cases p
  | x :: l, [], p => by cases p
theorem Paired.snoc {α β : Type} {G : α → β → Prop} {x : α} {y : β} : ∀ {l : List α} {m : List β}, Paired G l m → G x y → Paired G (l ++ [x]) (m ++ [y])
  | _, _, .nil, h => .cons h .nil
  | _, _, .cons a t, h => .cons a (Paired.snoc t h)
theorem NoOwn.put {σ : L2.St} {e : En} {c : Addr} {i : Nat} {v : Option V} {s : Sl} (h : NoOwn σ e c) (hs : s.isOwn = false) : NoOwn (σ.set i v) (e.set i s) c := fun q t h1 h2 => by
  by_cases z : i = q
  · subst z
    by_cases hj : i < e.length
    · rw [List.getElem?_set_self hj] at h1
      cases h1
      rw [hs] at h2
      cases h2
    · rw [List.getElem?_eq_none (by rw [List.length_set]; omega)] at h1
      cases h1
  · rw [List.getElem?_set_ne z] at h1 ⊢
    exact h q t h1 h2
/-- a pair (key, []): its tuple, its key's tuple, its list -/
def RowN (K : Kw) (H1 Hf H : Hp) (r : Addr × Addr × Addr) (d : D) : Prop := SqF H r.1 [.ref r.2.1, .ref r.2.2] ∧ H r.2.2 = some (.lst []) ∧ H1 r.2.2 = none ∧ Hf r.2.2 = none ∧ Rp K Hf (.ref r.2.1) d
def nilL (p : D × D) : D × D := (p.1, .list [])
theorem keysOk_nil (kvs : List (D × D)) : keysOk (kvs.map nilL) = keysOk kvs := by
  unfold keysOk
  rw [List.all_map, List.map_map]
  rfl
section
variable {K : Kw} {H0 H1 Hf H H3 : Hp} {σ : L2.St} {e : En}
theorem ah_new (hn : ∀ c, H1 c = none → H c = some (.lst []) → H0 c = none ∧ NoOwn σ e c ∧ H3 c = some (.lst [])) : ∀ {rows : List (Addr × Addr × Addr)} {kvs : List (D × D)} {es : List (NestedKey × Addr × Value)}, Paired (RowN K H1 Hf H) rows (kvs.map (·.1)) → RpDct K H es (kvs.map nilL) →
    Paired (fun (r : Row3) (x : NestedKey × Addr × Value) => x.2.1 = r.2.1 ∧ RelV r.2.2 x.2.2) (rows.map fun r => (r.1, r.2.1, V.ref r.2.2)) es → Paired (AhRow K H0 Hf H3 σ e) es (kvs.map nilL) ∧ (es.map fun x => x.2.2) = rows.map fun r => Value.ref r.2.2
  | [], [], es, _, r, _ => by
    cases r
    exact ⟨.nil, rfl⟩
  | [], y :: m, _, p, _, _ => by rw [List.map_cons] at p; cases p
  | x :: l, [], _, p, _, _ => by cases p
  | r :: rows, kv :: kvs, es, p, rd, q => by
    rw [List.map_cons] at p rd q
    cases p with
    | cons a t =>
      cases q with
      | @cons _ x' _ es' b u =>
        cases rd with
        | cons hk hd hb rv he t' =>
          obtain ⟨i1, i2⟩ := ah_new hn t t' u
          obtain ⟨a1, a2, a3, a4, a5⟩ := a
          obtain ⟨n1, n2, n3⟩ := hn _ a3 a2
          obtain ⟨b1, b2⟩ := b
          have b1 : _ = r.2.1 := b1
          refine ⟨.cons ⟨r.2.2, [], [], b2, rfl, n3, n1, a4, n2, .nil, hk, hd, ?_⟩ i1, ?_⟩
          · show Rp K Hf (.ref _) kv.1
            rw [b1]
            exact a5
          · rw [List.map_cons, List.map_cons, i2]
            exact congrArg (· :: _) b2
end
section
variable {X : Cx} {W : WE} {k : Nat}
/-- a = dict([(s, []) for s in c]) -/
def tAh0 (K : Kw) (c i l : Nat) : TS := fun D σ H => ∃ H0 Hf0 Hf e kvs s0, SR K H0 Hf0 Hf H σ e ∧ e[c]? = some (.dat (.dict kvs)) ∧ e[i]? = some s0 ∧ l < e.length ∧ headD kvs = true ∧ keysOk kvs = true ∧ kvs.length ≤ many ∧
  ∀ σ' Hf' H', SR K H0 Hf0 Hf' H' σ' (e.set i .un) → Ah K H0 Hf' H' σ' (e.set i .un) i (kvs.map nilL) → Same Hf Hf' → D.nx σ' H'
theorem wipeE_length (e : En) : ∀ vs : List Nat, (wipeE e vs).length = e.length
  | [] => rfl
  | v :: vs => by
    show ((wipeE e vs).set v .un).length = _
    rw [List.length_set, wipeE_length e vs]
theorem ps_ah0 {y x : Str} {tg iter : Expr} {scope : Scope} {own : List (Str × Nat)} {py px pl pt p p1 p2 pos : Pos} {kk c i l : Nat} (z : Cz X k W) (m : X.mg "dict" = none) (hN : X.N.Nodup) (hi : X.N[i]? = some y) (hy : Loc X.env.scope y)
    (hit : PI X tg iter (tI (X.kw ea) W false (ikeys (xvE c)))) (ok : BlkOk X.N X.env.scope scope own) (his : l ∈ own.map (·.2))
    (hg : ∀ (s : Shared) (H : Hp) (C : Addr) (cl : List (Str × Addr)) (fp : List Addr), PG (X.blk s H scope (compEnvC scope cl C X.env) fp) tg (tG (X.kw ea) [l] (gn l)))
    (hv : ∀ (s : Shared) (H : Hp) (C : Addr) (cl : List (Str × Addr)) (fp : List Addr), PE (X.blk s H scope (compEnvC scope cl C X.env) fp) (.Name x px) (tVar l))
    (hst : ∀ (s : Shared) (H : Hp) (C : Addr) (cl : List (Str × Addr)) (fp : List Addr), starEach [.Name x px, .List [] pl] (X.blk s H scope (compEnvC scope cl C X.env) fp).env = (false, eval (.Name x px) (X.blk s H scope (compEnvC scope cl C X.env) fp).env) :: starEach [.List [] pl] (X.blk s H scope (compEnvC scope cl C X.env) fp).env := by intros; rfl)
    (hst2 : ∀ (s : Shared) (H : Hp) (C : Addr) (cl : List (Str × Addr)) (fp : List Addr), starEach [.List [] pl] (X.blk s H scope (compEnvC scope cl C X.env) fp).env = (false, eval (.List [] pl) (X.blk s H scope (compEnvC scope cl C X.env) fp).env) :: starEach [] (X.blk s H scope (compEnvC scope cl C X.env) fp).env := by intros; rfl)
    (hfs : ∀ x, foldedSetIterable iter X.env x = pure x := by intro _; rfl) (hgl : Gl X "dict" := by rfl)
    (he : starEach [.ListComp (.Tuple [.Name x px, .List [] pl] kk pt) [⟨tg, iter, [], 0⟩] scope p1] X.env = [(false, eval (.ListComp (.Tuple [.Name x px, .List [] pl] kk pt) [⟨tg, iter, [], 0⟩] scope p1) X.env)] := by rfl)
    (hs : swapsWith (.Call (.Name "dict" p) [.ListComp (.Tuple [.Name x px, .List [] pl] kk pt) [⟨tg, iter, [], 0⟩] scope p1] [] p2) (some (.Name y py)) pos.line X.env = pure false := by rfl) (hf : X.fn y = true ∨ X.env.scope.names.lookup y = some .local := by first | exact .inl rfl | exact .inr rfl | assumption) :
    PS X (.Assign [.Name y py] (.Call (.Name "dict" p) [.ListComp (.Tuple [.Name x px, .List [] pl] kk pt) [⟨tg, iter, [], 0⟩] scope p1] [] p2) pos) (tAh0 (X.kw ea) c i l) :=
  PS_weak (ps_set hN hi hy (pe_callTy (cr_dictL (ea := ea) z.calm (by have := z.rm.un; omega)) hgl m bt_dict (pa_cons (pe_lc (tt := tT (X.kw ea) W0 tyes) z.calm hN hit ok hg (fun s H C cl fp => tsNil (ea := ea) (W := W0)) (fun s H C cl fp => pe_tupF (pa_cons (hv s H C cl fp) (pa_cons (pe_lst pa_nil) pa_nil (hst2 s H C cl fp)) (hst s H C cl fp))) hfs) pa_nil he) (by decide) (by decide) he) hs hf) fun Dn σ H ⟨H0, Hf0, Hf, e, kvs, s0, S, hc, hie, hle, hh, hk, hm, q⟩ => ⟨H0, Hf0, Hf, e, S, by
    have ev : ikeys (xvE c) e = .ok (kvKeys kvs) := by
      unfold ikeys xvE getE
      rw [hc]
      show opt (if headD kvs then some (kvKeys kvs) else none) = _
      rw [if_pos hh]
      rfl
    rw [ev]
    have tups : ∀ d ∈ kvKeys kvs, ∃ ts, d = .tuple ts := fun d hd => by
      obtain ⟨pp, hp, rfl⟩ := List.mem_map.mp hd
      unfold keysOk at hk
      rw [Bool.and_eq_true, List.all_eq_true] at hk
      have := hk.1 pp hp
      unfold keyT at this
      split at this
      · rename_i h
        split at h
        · rename_i ts et
          exact ⟨ts, et⟩
        · cases h
      · cases this
    have hlen : (kvKeys kvs).length = kvs.length := List.length_map _
    generalize hds : kvKeys kvs = ds at tups hlen
    intro J Hf1 H1 g w Dl hD
    have S1 := S.grow g
    refine ⟨fun n m H2 => m = ds.length - n ∧ n ≤ ds.length ∧ ∃ (Hf2 : Hp) (rows : List (Addr × Addr × Addr)), Grow Hf1 H1 Hf2 H2 ∧ Hf2 Dl = none ∧ H2 Dl = some (.lst (rows.map fun r => V.ref r.1)) ∧ Paired (RowN (X.kw ea) H1 Hf2 H2) rows (ds.take n) ∧ (rows.map fun r => r.2.2).Nodup ∧ (∀ r ∈ rows, r.2.2 ≠ Dl) ∧ rows.length = n,
      ⟨ds.length, rfl, Nat.zero_le _, Hf1, [], Grow.lay g.fh hD, g.fh.free hD, upd_same, .nil, List.nodup_nil, (fun r hr => by cases hr), rfl⟩, ?_⟩
    rintro n m H2 ⟨rfl, hn, Hf2, rows, g2, nD, hacc, pr, nd, nDl, rl⟩
    by_cases hlt : n < ds.length
    · refine .inr ⟨w.go n H2 g2.hh hlt, fun H3 => ∃ (Hf2 : Hp) (rows : List (Addr × Addr × Addr)), Grow Hf1 H1 Hf2 H3 ∧ Hf2 Dl = none ∧ H3 Dl = some (.lst (rows.map fun r => V.ref r.1)) ∧ Paired (RowN (X.kw ea) H1 Hf2 H3) rows (ds.take (n + 1)) ∧ (rows.map fun r => r.2.2).Nodup ∧ (∀ r ∈ rows, r.2.2 ≠ Dl) ∧ rows.length = n + 1,
        fun H3 n3 => ⟨ds.length - (n + 1), by omega, rfl, hlt, n3⟩, fun v H3 hyl => ?_⟩
      obtain ⟨Hf3, g3, rx⟩ := w.yl n H2 Hf2 H3 v ds[n] g2.hh g2.ff g2.fh (List.getElem?_eq_getElem hlt) hyl
      have S3 := ((S1.wipe (own.map (·.2))).grow g2).grow g3
      refine ⟨H0, Hf0, Hf3, _, ds[n], _, S3, rx, rfl, fun σ2 l2 o2 S4 => ⟨wipe_eq l2 o2 (fun q hq => by cases List.mem_singleton.mp hq; exact his), H0, Hf0, Hf3, _, S4, fun Hf4 H4 g4 => ?_⟩⟩
      show (if true = true then _ else _)
      rw [if_pos rfl]
      have hl2 : l < (wipeE e (own.map (·.2))).length := by rw [wipeE_length]; exact hle
      obtain ⟨v2, hv2⟩ := S4.lt (List.getElem?_set_self hl2)
      obtain ⟨w2, ew2, r2⟩ := S4.sl l _ v2 (List.getElem?_set_self hl2) hv2
      subst ew2
      obtain ⟨ts, et⟩ := tups ds[n] (List.getElem_mem hlt)
      obtain ⟨b, hb⟩ : ∃ b, w2 = .ref b := by
        rw [et] at r2
        obtain ⟨b, _, eb, _⟩ := (VRp.e (H := Hf3) r2).tuple (Same.refl _)
        exact ⟨b, eb⟩
      subst hb
      have g14 := (g2.trans g3).trans g4
      have hD4 := g4.hh _ _ (g3.hh _ _ hacc)
      have nD4 := g4.nf _ _ (g3.hh _ _ hacc) rfl (g3.nf _ _ hacc rfl nD)
      refine ⟨.ref b, hv2, Nat.zero_le _, fun pc hpc => ⟨(show 2 ≤ sizeLine by decide), fun pt' o hpt ho => ?_⟩⟩
      have hpD : pc ≠ Dl := fun z => by rw [z, hD4] at hpc; cases hpc
      have htp : pt' ≠ pc := fun z => by rw [z, upd_same] at hpt; cases hpt
      have hpt4 : H4 pt' = none := by rw [upd_ne htp] at hpt; exact hpt
      have htD : pt' ≠ Dl := fun z => by rw [z, hD4] at hpt4; cases hpt4
      have hD6 : (upd (upd H4 pc (.lst [])) pt' (.frz o (.tup [.ref b, .ref pc]))) Dl = some (.lst (rows.map fun r => V.ref r.1)) := by
        rw [upd_ne (fun z => htD z.symm), upd_ne (fun z => hpD z.symm)]
        exact hD4
      refine ⟨rows.map fun r => V.ref r.1, hD6, by rw [List.length_map, rl]; exact many_lt (by omega), Hf4, rows ++ [(pt', b, pc)], ⟨?_, g14.ff, ?_, g14.nf⟩, nD4, ?_, ?_, ?_, ?_, by rw [List.length_append, rl]; rfl⟩
      · exact Same.upd (Same.upd (Same.upd g14.hh (g14.hh.free hpc)) (g14.hh.free hpt4)) hD
      · exact Same.upd (Same.upd (Same.upd g4.fh (g4.fh.free hpc)) (g4.fh.free hpt4)) nD4
      · rw [upd_same, List.map_append]
        rfl
      · rw [List.take_succ_eq_append_getElem hlt]
        refine Paired.snoc (Paired.imp2 (fun r hr d _ hrd => ?_) pr) ⟨⟨o, ?_, ho⟩, ?_, g14.hh.free hpc, g4.fh.free hpc, r2.mono g4.ff⟩
        · obtain ⟨⟨o', a1, a2⟩, b1, b2, b3, b4⟩ := hrd
          have c1 := g4.hh _ _ (g3.hh _ _ a1)
          have c2 := g4.hh _ _ (g3.hh _ _ b1)
          have n1 : r.1 ≠ Dl := fun z => by rw [z, hD4] at c1; cases c1
          have n2 : r.1 ≠ pt' := fun z => by rw [z, hpt4] at c1; cases c1
          have n3 : r.1 ≠ pc := fun z => by rw [z, hpc] at c1; cases c1
          have n4 : r.2.2 ≠ pt' := fun z => by rw [z, hpt4] at c2; cases c2
          have n5 : r.2.2 ≠ pc := fun z => by rw [z, hpc] at c2; cases c2
          refine ⟨⟨o', ?_, a2⟩, ?_, b2, g4.nf _ _ (g3.hh _ _ b1) rfl (g3.nf _ _ b1 rfl b3), (b4.mono g3.ff).mono g4.ff⟩
          · rw [upd_ne n1, upd_ne n2, upd_ne n3]; exact c1
          · rw [upd_ne (nDl r hr), upd_ne n4, upd_ne n5]; exact c2
        · show upd _ Dl _ pt' = _
          rw [upd_ne htD, upd_same]
        · show upd _ Dl _ pc = _
          rw [upd_ne hpD, upd_ne (fun z => htp z.symm), upd_same]
      · rw [List.map_append, List.nodup_append]
        refine ⟨nd, by simp, fun a ha b' hb' z => ?_⟩
        have hb' : b' = pc := by simpa using hb'
        obtain ⟨r, hr, er⟩ := List.mem_map.mp ha
        obtain ⟨d', hrd⟩ := Paired.left pr r hr
        have c2 := g4.hh _ _ (g3.hh _ _ hrd.2.1)
        rw [er, z, hb', hpc] at c2
        cases c2
      · intro r hr
        rcases List.mem_append.mp hr with hr | hr
        · exact nDl r hr
        · cases List.mem_singleton.mp hr
          exact hpD
    · have hn' : n = ds.length := by omega
      subst hn'
      rw [List.take_length, ← hds] at pr
      refine .inl ⟨w.st H2 g2.hh, Dl, H2, rows.map (fun r => (r.1, r.2.1, V.ref r.2.2)), kvs.map nilL, rfl, Same.refl _, SqL.of (by rw [hacc, List.map_map]; rfl), ?_, by rw [keysOk_nil]; exact hk, by rw [List.length_map]; exact hm, fun b es hb rd pid => ?_⟩
      · exact Paired.map2 (G := RowN (X.kw ea) H1 Hf2 H2) (fun p : D × D => p.1) _ nilL (fun r p h => ⟨h.1, h.2.2.2.2.mono g2.fh, .lst h.2.1 .nil⟩) pr
      · have S2 := S1.grow g2
        have hif : i < σ.length := by rw [S.len]; exact (List.getElem?_eq_some_iff.mp hie).1
        have lay := Grow.lay (o := DicO X.w b es) g2.fh hb
        have S3 : SR (X.kw ea) H0 Hf0 Hf2 (upd H2 b (DicO X.w b es)) (σ.set i (some (.ref b))) (e.set i .un) := (S2.grow lay).put i (some (.ref b)) .un trivial fun o => by cases o
        obtain ⟨i1, i2⟩ := ah_new (K := X.kw ea) (H0 := H0) (H3 := upd H2 b (DicO X.w b es)) (σ := σ.set i (some (.ref b))) (e := e.set i .un) (fun cc h1 h2 => ⟨S1.gr.hh.free h1, (S1.fresh h1).put rfl, by rw [upd_ne (fun z => by rw [z, hb] at h2; cases h2)]; exact h2⟩) pr rd pid
        refine q _ Hf2 _ S3 ⟨b, es, List.getElem?_set_self hif, upd_same, S2.gr.hh.free hb, g2.fh.free hb, (S2.fresh hb).put rfl, i1, ?_⟩ (g.ff.trans g2.ff)
        rw [i2]
        have : (rows.map fun r => Value.ref r.2.2) = (rows.map fun r => r.2.2).map Value.ref := by rw [List.map_map]; rfl
        rw [this, List.Nodup, List.pairwise_map]
        exact List.Pairwise.imp (fun h z => h (by injection z)) nd⟩
/-! ### both statements -/
def sahead (c i j l l0 : Nat) : En → Fl := fun e => match e[c]? with
  | some (.dat (.dict kvs)) => if (decide (i < e.length) && decide (j < e.length) && decide (l < e.length) && decide (l0 < e.length) && headD kvs && keysOk kvs && decide (kvs.length ≤ many)) = true then match fillO kvs (kvKeys kvs) (kvs.map nilL) with
    | some as => .nx (((e.set i (.dat (.dict as))).set l .un).set j .un)
    | none => .bad
    else .bad
  | _ => .bad
theorem sahead_of (c i j l l0 : Nat) (e : En) : sahead c i j l l0 e = .bad ∨ ∃ kvs as, e[c]? = some (.dat (.dict kvs)) ∧ i < e.length ∧ j < e.length ∧ l < e.length ∧ l0 < e.length ∧ headD kvs = true ∧ keysOk kvs = true ∧ kvs.length ≤ many ∧ fillO kvs (kvKeys kvs) (kvs.map nilL) = some as ∧ sahead c i j l l0 e = .nx (((e.set i (.dat (.dict as))).set l .un).set j .un) := by
  unfold sahead
  split
  · rename_i kvs hc
    split
    · rename_i hh
      simp only [Bool.and_eq_true, decide_eq_true_eq] at hh
      obtain ⟨⟨⟨⟨⟨⟨h1, h2⟩, h3⟩, h4⟩, h5⟩, h6⟩, h7⟩ := hh
      cases hf : fillO kvs (kvKeys kvs) (kvs.map nilL) with
      | none => exact .inl rfl
      | some as => exact .inr ⟨kvs, as, hc, h1, h2, h3, h4, h5, h6, h7, hf, rfl⟩
    · exact .inl rfl
  · exact .inl rfl
theorem sAhead {st0 st1 : Stmt} {rest : List Stmt} {c i j l l0 : Nat} {B : En → Fl} (hic : i ≠ c) (hil : i ≠ l) (hij : i ≠ j) (h0 : PS X st0 (tAh0 (X.kw ea) c i l0)) (h1 : PS X st1 (tAh3 (X.kw ea) c i j l)) (hr : PSs X rest (tS (X.kw ea) W B)) : PSs X (st0 :: st1 :: rest) (tS (X.kw ea) W (sseq (sahead c i j l l0) B)) :=
  PSs_weak (pss_cons h0 (pss_cons h1 hr)) fun Dn σ H ⟨H0, Hf0, Hf, e, S, p⟩ => by
    unfold sseq at p
    rcases sahead_of c i j l l0 e with h | ⟨kvs, as, hc, hi, hj, hl, hl0, hh, hk, hm, hf, h⟩
    · rw [h] at p
      exact p.elim
    · rw [h] at p
      have p : PoS (X.kw ea) W Dn H0 Hf0 Hf (B (((e.set i (.dat (.dict as))).set l .un).set j .un)) := p
      refine ⟨H0, Hf0, Hf, e, kvs, _, S, hc, List.getElem?_eq_getElem hi, hl0, hh, hk, hm, fun σ1 Hf1 H1 S1 A1 s1 => ?_⟩
      refine ⟨H0, Hf0, Hf1, e.set i .un, kvs.map nilL, kvs, as, S1, A1, by rw [List.getElem?_set_ne hic]; exact hc, hh, hf, by rw [List.length_set]; exact hj, by rw [List.length_set]; exact hl, fun σ2 e2 Hf2 H2 S2 A2 s2 ag => ?_⟩
      obtain ⟨Hf3, s3, S3⟩ := A2.done S2
      have S4 := (S3.forget l).forget j
      have ee : ((e2.set i (.dat (.dict as))).set l .un).set j .un = ((e.set i (.dat (.dict as))).set l .un).set j .un := by
        refine List.ext_getElem? fun q => ?_
        have len : e2.length = e.length := by rw [ag.1, List.length_set]
        by_cases z1 : j = q
        · subst z1
          rw [List.getElem?_set_self (by rw [List.length_set, List.length_set, len]; exact hj), List.getElem?_set_self (by rw [List.length_set, List.length_set]; exact hj)]
        · rw [List.getElem?_set_ne z1, List.getElem?_set_ne z1]
          by_cases z2 : l = q
          · subst z2
            rw [List.getElem?_set_self (by rw [List.length_set, len]; exact hl), List.getElem?_set_self (by rw [List.length_set]; exact hl)]
          · rw [List.getElem?_set_ne z2, List.getElem?_set_ne z2]
            by_cases z3 : i = q
            · subst z3
              rw [List.getElem?_set_self (by rw [len]; exact hi), List.getElem?_set_self hi]
            · rw [List.getElem?_set_ne z3, List.getElem?_set_ne z3, ag.2 q (fun y => by rcases List.mem_cons.mp y with y | y; exact z2 y.symm; exact z1 (List.mem_singleton.mp y).symm), List.getElem?_set_ne z3]
      rw [ee] at S4
      exact ⟨H0, Hf0, Hf3, _, S4, p.same ((s1.trans s2).trans s3)⟩
end
end Pu
/-! PuDw: the words of dicts, as a printed text uses them -/
namespace Pu
open PySem L2
section
variable {X : Cx} {k : Nat} {W : WE} {a b c : Expr} {F G E : En → R D} {pos p p2 q pt px py pa : Pos} {x y : Str}
theorem xDGetW (z : Cz X k W) (ho : PE X a (tV (X.kw ea) W F)) (he : PE X b (tV (X.kw ea) W G)) (hf : PE X c (tE (X.kw ea) W E)) (h1 : attributeBase a "get" X.env (eval a X.env) = eval a X.env := by rfl)
    (h2 : ((backTo pos (starEach [b, c] X.env)).all (fun x => !x.1) && (backToKw pos (keywordEach [] X.env)).all (fun x => x.1.isSome) && decide (([b, c] : List Expr).length + ([] : List Keyword).length + (if ([] : List Keyword).isEmpty then 0 else 1) < 30)) = true := by rfl)
    (h3 : (p2.endLine == pos.line) = true := by rfl) (h4 : backTo pos (starEach [b, c] X.env) = [(false, eval b X.env), (false, eval c X.env)] := by rfl) : PE X (.Call (.Attribute a "get" p2) [b, c] [] pos) (tE (X.kw ea) W (xdget F G E)) :=
  xDGet z ho he hf ⟨h1, h2, h3, h4⟩
theorem xListK (z : Cz X k W) (m : X.mg "list" = none) (ha : PE X a (tV (X.kw ea) W F)) (hg : Gl X "list" := by rfl) (he : starEach [a] X.env = [(false, eval a X.env)] := by rfl) : PE X (.Call (.Name "list" p) [a] [] pos) (tN (X.kw ea) W (un1N keysN F)) :=
  xT1N (call_listK z.calm) hg m bt_list ha (by decide) (by decide) he
theorem sLetP (i j : Nat) (z : Cz X k W) (hx : PE X (.Name x px) (tVar i)) (hi : X.N[j]? = some y := by rfl) (hy : Loc X.env.scope y := by first | exact .inl rfl | exact .inr rfl) (hb : attributeBase (.Name x px) "pop" X.env (eval (.Name x px) X.env) = eval (.Name x px) X.env := by rfl) (hl : (pa.endLine == p2.line) = true := by rfl)
    (hs : swapsWith (.Call (.Attribute (.Name x px) "pop" pa) [] [] p2) (some (.Name y py)) pos.line X.env = pure false := by rfl) (hf : X.fn y = true ∨ X.env.scope.names.lookup y = some .local := by first | exact .inl rfl | exact .inr rfl) :
    PS X (.Assign [.Name y py] (.Call (.Attribute (.Name x px) "pop" pa) [] [] p2) pos) (tS (X.kw ea) W (spopTo i j)) := sPop i j z.nd hi hy hx hb hl hs hf
theorem sLetK (i : Nat) (z : Cz X k W) (m : X.mg "dict" = none) (ha : PE X a (tV (X.kw ea) W F)) (hi : X.N[i]? = some y := by rfl) (hy : Loc X.env.scope y := by first | exact .inl rfl | exact .inr rfl) (hg : Gl X "dict" := by rfl) (he : starEach [a] X.env = [(false, eval a X.env)] := by rfl)
    (hs : swapsWith (.Call (.Name "dict" p) [a] [] p2) (some (.Name y py)) pos.line X.env = pure false := by rfl) (hf : X.fn y = true ∨ X.env.scope.names.lookup y = some .local := by first | exact .inl rfl | exact .inr rfl) :
    PS X (.Assign [.Name y py] (.Call (.Name "dict" p) [a] [] p2) pos) (tS (X.kw ea) W (sasgD i F)) := sDictL i z m z.nd hi hy ha hg he hs hf
end
end Pu
namespace Pf
open PySem L2 Pu
def bend_in : En → Fl :=
  (sret (xdget (xvV 0) (xvV 1) (xtup (lcons (xc (.str "open")) (lcons (xc (.int 0)) lnil)))))
def fend_in : List D → R D := runD 2 bend_in
def qends_of_1 : En → R (List D) :=
  (xlc [2] (ikeys (xvV 0)) (gn 2) tyes (xtup (lcons (xvE 2) (lcons (un1 lenD (bin dixD (xvV 0) (xvV 2))) lnil))))
def qends_of_2 : En → R (List D) :=
  (xlc [2] (ikeys (xvV 0)) (gn 2) (tnot (xtru (bin dixD (xvV 0) (xvV 2)))) (xtup (lcons (xvE 2) (lcons (xtup (lcons (xc (.str "lost")) (lcons (xc (.int 0)) lnil))) lnil))))
def lbends_of_1 : En → Fl :=
  (sseq (sdput 4 (xvE 3) (bin subD (bin dixD (xvV 4) (xvV 3)) (un1 intD (bin eqD (xvV 8) (xc (.str "won"))))))
  (sif (tand (xbl (bin notInD (xvV 3) (xvV 5))) (tor (xbl (bin eqD (xvV 8) (xc (.str "lost")))) (xbl (bin eqD (bin dixD (xvV 4) (xvV 3)) (xc (.int 0)))))) (sseq (sdput 5 (xvE 3) (xtup (lcons (un1 (lookT [(.str "lost", .str "won"), (.str "won", .str "lost")]) (xvV 8)) (lcons (bin addD (xvE 9) (xc (.int 1))) lnil))))
  (sapp 7 (xvE 3))) snil))
def lends_of_1 : En → Fl :=
  (sfor (iseq (bin dixD (xvV 1) (xvV 2))) (gn 3) lbends_of_1)
def lbends_of_2 : En → Fl :=
  (sseq (sasgT (gtup (gcons (gn 8) (gcons (gn 9) gnil))) (bin dixD (xvV 5) (xvV 2)))
  lends_of_1)
def lends_of_2 : En → Fl :=
  (sfor (iseq (xvE 6)) (gn 2) lbends_of_2)
def lbends_of_3 : En → Fl :=
  (sseq (sasgN 7 (xlst lnil))
  (sseq lends_of_2
  (sfz 7 (sasg 6 (xvE 7)))))
def ltends_of_3 : En → R Bool :=
  (xtru (xvV 6))
def lends_of_3 : En → Fl :=
  (swhile 1000000 ltends_of_3 lbends_of_3)
def bends_of : En → Fl :=
  (sseq (sahead 0 1 3 2 2)
  (sseq (sasgD 4 (asL qends_of_1))
  (sseq (sasgD 5 (asL qends_of_2))
  (sseq (sasg 6 (asL (un1N keysN (xvV 5))))
  (sseq lends_of_3
  (sret (xvE 5)))))))
def fends_of : List D → R D := runD 10 bends_of
def qall_stands_1 : En → R (List D) :=
  (xlc [5] (iseq (xcall 2 fmoves (lcons (xvE 0) (lcons (xvE 4) lnil)))) (gn 5) tyes (xcall 2 fdone (lcons (xvE 4) (lcons (xvE 5) lnil))))
def lball_stands_1 : En → Fl :=
  (sseq (spopTo 3 4)
  (sif (xbl (bin notInD (xvV 4) (xvV 2))) (sseq (sdput 2 (xvE 4) (asL qall_stands_1))
  (sext 3 (bin dixD (xvV 2) (xvV 4)))) snil))
def ltall_stands_1 : En → R Bool :=
  (xtru (xvV 3))
def lall_stands_1 : En → Fl :=
  (swhile 1000000 ltall_stands_1 lball_stands_1)
def ball_stands : En → Fl :=
  (sseq (sdnew 2)
  (sseq (sasgN 3 (xlst (lcons (xvE 1) lnil)))
  (sseq lall_stands_1
  (sret (xvE 2)))))
def fall_stands : List D → R D := runD 6 ball_stands
def bend_of : En → Fl :=
  (sret (xcall 2 fend_in (lcons (xcall 1 fends_of (lcons (xcall 2 fall_stands (lcons (xvE 0) (lcons (xvE 1) lnil))) lnil)) (lcons (xvE 1) lnil))))
def fend_of : List D → R D := runD 2 bend_of
end Pf
namespace M12
open PySem L2 Pu Pf
def q_law_is_right_1 : En → R (List D) :=
  (xlc [7] (iseq (xcall 2 f_law_moves (lcons (xvE 0) (lcons (xvE 1) lnil)))) (gn 7) tyes (bin dixD (xvV 2) (xcall 2 f_law_after (lcons (xvE 1) (lcons (xvE 7) lnil)))))
def q_law_is_right_2 : En → R (List D) :=
  (xlc [8, 9] (iseq (xvV 4)) (gtup (gcons (gn 8) (gcons (gn 9) gnil))) (xbl (bin eqD (xvV 8) (xc (.str "lost")))) (xvE 9))
def q_law_is_right_3 : En → R (List D) :=
  (xlc [8, 9] (iseq (xvV 4)) (gtup (gcons (gn 8) (gcons (gn 9) gnil))) (xbl (bin eqD (xvV 8) (xc (.str "won")))) (xvE 9))
def b_law_is_right : En → Fl :=
  (sseq (sasg 3 (bin dixD (xvV 2) (xvV 1)))
  (sseq (sif (tor (tnot (xtru (un1 (isiD "tuple") (xvV 3)))) (xbl (bin neD (un1 lenD (xvV 3)) (xc (.int 2))))) (sret (xc (.bool false))) snil)
  (sseq (sasg 4 (asL q_law_is_right_1))
  (sseq (sif (tnot (xtru (xvV 4))) (sret (xcall 2 (f_law_same 8) (lcons (xvE 3) (lcons (xtup (lcons (xc (.str "lost")) (lcons (xc (.int 0)) lnil))) lnil)))) snil)
  (sseq (sasg 5 (asL q_law_is_right_2))
  (sseq (sasg 6 (asL q_law_is_right_3))
  (sseq (sif (xtru (xvV 5)) (sret (xcall 2 (f_law_same 8) (lcons (xvE 3) (lcons (xtup (lcons (xc (.str "won")) (lcons (bin addD (xc (.int 1)) (un1 minD (xvV 5))) lnil))) lnil)))) snil)
  (sseq (sif (xbl (bin eqD (un1 lenD (xvV 6)) (un1 lenD (xvV 4)))) (sret (xcall 2 (f_law_same 8) (lcons (xvE 3) (lcons (xtup (lcons (xc (.str "lost")) (lcons (bin addD (xc (.int 1)) (un1 maxD (xvV 6))) lnil))) lnil)))) snil)
  (sret (xcall 2 (f_law_same 8) (lcons (xvE 3) (lcons (xtup (lcons (xc (.str "open")) (lcons (xc (.int 0)) lnil))) lnil))))))))))))
def f_law_is_right : List D → R D := runD 10 b_law_is_right
def qlaw_1 : En → R (List D) :=
  (xlc [10] (irng1 (bin subD (bin ixD (xvV 3) (xc (.int 0))) (xc (.int 1)))) (gn 10) tyes (xtup (lcons (xvE 10) (lcons (bin addD (xvE 10) (xc (.int 1))) lnil))))
def qlaw_2 : En → R (List D) :=
  (xlc [8] (iseq (xsl (xcall 2 f_law_moves (lcons (xvE 3) (lcons (xvE 4) lnil))) onone (osome (xc (.int 2))))) (gn 8) tyes (xcall 2 f_law_after (lcons (xvE 4) (lcons (xvE 8) lnil))))
def lblaw_1 : En → Fl :=
  (sseq (sasg 9 (xcall 2 f_law_after (lcons (xvE 7) (lcons (xvE 8) lnil))))
  (sif (xbl (bin notInD (xvV 9) (xvV 5))) (sdput 5 (xvE 9) (xcall 2 fend_of (lcons (xvE 3) (lcons (xvE 9) lnil)))) snil))
def llaw_1 : En → Fl :=
  (sfor (iseq (xcall 2 f_law_moves (lcons (xvE 3) (lcons (xvE 7) lnil)))) (gn 8) lblaw_1)
def lblaw_2 : En → Fl :=
  (sseq (sdput 5 (xvE 7) (xcall 2 fend_of (lcons (xvE 3) (lcons (xvE 7) lnil))))
  llaw_1)
def llaw_2 : En → Fl :=
  (sfor (iseq (xvE 6)) (gn 7) lblaw_2)
def qlaw_3 : En → R (List D) :=
  (xlc [7] (iseq (xvV 6)) (gn 7) tyes (xcallV 3 f_law_is_right (lcons (xvV 3) (lcons (xvV 7) (lcons (xvV 5) lnil)))))
def lblaw_3 : En → Fl :=
  (sseq (sasg 2 (bin addD (xcall 2 f_law_cell (lcons (xvE 0) (lcons (xvE 1) lnil))) (bin mulD (xc (.int 3)) (xvE 1))))
  (sseq (sasg 3 (xcall 2 f_law_drawn_board (lcons (xvE 2) (lcons (xc (.int 7)) lnil))))
  (sseq (sif (xbl (bin eqD (bin modD (xvE 2) (xc (.int 3))) (xc (.int 0)))) (sasg 3 (xtup (lcons (bin ixD (xvV 3) (xc (.int 0))) (lcons (un1 tupleD (asL qlaw_1)) (lcons (bin ixD (xvV 3) (xc (.int 2))) lnil))))) snil)
  (sseq (sasg 4 (xcall 3 f_law_stand (lcons (xvE 3) (lcons (bin addD (xcall 2 f_law_cell (lcons (xvE 0) (lcons (xc (.int 2)) lnil))) (bin mulD (xc (.int 5)) (xvE 1))) (lcons (xc (.int 3)) lnil)))))
  (sseq (sdnew 5)
  (sseq (sdput 5 (xvE 4) (xcall 2 fend_of (lcons (xvE 3) (lcons (xvE 4) lnil))))
  (sseq (sasg 6 (bin addD (asL (xlst (lcons (xvE 4) lnil))) (asL qlaw_2)))
  (sseq llaw_2
  (sif (tnot (xtru (un1 allD (asL qlaw_3)))) (sret (xc (.bool false))) snil)))))))))
def llaw_3 : En → Fl :=
  (sfor (irng1 (xc (.int 2))) (gn 1) lblaw_3)
def blaw : En → Fl :=
  (sseq llaw_3
  (sret (xc (.bool true))))
def flaw : List D → R D := runD 11 blaw
end M12
/-! Ek: dicts by things that are encoded as tuples -/
namespace Pu
open PySem L2
/-- what is asked of the keys -/
structure KeyOk {α : Type} (enc : α → D) (key : α → NestedKey) : Prop where
  kd : ∀ a, keyD (enc a) = some (key a)
  inj : ∀ a b, key a = key b → a = b
section
variable {α : Type} [DecidableEq α] {enc : α → D} {key : α → NestedKey}
def gD (enc : α → D) (v : α → D) (xs : List α) : List (D × D) := xs.map fun a => (enc a, v a)
def updV (v : α → D) (a : α) (d : D) : α → D := fun b => if b = a then d else v b
theorem updV_same (v : α → D) (a : α) (d : D) : updV v a d a = d := if_pos rfl
theorem updV_ne {v : α → D} {a b : α} {d : D} (h : b ≠ a) : updV v a d b = v b := if_neg h
theorem KeyOk.nk (K : KeyOk enc key) (a : α) : nk (enc a) = some (key a) := (keyD_of (K.kd a)).1
theorem KeyOk.tup (K : KeyOk enc key) (a : α) : ∃ ds, enc a = .tuple ds := (keyD_of (K.kd a)).2.2
theorem KeyOk.dp (K : KeyOk enc key) (a : α) : (key a).depth ≤ 8 := (keyD_of (K.kd a)).2.1
theorem KeyOk.encInj (K : KeyOk enc key) {a b : α} (h : enc a = enc b) : a = b := K.inj _ _ (Option.some.inj ((K.kd a).symm.trans ((congrArg keyD h).trans (K.kd b))))
theorem gD_cong {v w : α → D} {xs : List α} (h : ∀ a ∈ xs, v a = w a) : gD enc v xs = gD enc w xs := List.map_congr_left fun a ha => by rw [h a ha]
theorem gD_head (K : KeyOk enc key) (v : α → D) (xs : List α) : headD (gD enc v xs) = true := by
  cases xs with
  | nil => rfl
  | cons a xs =>
    obtain ⟨ds, e⟩ := K.tup a
    show headD ((enc a, v a) :: _) = true
    rw [e]
    rfl
theorem gD_noScr (K : KeyOk enc key) (v : α → D) (xs : List α) : noScr (gD enc v xs) = true := by
  cases xs with
  | nil => rfl
  | cons a xs =>
    obtain ⟨ds, e⟩ := K.tup a
    show noScr ((enc a, v a) :: _) = true
    rw [e]
    rfl
theorem gD_keys (v : α → D) (xs : List α) : kvKeys (gD enc v xs) = xs.map enc := by
  unfold kvKeys gD
  rw [List.map_map]
  rfl
theorem gD_length (v : α → D) (xs : List α) : (gD enc v xs).length = xs.length := List.length_map _
theorem dget_g (K : KeyOk enc key) (v : α → D) (xs : List α) (a : α) : dget (gD enc v xs) (key a) = if a ∈ xs then some (v a) else none := by
  induction xs with
  | nil => rfl
  | cons b xs ih =>
    show (if Pu.nk (enc b) = some (key a) then some (v b) else dget (gD enc v xs) (key a)) = _
    rw [ih, K.nk]
    by_cases h : b = a
    · subst h; simp
    · have : ¬ (some (key b) = some (key a)) := fun z => h (K.inj _ _ (Option.some.inj z))
      rw [if_neg this]
      have h' : ¬ a = b := fun z => h z.symm
      simp [h']
theorem dix_g (K : KeyOk enc key) {v : α → D} {xs : List α} {a : α} (h : a ∈ xs) : dixD (.dict (gD enc v xs)) (enc a) = some (v a) := by
  show (if headD (gD enc v xs) then (keyD (enc a)).bind (dget (gD enc v xs)) else none) = _
  rw [if_pos (gD_head K v xs), K.kd]
  show dget (gD enc v xs) (key a) = _
  rw [dget_g K, if_pos h]
theorem dor_g (K : KeyOk enc key) {v : α → D} {xs : List α} {a : α} (y : D) : dorD (.dict (gD enc v xs)) (enc a) y = some (if a ∈ xs then v a else y) := by
  show (if headD (gD enc v xs) then (keyD (enc a)).map fun k => (dget (gD enc v xs) k).getD y else none) = _
  rw [if_pos (gD_head K v xs), K.kd]
  show some ((dget (gD enc v xs) (key a)).getD y) = _
  rw [dget_g K]
  split <;> rfl
theorem notIn_g (K : KeyOk enc key) {v : α → D} {xs : List α} {a : α} : notInD (enc a) (.dict (gD enc v xs)) = some (.bool (!decide (a ∈ xs))) := by
  show Option.map _ (if noScr (gD enc v xs) then (keyD (enc a)).map fun k => (dget (gD enc v xs) k).isSome else none) = _
  rw [if_pos (gD_noScr K v xs), K.kd]
  show some (PyData.bool (!(dget (gD enc v xs) (key a)).isSome)) = _
  rw [dget_g K]
  by_cases h : a ∈ xs
  · rw [if_pos h, decide_eq_true h]; rfl
  · rw [if_neg h, decide_eq_false h]; rfl
theorem dput_old (K : KeyOk enc key) {v : α → D} {xs : List α} {a : α} (d : D) (h : a ∈ xs) : dput (gD enc v xs) (key a) (enc a) d = gD enc (updV v a d) xs := by
  unfold dput
  rw [dget_g K, if_pos h]
  show (if true = true then _ else _) = _
  rw [if_pos rfl]
  unfold gD
  rw [List.map_map]
  apply List.map_congr_left
  intro b _
  show (if Pu.nk (enc b) = some (key a) then (enc b, d) else (enc b, v b)) = (enc b, updV v a d b)
  by_cases e : b = a
  · subst e
    rw [if_pos (K.nk b), updV_same]
  · rw [if_neg (fun z => e (K.inj _ _ (Option.some.inj ((K.nk b).symm.trans z)))), updV_ne e]
theorem dput_new (K : KeyOk enc key) {v : α → D} {xs : List α} {a : α} (d : D) (h : a ∉ xs) : dput (gD enc v xs) (key a) (enc a) d = gD enc (updV v a d) (xs ++ [a]) := by
  unfold dput
  rw [dget_g K, if_neg h]
  show (if false = true then _ else _) = _
  rw [if_neg Bool.false_ne_true]
  have e1 : gD enc v xs = gD enc (updV v a d) xs := gD_cong fun b hb => (updV_ne (a := a) (b := b) fun z => h (z ▸ hb)).symm
  rw [e1]
  unfold gD
  rw [List.map_append]
  show _ ++ [(enc a, d)] = _ ++ [(enc a, updV v a d a)]
  rw [updV_same]
theorem dapp_g (K : KeyOk enc key) {v : α → D} {a : α} (s : D) : ∀ {xs : List α}, xs.Nodup → a ∈ xs → dapp (gD enc v xs) (key a) s = gD enc (updV v a (appL (v a) s)) xs
  | [], _, h => by cases h
  | b :: xs, nd, h => by
    rw [List.nodup_cons] at nd
    show (if Pu.nk (enc b) = some (key a) then (enc b, appL (v b) s) :: gD enc v xs else (enc b, v b) :: dapp (gD enc v xs) (key a) s) = (enc b, updV v a (appL (v a) s) b) :: gD enc (updV v a (appL (v a) s)) xs
    by_cases e : b = a
    · subst e
      rw [if_pos (K.nk b), updV_same, gD_cong (w := v) fun c hc => updV_ne (a := b) (b := c) fun z => nd.1 (z ▸ hc)]
    · rw [if_neg (fun z => e (K.inj _ _ (Option.some.inj ((K.nk b).symm.trans z)))), updV_ne e]
      rcases List.mem_cons.mp h with h | h
      · exact absurd h.symm e
      · rw [dapp_g K s nd.2 h]
theorem keysOk_g (K : KeyOk enc key) {v : α → D} {xs : List α} (nd : xs.Nodup) : keysOk (gD enc v xs) = true := by
  have kt : ∀ a, keyT (enc a) = some (key a) := fun a => by
    obtain ⟨ds, e⟩ := K.tup a
    have := K.nk a
    rw [e] at this ⊢
    exact this
  unfold keysOk
  rw [Bool.and_eq_true]
  constructor
  · rw [List.all_eq_true]
    intro p hp
    obtain ⟨a, _, rfl⟩ := List.mem_map.mp hp
    show (match keyT (enc a) with | some k => decide (k.depth ≤ 8) | none => false) = true
    rw [kt a]
    exact decide_eq_true (K.dp a)
  · apply decide_eq_true
    unfold gD
    rw [List.map_map, List.Nodup, List.pairwise_map]
    refine nd.imp fun {a b} h z => h ?_
    have z : keyT (enc a) = keyT (enc b) := z
    rw [kt, kt] at z
    exact K.inj _ _ (Option.some.inj z)
theorem dict_g (K : KeyOk enc key) {v : α → D} {xs : List α} (nd : xs.Nodup) (hl : xs.length ≤ 1000000) : dictD (.list (xs.map fun a => .tuple [enc a, v a])) = some (.dict (gD enc v xs)) := by
  have hp : ∀ xs : List α, pairsD (xs.map fun a => .tuple [enc a, v a]) = some (gD enc v xs) := by
    intro xs
    induction xs with
    | nil => rfl
    | cons a xs ih =>
      show (pairsD (xs.map fun a => .tuple [enc a, v a])).map ((enc a, v a) :: ·) = _
      rw [ih]
      rfl
  show ((pairsD (xs.map fun a => .tuple [enc a, v a])).bind fun kvs => if keysOk kvs && decide (kvs.length ≤ many) then some (PyData.dict kvs) else none) = _
  rw [hp]
  show (if keysOk (gD enc v xs) && decide ((gD enc v xs).length ≤ many) then some (PyData.dict (gD enc v xs)) else none) = _
  rw [if_pos]
  rw [keysOk_g K nd, gD_length, decide_eq_true (show xs.length ≤ many from hl)]
  rfl
/-! ### the lists ahead are filled -/
variable (enc) in
/-- what is filled, plain -/
def fillP (nx : α → List α) : List α → (α → List α) → (α → List α)
  | [], p => p
  | s :: ss, p => fillP nx ss ((nx s).foldl (fun p o => fun b => if b = o then p b ++ [s] else p b) p)
theorem fillI_g (K : KeyOk enc key) {xs : List α} (nd : xs.Nodup) (s : α) (N : Nat) : ∀ (os : List α) (p : α → List α), (∀ o ∈ os, o ∈ xs) → (∀ a, (p a).length + os.length ≤ N) → N ≤ 1000000 →
    fillI (enc s) (os.map enc) (gD enc (fun a => .list ((p a).map enc)) xs) = some (gD enc (fun a => .list (((os.foldl (fun p o => fun b => if b = o then p b ++ [s] else p b) p) a).map enc)) xs)
  | [], p, _, _, _ => rfl
  | o :: os, p, h, hN, hm => by
    rw [List.map_cons, List.foldl_cons]
    show ((keyD (enc o)).bind fun k => match dget (gD enc (fun a => .list ((p a).map enc)) xs) k with
      | some (.list zs) => if zs.length < many then fillI (enc s) (os.map enc) (dapp (gD enc (fun a => .list ((p a).map enc)) xs) k (enc s)) else none
      | _ => none) = _
    rw [K.kd]
    show (match dget (gD enc (fun a => .list ((p a).map enc)) xs) (key o) with
      | some (.list zs) => if zs.length < many then fillI (enc s) (os.map enc) (dapp (gD enc (fun a => .list ((p a).map enc)) xs) (key o) (enc s)) else none
      | _ => none) = _
    rw [dget_g K, if_pos (h o List.mem_cons_self)]
    have hl : ((p o).map enc).length < many := by
      rw [List.length_map]
      have := hN o
      rw [List.length_cons] at this
      show (p o).length < 1000000
      omega
    show (if ((p o).map enc).length < many then _ else _) = _
    rw [if_pos hl, dapp_g K (enc s) nd (h o List.mem_cons_self)]
    have e1 : gD enc (updV (fun a => PyData.list ((p a).map enc)) o (appL (PyData.list ((p o).map enc)) (enc s))) xs = gD enc (fun a => .list (((fun b => if b = o then p b ++ [s] else p b) a).map enc)) xs := gD_cong fun a _ => by
      by_cases e : a = o
      · subst e
        rw [updV_same]
        show PyData.list ((p a).map enc ++ [enc s]) = PyData.list ((if a = a then p a ++ [s] else p a).map enc)
        rw [if_pos rfl, List.map_append]
        rfl
      · rw [updV_ne e]
        show _ = PyData.list ((if a = o then p a ++ [s] else p a).map enc)
        rw [if_neg e]
    rw [e1]
    refine fillI_g K nd s N os _ (fun q hq => h q (List.mem_cons_of_mem _ hq)) (fun a => ?_) hm
    have := hN a
    rw [List.length_cons] at this
    show (if a = o then p a ++ [s] else p a).length + os.length ≤ N
    split
    · rw [List.length_append, List.length_singleton]; omega
    · omega
theorem fold_len (s : α) : ∀ (os : List α) (p : α → List α) (a : α), ((os.foldl (fun p o => fun b => if b = o then p b ++ [s] else p b) p) a).length ≤ (p a).length + os.length
  | [], p, a => Nat.le_refl _
  | o :: os, p, a => by
    rw [List.foldl_cons]
    refine Nat.le_trans (fold_len s os _ a) ?_
    show (if a = o then p a ++ [s] else p a).length + os.length ≤ _
    rw [List.length_cons]
    split
    · rw [List.length_append, List.length_singleton]; omega
    · omega
theorem fillO_g (K : KeyOk enc key) {xs : List α} (nd : xs.Nodup) {nx : α → List α} (cl : ∀ a ∈ xs, ∀ o ∈ nx a, o ∈ xs) {M : Nat} (hM : ∀ a ∈ xs, (nx a).length ≤ M) : ∀ (ss : List α) (p : α → List α), (∀ s ∈ ss, s ∈ xs) → (∀ a, (p a).length + M * ss.length ≤ 1000000) →
    fillO (gD enc (fun a => .list ((nx a).map enc)) xs) (ss.map enc) (gD enc (fun a => .list ((p a).map enc)) xs) = some (gD enc (fun a => .list ((fillP nx ss p a).map enc)) xs)
  | [], p, _, _ => rfl
  | s :: ss, p, h, hp => by
    have hs := h s List.mem_cons_self
    have hp' : ∀ a, (p a).length + M + M * ss.length ≤ 1000000 := fun a => by
      have := hp a
      rw [List.length_cons, Nat.mul_add, Nat.mul_one] at this
      omega
    have hMs := hM s hs
    rw [List.map_cons]
    show (match dixD (.dict (gD enc (fun a => .list ((nx a).map enc)) xs)) (enc s) with
      | some (.list ds) => (fillI (enc s) ds (gD enc (fun a => .list ((p a).map enc)) xs)).bind (fillO (gD enc (fun a => .list ((nx a).map enc)) xs) (ss.map enc))
      | _ => none) = _
    rw [dix_g K hs]
    show (fillI (enc s) ((nx s).map enc) (gD enc (fun a => .list ((p a).map enc)) xs)).bind _ = _
    rw [fillI_g K nd s 1000000 (nx s) p (cl s hs) (fun a => by have := hp' a; omega) (Nat.le_refl _)]
    refine fillO_g K nd cl hM ss _ (fun q hq => h q (List.mem_cons_of_mem _ hq)) fun a => ?_
    have := fold_len s (nx s) p a
    have := hp' a
    omega
/-- how often one stands ahead of another -/
theorem fold_count (s a u : α) : ∀ (os : List α) (p : α → List α), ((os.foldl (fun p o => fun b => if b = o then p b ++ [s] else p b) p) u).count a = (p u).count a + if s = a then os.count u else 0
  | [], p => by simp
  | o :: os, p => by
    rw [List.foldl_cons, fold_count s a u os]
    show (if u = o then p u ++ [s] else p u).count a + _ = _
    by_cases e : u = o
    · subst e
      rw [if_pos rfl, List.count_append]
      by_cases z : s = a
      · subst z; simp; omega
      · simp [z]
    · rw [if_neg e]
      have : (o :: os).count u = os.count u := List.count_cons_of_ne fun z => e (by simpa using z.symm)
      rw [this]
theorem fillP_count {nx : α → List α} (a u : α) : ∀ (ss : List α) (p : α → List α), ss.Nodup → (fillP nx ss p u).count a = (p u).count a + if a ∈ ss then (nx a).count u else 0
  | [], p, _ => by simp [fillP]
  | s :: ss, p, nd => by
    rw [List.nodup_cons] at nd
    show (fillP nx ss _ u).count a = _
    rw [fillP_count a u ss _ nd.2, fold_count]
    by_cases z : s = a
    · subst z
      simp [nd.1]
    · have z' : ¬ a = s := fun y => z y.symm
      simp [z, z']
end
end Pu
/-! Bo: boards and stands as the laws draw them -/
namespace Pf
open PySem L2 Pu
structure Bd where
  n : Int
  ties : List (Int × Int)
  rows : List (Int × Int × Int)
def f2 (p : Int × Int) : List Int := [p.1, p.2]
def f3 (p : Int × Int × Int) : List Int := [p.1, p.2.1, p.2.2]
def e2 (p : Int × Int) : D := tJ (f2 p)
def e3 (p : Int × Int × Int) : D := tJ (f3 p)
def encB (b : Bd) : D := .tuple [.int b.n, .tuple (b.ties.map e2), .tuple (b.rows.map e3)]
structure Bd.Ok (b : Bd) : Prop where
  lo : 3 ≤ b.n
  hi : b.n ≤ 24
  ties : b.ties.Pairwise fun p q => lexLe (f2 p) (f2 q) = true ∧ p ≠ q
  tie : ∀ p ∈ b.ties, 0 ≤ p.1 ∧ p.1 < p.2 ∧ p.2 < b.n
  rows : b.rows.Pairwise fun p q => lexLe (f3 p) (f3 q) = true ∧ p ≠ q
  row : ∀ p ∈ b.rows, 0 ≤ p.1 ∧ p.1 < p.2.1 ∧ p.2.1 < p.2.2 ∧ p.2.2 < b.n
  nt : b.ties.length ≤ 200
  nr : b.rows.length ≤ 1000
theorem f2_inj (p q : Int × Int) (h : f2 p = f2 q) : p = q := by
  unfold f2 at h
  simp only [List.cons.injEq, and_true] at h
  exact Prod.ext h.1 h.2
theorem f3_inj (p q : Int × Int × Int) (h : f3 p = f3 q) : p = q := by
  unfold f3 at h
  simp only [List.cons.injEq, and_true] at h
  exact Prod.ext h.1 (Prod.ext h.2.1 h.2.2)
theorem tJ_inj (s t : List Int) (h : tJ s = tJ t) : s = t := by
  have h1 := nk_tJ s
  rw [h, nk_tJ t] at h1
  exact keyI_inj (Option.some.inj h1).symm
theorem plAll_ints : ∀ t : List Int, plAll (t.map PyData.int) = true
  | [] => by simp [plAll]
  | x :: t => by simp [plAll, plD, plAll_ints t]
theorem tJ_pl (t : List Int) : plD (tJ t) = true := by
  unfold tJ
  simp only [plD]
  exact plAll_ints t
theorem tJ_shp (t : List Int) : shp 1 (tJ t) := shp_tup fun d hd => by obtain ⟨x, _, rfl⟩ := List.mem_map.mp hd; exact shp_int x
/-! ### the known boards -/
def ringB1 : Bd := ⟨8, [(0, 1), (0, 7), (1, 2), (2, 3), (3, 4), (4, 5), (5, 6), (6, 7)], [(0, 1, 2), (0, 6, 7), (2, 3, 4), (4, 5, 6)]⟩
def ringB2 : Bd := ⟨16, [(0, 1), (0, 7), (1, 2), (1, 9), (2, 3), (3, 4), (3, 11), (4, 5), (5, 6), (5, 13), (6, 7), (7, 15), (8, 9), (8, 15), (9, 10), (10, 11), (11, 12), (12, 13), (13, 14), (14, 15)], [(0, 1, 2), (0, 6, 7), (2, 3, 4), (4, 5, 6), (8, 9, 10), (8, 14, 15), (10, 11, 12), (12, 13, 14)]⟩
def ringB3 : Bd := ⟨24, [(0, 1), (0, 7), (1, 2), (1, 9), (2, 3), (3, 4), (3, 11), (4, 5), (5, 6), (5, 13), (6, 7), (7, 15), (8, 9), (8, 15), (9, 10), (9, 17), (10, 11), (11, 12), (11, 19), (12, 13), (13, 14), (13, 21), (14, 15), (15, 23), (16, 17), (16, 23), (17, 18), (18, 19), (19, 20), (20, 21), (21, 22), (22, 23)], [(0, 1, 2), (0, 6, 7), (1, 9, 17), (2, 3, 4), (3, 11, 19), (4, 5, 6), (5, 13, 21), (7, 15, 23), (8, 9, 10), (8, 14, 15), (10, 11, 12), (12, 13, 14), (16, 17, 18), (16, 22, 23), (18, 19, 20), (20, 21, 22)]⟩
def gridB : Bd := ⟨9, [(0, 1), (0, 3), (1, 2), (1, 4), (2, 5), (3, 4), (3, 6), (4, 5), (4, 7), (5, 8), (6, 7), (7, 8)], [(0, 1, 2), (0, 3, 6), (1, 4, 7), (2, 5, 8), (3, 4, 5), (6, 7, 8)]⟩
theorem grid_ev : f_law_grid_board [] = .ok (encB gridB) := by kernel_rfl
theorem ring1_ev : f_law_ring_board [.int 1] = .ok (encB ringB1) := by
  delta f_law_ring_board b_law_ring_board l_law_ring_board_1 lb_law_ring_board_1 q_law_ring_board_2 q_law_ring_board_3
  rw [sortN_eq]
  kernel_rfl
theorem ring2_ev : f_law_ring_board [.int 2] = .ok (encB ringB2) := by
  delta f_law_ring_board b_law_ring_board l_law_ring_board_1 lb_law_ring_board_1 q_law_ring_board_2 q_law_ring_board_3
  rw [sortN_eq]
  kernel_rfl
theorem ring3_ev : f_law_ring_board [.int 3] = .ok (encB ringB3) := by
  delta f_law_ring_board b_law_ring_board l_law_ring_board_1 lb_law_ring_board_1 q_law_ring_board_2 q_law_ring_board_3
  rw [sortN_eq]
  kernel_rfl
theorem grid_ok : gridB.Ok := ⟨by decide, by decide, by decide, by decide, by decide, by decide, by decide, by decide⟩
theorem ring1_ok : ringB1.Ok := ⟨by decide, by decide, by decide, by decide, by decide, by decide, by decide, by decide⟩
theorem ring2_ok : ringB2.Ok := ⟨by decide, by decide, by decide, by decide, by decide, by decide, by decide, by decide⟩
theorem ring3_ok : ringB3.Ok := ⟨by decide, by decide, by decide, by decide, by decide, by decide, by decide, by decide⟩
/-! ### mix, cell -/
def mixI (c p m : Int) : Int := (c * 48271 % p) * (c * 48271 % p + 7) % p % m
theorem mix_ev {c p m : Int} (hp : 0 < p) (hp2 : p < 1000000000) (hm : 0 < m) : f_law_mix [.int c, .int p, .int m] = .ok (.int (mixI c p m)) := by
  have h0 := Int.emod_nonneg (c * 48271) (show p ≠ 0 by omega)
  have h1 := Int.emod_lt_of_pos (c * 48271) hp
  have e1 : mulD (.int c) (.int 48271) = some (.int (c * 48271)) := mul_ii (.inr (by decide))
  have e2 : mulD (.int (c * 48271 % p)) (.int (c * 48271 % p + 7)) = some (.int ((c * 48271 % p) * (c * 48271 % p + 7))) := mul_ii (.inl (small_le (by omega) (by omega)))
  apply runD_rt
  simp [b_law_mix, startE, e1, e2, mod_ii hp, mod_ii hm, mixI]
theorem mix_lo {c p m : Int} (hm : 0 < m) : 0 ≤ mixI c p m := Int.emod_nonneg _ (by omega)
theorem mix_hi {c p m : Int} (hm : 0 < m) : mixI c p m < m := Int.emod_lt_of_pos _ hm
def cellI (ns : List Int) (k : Int) : Int := if k < ns.length then ns.getD k.toNat 0 else 0
theorem cell_ev {ns : List Int} {k : Int} (hk0 : 0 ≤ k) : f_law_cell [scrD ns, .int k] = .ok (.int (cellI ns k)) := by
  have e1 : lenD (scrD ns) = some (.int ns.length) := by
    show ((scrOf [(.none, .list (ns.map PyData.int))]).map fun ns => PyData.int ns.length) = _
    rw [scrOf_map]
    rfl
  obtain ⟨j, rfl⟩ : ∃ j : Nat, k = j := ⟨k.toNat, by omega⟩
  apply runD_rt
  by_cases h : (j : Int) < ns.length
  · have hj : j < ns.length := by omega
    have e2 : ixD (scrD ns) (.int j) = some (.int (ns.getD (j : Int).toNat 0)) := by
      show ((scrOf [(.none, .list (ns.map PyData.int))]).bind fun ns => (atI ns j).map PyData.int) = _
      rw [scrOf_map]
      show (atI ns j).map PyData.int = _
      rw [atI_n, List.getD_eq_getElem?_getD, Int.toNat_natCast, List.getElem?_eq_getElem hj]
      rfl
    simp [b_law_cell, startE, e1, e2, h, cellI]
  · simp [b_law_cell, startE, e1, h, cellI]
end Pf
/-! Bo2: drawn boards -/
namespace Pf
open PySem L2 Pu
theorem f2_key (p q : Int × Int) (h : keyI (f2 p) = keyI (f2 q)) : p = q := f2_inj p q (keyI_inj h)
theorem f3_key (p q : Int × Int × Int) (h : keyI (f3 p) = keyI (f3 q)) : p = q := f3_inj p q (keyI_inj h)
section
variable {c most m : Int}
def D1 (c most m : Int) (n : Nat) (e : En) : Prop := ∃ (ks : List (Int × Int)) (s4 s5 s6 : Sl), e = [.dat (.int c), .dat (.int most), .dat (.int m), .dic (tDict e2 ks), s4, s5, s6, .un, .un, .un] ∧ ks.Nodup ∧ (∀ p ∈ ks, 0 ≤ p.1 ∧ p.1 < p.2 ∧ p.2 < m) ∧ ks.length ≤ n
theorem lb1_ev (hm : 0 < m) (hm2 : m ≤ 24) {n : Nat} (hn : n ≤ 1000) {k : Int} (hk : 0 ≤ k) (hk2 : k ≤ 1000) {e : En} (h : D1 c most m n e) : ∃ e1 e2, gn 4 (.int k) e = some e1 ∧ (lb_law_drawn_board_1 e1 = .nx e2 ∨ lb_law_drawn_board_1 e1 = .ct e2) ∧ D1 c most m (n + 1) e2 := by
  obtain ⟨ks, s4, s5, s6, rfl, nd, ok, hl⟩ := h
  have m7 : mulD (.int 7) (.int k) = some (.int (7 * k)) := mul_ii (.inl (by decide))
  have m11 : mulD (.int 11) (.int k) = some (.int (11 * k)) := mul_ii (.inl (by decide))
  have x1 := mix_ev (c := c + 7 * k) (p := 9949) (m := m) (by decide) (by decide) hm
  have x2 := mix_ev (c := c + 11 * k) (p := 9941) (m := m) (by decide) (by decide) hm
  have a1 := mix_lo (c := c + 7 * k) (p := 9949) hm
  have a2 := mix_hi (c := c + 7 * k) (p := 9949) hm
  have b1 := mix_lo (c := c + 11 * k) (p := 9941) hm
  have b2 := mix_hi (c := c + 11 * k) (p := 9941) hm
  generalize mixI (c + 7 * k) 9949 m = x at x1 a1 a2
  generalize mixI (c + 11 * k) 9941 m = y at x2 b1 b2
  by_cases hxy : x = y
  · refine ⟨_, _, rfl, .inl (?_ : _ = Fl.nx [.dat (.int c), .dat (.int most), .dat (.int m), .dic (tDict e2 ks), .dat (.int k), .dat (.int x), .dat (.int y), .un, .un, .un]), ks, _, _, _, rfl, nd, ok, by omega⟩
    simp [lb_law_drawn_board_1, m7, m11, x1, x2, hxy]
  · have hp : keyD (tJ [min x y, max x y]) = some (keyI [min x y, max x y]) := keyD_tJ _
    refine ⟨_, _, rfl, .inl (?_ : _ = Fl.nx [.dat (.int c), .dat (.int most), .dat (.int m), .dic (tDict e2 (addK ks (min x y, max x y))), .dat (.int k), .dat (.int x), .dat (.int y), .un, .un, .un]), addK ks (min x y, max x y), _, _, _, rfl, addK_nodup nd, fun p hp => ?_, ?_⟩
    · have hd : dput (tDict e2 ks) (keyI [min x y, max x y]) (tJ [min x y, max x y]) (.bool true) = tDict e2 (addK ks (min x y, max x y)) := dput_t (enc := e2) (key := fun p => keyI (f2 p)) (fun a => nk_tJ _) f2_key ks (min x y, max x y)
      simp [lb_law_drawn_board_1, m7, m11, x1, x2, hxy]
      rw [sdput_ev (v := .bool true) (x := tJ [min x y, max x y]) (kvs := tDict e2 ks) (k := keyI [min x y, max x y]) rfl rfl (by simp [tJ]) hp (by unfold tDict; rw [List.length_map]; omega), hd]
      rfl
    · rcases addK_mem.mp hp with hp | rfl
      · exact ok p hp
      · simp only; omega
    · have := addK_len (ks := ks) (a := (min x y, max x y)); omega
theorem l1_ev (hm : 0 < m) (hm2 : m ≤ 24) : ∃ e', l_law_drawn_board_1 [.dat (.int c), .dat (.int most), .dat (.int m), .dic [], .un, .un, .un, .un, .un, .un] = .nx e' ∧ D1 c most m 100 e' := by
  have x1 := mix_ev (c := c) (p := 9967) (m := 2 * m) (by decide) (by decide) (by omega)
  have a1 := mix_lo (c := c) (p := 9967) (m := 2 * m) (by omega)
  have a2 := mix_hi (c := c) (p := 9967) (m := 2 * m) (by omega)
  generalize mixI c 9967 (2 * m) = n at x1 a1 a2
  have m2 : mulD (.int 2) (.int m) = some (.int (2 * m)) := mul_ii (.inl (by decide))
  obtain ⟨e', h1, h2⟩ := forL_inv (enc := PyData.int) (f := gn 4) (B := lb_law_drawn_board_1) (fun p e => D1 c most m p.length e) (upto n.toNat) [] [.dat (.int c), .dat (.int most), .dat (.int m), .dic [], .un, .un, .un, .un, .un, .un]
    ⟨[], _, _, _, rfl, List.nodup_nil, (fun p hp => nomatch hp), Nat.le_refl _⟩ fun p x r e q h => by
      rw [List.nil_append] at q
      have hl : (upto n.toNat).length = p.length + (r.length + 1) := by rw [q, List.length_append, List.length_cons]
      rw [upto_length] at hl
      have hx : x ∈ upto n.toNat := by rw [q]; simp
      rw [upto_mem] at hx
      obtain ⟨e1, e2, h1, h2, h3⟩ := lb1_ev hm hm2 (n := p.length) (by omega) (k := x) hx.1 (by omega) h
      exact ⟨e1, e2, h1, h2, by rw [List.length_append]; exact h3⟩
  refine ⟨e', sfor_nx (ds := (upto n.toNat).map PyData.int) ?_ h1, ?_⟩
  · simp [m2, x1, rng1_ev (j := n) (by omega) (by omega)]
  · obtain ⟨ks, s4, s5, s6, q1, q2, q3, q4⟩ := h2
    refine ⟨ks, s4, s5, s6, q1, q2, q3, ?_⟩
    rw [List.nil_append, upto_length] at q4
    omega
def D2 (c most m : Int) (ks : List (Int × Int)) (n : Nat) (e : En) : Prop := ∃ (rs : List (Int × Int × Int)) (s4 s5 s6 s8 : Sl), e = [.dat (.int c), .dat (.int most), .dat (.int m), .dic (tDict e2 ks), s4, s5, s6, .dic (tDict e3 rs), s8, .un] ∧ rs.Nodup ∧ (∀ p ∈ rs, 0 ≤ p.1 ∧ p.1 < p.2.1 ∧ p.2.1 < p.2.2 ∧ p.2.2 < m) ∧ rs.length ≤ n
theorem q1_ev (hm : 0 < m) {k : Int} {d3 s5 s6 s7 s8 : Sl} : q_law_drawn_board_1 [.dat (.int c), .dat (.int most), .dat (.int m), d3, .dat (.int k), s5, s6, s7, s8, .un] = .ok (((upto 3).map fun j => mixI (c + 13 * k + j) 9929 m).map PyData.int) := by
  have m13 : mulD (.int 13) (.int k) = some (.int (13 * k)) := mul_ii (.inl (by decide))
  unfold q_law_drawn_board_1
  rw [xlc_all (enc := PyData.int) (xs := upto 3) (fun j => .int (mixI (c + 13 * k + j) 9929 m)) (by simp [rng1_ev (j := 3) (by omega) (by omega)]) (by decide) fun x hx => ?_]
  · rw [List.map_map]; rfl
  · refine ⟨_, rfl, rfl, ?_⟩
    simp [wipeE, m13, mix_ev (c := c + 13 * k + x) (p := 9929) (m := m) (by decide) (by decide) hm]
theorem sortSet_ev {ns : List Int} (h : ns.length < 60) : sortSetN (.list (ns.map PyData.int)) = some ((ssort ns).map PyData.int) := by
  show ((intsOf (ns.map PyData.int)).bind fun ns => if ns.length < 60 then some ((ssort ns).map PyData.int) else none) = _
  rw [intsOf_map]
  show (if ns.length < 60 then _ else _) = _
  rw [if_pos h]
theorem lb2_ev (hm : 0 < m) (hm2 : m ≤ 24) {ks : List (Int × Int)} {n : Nat} (hn : n ≤ 1000) {k : Int} {e : En} (h : D2 c most m ks n e) : ∃ e1 e2, gn 4 (.int k) e = some e1 ∧ (lb_law_drawn_board_2 e1 = .nx e2 ∨ lb_law_drawn_board_2 e1 = .ct e2) ∧ D2 c most m ks (n + 1) e2 := by
  obtain ⟨rs, s4, s5, s6, s8, rfl, nd, ok, hl⟩ := h
  have hq := q1_ev (c := c) (most := most) (m := m) (k := k) (d3 := .dic (tDict e2 ks)) (s5 := s5) (s6 := s6) (s7 := .dic (tDict e3 rs)) (s8 := s8) hm
  have hmem : ∀ x ∈ (upto 3).map fun j => mixI (c + 13 * k + j) 9929 m, 0 ≤ x ∧ x < m := fun x hx => by
    obtain ⟨j, _, rfl⟩ := List.mem_map.mp hx
    exact ⟨mix_lo hm, mix_hi hm⟩
  have hlen : ((upto 3).map fun j => mixI (c + 13 * k + j) 9929 m).length < 60 := by rw [List.length_map, upto_length]; decide
  generalize (upto 3).map (fun j => mixI (c + 13 * k + j) 9929 m) = ns at hq hmem hlen
  have hs := sortSet_ev hlen
  by_cases h3 : (ssort ns).length = 3
  · obtain ⟨x, y, z, hz⟩ : ∃ x y z, ssort ns = [x, y, z] := by
      match ssort ns, h3 with
      | [x, y, z], _ => exact ⟨x, y, z, rfl⟩
    have hlt := ssort_lt ns
    rw [hz] at hlt hs
    simp only [List.pairwise_cons, List.mem_cons, List.not_mem_nil, or_false, forall_eq_or_imp, forall_eq] at hlt
    have hx := hmem x ((ssort_mem ns x).mp (by rw [hz]; simp))
    have hzz := hmem z ((ssort_mem ns z).mp (by rw [hz]; simp))
    have hd : dput (tDict e3 rs) (keyI [x, y, z]) (tJ [x, y, z]) (.bool true) = tDict e3 (addK rs (x, y, z)) := dput_t (enc := e3) (key := fun p => keyI (f3 p)) (fun a => nk_tJ _) f3_key rs (x, y, z)
    refine ⟨_, _, rfl, .inl (?_ : _ = Fl.nx [.dat (.int c), .dat (.int most), .dat (.int m), .dic (tDict e2 ks), .dat (.int k), s5, s6, .dic (tDict e3 (addK rs (x, y, z))), .dat (.list [.int x, .int y, .int z]), .un]), addK rs (x, y, z), _, _, _, _, rfl, addK_nodup nd, fun p hp => ?_, ?_⟩
    · simp [lb_law_drawn_board_2, hq, hs]
      rw [sdput_ev (v := .bool true) (x := tJ [x, y, z]) (kvs := tDict e3 rs) (k := keyI [x, y, z]) rfl rfl (by simp [tJ]) (keyD_tJ _) (by unfold tDict; rw [List.length_map]; omega), hd]
      rfl
    · rcases addK_mem.mp hp with hp | rfl
      · exact ok p hp
      · simp only; omega
    · have := addK_len (ks := rs) (a := (x, y, z)); omega
  · refine ⟨_, _, rfl, .inl (?_ : _ = Fl.nx [.dat (.int c), .dat (.int most), .dat (.int m), .dic (tDict e2 ks), .dat (.int k), s5, s6, .dic (tDict e3 rs), .dat (.list ((ssort ns).map PyData.int)), .un]), rs, _, _, _, _, rfl, nd, ok, by omega⟩
    have h3' : ¬ ((ssort ns).length : Int) = 3 := by omega
    simp [lb_law_drawn_board_2, hq, hs, h3']
theorem l2_ev (hm : 0 < m) (hm2 : m ≤ 24) {ks : List (Int × Int)} {s4 s5 s6 : Sl} : ∃ e', l_law_drawn_board_2 [.dat (.int c), .dat (.int most), .dat (.int m), .dic (tDict e2 ks), s4, s5, s6, .dic [], .un, .un] = .nx e' ∧ D2 c most m ks 1000 e' := by
  have x1 := mix_ev (c := c) (p := 9931) (m := 6) (by decide) (by decide) (by omega)
  have a1 := mix_lo (c := c) (p := 9931) (m := 6) (by omega)
  have a2 := mix_hi (c := c) (p := 9931) (m := 6) (by omega)
  generalize mixI c 9931 6 = n at x1 a1 a2
  obtain ⟨e', h1, h2⟩ := forL_inv (enc := PyData.int) (f := gn 4) (B := lb_law_drawn_board_2) (fun p e => D2 c most m ks p.length e) (upto n.toNat) [] [.dat (.int c), .dat (.int most), .dat (.int m), .dic (tDict e2 ks), s4, s5, s6, .dic [], .un, .un]
    ⟨[], _, _, _, _, rfl, List.nodup_nil, (fun p hp => nomatch hp), Nat.le_refl _⟩ fun p x r e q h => by
      rw [List.nil_append] at q
      have hl : (upto n.toNat).length = p.length + (r.length + 1) := by rw [q, List.length_append, List.length_cons]
      rw [upto_length] at hl
      obtain ⟨e1, e2, h1, h2, h3⟩ := lb2_ev hm hm2 (n := p.length) (by omega) (k := x) h
      exact ⟨e1, e2, h1, h2, by rw [List.length_append]; exact h3⟩
  refine ⟨e', sfor_nx (ds := (upto n.toNat).map PyData.int) ?_ h1, ?_⟩
  · simp [x1, rng1_ev (j := n) (by omega) (by omega)]
  · obtain ⟨rs, s4, s5, s6, s8, q1, q2, q3, q4⟩ := h2
    refine ⟨rs, s4, s5, s6, s8, q1, q2, q3, ?_⟩
    rw [List.nil_append, upto_length] at q4
    omega
theorem sortT_strict {α : Type} {f : α → List Int} (inj : ∀ a b, f a = f b → a = b) {xs : List α} (nd : xs.Nodup) : (sortT f xs).Pairwise fun p q => lexLe (f p) (f q) = true ∧ p ≠ q := by
  have h1 := (goodLex.on f inj).sorted xs
  have h2 : (sortT f xs).Pairwise (· ≠ ·) := (sortT_perm f xs).nodup_iff.mpr nd
  exact h1.and h2
theorem drawn_ev (h5 : 5 ≤ most) (h24 : most ≤ 24) : ∃ b : Bd, b.Ok ∧ 5 ≤ b.n ∧ b.n ≤ most ∧ f_law_drawn_board [.int c, .int most] = .ok (encB b) := by
  have x1 := mix_ev (c := c) (p := 9973) (m := most - 4) (by decide) (by decide) (by omega)
  have a1 := mix_lo (c := c) (p := 9973) (m := most - 4) (by omega)
  have a2 := mix_hi (c := c) (p := 9973) (m := most - 4) (by omega)
  generalize mixI c 9973 (most - 4) = n at x1 a1 a2
  obtain ⟨e1, p1, ks, s4, s5, s6, rfl, nd, ok, hl⟩ := l1_ev (c := c) (most := most) (m := 5 + n) (by omega) (by omega)
  obtain ⟨e2', p2, rs, t4, t5, t6, t8, rfl, nd2, ok2, hl2⟩ := l2_ev (c := c) (most := most) (m := 5 + n) (ks := ks) (s4 := s4) (s5 := s5) (s6 := s6) (by omega) (by omega)
  refine ⟨⟨5 + n, sortT f2 ks, sortT f3 rs⟩, ⟨by simp only; omega, by simp only; omega, sortT_strict f2_inj nd, fun p hp => ok p ((sortT_perm f2 ks).mem_iff.mp hp), sortT_strict f3_inj nd2, fun p hp => ok2 p ((sortT_perm f3 rs).mem_iff.mp hp), ?_, ?_⟩, by simp only; omega, by simp only; omega, ?_⟩
  · rw [(sortT_perm f2 ks).length_eq]; omega
  · rw [(sortT_perm f3 rs).length_eq]; exact hl2
  · apply runD_rt
    have s1 : sortD (ks.map e2) = some ((sortT f2 ks).map e2) := sort_tJ (f := f2) (fun a => by simp [f2]) (by omega)
    have s2 : sortD (rs.map e3) = some ((sortT f3 rs).map e3) := sort_tJ (f := f3) (fun a => by simp [f3]) (by omega)
    simp only [b_law_drawn_board, startE, List.map_cons, List.map_nil, List.length_cons, List.length_nil, sseq_ev, sdnew_ev]
    simp [x1, p1, p2, sdnew_ev, kvKeys_t, s1, s2, encB]
end
end Pf
/-! Bo3: boards and stands as drawn -/
namespace Pf
open PySem L2 Pu
theorem board_ev {c most : Int} (h5 : 5 ≤ most) (h24 : most ≤ 24) : ∃ b : Bd, b.Ok ∧ 5 ≤ b.n ∧ f_law_board [.int c, .int most] = .ok (encB b) := by
  have x1 := mix_ev (c := c) (p := 9923) (m := 6) (by decide) (by decide) (by omega)
  have a1 := mix_lo (c := c) (p := 9923) (m := 6) (by omega)
  have a2 := mix_hi (c := c) (p := 9923) (m := 6) (by omega)
  generalize mixI c 9923 6 = n at x1 a1 a2
  by_cases c1 : n = 0 ∧ 23 < most
  · refine ⟨ringB3, ring3_ok, by decide, ?_⟩
    apply runD_rt
    simp [b_law_board, startE, x1, c1.1, c1.2, ring3_ev]
  by_cases c2 : n < 3 ∧ 15 < most
  · by_cases hn : n % 2 = 0
    · refine ⟨ringB1, ring1_ok, by decide, ?_⟩
      apply runD_rt
      have m2 : modD (.int n) (.int 2) = some (.int 0) := by rw [mod_ii (by decide), hn]
      by_cases h0 : n = 0
      · have : ¬ 23 < most := fun z => c1 ⟨h0, z⟩
        simp [b_law_board, startE, x1, h0, this, c2.2, mod_ii, ring1_ev]
      · simp [b_law_board, startE, x1, h0, c2.1, c2.2, m2, ring1_ev]
    · refine ⟨ringB2, ring2_ok, by decide, ?_⟩
      apply runD_rt
      have m2 : modD (.int n) (.int 2) = some (.int 1) := by rw [mod_ii (by decide), show n % 2 = 1 by omega]
      have h0 : ¬ n = 0 := by omega
      simp [b_law_board, startE, x1, h0, c2.1, c2.2, m2, ring2_ev]
  by_cases c3 : n < 4
  · refine ⟨gridB, grid_ok, by decide, ?_⟩
    apply runD_rt
    by_cases h0 : n = 0
    · have h1 : ¬ 23 < most := fun z => c1 ⟨h0, z⟩
      have h2 : ¬ 15 < most := fun z => c2 ⟨by omega, z⟩
      simp [b_law_board, startE, x1, h0, h1, h2, grid_ev]
    · by_cases h3 : n < 3
      · have h2 : ¬ 15 < most := fun z => c2 ⟨by omega, z⟩
        simp [b_law_board, startE, x1, h0, h2, h3, c3, grid_ev]
      · simp [b_law_board, startE, x1, h0, h3, c3, grid_ev]
  · obtain ⟨b, ok, lo, hi, he⟩ := drawn_ev (c := c + 1) (most := min most 12) (by omega) (by omega)
    refine ⟨b, ok, lo, ?_⟩
    apply runD_rt
    have h0 : ¬ n = 0 := by omega
    have h3 : ¬ n < 3 := by omega
    simp [b_law_board, startE, x1, h0, h3, c3, he]
/-! ### stands -/
structure Sd where
  men : List (Option Int)
  l0 : Int
  l1 : Int
  turn : Int
def encM (ms : List (Option Int)) : D := .tuple (ms.map oM)
def encS (s : Sd) : D := .tuple [encM s.men, .tuple [.int s.l0, .int s.l1], .int s.turn]
def ManOk (m : Option Int) : Prop := m = none ∨ m = some 0 ∨ m = some 1
structure Sd.Ok (n : Int) (s : Sd) : Prop where
  len : (s.men.length : Int) = n
  man : ∀ m ∈ s.men, ManOk m
  l0 : 0 ≤ s.l0 ∧ s.l0 ≤ 9
  l1 : 0 ≤ s.l1 ∧ s.l1 ≤ 9
  turn : s.turn = 0 ∨ s.turn = 1
section
variable {b : Bd} {c few fr : Int}
def S1 (b : Bd) (c few fr : Int) (e : En) : Prop := ∃ (ms : List (Option Int)) (s5 s6 s7 : Sl), e = [.dat (encB b), .dat (.int c), .dat (.int few), .own (ms.map oM), .dat (.int fr), s5, s6, s7, .un, .un, .un] ∧ (ms.length : Int) = b.n ∧ (∀ m ∈ ms, ManOk m) ∧ (few = 0 ∨ ((ms.count (some 0) : Int) ≤ few ∧ (ms.count (some 1) : Int) ≤ few))
theorem q2_ev {ms : List (Option Int)} (hl : ms.length ≤ 1000000) {s0 s1 s2 s4 s5 s6 s7 s8 : Sl} : q_law_stand_2 [s0, s1, s2, .own (ms.map oM), s4, s5, s6, s7, s8, .un, .un] = .ok ((whr (·.isNone) ms).map PyData.int) := by
  unfold q_law_stand_2
  refine xlc_whr (fun m => m.isNone) (by simp) hl fun p m _ _ _ => ⟨_, rfl, ?_, ?_⟩
  · simp [wipeE]
  · simp [wipeE]
theorem set_ok {ms : List (Option Int)} {i : Nat} {w : Int} (h : ∀ m ∈ ms, ManOk m) (hw : w = 0 ∨ w = 1) : ∀ m ∈ ms.set i (some w), ManOk m := fun m hm => by
  rcases List.mem_or_eq_of_mem_set hm with hm | rfl
  · exact h m hm
  · rcases hw with rfl | rfl
    · exact .inr (.inl rfl)
    · exact .inr (.inr rfl)
theorem count_set_le {ms : List (Option Int)} {i : Nat} (hi : i < ms.length) (w v : Int) : (ms.set i (some w)).count (some v) ≤ ms.count (some v) + if w = v then 1 else 0 := by
  rw [List.count_set hi]
  by_cases h : w = v
  · subst h; simp
  · have : ¬ (some w = some v) := fun z => h (Option.some.inj z)
    simp [h]
theorem lbS1_ev (hf : 0 ≤ fr) (h24 : b.n ≤ 24) {k w : Int} (hw : w = 0 ∨ w = 1) {s6 s7 : Sl} {ms : List (Option Int)} (hl : (ms.length : Int) = b.n) (hm : ∀ m ∈ ms, ManOk m) (hc : few = 0 ∨ ((ms.count (some 0) : Int) ≤ few ∧ (ms.count (some 1) : Int) ≤ few)) :
    ∃ ms' : List (Option Int), (ms'.length : Int) = b.n ∧ (∀ m ∈ ms', ManOk m) ∧ (few = 0 ∨ ((ms'.count (some 0) : Int) ≤ few ∧ (ms'.count (some 1) : Int) ≤ few)) ∧ ∃ s7', lb_law_stand_1 [.dat (encB b), .dat (.int c), .dat (.int few), .own (ms.map oM), .dat (.int fr), .dat (.int k), .dat (.int w), s7, .un, .un, .un] =
      .nx [.dat (encB b), .dat (.int c), .dat (.int few), .own (ms'.map oM), .dat (.int fr), .dat (.int k), .dat (.int w), s7', .un, .un, .un] := by
  have hq := q2_ev (ms := ms) (by omega) (s0 := .dat (encB b)) (s1 := .dat (.int c)) (s2 := .dat (.int few)) (s4 := .dat (.int fr)) (s5 := .dat (.int k)) (s6 := .dat (.int w)) (s7 := s7) (s8 := .un)
  have hcnt : xcount (xvV 3) (xvV 6) [.dat (encB b), .dat (.int c), .dat (.int few), .own (ms.map oM), .dat (.int fr), .dat (.int k), .dat (.int w), .dat (.list ((whr (·.isNone) ms).map PyData.int)), .un, .un, .un] = .ok (.int (ms.count (some w) : Nat)) :=
    xcount_ev (x := .list (ms.map oM)) (y := .int w) (by simp) (by simp) (.inl ⟨_, rfl⟩) (count_men_l ms w)
  have hwl := whr_length (·.isNone) ms
  have hmem : ∀ p ∈ whr (·.isNone) ms, 0 ≤ p ∧ p < ms.length := fun p hp => ⟨(whr_mem.mp hp).1, (whr_mem.mp hp).2.1⟩
  generalize whr (·.isNone) ms = em at hq hcnt hwl hmem
  by_cases h1 : fr < em.length
  · by_cases h2 : few = 0 ∨ (ms.count (some w) : Int) < few
    · -- a man is put
      have x1 := mix_ev (c := c + 23 * k + 5 * w) (p := 9901) (m := (em.length : Int)) (by decide) (by decide) (by omega)
      have a1 := mix_lo (c := c + 23 * k + 5 * w) (p := 9901) (m := (em.length : Int)) (by omega)
      have a2 := mix_hi (c := c + 23 * k + 5 * w) (p := 9901) (m := (em.length : Int)) (by omega)
      generalize mixI (c + 23 * k + 5 * w) 9901 (em.length : Int) = i at x1 a1 a2
      have hi : i.toNat < em.length := by omega
      have hp := hmem em[i.toNat] (List.getElem_mem hi)
      have hat : atI (em.map PyData.int) i = some (.int em[i.toNat]) := atI_some a1 (by rw [List.getElem?_map, List.getElem?_eq_getElem hi]; rfl)
      generalize em[i.toNat] = p at hp hat
      have m23 : mulD (.int 23) (.int k) = some (.int (23 * k)) := mul_ii (.inl (by decide))
      have m5 : mulD (.int 5) (.int w) = some (.int (5 * w)) := mul_ii (.inl (by decide))
      refine ⟨ms.set p.toNat (some w), by rw [List.length_set]; exact hl, set_ok hm hw, ?_, .dat (.list (em.map PyData.int)), ?_⟩
      · by_cases hfw : few = 0
        · exact .inl hfw
        · right
          have hcw : (ms.count (some w) : Int) < few := h2.resolve_left hfw
          have hcc := hc.resolve_left hfw
          have q0 := count_set_le (show p.toNat < ms.length by omega) w 0
          have q1 := count_set_le (show p.toNat < ms.length by omega) w 1
          rcases hw with rfl | rfl
          · rw [if_pos rfl] at q0; rw [if_neg (by decide)] at q1; omega
          · rw [if_neg (by decide)] at q0; rw [if_pos rfl] at q1; omega
      · have hT : (tand (xbl (bin gtD (un1 lenD (xvV 7)) (xvV 4))) (tor (xbl (bin eqD (xvV 2) (xc (.int 0)))) (xbl (bin ltD (xcount (xvV 3) (xvV 6)) (xvV 2))))) [.dat (encB b), .dat (.int c), .dat (.int few), .own (ms.map oM), .dat (.int fr), .dat (.int k), .dat (.int w), .dat (.list (em.map PyData.int)), .un, .un, .un] = .ok true := by
          by_cases hfw : few = 0
          · simp [h1, hfw]
          · simp [h1, hfw, hcnt, h2.resolve_left hfw]
        simp only [lb_law_stand_1, sseq_ev, sasg_ev, asL_ev, hq, bind_ok, liftE_ok, then_nx, List.set_cons_succ, List.set_cons_zero]
        rw [sif_t hT, sput_ev (d := .int w) (n := p) (m := p.toNat) (ds := ms.map oM) (by simp) rfl (by simp [m23, m5, x1, hat]) (by rw [List.length_map]; exact ixN_nat hp.1 (by omega))]
        rw [show (PyData.int w) = oM (some w) from rfl, ← List.map_set]
        rfl
    · refine ⟨ms, hl, hm, hc, .dat (.list (em.map PyData.int)), ?_⟩
      have hfw : ¬ few = 0 := fun z => h2 (.inl z)
      have hcw : ¬ (ms.count (some w) : Int) < few := fun z => h2 (.inr z)
      have hT : (tand (xbl (bin gtD (un1 lenD (xvV 7)) (xvV 4))) (tor (xbl (bin eqD (xvV 2) (xc (.int 0)))) (xbl (bin ltD (xcount (xvV 3) (xvV 6)) (xvV 2))))) [.dat (encB b), .dat (.int c), .dat (.int few), .own (ms.map oM), .dat (.int fr), .dat (.int k), .dat (.int w), .dat (.list (em.map PyData.int)), .un, .un, .un] = .ok false := by
        simp [h1, hfw, hcnt, hcw]
      simp only [lb_law_stand_1, sseq_ev, sasg_ev, asL_ev, hq, bind_ok, liftE_ok, then_nx, List.set_cons_succ, List.set_cons_zero]
      rw [sif_f hT]
      rfl
  · refine ⟨ms, hl, hm, hc, .dat (.list (em.map PyData.int)), ?_⟩
    have hT : (tand (xbl (bin gtD (un1 lenD (xvV 7)) (xvV 4))) (tor (xbl (bin eqD (xvV 2) (xc (.int 0)))) (xbl (bin ltD (xcount (xvV 3) (xvV 6)) (xvV 2))))) [.dat (encB b), .dat (.int c), .dat (.int few), .own (ms.map oM), .dat (.int fr), .dat (.int k), .dat (.int w), .dat (.list (em.map PyData.int)), .un, .un, .un] = .ok false := by
      simp [h1]
    simp only [lb_law_stand_1, sseq_ev, sasg_ev, asL_ev, hq, bind_ok, liftE_ok, then_nx, List.set_cons_succ, List.set_cons_zero]
    rw [sif_f hT]
    rfl
theorem lbS2_ev (hf : 0 ≤ fr) (h24 : b.n ≤ 24) {k : Int} {e : En} (h : S1 b c few fr e) : ∃ e1 e2, gn 5 (.int k) e = some e1 ∧ (lb_law_stand_2 e1 = .nx e2 ∨ lb_law_stand_2 e1 = .ct e2) ∧ S1 b c few fr e2 := by
  obtain ⟨ms, s5, s6, s7, rfl, hl, hm, hc⟩ := h
  obtain ⟨e', h1, h2⟩ := forL_stay (enc := PyData.int) (f := gn 6) (B := lb_law_stand_1) (fun e => ∃ (ms : List (Option Int)) (s6 s7 : Sl), e = [.dat (encB b), .dat (.int c), .dat (.int few), .own (ms.map oM), .dat (.int fr), .dat (.int k), s6, s7, .un, .un, .un] ∧ (ms.length : Int) = b.n ∧ (∀ m ∈ ms, ManOk m) ∧ (few = 0 ∨ ((ms.count (some 0) : Int) ≤ few ∧ (ms.count (some 1) : Int) ≤ few)))
    [0, 1] [.dat (encB b), .dat (.int c), .dat (.int few), .own (ms.map oM), .dat (.int fr), .dat (.int k), s6, s7, .un, .un, .un] ⟨ms, s6, s7, rfl, hl, hm, hc⟩ fun w e hw ⟨ms, s6, s7, e1, hl, hm, hc⟩ => by
      subst e1
      obtain ⟨ms', l', m', c', s7', he⟩ := lbS1_ev (b := b) (c := c) (few := few) (fr := fr) hf h24 (k := k) (w := w) (by simpa using hw) (s6 := s6) (s7 := s7) hl hm hc
      exact ⟨_, _, rfl, .inl he, ms', _, _, rfl, l', m', c'⟩
  obtain ⟨ms', s6', s7', rfl, hl', hm', hc'⟩ := h2
  have hh : lb_law_stand_2 [.dat (encB b), .dat (.int c), .dat (.int few), .own (ms.map oM), .dat (.int fr), .dat (.int k), s6, s7, .un, .un, .un] = .nx [.dat (encB b), .dat (.int c), .dat (.int few), .own (ms'.map oM), .dat (.int fr), .dat (.int k), s6', s7', .un, .un, .un] := by
    unfold lb_law_stand_2 l_law_stand_1
    exact sfor_nx (by simp) h1
  exact ⟨_, _, rfl, .inl hh, ms', _, _, _, rfl, hl', hm', hc'⟩
theorem stand_ev (hb : 5 ≤ b.n) (h24 : b.n ≤ 24) (hfew : 0 ≤ few) : ∃ s : Sd, s.Ok b.n ∧ (0 < few → (s.men.count (some 0) : Int) ≤ few ∧ (s.men.count (some 1) : Int) ≤ few ∧ s.l0 = 0 ∧ s.l1 = 0) ∧ s.turn = c % 2 ∧ s.l0 ≤ 3 ∧ s.l1 ≤ 3 ∧ f_law_stand [encB b, .int c, .int few] = .ok (encS s) := by
  have x1 := mix_ev (c := c) (p := 9871) (m := 4) (by decide) (by decide) (by omega)
  have a1 := mix_lo (c := c) (p := 9871) (m := 4) (by omega)
  generalize mixI c 9871 4 = fr at x1 a1
  have hq1 : q_law_stand_1 [.dat (encB b), .dat (.int c), .dat (.int few), .un, .un, .un, .un, .un, .un, .un, .un] = .ok ((List.replicate b.n.toNat none).map oM) := by
    unfold q_law_stand_1
    rw [xlc_all (enc := PyData.int) (xs := upto b.n.toNat) (fun _ => .none) (by simp [encB, rng1_ev (j := b.n) (by omega) (by omega)]) (by rw [upto_length]; omega) fun x hx => ⟨_, rfl, rfl, rfl⟩]
    congr 1
    unfold upto
    rw [List.map_map, List.map_replicate]
    apply List.ext_getElem
    · simp
    · intro i h1 h2
      simp
  -- the loop
  obtain ⟨n, hn0, hn1, xn⟩ : ∃ n : Int, 0 ≤ n ∧ n ≤ 100 ∧ irng1 (bin addD (xcall 3 f_law_mix (lcons (xvE 1) (lcons (xc (.int 9907)) (lcons (bin addD (xc (.int 4)) (bin mulD (xc (.int 6)) (un1 intD (bin eqD (xvV 2) (xc (.int 0)))))) lnil)))) (xc (.int 3))) [.dat (encB b), .dat (.int c), .dat (.int few), .own ((List.replicate b.n.toNat none).map oM), .dat (.int fr), .un, .un, .un, .un, .un, .un] = .ok ((upto n.toNat).map PyData.int) := by
    by_cases h0 : few = 0
    · have x2 := mix_ev (c := c) (p := 9907) (m := 10) (by decide) (by decide) (by omega)
      have b1 := mix_lo (c := c) (p := 9907) (m := 10) (by omega)
      have b2 := mix_hi (c := c) (p := 9907) (m := 10) (by omega)
      have m6 : mulD (.int 6) (.int 1) = some (.int 6) := mul_ii (.inl (by decide))
      refine ⟨mixI c 9907 10 + 3, by omega, by omega, ?_⟩
      simp [h0, m6, x2, rng1_ev (j := mixI c 9907 10 + 3) (by omega) (by omega)]
    · have x2 := mix_ev (c := c) (p := 9907) (m := 4) (by decide) (by decide) (by omega)
      have b1 := mix_lo (c := c) (p := 9907) (m := 4) (by omega)
      have b2 := mix_hi (c := c) (p := 9907) (m := 4) (by omega)
      have m6 : mulD (.int 6) (.int 0) = some (.int 0) := mul_ii (.inl (by decide))
      refine ⟨mixI c 9907 4 + 3, by omega, by omega, ?_⟩
      simp [h0, m6, x2, rng1_ev (j := mixI c 9907 4 + 3) (by omega) (by omega)]
  obtain ⟨e', h1, ms, s5, s6, s7, rfl, hl, hm, hc⟩ := forL_stay (enc := PyData.int) (f := gn 5) (B := lb_law_stand_2) (S1 b c few fr) (upto n.toNat) [.dat (encB b), .dat (.int c), .dat (.int few), .own ((List.replicate b.n.toNat none).map oM), .dat (.int fr), .un, .un, .un, .un, .un, .un]
    ⟨_, _, _, _, rfl, by rw [List.length_replicate]; omega, fun m hm => .inl (List.eq_of_mem_replicate hm), by right; rw [List.count_replicate, List.count_replicate]; simp; exact hfew⟩ fun x e _ h => lbS2_ev a1 h24 h
  have hloop : l_law_stand_2 [.dat (encB b), .dat (.int c), .dat (.int few), .own ((List.replicate b.n.toNat none).map oM), .dat (.int fr), .un, .un, .un, .un, .un, .un] = .nx [.dat (encB b), .dat (.int c), .dat (.int few), .own (ms.map oM), .dat (.int fr), s5, s6, s7, .un, .un, .un] := sfor_nx xn h1
  simp only [List.map_replicate, oM_n] at hloop
  have ht0 := Int.emod_nonneg c (show (2 : Int) ≠ 0 by decide)
  have ht1 := Int.emod_lt_of_pos c (show (0 : Int) < 2 by decide)
  have m2 : modD (.int c) (.int 2) = some (.int (c % 2)) := mod_ii (by decide)
  have m3 : modD (.int c) (.int 3) = some (.int (c % 3)) := mod_ii (by decide)
  have y1 := mix_ev (c := c) (p := 9887) (m := 4) (by decide) (by decide) (by omega)
  have y2 := mix_ev (c := c) (p := 9883) (m := 4) (by decide) (by decide) (by omega)
  have l1 := mix_lo (c := c) (p := 9887) (m := 4) (by omega)
  have l2 := mix_hi (c := c) (p := 9887) (m := 4) (by omega)
  have l3 := mix_lo (c := c) (p := 9883) (m := 4) (by omega)
  have l4 := mix_hi (c := c) (p := 9883) (m := 4) (by omega)
  by_cases hc3 : few = 0 ∧ c % 3 = 0
  · obtain ⟨rfl, h3⟩ := hc3
    refine ⟨⟨ms, mixI c 9887 4, mixI c 9883 4, c % 2⟩, ⟨hl, hm, by simp only; omega, by simp only; omega, by simp only; omega⟩, fun h => by omega, rfl, by simp only; omega, by simp only; omega, ?_⟩
    apply runD_rt
    simp [b_law_stand, startE, hq1, x1]
    rw [hloop]
    simp [m2, m3, h3, y1, y2, encS, encM]
  · refine ⟨⟨ms, 0, 0, c % 2⟩, ⟨hl, hm, by simp only; omega, by simp only; omega, by simp only; omega⟩, fun h => ⟨(hc.resolve_left (by omega)).1, (hc.resolve_left (by omega)).2, rfl, rfl⟩, rfl, by simp only; omega, by simp only; omega, ?_⟩
    apply runD_rt
    by_cases h0 : few = 0
    · have h3 : ¬ c % 3 = 0 := fun z => hc3 ⟨h0, z⟩
      subst h0
      simp [b_law_stand, startE, hq1, x1]
      rw [hloop]
      simp [m2, m3, h3, encS, encM]
    · simp [b_law_stand, startE, hq1, x1]
      rw [hloop]
      simp [m2, m3, h0, encS, encM]
end
end Pf
namespace Pf
open PySem L2 Pu
def qrows_open_1 : En → R (List D) :=
  (xlc [6] (iseq (xvV 5)) (gn 6) (xbl (bin neD (xvV 6) (xvV 3))) (bin ixD (bin ixD (xvV 1) (xc (.int 0))) (xvV 6)))
def lbrows_open_1 : En → Fl :=
  (sif (tand (xbl (bin inD (xvV 3) (xvV 5))) (xbl (bin eqD (asL qrows_open_1) (asL (xlst (lcons (xvE 2) (lcons (xvE 2) lnil))))))) (sasg 4 (bin addD (xvE 4) (xc (.int 1)))) snil)
def lrows_open_1 : En → Fl :=
  (sfor (iseq (bin ixD (xvV 0) (xc (.int 2)))) (gn 5) lbrows_open_1)
def brows_open : En → Fl :=
  (sseq (sasg 4 (xc (.int 0)))
  (sseq lrows_open_1
  (sret (xvE 4))))
def frows_open : List D → R D := runD 7 brows_open
def qpoints_open_1 : En → R (List D) :=
  (xlc [5, 6] (ienum (bin ixD (xvV 1) (xc (.int 0)))) (gtup (gcons (gn 5) (gcons (gn 6) gnil))) (xbl (bin isD (xvV 6) (xc .none))) (xvE 5))
def qpoints_open_2 : En → R (List D) :=
  (xlc [5] (iseq (xvV 4)) (gn 5) (xbl (bin geD (xcall 4 frows_open (lcons (xvE 0) (lcons (xvE 1) (lcons (xvE 2) (lcons (xvE 5) lnil))))) (xvV 3))) (xvE 5))
def bpoints_open : En → Fl :=
  (sseq (sasg 4 (asL qpoints_open_1))
  (sret (un1 tupleD (asL qpoints_open_2))))
def fpoints_open : List D → R D := runD 7 bpoints_open
def bthreats : En → Fl :=
  (sret (xcall 4 fpoints_open (lcons (xvE 0) (lcons (xvE 1) (lcons (xvE 2) (lcons (xc (.int 1)) lnil))))))
def fthreats : List D → R D := runD 3 bthreats
def bforks : En → Fl :=
  (sret (xcall 4 fpoints_open (lcons (xvE 0) (lcons (xvE 1) (lcons (xvE 2) (lcons (xc (.int 2)) lnil))))))
def fforks : List D → R D := runD 3 bforks
def q_law_open_rows_1 : En → R (List D) :=
  (xlc [6] (iseq (xvV 5)) (gn 6) tyes (bin ixD (xvV 1) (xvV 6)))
def lb_law_open_rows_1 : En → Fl :=
  (sif (tand (xbl (bin inD (xvV 3) (xvV 5))) (tand (xbl (bin eqD (xcount (asL q_law_open_rows_1) (xvV 2)) (xc (.int 2)))) (xbl (bin isD (bin ixD (xvV 1) (xvV 3)) (xc .none))))) (sapp 4 (xvE 5)) snil)
def l_law_open_rows_1 : En → Fl :=
  (sfor (iseq (bin ixD (xvV 0) (xc (.int 2)))) (gn 5) lb_law_open_rows_1)
def b_law_open_rows : En → Fl :=
  (sseq (sasgN 4 (xlst lnil))
  (sseq l_law_open_rows_1
  (sret (xvE 4))))
def f_law_open_rows : List D → R D := runD 7 b_law_open_rows
end Pf
/-! Th: full rows, threats -/
namespace Pf
open PySem L2 Pu
theorem map_oM_inj : ∀ xs ys : List (Option Int), xs.map oM = ys.map oM → xs = ys
  | [], [], _ => rfl
  | [], _ :: _, h => by cases h
  | _ :: _, [], h => by cases h
  | x :: xs, y :: ys, h => by
    rw [List.map_cons, List.map_cons] at h
    injection h with h1 h2
    rw [oM_inj x y h1, map_oM_inj xs ys h2]
theorem plAll_oM : ∀ xs : List (Option Int), plAll (xs.map oM) = true
  | [] => by simp [plAll]
  | x :: xs => by simp [plAll, oM_pl, plAll_oM xs]
def encML (xs : List (Option Int)) : D := .list (xs.map oM)
theorem eq_menL (xs ys : List (Option Int)) : eqD (.list (xs.map oM)) (.list (ys.map oM)) = some (.bool (decide (xs = ys))) := by
  have sh : ∀ zs : List (Option Int), SeqAt.shaped (.list (zs.map oM)) = true := fun zs => (shp_list (k := 0) (ds := zs.map oM) fun d hd => by obtain ⟨y, _, rfl⟩ := List.mem_map.mp hd; exact oM_shp y).shaped
  rw [eq_ev (sh xs) (sh ys)]
  congr 2
  exact eqv_enc (enc := encML) (fun a b h => by unfold encML at h; injection h with h; exact map_oM_inj a b h) (fun a => by unfold encML; simp only [plD]; exact plAll_oM a) xs ys
theorem all_bools (bs : List Bool) : allD (.list (bs.map PyData.bool)) = some (.bool (bs.all id)) := by
  show ((boolsOf (bs.map PyData.bool)).map fun bs => PyData.bool (bs.all id)) = _
  rw [boolsOf_map]
  rfl
theorem any_bools (bs : List Bool) : anyD (.list (bs.map PyData.bool)) = some (.bool (bs.any id)) := by
  show ((boolsOf (bs.map PyData.bool)).map fun bs => PyData.bool (bs.any id)) = _
  rw [boolsOf_map]
  rfl
/-- all points of a row are on the board -/
def RowOn (n : Int) (r : Int × Int × Int) : Prop := ∀ p ∈ f3 r, 0 ≤ p ∧ p < n
theorem Bd.Ok.on {b : Bd} (h : b.Ok) : ∀ r ∈ b.rows, RowOn b.n r := fun r hr p hp => by
  have := h.row r hr
  unfold f3 at hp
  simp only [List.mem_cons, List.not_mem_nil, or_false] at hp
  omega
/-! ### full rows -/
def fullR (ms : List (Option Int)) (w : Int) (r : Int × Int × Int) : Bool := (f3 r).all fun p => decide (mAt ms p = some w)
section
variable {b : Bd} {ms : List (Option Int)} {w : Int}
theorem qfull1_ev {r : Int × Int × Int} (hr : RowOn ms.length r) {s0 s4 : Sl} : qfull_rows_1 [s0, .dat (encM ms), .dat (.int w), .dat (e3 r), s4] = .ok (((f3 r).map fun p => decide (mAt ms p = some w)).map PyData.bool) := by
  unfold qfull_rows_1
  rw [xlc_all (enc := PyData.int) (xs := f3 r) (fun p => .bool (decide (mAt ms p = some w))) (by simp [e3, tJ]) (by simp [f3]) fun p hp => ?_]
  · rw [List.map_map]; rfl
  · obtain ⟨h0, h1⟩ := hr p hp
    exact ⟨_, rfl, rfl, by simp [wipeE, encM, atI_men h0 h1, eq_oMi]⟩
theorem full_rows_ev (hrow : ∀ r ∈ b.rows, RowOn ms.length r) (hl : b.rows.length ≤ 1000) : ffull_rows [encB b, encM ms, .int w] = .ok (.list ((b.rows.filter (fullR ms w)).map e3)) := by
  have h : qfull_rows_2 [.dat (encB b), .dat (encM ms), .dat (.int w), .un, .un] = .ok ((b.rows.filter (fullR ms w)).map e3) := by
    unfold qfull_rows_2
    refine xlc_map (enc := e3) (xs := b.rows) (fullR ms w) e3 (by simp [encB]) (by omega) fun r hr => ⟨_, rfl, ?_, fun _ => ?_⟩
    · simp [-List.map_map, wipeE, qfull1_ev (hrow r hr), all_bools, fullR]
    · simp [wipeE]
  apply runD_rt
  simp [bfull_rows, startE, h]
theorem full_ev {s : Sd} (hm : s.men = ms) (hrow : ∀ r ∈ b.rows, RowOn ms.length r) (hl : b.rows.length ≤ 1000) : ffull [encB b, encS s, .int w] = .ok (.tuple ((b.rows.filter (fullR ms w)).map e3)) := by
  subst hm
  apply runD_rt
  simp [bfull, startE, encS, full_rows_ev hrow hl]
/-! ### threats -/
/-- a row that a man of w at p makes full -/
def opnR (ms : List (Option Int)) (w p : Int) (r : Int × Int × Int) : Bool := decide (p ∈ f3 r) && decide (((f3 r).filter fun q => !decide (q = p)).map (mAt ms) = [some w, some w])
theorem qopen_ev {r : Int × Int × Int} (hr : RowOn ms.length r) {s : Sd} (hm : s.men = ms) {p : Int} {s0 s2 s4 s6 : Sl} : qrows_open_1 [s0, .dat (encS s), s2, .dat (.int p), s4, .dat (e3 r), s6] = .ok ((((f3 r).filter fun q => !decide (q = p)).map (mAt ms)).map oM) := by
  subst hm
  unfold qrows_open_1
  rw [xlc_map (enc := PyData.int) (xs := f3 r) (fun q => !decide (q = p)) (fun q => oM (mAt s.men q)) (by simp [e3, tJ]) (by simp [f3]) fun q hq => ?_]
  · rw [List.map_map]; rfl
  · obtain ⟨h0, h1⟩ := hr q hq
    exact ⟨_, rfl, by simp [wipeE], fun _ => by simp [wipeE, encS, encM, atI_men h0 h1]⟩
theorem lbopen_ev {r : Int × Int × Int} (hr : RowOn ms.length r) {s : Sd} (hm : s.men = ms) {p n : Int} {s0 s6 : Sl} : lbrows_open_1 [s0, .dat (encS s), .dat (.int w), .dat (.int p), .dat (.int n), .dat (e3 r), s6] =
    .nx [s0, .dat (encS s), .dat (.int w), .dat (.int p), .dat (.int (n + if opnR ms w p r then 1 else 0)), .dat (e3 r), s6] := by
  have hi : inD (.int p) (e3 r) = some (.bool (decide (p ∈ f3 r))) := by unfold inD e3 tJ; rw [in_ints_t]; rfl
  have he := eq_menL (((f3 r).filter fun q => !decide (q = p)).map (mAt ms)) [some w, some w]
  simp only [List.map_cons, List.map_nil, oM_s] at he
  have hq := qopen_ev hr hm (p := p) (s0 := s0) (s2 := .dat (.int w)) (s4 := .dat (.int n)) (s6 := s6)
  unfold lbrows_open_1 opnR
  generalize ((f3 r).filter fun q => !decide (q = p)).map (mAt ms) = L at he hq
  by_cases h1 : p ∈ f3 r
  · by_cases h2 : L = [some w, some w]
    · rw [sif_t (by simp [hi, h1, hq, he]; exact h2)]
      simp [h1, h2]
    · rw [sif_f (by simp [hi, h1, hq, he]; exact h2)]
      simp [h1, h2]
  · rw [sif_f (by simp [hi, h1])]
    simp [h1]
theorem foldl_count {α : Type} (c : α → Bool) : ∀ (xs : List α) (n : Int), xs.foldl (fun n x => n + if c x then 1 else 0) n = n + (xs.filter c).length
  | [], n => by simp
  | x :: xs, n => by
    rw [List.foldl_cons, foldl_count c xs]
    by_cases h : c x = true
    · rw [List.filter_cons_of_pos h, if_pos h, List.length_cons]; omega
    · rw [List.filter_cons_of_neg h, if_neg h]; omega
theorem rows_open_ev (hrow : ∀ r ∈ b.rows, RowOn ms.length r) {s : Sd} (hm : s.men = ms) {p : Int} : frows_open [encB b, encS s, .int w, .int p] = .ok (.int ((b.rows.filter (opnR ms w p)).length : Int)) := by
  obtain ⟨e', h1, s5, rfl⟩ := forL_fold (enc := e3) (f := gn 5) (B := lbrows_open_1) (fun (n : Int) e => ∃ s5, e = [.dat (encB b), .dat (encS s), .dat (.int w), .dat (.int p), .dat (.int n), s5, .un]) (fun n r => n + if opnR ms w p r then 1 else 0) b.rows 0
    [.dat (encB b), .dat (encS s), .dat (.int w), .dat (.int p), .dat (.int 0), .un, .un] ⟨_, rfl⟩ fun n r e hr ⟨s5, h⟩ => by
      subst h
      exact ⟨_, _, rfl, .inl (lbopen_ev (hrow r hr) hm), _, rfl⟩
  rw [foldl_count, Int.zero_add] at h1
  have hl : lrows_open_1 [.dat (encB b), .dat (encS s), .dat (.int w), .dat (.int p), .dat (.int 0), .un, .un] = .nx _ := sfor_nx (by simp [encB]) h1
  apply runD_rt
  simp [brows_open, startE, hl]
/-- the places that ask for at least so many rows -/
def opnP (b : Bd) (ms : List (Option Int)) (w k : Int) : List Int := (whr (·.isNone) ms).filter fun p => decide (k ≤ ((b.rows.filter (opnR ms w p)).length : Int))
theorem points_open_ev (hrow : ∀ r ∈ b.rows, RowOn ms.length r) (hlen : ms.length ≤ 1000) {s : Sd} (hm : s.men = ms) {k : Int} : fpoints_open [encB b, encS s, .int w, .int k] = .ok (.tuple ((opnP b ms w k).map PyData.int)) := by
  have h1 : qpoints_open_1 [.dat (encB b), .dat (encS s), .dat (.int w), .dat (.int k), .un, .un, .un] = .ok ((whr (·.isNone) ms).map PyData.int) := by
    subst hm
    unfold qpoints_open_1
    exact xlc_whr (fun m => m.isNone) (by simp [encS, encM]) (by omega) fun p m _ _ _ => ⟨_, rfl, by simp [wipeE], by simp [wipeE]⟩
  have h2 : qpoints_open_2 (fz [.dat (encB b), .dat (encS s), .dat (.int w), .dat (.int k), .dat (.list ((whr (·.isNone) ms).map PyData.int)), .un, .un]) = .ok ((opnP b ms w k).map PyData.int) := by
    unfold qpoints_open_2 opnP
    refine xlc_map (enc := PyData.int) (xs := whr (·.isNone) ms) _ PyData.int (by simp) (by have := whr_length (·.isNone) ms; omega) fun p hp => ⟨_, rfl, ?_, fun _ => ?_⟩
    · simp [wipeE, rows_open_ev hrow hm]
    · simp [wipeE]
  apply runD_rt
  simp [bpoints_open, startE, h1]
  simp at h2
  simp [h2]
theorem threats_ev (hrow : ∀ r ∈ b.rows, RowOn ms.length r) (hlen : ms.length ≤ 1000) {s : Sd} (hm : s.men = ms) : fthreats [encB b, encS s, .int w] = .ok (.tuple ((opnP b ms w 1).map PyData.int)) := by
  apply runD_rt
  simp [bthreats, startE, points_open_ev hrow hlen hm]
theorem forks_ev (hrow : ∀ r ∈ b.rows, RowOn ms.length r) (hlen : ms.length ≤ 1000) {s : Sd} (hm : s.men = ms) : fforks [encB b, encS s, .int w] = .ok (.tuple ((opnP b ms w 2).map PyData.int)) := by
  apply runD_rt
  simp [bforks, startE, points_open_ev hrow hlen hm]
/-! ### the law's own -/
def lopR (ms : List (Option Int)) (w p : Int) (r : Int × Int × Int) : Bool := decide (p ∈ f3 r) && decide (((f3 r).map (mAt ms)).count (some w) = 2) && (mAt ms p).isNone
theorem open_rows_ev (hrow : ∀ r ∈ b.rows, RowOn ms.length r) (hl : b.rows.length ≤ 1000) {p : Int} (h0 : 0 ≤ p) (hp : p < ms.length) : f_law_open_rows [encB b, encM ms, .int w, .int p] = .ok (.list ((b.rows.filter (lopR ms w p)).map e3)) := by
  have step : ∀ (acc : List (Int × Int × Int)) (r : Int × Int × Int) (e : En), r ∈ b.rows → (∃ s5, acc.length ≤ b.rows.length ∧ e = [.dat (encB b), .dat (encM ms), .dat (.int w), .dat (.int p), .own (acc.map e3), s5, .un]) → True := fun _ _ _ _ _ => trivial
  obtain ⟨e', h1, s5, hE⟩ := forL_inv (enc := e3) (f := gn 5) (B := lb_law_open_rows_1) (fun pre e => ∃ s5, e = [.dat (encB b), .dat (encM ms), .dat (.int w), .dat (.int p), .own ((pre.filter (lopR ms w p)).map e3), s5, .un]) b.rows []
    [.dat (encB b), .dat (encM ms), .dat (.int w), .dat (.int p), .own [], .un, .un] ⟨_, rfl⟩ fun pre r rest e q ⟨s5, h⟩ => by
      subst h
      rw [List.nil_append] at q
      have hr : r ∈ b.rows := by rw [q]; simp
      have hlp : pre.length < b.rows.length := by rw [q, List.length_append, List.length_cons]; omega
      have hlf : (pre.filter (lopR ms w p)).length ≤ pre.length := List.length_filter_le _ _
      have hq : q_law_open_rows_1 [.dat (encB b), .dat (encM ms), .dat (.int w), .dat (.int p), .own ((pre.filter (lopR ms w p)).map e3), .dat (e3 r), .un] = .ok (((f3 r).map (mAt ms)).map oM) := by
        unfold q_law_open_rows_1
        rw [xlc_all (enc := PyData.int) (xs := f3 r) (fun q => oM (mAt ms q)) (by simp [e3, tJ]) (by simp [f3]) fun q hq => ?_]
        · rw [List.map_map]; rfl
        · obtain ⟨g0, g1⟩ := hrow r hr q hq
          exact ⟨_, rfl, rfl, by simp [wipeE, encM, atI_men g0 g1]⟩
      have hi : inD (.int p) (e3 r) = some (.bool (decide (p ∈ f3 r))) := by unfold inD e3 tJ; rw [in_ints_t]; rfl
      have hc : xcount (asL q_law_open_rows_1) (xvV 2) [.dat (encB b), .dat (encM ms), .dat (.int w), .dat (.int p), .own ((pre.filter (lopR ms w p)).map e3), .dat (e3 r), .un] = .ok (.int (((f3 r).map (mAt ms)).count (some w) : Nat)) :=
        xcount_ev (x := .list (((f3 r).map (mAt ms)).map oM)) (y := .int w) (by simp [hq]) (by simp) (.inl ⟨_, rfl⟩) (count_men_l _ w)
      have hat : ixD (encM ms) (.int p) = some (oM (mAt ms p)) := atI_men h0 hp
      by_cases ht : lopR ms w p r = true
      · refine ⟨_, _, rfl, .inl (?_ : _ = Fl.nx [.dat (encB b), .dat (encM ms), .dat (.int w), .dat (.int p), .own (((pre ++ [r]).filter (lopR ms w p)).map e3), .dat (e3 r), .un]), _, rfl⟩
        have ht' := ht
        unfold lopR at ht'
        simp only [Bool.and_eq_true, decide_eq_true_eq] at ht'
        unfold lb_law_open_rows_1
        have hc2 : (((((f3 r).map (mAt ms)).count (some w) : Nat) : Int) = 2) := by omega
        show sif _ _ _ [.dat (encB b), .dat (encM ms), .dat (.int w), .dat (.int p), .own ((pre.filter (lopR ms w p)).map e3), .dat (e3 r), .un] = _
        rw [sif_t (by simp [hi, ht'.1.1, hc, hc2, hat, ht'.2])]
        rw [sapp_ev (ds := (pre.filter (lopR ms w p)).map e3) (d := e3 r) rfl (by simp) (by rw [List.length_map]; omega)]
        rw [List.filter_append, List.filter_cons_of_pos ht, List.filter_nil, List.map_append]
        rfl
      · refine ⟨_, _, rfl, .inl (?_ : _ = Fl.nx [.dat (encB b), .dat (encM ms), .dat (.int w), .dat (.int p), .own (((pre ++ [r]).filter (lopR ms w p)).map e3), .dat (e3 r), .un]), _, rfl⟩
        have ht' := ht
        unfold lopR at ht'
        unfold lb_law_open_rows_1
        show sif _ _ _ [.dat (encB b), .dat (encM ms), .dat (.int w), .dat (.int p), .own ((pre.filter (lopR ms w p)).map e3), .dat (e3 r), .un] = _
        rw [sif_f ?_]
        · rw [List.filter_append, List.filter_cons_of_neg ht, List.filter_nil, List.append_nil]
          rfl
        · by_cases g1 : p ∈ f3 r
          · by_cases g2 : ((f3 r).map (mAt ms)).count (some w) = 2
            · have hc2 : (((((f3 r).map (mAt ms)).count (some w) : Nat) : Int) = 2) := by omega
              have g3 : (mAt ms p).isNone = false := by
                cases h : (mAt ms p).isNone with
                | false => rfl
                | true => exact absurd (by simp [g1, g2, h]) ht'
              simp [hi, g1, hc, hc2, hat, g3]
            · have hc2 : ¬ (((((f3 r).map (mAt ms)).count (some w) : Nat) : Int) = 2) := by omega
              simp [hi, g1, hc, hc2]
          · simp [hi, g1]
  subst hE
  have hl' : l_law_open_rows_1 [.dat (encB b), .dat (encM ms), .dat (.int w), .dat (.int p), .own [], .un, .un] = .nx _ := sfor_nx (by simp [encB]) h1
  apply runD_rt
  simp [b_law_open_rows, startE, hl']
end
end Pf
/-! Th2: threats, the mathematics; cuts; enumerate -/
namespace Pf
open PySem L2 Pu
theorem upto_sorted (n : Nat) : (upto n).Pairwise (· < ·) := by
  unfold upto
  rw [List.pairwise_map, List.pairwise_iff_getElem]
  intro i j hi hj hij
  rw [List.getElem_range, List.getElem_range]
  omega
theorem whr_eq (c : Option Int → Bool) (ms : List (Option Int)) : whr c ms = (upto ms.length).filter fun p => c (mAt ms p) := by
  refine lt_unique _ _ (whr_sorted c ms) ((upto_sorted _).filter _) fun p => ?_
  rw [whr_mem, List.mem_filter, upto_mem]
  constructor
  · rintro ⟨h0, h1, h2⟩; exact ⟨⟨h0, h1⟩, h2⟩
  · rintro ⟨⟨h0, h1⟩, h2⟩; exact ⟨h0, h1, h2⟩
/-! ### cuts -/
theorem cut_to {α : Type} (xs : List α) {p : Int} (h0 : 0 ≤ p) : cutD xs none (some p) = xs.take p.toNat := by
  unfold cutD
  have e : HT.sIx xs.length xs.length (some p) = min p.toNat xs.length := by
    show (if p < 0 then (p + (xs.length : Int)).toNat else min p.toNat xs.length) = _
    rw [if_neg (by omega)]
  rw [e, show HT.sIx xs.length 0 none = 0 from rfl, List.drop_zero, Nat.sub_zero]
  rw [List.take_eq_take_iff]
  omega
theorem cut_from {α : Type} (xs : List α) {p : Int} (h0 : 0 ≤ p) : cutD xs (some p) none = xs.drop p.toNat := by
  unfold cutD
  have e : HT.sIx xs.length 0 (some p) = min p.toNat xs.length := by
    show (if p < 0 then (p + (xs.length : Int)).toNat else min p.toNat xs.length) = _
    rw [if_neg (by omega)]
  rw [e, show HT.sIx xs.length xs.length none = xs.length from rfl]
  by_cases h : p.toNat ≤ xs.length
  · rw [Nat.min_eq_left h, List.take_of_length_le (by rw [List.length_drop]; exact Nat.le_refl _)]
  · rw [Nat.min_eq_right (by omega), List.drop_eq_nil_of_le (Nat.le_refl _), List.drop_eq_nil_of_le (by omega), List.take_nil]
theorem set_cut {α : Type} (xs : List α) {i : Nat} (h : i < xs.length) (x : α) : xs.take i ++ [x] ++ xs.drop (i + 1) = xs.set i x := by
  rw [List.set_eq_take_append_cons_drop, if_pos h, List.append_assoc]
  rfl
@[simp] theorem slice_t (ds : List D) (lo hi : Option Int) : sliceD (.tuple ds) lo hi = some (.tuple (cutD ds lo hi)) := rfl
@[simp] theorem slice_l (ds : List D) (lo hi : Option Int) : sliceD (.list ds) lo hi = some (.list (cutD ds lo hi)) := rfl
theorem add_tt {xs ys : List D} (h : xs.length + ys.length ≤ 1000000) : addD (.tuple xs) (.tuple ys) = some (.tuple (xs ++ ys)) := by
  show (if xs.length + ys.length ≤ many then some (PyData.tuple (xs ++ ys)) else none) = _
  rw [if_pos (show xs.length + ys.length ≤ many from h)]
theorem add_ll {xs ys : List D} (h : xs.length + ys.length ≤ 1000000) : addD (.list xs) (.list ys) = some (.list (xs ++ ys)) := by
  show (if xs.length + ys.length ≤ many then some (PyData.list (xs ++ ys)) else none) = _
  rw [if_pos (show xs.length + ys.length ≤ many from h)]
theorem addN_ll {xs ys : List D} (h : xs.length + ys.length ≤ 1000000) : addN (.list xs) (.list ys) = some (xs ++ ys) := by
  show (if xs.length + ys.length ≤ many then some (xs ++ ys) else none) = _
  rw [if_pos (show xs.length + ys.length ≤ many from h)]
/-! ### enumerate of anything -/
def enumX {α : Type} (xs : List α) : List (Int × α) := xs.mapIdx fun i x => ((i : Int), x)
theorem enum_any {α : Type} (enc : α → D) (xs : List α) : enumL (xs.map enc) = (enumX xs).map fun p => pairD (.int p.1) (enc p.2) := by
  unfold enumL enumX
  apply List.ext_getElem?
  intro i
  rw [List.getElem?_mapIdx, List.getElem?_map, List.getElem?_map, List.getElem?_mapIdx]
  cases xs[i]? <;> rfl
theorem enumX_upto {α : Type} (g : Int → α) (n : Nat) : enumX ((upto n).map g) = (upto n).map fun p => (p, g p) := by
  unfold enumX upto
  apply List.ext_getElem?
  intro i
  rw [List.getElem?_mapIdx, List.getElem?_map, List.getElem?_map, List.getElem?_map, List.getElem?_map]
  cases h : (List.range n)[i]? with
  | none => rfl
  | some k =>
    obtain ⟨hi, e⟩ := List.getElem?_eq_some_iff.mp h
    rw [List.getElem_range] at e
    subst e
    rfl
theorem enumX_length {α : Type} (xs : List α) : (enumX xs).length = xs.length := by unfold enumX; rw [List.length_mapIdx]
/-! ### tuples of ints compared -/
theorem tJ_eq (s t : List Int) : PyData.eqv (tJ s) (tJ t) = decide (s = t) := eqv_enc tJ_inj tJ_pl s t
theorem ne_tJ (s t : List Int) : neD (tJ s) (tJ t) = some (.bool (!decide (s = t))) := by rw [ne_ev ((tJ_shp s).shaped) ((tJ_shp t).shaped), tJ_eq]
theorem eq_tJ (s t : List Int) : eqD (tJ s) (tJ t) = some (.bool (decide (s = t))) := by rw [eq_ev ((tJ_shp s).shaped) ((tJ_shp t).shaped), tJ_eq]
theorem in_tJ (x : Int) (s : List Int) : inD (.int x) (tJ s) = some (.bool (decide (x ∈ s))) := by unfold inD tJ; rw [in_ints_t]; rfl
/-! ### a man more -/
section
variable {ms : List (Option Int)} {w p : Int} {r : Int × Int × Int}
theorem two_count (x y : Option Int) (w : Int) : decide ([x, y] = [some w, some w]) = decide (([x, y].count (some w)) = 2) := by
  by_cases g1 : x = some w <;> by_cases g2 : y = some w <;> simp [g1, g2, List.count_cons]
theorem opn_lop (hr : r.1 < r.2.1 ∧ r.2.1 < r.2.2) (hp : mAt ms p = none) : opnR ms w p r = lopR ms w p r := by
  obtain ⟨a, b, c⟩ := r
  simp only at hr
  unfold opnR lopR f3
  rw [hp]
  simp only [List.mem_cons, List.not_mem_nil, or_false, Option.isNone_none, Bool.and_true]
  by_cases h1 : p = a
  · subst h1
    have e1 : ¬ b = p := by omega
    have e2 : ¬ c = p := by omega
    have t := two_count (mAt ms b) (mAt ms c) w
    simp only [List.count_cons, List.count_nil] at t
    simp [e1, e2, hp, List.count_cons]
    simpa using t
  · by_cases h2 : p = b
    · subst h2
      have e1 : ¬ a = p := by omega
      have e2 : ¬ c = p := by omega
      have t := two_count (mAt ms a) (mAt ms c) w
      simp only [List.count_cons, List.count_nil] at t
      simp [e1, e2, hp, List.count_cons]
      simpa using t
    · by_cases h3 : p = c
      · subst h3
        have e1 : ¬ a = p := by omega
        have e2 : ¬ b = p := by omega
        have t := two_count (mAt ms a) (mAt ms b) w
        simp only [List.count_cons, List.count_nil] at t
        simp [e1, e2, hp, List.count_cons]
        simpa using t
      · simp [h1, h2, h3]
theorem full_more (hr : r.1 < r.2.1 ∧ r.2.1 < r.2.2) (hon : RowOn ms.length r) (h0 : 0 ≤ p) (hl : p < ms.length) (hp : mAt ms p = none) :
    fullR (ms.set p.toNat (some w)) w r = (fullR ms w r || opnR ms w p r) ∧ (fullR ms w r && opnR ms w p r) = false := by
  obtain ⟨a, b, c⟩ := r
  simp only at hr
  have ha := hon a (by simp [f3])
  have hb := hon b (by simp [f3])
  have hc := hon c (by simp [f3])
  unfold fullR opnR f3
  simp only [List.all_cons, List.all_nil, Bool.and_true, mAt_set h0 hl ha.1, mAt_set h0 hl hb.1, mAt_set h0 hl hc.1, List.mem_cons, List.not_mem_nil, or_false]
  by_cases h1 : p = a
  · subst h1
    have e1 : ¬ b = p := by omega
    have e2 : ¬ c = p := by omega
    simp [e1, e2, hp]
  · have h1' : ¬ a = p := fun z => h1 z.symm
    by_cases h2 : p = b
    · subst h2
      have e2 : ¬ c = p := by omega
      simp [h1', e2, hp]
    · have h2' : ¬ b = p := fun z => h2 z.symm
      by_cases h3 : p = c
      · subst h3
        simp [h1', h2', hp]
      · have h3' : ¬ c = p := fun z => h3 z.symm
        simp [h1, h2, h3, h1', h2', h3']
end
theorem filter_or_len {α : Type} {f g o : α → Bool} : ∀ {xs : List α}, (∀ x ∈ xs, f x = (g x || o x) ∧ (g x && o x) = false) → (xs.filter f).length = (xs.filter g).length + (xs.filter o).length
  | [], _ => rfl
  | x :: xs, h => by
    have ih := filter_or_len (f := f) (g := g) (o := o) (xs := xs) fun y hy => h y (List.mem_cons_of_mem _ hy)
    obtain ⟨h1, h2⟩ := h x List.mem_cons_self
    simp only [List.filter_cons, h1]
    cases hg : g x <;> cases ho : o x <;> simp_all <;> omega
/-- the other side -/
def flipM : Option Int → Option Int
  | none => none
  | some i => some (1 - i)
theorem flipM_none (m : Option Int) : (flipM m).isNone = m.isNone := by cases m <;> rfl
theorem flipM_eq (m : Option Int) (w : Int) : flipM m = some (1 - w) ↔ m = some w := by
  cases m with
  | none => simp [flipM]
  | some i => simp [flipM]
theorem mAt_flip (ms : List (Option Int)) (p : Int) : mAt (ms.map flipM) p = flipM (mAt ms p) := by
  unfold mAt
  rw [List.getD_eq_getElem?_getD, List.getD_eq_getElem?_getD, List.getElem?_map]
  cases ms[p.toNat]? <;> rfl
theorem opnR_flip (ms : List (Option Int)) (w p : Int) (r : Int × Int × Int) : opnR (ms.map flipM) (1 - w) p r = opnR ms w p r := by
  unfold opnR
  congr 1
  rw [decide_eq_decide]
  have e : (mAt (ms.map flipM)) = flipM ∘ mAt ms := funext fun q => mAt_flip ms q
  rw [e, ← List.map_map]
  generalize ((f3 r).filter fun q => !decide (q = p)).map (mAt ms) = L
  match L with
  | [] => simp
  | [x] => simp
  | [x, y] => simp [flipM_eq]
  | x :: y :: z :: t => simp
theorem opnP_flip (b : Bd) (ms : List (Option Int)) (w k : Int) : opnP b (ms.map flipM) (1 - w) k = opnP b ms w k := by
  unfold opnP
  rw [whr_eq, whr_eq, List.length_map, List.filter_filter, List.filter_filter]
  apply List.filter_congr
  intro p _
  rw [mAt_flip, flipM_none, show opnR (ms.map flipM) (1 - w) p = opnR ms w p from funext fun r => opnR_flip ms w p r]
theorem opnP_mem {b : Bd} {ms : List (Option Int)} {w k p : Int} : p ∈ opnP b ms w k ↔ (0 ≤ p ∧ p < ms.length ∧ (mAt ms p).isNone = true) ∧ k ≤ ((b.rows.filter (opnR ms w p)).length : Int) := by
  unfold opnP
  rw [List.mem_filter, whr_mem, decide_eq_true_eq]
theorem opnP_law {b : Bd} {ms : List (Option Int)} {w : Int} (k : Int) (hk : 1 ≤ k) (hr : ∀ r ∈ b.rows, r.1 < r.2.1 ∧ r.2.1 < r.2.2) : opnP b ms w k = (upto ms.length).filter fun p => decide (k ≤ ((b.rows.filter (lopR ms w p)).length : Int)) := by
  unfold opnP
  rw [whr_eq, List.filter_filter]
  apply List.filter_congr
  intro p _
  by_cases h : mAt ms p = none
  · rw [h]
    simp only [Option.isNone_none, Bool.and_true]
    have e : b.rows.filter (opnR ms w p) = b.rows.filter (lopR ms w p) := List.filter_congr fun r hh => opn_lop (hr r hh) h
    rw [e]
  · have h1 : (mAt ms p).isNone = false := by
      cases q : mAt ms p with
      | none => exact absurd q h
      | some _ => rfl
    rw [h1]
    have h2 : b.rows.filter (lopR ms w p) = [] := List.filter_eq_nil_iff.mpr fun r _ => by unfold lopR; rw [h1]; simp
    rw [h2]
    simp
    omega
end Pf
/-! Mv: what the program's moving computes -/
namespace Pf
open PySem L2 Pu
structure Sd.Wk (n : Int) (s : Sd) : Prop where
  len : (s.men.length : Int) = n
  turn : s.turn = 0 ∨ s.turn = 1
theorem Sd.Ok.wk {n : Int} {s : Sd} (h : s.Ok n) : s.Wk n := ⟨h.len, h.turn⟩
def Sd.left (s : Sd) (w : Int) : Int := if w = 0 then s.l0 else s.l1
def isM (w : Int) (m : Option Int) : Bool := decide (m = some w)
def nbrs (b : Bd) (p : Int) : List Int := b.ties.flatMap fun t => (if t.1 = p then [t.2] else []) ++ (if t.2 = p then [t.1] else [])
def encP (p : Int × Int) : D := e2 p
section
variable {b : Bd} {s : Sd} {w p : Int}
theorem points_of_ev (hl : s.men.length ≤ 1000) : fpoints_of [encS s, .int w] = .ok (.list ((whr (isM w) s.men).map PyData.int)) := by
  have h : qpoints_of_1 [.dat (encS s), .dat (.int w), .un, .un] = .ok ((whr (isM w) s.men).map PyData.int) := by
    unfold qpoints_of_1
    exact xlc_whr (isM w) (by simp [encS, encM]) (by omega) fun p m _ _ _ => ⟨_, rfl, by simp [wipeE, eq_oMi, isM], by simp [wipeE]⟩
  apply runD_rt
  simp [bpoints_of, startE, h]
theorem left_ix (hw : w = 0 ∨ w = 1) : atI [PyData.int s.l0, PyData.int s.l1] w = some (.int (s.left w)) := by
  unfold Sd.left
  rcases hw with rfl | rfl <;> simp
theorem count_ev (hl : s.men.length ≤ 1000) (hw : w = 0 ∨ w = 1) : fcount [encS s, .int w] = .ok (.int ((whr (isM w) s.men).length + s.left w)) := by
  have h := points_of_ev (s := s) (w := w) hl
  have h2 : ixD (encS s) (.int 1) = some (.tuple [.int s.l0, .int s.l1]) := rfl
  apply runD_rt
  simp [bcount, startE, h, h2, left_ix hw]
theorem neighbours_ev (hb : b.ties.length ≤ 1000) : fneighbours [encB b, .int p] = .ok (.list ((nbrs b p).map PyData.int)) := by
  have hlen : ∀ l : List (Int × Int), (l.flatMap fun t => (if t.1 = p then [t.2] else []) ++ (if t.2 = p then [t.1] else [])).length ≤ 2 * l.length := by
    intro l
    induction l with
    | nil => simp
    | cons t l ih =>
      rw [List.flatMap_cons, List.length_append, List.length_append, List.length_cons]
      have a1 : (if t.1 = p then [t.2] else []).length ≤ 1 := by split <;> simp
      have a2 : (if t.2 = p then [t.1] else []).length ≤ 1 := by split <;> simp
      omega
  obtain ⟨e', h1, s3, s4, hE⟩ := forL_inv (enc := e2) (f := gtup (gcons (gn 3) (gcons (gn 4) gnil))) (B := lbneighbours_1) (fun pre e => ∃ s3 s4, e = [.dat (encB b), .dat (.int p), .own ((pre.flatMap fun t => (if t.1 = p then [t.2] else []) ++ (if t.2 = p then [t.1] else [])).map PyData.int), s3, s4]) b.ties []
    [.dat (encB b), .dat (.int p), .own [], .un, .un] ⟨_, _, rfl⟩ fun pre t rest e q ⟨s3, s4, h⟩ => by
      subst h
      rw [List.nil_append] at q
      have hlp : pre.length < b.ties.length := by rw [q, List.length_append, List.length_cons]; omega
      have hl := hlen pre
      rw [List.flatMap_append, List.flatMap_cons, List.flatMap_nil, List.append_nil]
      generalize (pre.flatMap fun t => (if t.1 = p then [t.2] else []) ++ (if t.2 = p then [t.1] else [])) = acc at hl
      obtain ⟨x, y⟩ := t
      refine ⟨_, [.dat (encB b), .dat (.int p), .own ((acc ++ ((if x = p then [y] else []) ++ (if y = p then [x] else []))).map PyData.int), .dat (.int x), .dat (.int y)], rfl, .inl ?_, _, _, rfl⟩
      have al : ∀ (ds : List D) (z : Int) (u3 u4 : Sl) (i : Nat), ds.length ≤ 5000 → True := fun _ _ _ _ _ _ => trivial
      have s1 : ∀ {G : En → R D} {ds : List Int} {z : Int}, ds.length ≤ 5000 → G [.dat (encB b), .dat (.int p), .own (ds.map PyData.int), .dat (.int x), .dat (.int y)] = .ok (.int z) → sapp 2 G [.dat (encB b), .dat (.int p), .own (ds.map PyData.int), .dat (.int x), .dat (.int y)] = .nx [.dat (encB b), .dat (.int p), .own ((ds ++ [z]).map PyData.int), .dat (.int x), .dat (.int y)] := by
        intro G ds z hd hG
        rw [sapp_ev (ds := ds.map PyData.int) rfl hG (by rw [List.length_map]; omega), List.map_append]
        rfl
      unfold lbneighbours_1
      show sseq _ _ [.dat (encB b), .dat (.int p), .own (acc.map PyData.int), .dat (.int x), .dat (.int y)] = _
      by_cases hx : x = p
      · by_cases hy : y = p
        · rw [sseq_ev, sif_t (by simp [hx]), s1 (z := y) (by omega) (by simp), then_nx, sif_t (by simp [hy]), s1 (z := x) (by rw [List.length_append]; simp; omega) (by simp)]
          rw [if_pos hx, if_pos hy, List.append_assoc]
        · rw [sseq_ev, sif_t (by simp [hx]), s1 (z := y) (by omega) (by simp), then_nx, sif_f (by simp [hy])]
          rw [if_pos hx, if_neg hy, List.append_nil]
          rfl
      · by_cases hy : y = p
        · rw [sseq_ev, sif_f (by simp [hx]), snil_ev, then_nx, sif_t (by simp [hy]), s1 (z := x) (by omega) (by simp)]
          rw [if_neg hx, if_pos hy, List.nil_append]
        · rw [sseq_ev, sif_f (by simp [hx]), snil_ev, then_nx, sif_f (by simp [hy])]
          rw [if_neg hx, if_neg hy, List.append_nil, List.append_nil]
          rfl
  subst hE
  have hl' : lneighbours_1 [.dat (encB b), .dat (.int p), .own [], .un, .un] = .nx _ := sfor_nx (by simp [encB]) h1
  apply runD_rt
  simp [bneighbours, startE, hl', nbrs]
/-! ### steps -/
def emp (ms : List (Option Int)) : List Int := whr (·.isNone) ms
def goalsT (b : Bd) (ms : List (Option Int)) (m : Nat) (q : Int) : List Int := if 3 < m then (nbrs b q).filter fun g => (mAt ms g).isNone else emp ms
def stepsT (b : Bd) (s : Sd) : List (Int × Int) :=
  if 0 < s.left s.turn then (emp s.men).map fun g => (-1, g) else (whr (isM s.turn) s.men).flatMap fun q => (goalsT b s.men (whr (isM s.turn) s.men).length q).map fun g => (q, g)
/-- the points of ties are on the board -/
def TiesOn (b : Bd) : Prop := ∀ t ∈ b.ties, 0 ≤ t.1 ∧ t.1 < b.n ∧ 0 ≤ t.2 ∧ t.2 < b.n
theorem Bd.Ok.tiesOn (h : b.Ok) : TiesOn b := fun t ht => by have := h.tie t ht; omega
theorem nbrs_on (h : TiesOn b) {q g : Int} (hg : g ∈ nbrs b q) : 0 ≤ g ∧ g < b.n := by
  unfold nbrs at hg
  obtain ⟨t, ht, hg⟩ := List.mem_flatMap.mp hg
  have := h t ht
  rcases List.mem_append.mp hg with hg | hg
  · split at hg
    · simp at hg; omega
    · simp at hg
  · split at hg
    · simp at hg; omega
    · simp at hg
theorem nbrs_len (b : Bd) (q : Int) : (nbrs b q).length ≤ 2 * b.ties.length := by
  unfold nbrs
  generalize b.ties = l
  induction l with
  | nil => simp
  | cons t l ih =>
    rw [List.flatMap_cons, List.length_append, List.length_append, List.length_cons]
    have a1 : (if t.1 = q then [t.2] else []).length ≤ 1 := by split <;> simp
    have a2 : (if t.2 = q then [t.1] else []).length ≤ 1 := by split <;> simp
    omega
theorem goals_len (hb : b.ties.length ≤ 200) (ms : List (Option Int)) (hl : ms.length ≤ 24) (m : Nat) (q : Int) : (goalsT b ms m q).length ≤ 400 := by
  unfold goalsT
  split
  · have := List.length_filter_le (fun g => (mAt ms g).isNone) (nbrs b q)
    have := nbrs_len b q
    omega
  · have := whr_length (·.isNone) ms
    unfold emp
    omega
theorem flat_len {α β : Type} {f : α → List β} {k : Nat} : ∀ {l : List α}, (∀ x ∈ l, (f x).length ≤ k) → (l.flatMap f).length ≤ k * l.length
  | [], _ => by simp
  | x :: l, h => by
    have := h x List.mem_cons_self
    have := flat_len (f := f) (k := k) (l := l) fun y hy => h y (List.mem_cons_of_mem _ hy)
    rw [List.flatMap_cons, List.length_append, List.length_cons, Nat.mul_succ]
    omega
theorem steps_ev (hb : b.ties.length ≤ 200) (ht : TiesOn b) (hn : b.n ≤ 24) (hs : s.Wk b.n) : fsteps [encB b, encS s] = .ok (.list ((stepsT b s).map e2)) := by
  have hlen := hs.len
  have hl : s.men.length ≤ 24 := by omega
  have hq1 : ∀ {t0 t1 t3 t4 t5 t6 t7 t8 t9 t12 : Sl}, qsteps_1 [t0, t1, .dat (encM s.men), t3, t4, t5, t6, t7, t8, t9, .un, .un, t12] = .ok ((emp s.men).map PyData.int) := by
    intros
    unfold qsteps_1
    exact xlc_whr (fun m => m.isNone) (by simp [encM]) (by omega) fun p m _ _ _ => ⟨_, rfl, by simp [wipeE], by simp [wipeE]⟩
  have hel : (emp s.men).length ≤ 24 := by have := whr_length (·.isNone) s.men; unfold emp; omega
  have hlx : atI [PyData.int s.l0, PyData.int s.l1] s.turn = some (.int (s.left s.turn)) := left_ix hs.turn
  unfold stepsT
  by_cases h0 : 0 < s.left s.turn
  · rw [if_pos h0]
    have hq2 : qsteps_2 (fz [.dat (encB b), .dat (encS s), .dat (encM s.men), .dat (.tuple [.int s.l0, .int s.l1]), .dat (.int s.turn), .dat (.list ((emp s.men).map PyData.int)), .un, .un, .un, .un, .un, .un, .un]) = .ok (((emp s.men).map fun g => ((-1 : Int), g)).map e2) := by
      unfold qsteps_2
      rw [xlc_all (enc := PyData.int) (xs := emp s.men) (fun g => e2 (-1, g)) (by simp) (by omega) fun g hg => ⟨_, rfl, rfl, by simp [wipeE, e2, f2, tJ]⟩, List.map_map]
      rfl
    apply runD_rt
    simp only [fz_cons, frz1_dat, frz1_un, fz_nil] at hq2
    have es : gtup (gcons (gn 2) (gcons (gn 3) (gcons (gn 4) gnil))) (encS s) [.dat (encB b), .dat (encS s), .un, .un, .un, .un, .un, .un, .un, .un, .un, .un, .un] = some [.dat (encB b), .dat (encS s), .dat (encM s.men), .dat (.tuple [.int s.l0, .int s.l1]), .dat (.int s.turn), .un, .un, .un, .un, .un, .un, .un, .un] := rfl
    simp [-List.map_map, bsteps, startE, es, hq1, hlx, h0, hq2]
  · rw [if_neg h0]
    have hp := points_of_ev (s := s) (w := s.turn) (by omega)
    have hml : (whr (isM s.turn) s.men).length ≤ 24 := by have := whr_length (isM s.turn) s.men; omega
    have hmine : ∀ q ∈ whr (isM s.turn) s.men, 0 ≤ q := fun q hq => (whr_mem.mp hq).1
    generalize whr (isM s.turn) s.men = mine at hp hml hmine
    obtain ⟨e', h1, s8, s9, hE⟩ := forL_inv (enc := PyData.int) (f := gn 8) (B := lbsteps_1) (fun pre e => ∃ s8 s9, e = [.dat (encB b), .dat (encS s), .dat (encM s.men), .dat (.tuple [.int s.l0, .int s.l1]), .dat (.int s.turn), .dat (.list ((emp s.men).map PyData.int)), .dat (.list (mine.map PyData.int)), .own ((pre.flatMap fun q => (goalsT b s.men mine.length q).map fun g => (q, g)).map e2), s8, s9, .un, .un, .un]) mine []
      [.dat (encB b), .dat (encS s), .dat (encM s.men), .dat (.tuple [.int s.l0, .int s.l1]), .dat (.int s.turn), .dat (.list ((emp s.men).map PyData.int)), .dat (.list (mine.map PyData.int)), .own [], .un, .un, .un, .un, .un] ⟨_, _, rfl⟩ fun pre q rest e qq ⟨s8, s9, h⟩ => by
        subst h
        rw [List.nil_append] at qq
        have hlp : pre.length < mine.length := by rw [qq, List.length_append, List.length_cons]; omega
        have hfl := flat_len (f := fun q => (goalsT b s.men mine.length q).map fun g => (q, g)) (k := 400) (l := pre) fun x _ => by rw [List.length_map]; exact goals_len hb s.men hl _ _
        rw [List.flatMap_append, List.flatMap_cons, List.flatMap_nil, List.append_nil]
        generalize (pre.flatMap fun q => (goalsT b s.men mine.length q).map fun g => (q, g)) = acc at hfl
        refine ⟨_, [.dat (encB b), .dat (encS s), .dat (encM s.men), .dat (.tuple [.int s.l0, .int s.l1]), .dat (.int s.turn), .dat (.list ((emp s.men).map PyData.int)), .dat (.list (mine.map PyData.int)), .own ((acc ++ (goalsT b s.men mine.length q).map fun g => (q, g)).map e2), .dat (.int q), .dat (.list ((goalsT b s.men mine.length q).map PyData.int)), .un, .un, .un], rfl, .inl ?_, _, _, rfl⟩
        have hgl := goals_len hb s.men hl mine.length q
        -- the goals
        have hg : (sseq (sasg 9 (xvE 5)) (sif (xbl (bin gtD (un1 lenD (xvV 6)) (xc (.int 3)))) (sasg 9 (asL qsteps_3)) snil)) [.dat (encB b), .dat (encS s), .dat (encM s.men), .dat (.tuple [.int s.l0, .int s.l1]), .dat (.int s.turn), .dat (.list ((emp s.men).map PyData.int)), .dat (.list (mine.map PyData.int)), .own (acc.map e2), .dat (.int q), s9, .un, .un, .un] =
            .nx [.dat (encB b), .dat (encS s), .dat (encM s.men), .dat (.tuple [.int s.l0, .int s.l1]), .dat (.int s.turn), .dat (.list ((emp s.men).map PyData.int)), .dat (.list (mine.map PyData.int)), .own (acc.map e2), .dat (.int q), .dat (.list ((goalsT b s.men mine.length q).map PyData.int)), .un, .un, .un] := by
          unfold goalsT
          by_cases h3 : 3 < mine.length
          · have h3' : (3 : Int) < (mine.length : Int) := by omega
            rw [if_pos h3]
            have hq3 : qsteps_3 [.dat (encB b), .dat (encS s), .dat (encM s.men), .dat (.tuple [.int s.l0, .int s.l1]), .dat (.int s.turn), .dat (.list ((emp s.men).map PyData.int)), .dat (.list (mine.map PyData.int)), .own (acc.map e2), .dat (.int q), .dat (.list ((emp s.men).map PyData.int)), .un, .un, .un] = .ok (((nbrs b q).filter fun g => (mAt s.men g).isNone).map PyData.int) := by
              unfold qsteps_3
              refine xlc_map (enc := PyData.int) (xs := nbrs b q) (fun g => (mAt s.men g).isNone) PyData.int (by simp [neighbours_ev (b := b) (p := q) (by omega)]) (by have := nbrs_len b q; omega) fun g hg => ⟨_, rfl, ?_, fun _ => by simp [wipeE]⟩
              have := nbrs_on ht hg
              simp [wipeE, encM, atI_men this.1 (show g < s.men.length by omega)]
            simp [h3', hq3]
          · have h3' : ¬ (3 : Int) < (mine.length : Int) := by omega
            rw [if_neg h3]
            simp [h3']
        have hq4 : qsteps_4 [.dat (encB b), .dat (encS s), .dat (encM s.men), .dat (.tuple [.int s.l0, .int s.l1]), .dat (.int s.turn), .dat (.list ((emp s.men).map PyData.int)), .dat (.list (mine.map PyData.int)), .own (acc.map e2), .dat (.int q), .dat (.list ((goalsT b s.men mine.length q).map PyData.int)), .un, .un, .un] = .ok (((goalsT b s.men mine.length q).map fun g => (q, g)).map e2) := by
          unfold qsteps_4
          rw [xlc_all (enc := PyData.int) (xs := goalsT b s.men mine.length q) (fun g => e2 (q, g)) (by simp) (by omega) fun g hg => ⟨_, rfl, rfl, by simp [wipeE, e2, f2, tJ]⟩, List.map_map]
          rfl
        have assoc : lbsteps_1 = sseq (sasg 9 (xvE 5)) (sseq (sif (xbl (bin gtD (un1 lenD (xvV 6)) (xc (.int 3)))) (sasg 9 (asL qsteps_3)) snil) (sext 7 (asL qsteps_4))) := rfl
        have as2 : ∀ (A B C : En → Fl) (e : En), sseq A (sseq B C) e = (sseq A B e).andThen C := by
          intro A B C e
          rw [sseq_ev, sseq_ev]
          cases A e <;> simp [Fl.andThen]
        show lbsteps_1 [.dat (encB b), .dat (encS s), .dat (encM s.men), .dat (.tuple [.int s.l0, .int s.l1]), .dat (.int s.turn), .dat (.list ((emp s.men).map PyData.int)), .dat (.list (mine.map PyData.int)), .own (acc.map e2), .dat (.int q), s9, .un, .un, .un] = _
        rw [assoc, as2, hg, then_nx, sext_ev (ds := acc.map e2) (d := .list (((goalsT b s.men mine.length q).map fun g => (q, g)).map e2)) rfl (by simp [-List.map_map, hq4]) rfl (by rw [List.length_map, List.length_map, List.length_map]; have : 400 * pre.length ≤ 400 * 24 := Nat.mul_le_mul_left _ (by omega); omega), List.map_append]
        rfl
    subst hE
    have hl' : lsteps_1 [.dat (encB b), .dat (encS s), .dat (encM s.men), .dat (.tuple [.int s.l0, .int s.l1]), .dat (.int s.turn), .dat (.list ((emp s.men).map PyData.int)), .dat (.list (mine.map PyData.int)), .own [], .un, .un, .un, .un, .un] = .nx _ := sfor_nx (by simp) h1
    have es : gtup (gcons (gn 2) (gcons (gn 3) (gcons (gn 4) gnil))) (encS s) [.dat (encB b), .dat (encS s), .un, .un, .un, .un, .un, .un, .un, .un, .un, .un, .un] = some [.dat (encB b), .dat (encS s), .dat (encM s.men), .dat (.tuple [.int s.l0, .int s.l1]), .dat (.int s.turn), .un, .un, .un, .un, .un, .un, .un, .un] := rfl
    apply runD_rt
    simp [-List.map_map, bsteps, startE, es, hq1, hlx, h0, hp, hl']
end
end Pf
/-! Mv2: takings, moves, winner -/
namespace Pf
open PySem L2 Pu
section
variable {b : Bd} {s : Sd} {w : Int}
/-! ### a step made -/
def stepM (ms : List (Option Int)) (beg goal w : Int) : List (Option Int) := (if 0 ≤ beg then ms.set beg.toNat none else ms).set goal.toNat (some w)
theorem stepM_len (ms : List (Option Int)) (beg goal w : Int) : (stepM ms beg goal w).length = ms.length := by
  unfold stepM
  rw [List.length_set]
  split <;> simp
theorem with_step_ev {ms : List (Option Int)} {beg goal : Int} (hb : beg < ms.length) (hg0 : 0 ≤ goal) (hg : goal < ms.length) : fwith_step [encM ms, .int beg, .int goal, .int w] = .ok (encM (stepM ms beg goal w)) := by
  apply runD_rt
  have p2 : ∀ {ms' : List (Option Int)}, ms'.length = ms.length → sput 4 (xvE 2) (xvE 3) [.dat (encM ms), .dat (.int beg), .dat (.int goal), .dat (.int w), .own (ms'.map oM)] = .nx [.dat (encM ms), .dat (.int beg), .dat (.int goal), .dat (.int w), .own ((ms'.set goal.toNat (some w)).map oM)] := by
    intro ms' hl
    rw [sput_ev (d := .int w) (n := goal) (m := goal.toNat) (ds := ms'.map oM) (by simp) rfl (by simp) (by rw [List.length_map]; exact ixN_nat hg0 (by omega)), List.map_set]
    rfl
  have hlist : listN (encM ms) = some (ms.map oM) := rfl
  unfold stepM
  by_cases h0 : 0 ≤ beg
  · have p1 : sput 4 (xvE 1) (xc .none) [.dat (encM ms), .dat (.int beg), .dat (.int goal), .dat (.int w), .own (ms.map oM)] = .nx [.dat (encM ms), .dat (.int beg), .dat (.int goal), .dat (.int w), .own ((ms.set beg.toNat none).map oM)] := by
      rw [sput_ev (d := .none) (n := beg) (m := beg.toNat) (ds := ms.map oM) (by simp) rfl (by simp) (by rw [List.length_map]; exact ixN_nat h0 (by omega)), List.map_set]
      rfl
    rw [if_pos h0]
    have q2 := p2 (ms' := ms.set beg.toNat none) (by simp)
    simp [-List.map_set, bwith_step, startE, hlist, h0, p1, q2]
    rfl
  · rw [if_neg h0]
    have q2 := p2 (ms' := ms) rfl
    simp [-List.map_set, bwith_step, startE, hlist, h0, q2]
    rfl
/-! ### what may be taken -/
def anyRow (rs : List (Int × Int × Int)) (p : Int) : Bool := rs.any fun r => decide (p ∈ f3 r)
def freeT (b : Bd) (ms : List (Option Int)) (w : Int) : List Int := (whr (isM (1 - w)) ms).filter fun p => !anyRow (b.rows.filter (fullR ms (1 - w))) p
def takT (b : Bd) (ms : List (Option Int)) (goal w : Int) : List Int :=
  if anyRow (b.rows.filter (fullR ms w)) goal = true then (if freeT b ms w ≠ [] then freeT b ms w else if whr (isM (1 - w)) ms ≠ [] then whr (isM (1 - w)) ms else [-1]) else [-1]
theorem takings_ev {ms : List (Option Int)} {goal : Int} (hrow : ∀ r ∈ b.rows, RowOn ms.length r) (hr : b.rows.length ≤ 1000) (hl : ms.length ≤ 24) : ftakings [encB b, encM ms, .int goal, .int w] = .ok (.list ((takT b ms goal w).map PyData.int)) := by
  have f1 := full_rows_ev (b := b) (ms := ms) (w := w) hrow hr
  have f2' := full_rows_ev (b := b) (ms := ms) (w := 1 - w) hrow hr
  have l1 : (b.rows.filter (fullR ms w)).length ≤ 1000 := Nat.le_trans (List.length_filter_le _ _) hr
  have l2 : (b.rows.filter (fullR ms (1 - w))).length ≤ 1000 := Nat.le_trans (List.length_filter_le _ _) hr
  have inr : ∀ (p : Int) (r : Int × Int × Int), inD (.int p) (e3 r) = some (.bool (decide (p ∈ f3 r))) := fun p r => in_tJ p (f3 r)
  have q1 : qtakings_1 [.dat (encB b), .dat (encM ms), .dat (.int goal), .dat (.int w), .un, .un, .un, .un, .un, .un] = .ok (((b.rows.filter (fullR ms w)).map fun r => decide (goal ∈ f3 r)).map PyData.bool) := by
    unfold qtakings_1
    rw [xlc_all (enc := e3) (xs := b.rows.filter (fullR ms w)) (fun r => .bool (decide (goal ∈ f3 r))) (by simp [f1]) (by omega) fun r _ => ⟨_, rfl, rfl, by simp [wipeE, inr]⟩, List.map_map]
    rfl
  have a1 : anyD (.list (((b.rows.filter (fullR ms w)).map fun r => decide (goal ∈ f3 r)).map PyData.bool)) = some (.bool (anyRow (b.rows.filter (fullR ms w)) goal)) := by
    rw [any_bools]
    unfold anyRow
    rw [List.any_map]
    rfl
  unfold takT
  by_cases h1 : anyRow (b.rows.filter (fullR ms w)) goal = true
  · rw [if_pos h1]
    rw [h1] at a1
    have q2 : qtakings_2 [.dat (encB b), .dat (encM ms), .dat (.int goal), .dat (.int w), .un, .un, .un, .un, .un, .un] = .ok ((whr (isM (1 - w)) ms).map PyData.int) := by
      unfold qtakings_2
      exact xlc_whr (isM (1 - w)) (by simp [encM]) (by omega) fun p m _ _ _ => ⟨_, rfl, by simp [wipeE, eq_oMi, isM], by simp [wipeE]⟩
    have lo : (whr (isM (1 - w)) ms).length ≤ 24 := by have := whr_length (isM (1 - w)) ms; omega
    have q4 : qtakings_4 [.dat (encB b), .dat (encM ms), .dat (.int goal), .dat (.int w), .dat (.list ((whr (isM (1 - w)) ms).map PyData.int)), .dat (.list ((b.rows.filter (fullR ms (1 - w))).map e3)), .un, .un, .un, .un] = .ok ((freeT b ms w).map PyData.int) := by
      unfold qtakings_4 freeT
      refine xlc_map (enc := PyData.int) (xs := whr (isM (1 - w)) ms) _ PyData.int (by simp) (by omega) fun p _ => ⟨_, rfl, ?_, fun _ => by simp [wipeE]⟩
      have q3 : ∀ {t4 t6 t8 t9 : Sl}, qtakings_3 [.dat (encB b), .dat (encM ms), .dat (.int goal), .dat (.int w), t4, .dat (.list ((b.rows.filter (fullR ms (1 - w))).map e3)), t6, .dat (.int p), t8, t9] = .ok (((b.rows.filter (fullR ms (1 - w))).map fun r => decide (p ∈ f3 r)).map PyData.bool) := by
        intros
        unfold qtakings_3
        rw [xlc_all (enc := e3) (xs := b.rows.filter (fullR ms (1 - w))) (fun r => .bool (decide (p ∈ f3 r))) (by simp) (by omega) fun r _ => ⟨_, rfl, rfl, by simp [wipeE, inr]⟩, List.map_map]
        rfl
      have a3 : anyD (.list (((b.rows.filter (fullR ms (1 - w))).map fun r => decide (p ∈ f3 r)).map PyData.bool)) = some (.bool (anyRow (b.rows.filter (fullR ms (1 - w))) p)) := by
        rw [any_bools]
        unfold anyRow
        rw [List.any_map]
        rfl
      simp [-List.map_map, wipeE, q3, a3]
    apply runD_rt
    generalize whr (isM (1 - w)) ms = ot at q2 q4
    generalize freeT b ms w = fr at q4
    have htr : ∀ L : List Int, truD (.list (L.map PyData.int)) = some (!L.isEmpty) := fun L => by cases L <;> rfl
    cases fr with
    | nil =>
      cases ot with
      | nil =>
        simp only [List.map_nil] at q2 q4
        simp [-List.map_map, btakings, startE, q1, a1, q2, f2', q4]
      | cons x r =>
        simp only [List.map_cons, List.map_nil] at q2 q4
        simp [-List.map_map, btakings, startE, q1, a1, q2, f2', q4]
    | cons x r =>
      simp only [List.map_cons] at q4
      simp [-List.map_map, btakings, startE, q1, a1, q2, f2', q4]
  · rw [if_neg h1]
    rw [Bool.eq_false_iff.mpr h1] at a1
    apply runD_rt
    simp [-List.map_map, btakings, startE, q1, a1]
/-! ### all moves -/
def movesU (b : Bd) (s : Sd) : List (Int × Int × Int) := (stepsT b s).flatMap fun st => (takT b (stepM s.men st.1 st.2 s.turn) st.2 s.turn).map fun t => (st.1, st.2, t)
theorem emp_mem {ms : List (Option Int)} {p : Int} : p ∈ emp ms ↔ 0 ≤ p ∧ p < ms.length ∧ mAt ms p = none := by
  unfold emp
  rw [whr_mem]
  constructor
  · rintro ⟨h0, h1, h2⟩
    refine ⟨h0, h1, ?_⟩
    cases q : mAt ms p with
    | none => rfl
    | some _ => rw [q] at h2; cases h2
  · rintro ⟨h0, h1, h2⟩
    exact ⟨h0, h1, by rw [h2]; rfl⟩
/-- where steps lead -/
theorem steps_on (ht : TiesOn b) (hs : s.Wk b.n) {st : Int × Int} (h : st ∈ stepsT b s) : (st.1 = -1 ∨ (0 ≤ st.1 ∧ st.1 < s.men.length ∧ mAt s.men st.1 = some s.turn)) ∧ 0 ≤ st.2 ∧ st.2 < s.men.length ∧ mAt s.men st.2 = none := by
  have hl := hs.len
  unfold stepsT at h
  split at h
  · obtain ⟨g, hg, rfl⟩ := List.mem_map.mp h
    rw [emp_mem] at hg
    exact ⟨.inl rfl, hg.1, hg.2.1, hg.2.2⟩
  · obtain ⟨q, hq, h⟩ := List.mem_flatMap.mp h
    obtain ⟨g, hg, rfl⟩ := List.mem_map.mp h
    rw [whr_mem] at hq
    have hq2 : mAt s.men q = some s.turn := of_decide_eq_true hq.2.2
    refine ⟨.inr ⟨hq.1, hq.2.1, hq2⟩, ?_⟩
    unfold goalsT at hg
    split at hg
    · rw [List.mem_filter] at hg
      have := nbrs_on ht hg.1
      refine ⟨this.1, by omega, ?_⟩
      show mAt s.men g = none
      cases q : mAt s.men g with
      | none => rfl
      | some _ => have := hg.2; rw [q] at this; cases this
    · rw [emp_mem] at hg
      exact ⟨hg.1, hg.2.1, hg.2.2⟩
theorem steps_len (hb : b.ties.length ≤ 200) (hl : s.men.length ≤ 24) : (stepsT b s).length ≤ 9600 := by
  unfold stepsT
  split
  · rw [List.length_map]
    have := whr_length (·.isNone) s.men
    unfold emp
    omega
  · have hf := flat_len (f := fun q => (goalsT b s.men (whr (isM s.turn) s.men).length q).map fun g => (q, g)) (k := 400) (l := whr (isM s.turn) s.men) fun x _ => by rw [List.length_map]; exact goals_len hb s.men hl _ _
    have := whr_length (isM s.turn) s.men
    have : 400 * (whr (isM s.turn) s.men).length ≤ 400 * 24 := Nat.mul_le_mul_left _ (by omega)
    omega
theorem tak_len {ms : List (Option Int)} (hl : ms.length ≤ 24) (goal w : Int) : (takT b ms goal w).length ≤ 24 := by
  have h1 := whr_length (isM (1 - w)) ms
  have h2 : (freeT b ms w).length ≤ (whr (isM (1 - w)) ms).length := List.length_filter_le _ _
  unfold takT
  split
  · split
    · omega
    · split
      · omega
      · simp
  · simp
theorem all_moves_ev (hb : b.ties.length ≤ 200) (ht : TiesOn b) (hr : b.rows.length ≤ 1000) (hrow : ∀ r ∈ b.rows, RowOn b.n r) (hn : b.n ≤ 24) (hs : s.Wk b.n) : fall_moves [encB b, encS s] = .ok (.list ((movesU b s).map e3)) := by
  have hlen := hs.len
  have hl : s.men.length ≤ 24 := by omega
  have hst := steps_ev hb ht hn hs
  have hsl := steps_len (b := b) (s := s) hb hl
  have hon : ∀ st ∈ stepsT b s, (st.1 = -1 ∨ (0 ≤ st.1 ∧ st.1 < s.men.length ∧ mAt s.men st.1 = some s.turn)) ∧ 0 ≤ st.2 ∧ st.2 < s.men.length ∧ mAt s.men st.2 = none := fun st h => steps_on ht hs h
  unfold movesU
  generalize stepsT b s = sts at hst hsl hon
  obtain ⟨e', h1, s6, s7, s8, hE⟩ := forL_inv (enc := e2) (f := gtup (gcons (gn 6) (gcons (gn 7) gnil))) (B := lball_moves_1) (fun pre e => ∃ s6 s7 s8, e = [.dat (encB b), .dat (encS s), .dat (encM s.men), .dat (.tuple [.int s.l0, .int s.l1]), .dat (.int s.turn), .own ((pre.flatMap fun st => (takT b (stepM s.men st.1 st.2 s.turn) st.2 s.turn).map fun t => (st.1, st.2, t)).map e3), s6, s7, s8, .un]) sts []
    [.dat (encB b), .dat (encS s), .dat (encM s.men), .dat (.tuple [.int s.l0, .int s.l1]), .dat (.int s.turn), .own [], .un, .un, .un, .un] ⟨_, _, _, rfl⟩ fun pre st rest e q ⟨s6, s7, s8, h⟩ => by
      subst h
      rw [List.nil_append] at q
      have hst' : st ∈ sts := by rw [q]; simp
      obtain ⟨o1, o2, o3, o4⟩ := hon st hst'
      have hlp : pre.length < sts.length := by rw [q, List.length_append, List.length_cons]; omega
      have hfl := flat_len (f := fun st : Int × Int => (takT b (stepM s.men st.1 st.2 s.turn) st.2 s.turn).map fun t => (st.1, st.2, t)) (k := 24) (l := pre) fun x _ => by rw [List.length_map]; exact tak_len (by rw [stepM_len]; exact hl) _ _
      rw [List.flatMap_append, List.flatMap_cons, List.flatMap_nil, List.append_nil]
      generalize (pre.flatMap fun st : Int × Int => (takT b (stepM s.men st.1 st.2 s.turn) st.2 s.turn).map fun t => (st.1, st.2, t)) = acc at hfl
      obtain ⟨x, y⟩ := st
      simp only at o1 o2 o3 o4 ⊢
      have hw := with_step_ev (w := s.turn) (ms := s.men) (beg := x) (goal := y) (by omega) o2 o3
      have htk := takings_ev (b := b) (w := s.turn) (ms := stepM s.men x y s.turn) (goal := y) (fun r h => by rw [stepM_len, hlen]; exact hrow r h) hr (by rw [stepM_len]; exact hl)
      have htl := tak_len (b := b) (ms := stepM s.men x y s.turn) (by rw [stepM_len]; exact hl) y s.turn
      generalize takT b (stepM s.men x y s.turn) y s.turn = tk at htk htl
      refine ⟨_, [.dat (encB b), .dat (encS s), .dat (encM s.men), .dat (.tuple [.int s.l0, .int s.l1]), .dat (.int s.turn), .own ((acc ++ tk.map fun t => (x, y, t)).map e3), .dat (.int x), .dat (.int y), .dat (.list (tk.map PyData.int)), .un], rfl, .inl ?_, _, _, _, rfl⟩
      have hq1 : qall_moves_1 [.dat (encB b), .dat (encS s), .dat (encM s.men), .dat (.tuple [.int s.l0, .int s.l1]), .dat (.int s.turn), .own (acc.map e3), .dat (.int x), .dat (.int y), .dat (.list (tk.map PyData.int)), .un] = .ok ((tk.map fun t => (x, y, t)).map e3) := by
        unfold qall_moves_1
        rw [xlc_all (enc := PyData.int) (xs := tk) (fun t => e3 (x, y, t)) (by simp) (by omega) fun t _ => ⟨_, rfl, rfl, by simp [wipeE, e3, f3, tJ]⟩, List.map_map]
        rfl
      show lball_moves_1 [.dat (encB b), .dat (encS s), .dat (encM s.men), .dat (.tuple [.int s.l0, .int s.l1]), .dat (.int s.turn), .own (acc.map e3), .dat (.int x), .dat (.int y), s8, .un] = _
      unfold lball_moves_1
      rw [sseq_ev]
      have h8 : sasg 8 (xcall 4 ftakings (lcons (xvE 0) (lcons (xcall 4 fwith_step (lcons (xvE 2) (lcons (xvE 6) (lcons (xvE 7) (lcons (xvE 4) lnil))))) (lcons (xvE 7) (lcons (xvE 4) lnil))))) [.dat (encB b), .dat (encS s), .dat (encM s.men), .dat (.tuple [.int s.l0, .int s.l1]), .dat (.int s.turn), .own (acc.map e3), .dat (.int x), .dat (.int y), s8, .un] =
          .nx [.dat (encB b), .dat (encS s), .dat (encM s.men), .dat (.tuple [.int s.l0, .int s.l1]), .dat (.int s.turn), .own (acc.map e3), .dat (.int x), .dat (.int y), .dat (.list (tk.map PyData.int)), .un] := by
        simp [-List.map_map, hw, htk]
      rw [h8, then_nx, sext_ev (ds := acc.map e3) (d := .list ((tk.map fun t => (x, y, t)).map e3)) rfl (by simp [-List.map_map, hq1]) rfl (by rw [List.length_map, List.length_map, List.length_map]; have h3 : 24 * pre.length ≤ 24 * 9600 := Nat.mul_le_mul_left _ (by omega); omega), List.map_append]
      rfl
  subst hE
  have hl' : lall_moves_1 [.dat (encB b), .dat (encS s), .dat (encM s.men), .dat (.tuple [.int s.l0, .int s.l1]), .dat (.int s.turn), .own [], .un, .un, .un, .un] = .nx _ := sfor_nx (by simp [hst]) h1
  have es : gtup (gcons (gn 2) (gcons (gn 3) (gcons (gn 4) gnil))) (encS s) [.dat (encB b), .dat (encS s), .un, .un, .un, .un, .un, .un, .un, .un] = some [.dat (encB b), .dat (encS s), .dat (encM s.men), .dat (.tuple [.int s.l0, .int s.l1]), .dat (.int s.turn), .un, .un, .un, .un, .un] := rfl
  apply runD_rt
  simp [-List.map_map, ball_moves, startE, es, hl']
/-! ### who has won -/
def winT (b : Bd) (s : Sd) : Option Int := if ((whr (isM s.turn) s.men).length : Int) + s.left s.turn < 3 ∨ stepsT b s = [] then some (1 - s.turn) else none
theorem winner_ev (hb : b.ties.length ≤ 200) (ht : TiesOn b) (hn : b.n ≤ 24) (hs : s.Wk b.n) : fwinner [encB b, encS s] = .ok (oM (winT b s)) := by
  have hlen := hs.len
  have h1 := count_ev (s := s) (w := s.turn) (by omega) hs.turn
  have h2 := steps_ev hb ht hn hs
  have h3 : ixD (encS s) (.int 2) = some (.int s.turn) := rfl
  apply runD_rt
  unfold winT
  by_cases c1 : ((whr (isM s.turn) s.men).length : Int) + s.left s.turn < 3
  · rw [if_pos (.inl c1)]
    simp [bwinner, startE, h3, h1, c1]
  · by_cases c2 : stepsT b s = []
    · rw [if_pos (.inr c2)]
      rw [c2] at h2
      simp [bwinner, startE, h3, h1, c1, h2]
    · rw [if_neg (by rintro (z | z) <;> contradiction)]
      cases h : stepsT b s with
      | nil => exact absurd h c2
      | cons x r =>
        rw [h] at h2
        simp [bwinner, startE, h3, h1, c1, h2]
def movesT (b : Bd) (s : Sd) : List (Int × Int × Int) := if winT b s = none then sortT f3 (movesU b s) else []
theorem movesU_len (hb : b.ties.length ≤ 200) (hl : s.men.length ≤ 24) : (movesU b s).length ≤ 230400 := by
  unfold movesU
  have h1 := flat_len (f := fun st : Int × Int => (takT b (stepM s.men st.1 st.2 s.turn) st.2 s.turn).map fun t => (st.1, st.2, t)) (k := 24) (l := stepsT b s) fun x _ => by rw [List.length_map]; exact tak_len (by rw [stepM_len]; exact hl) _ _
  have h2 := steps_len (b := b) (s := s) hb hl
  have h3 : 24 * (stepsT b s).length ≤ 24 * 9600 := Nat.mul_le_mul_left _ h2
  omega
theorem moves_ev (hb : b.ties.length ≤ 200) (ht : TiesOn b) (hr : b.rows.length ≤ 1000) (hrow : ∀ r ∈ b.rows, RowOn b.n r) (hn : b.n ≤ 24) (hs : s.Wk b.n) : fmoves [encB b, encS s] = .ok (.tuple ((movesT b s).map e3)) := by
  have hlen := hs.len
  have h1 := winner_ev hb ht hn hs
  have h2 := all_moves_ev hb ht hr hrow hn hs
  have h3 : sortD ((movesU b s).map e3) = some ((sortT f3 (movesU b s)).map e3) := sort_tJ (f := f3) (fun a => by simp [f3]) (by have := movesU_len (b := b) (s := s) hb (by omega); omega)
  apply runD_rt
  unfold movesT
  cases hw : winT b s with
  | none =>
    rw [hw] at h1
    simp [bmoves, startE, h1, h2, h3]
  | some v =>
    rw [hw] at h1
    simp [bmoves, startE, h1]
theorem moves_ok (hb : b.Ok) (hs : s.Wk b.n) : fmoves [encB b, encS s] = .ok (.tuple ((movesT b s).map e3)) := moves_ev hb.nt hb.tiesOn hb.nr hb.on hb.hi hs
theorem winner_ok (hb : b.Ok) (hs : s.Wk b.n) : fwinner [encB b, encS s] = .ok (oM (winT b s)) := winner_ev hb.nt hb.tiesOn hb.hi hs
end
end Pf
/-! Lw: the law's own steps, moves, winner -/
namespace Pf
open PySem L2 Pu
section
variable {b : Bd} {s : Sd} {w : Int}
theorem e2_inj (p q : Int × Int) (h : e2 p = e2 q) : p = q := f2_inj p q (tJ_inj _ _ h)
theorem e3_inj (p q : Int × Int × Int) (h : e3 p = e3 q) : p = q := f3_inj p q (tJ_inj _ _ h)
theorem in_ties (p : Int × Int) (ts : List (Int × Int)) : inD (e2 p) (.tuple (ts.map e2)) = some (.bool (decide (p ∈ ts))) := by
  unfold inD
  rw [in_t (enc := e2) (k := 1) e2_inj (fun a => tJ_pl _) (fun a => tJ_shp _) (by decide)]
  exact congrArg (fun x => some (PyData.bool x)) (decide_eq_decide.mpr Iff.rfl)
theorem in_moves (p : Int × Int × Int) (ts : List (Int × Int × Int)) : inD (e3 p) (.tuple (ts.map e3)) = some (.bool (decide (p ∈ ts))) := by
  unfold inD
  rw [in_t (enc := e3) (k := 1) e3_inj (fun a => tJ_pl _) (fun a => tJ_shp _) (by decide)]
  exact congrArg (fun x => some (PyData.bool x)) (decide_eq_decide.mpr Iff.rfl)
theorem notIn_moves (p : Int × Int × Int) (ts : List (Int × Int × Int)) : notInD (e3 p) (.tuple (ts.map e3)) = some (.bool (!decide (p ∈ ts))) := by
  unfold notInD
  rw [in_t (enc := e3) (k := 1) e3_inj (fun a => tJ_pl _) (fun a => tJ_shp _) (by decide)]
  exact congrArg (fun x => some (PyData.bool (!x))) (decide_eq_decide.mpr Iff.rfl)
/-! ### steps -/
def lgC (b : Bd) (m : Nat) (q g : Int) : Bool := decide (m < 4) || decide ((min q g, max q g) ∈ b.ties)
def lgoals (b : Bd) (ms : List (Option Int)) (m : Nat) (q : Int) : List Int := (emp ms).filter (lgC b m q)
def lstepsT (b : Bd) (s : Sd) : List (Int × Int) :=
  if 0 < s.left s.turn then (emp s.men).map fun g => (-1, g) else (whr (isM s.turn) s.men).flatMap fun q => (lgoals b s.men (whr (isM s.turn) s.men).length q).map fun g => (q, g)
theorem lsteps_ev (hn : b.n ≤ 24) (hs : s.Wk b.n) : f_law_steps [encB b, encS s] = .ok (.list ((lstepsT b s).map e2)) := by
  have hlen := hs.len
  have hl : s.men.length ≤ 24 := by omega
  have hnn : b.n.toNat = s.men.length := by omega
  have hix : ixD (encB b) (.int 0) = some (.int b.n) := rfl
  have hix1 : ixD (encB b) (.int 1) = some (.tuple (b.ties.map e2)) := rfl
  have hrg : rng1 (.int b.n) = some ((upto b.n.toNat).map PyData.int) := rng1_ev (by omega) (by omega)
  have hq1 : ∀ {t1 t3 t4 t5 t6 t7 t8 t9 : Sl}, q_law_steps_1 [.dat (encB b), t1, .dat (encM s.men), t3, t4, t5, t6, t7, t8, t9, .un] = .ok ((emp s.men).map PyData.int) := by
    intros
    unfold q_law_steps_1 emp
    rw [whr_eq, ← hnn]
    refine xlc_map (enc := PyData.int) (xs := upto b.n.toNat) _ PyData.int (by simp [hix, hrg]) (by rw [upto_length]; omega) fun p hp => ⟨_, rfl, ?_, fun _ => by simp [wipeE]⟩
    rw [upto_mem] at hp
    simp [wipeE, encM, atI_men hp.1 (show p < s.men.length by omega)]
  have hel : (emp s.men).length ≤ 24 := by have := whr_length (·.isNone) s.men; unfold emp; omega
  have hlx : atI [PyData.int s.l0, PyData.int s.l1] s.turn = some (.int (s.left s.turn)) := left_ix hs.turn
  have es : gtup (gcons (gn 2) (gcons (gn 3) (gcons (gn 4) gnil))) (encS s) [.dat (encB b), .dat (encS s), .un, .un, .un, .un, .un, .un, .un, .un, .un] = some [.dat (encB b), .dat (encS s), .dat (encM s.men), .dat (.tuple [.int s.l0, .int s.l1]), .dat (.int s.turn), .un, .un, .un, .un, .un, .un] := rfl
  unfold lstepsT
  by_cases h0 : 0 < s.left s.turn
  · rw [if_pos h0]
    have hq2 : q_law_steps_2 (fz [.dat (encB b), .dat (encS s), .dat (encM s.men), .dat (.tuple [.int s.l0, .int s.l1]), .dat (.int s.turn), .dat (.list ((emp s.men).map PyData.int)), .un, .un, .un, .un, .un]) = .ok (((emp s.men).map fun g => ((-1 : Int), g)).map e2) := by
      unfold q_law_steps_2
      rw [xlc_all (enc := PyData.int) (xs := emp s.men) (fun g => e2 (-1, g)) (by simp) (by omega) fun g hg => ⟨_, rfl, rfl, by simp [wipeE, e2, f2, tJ]⟩, List.map_map]
      rfl
    simp only [fz_cons, frz1_dat, frz1_un, fz_nil] at hq2
    apply runD_rt
    simp [-List.map_map, b_law_steps, startE, es, hq1, hlx, h0, hq2]
  · rw [if_neg h0]
    have hq3 : ∀ {t1 t3 t5 t6 t7 t8 t9 : Sl}, q_law_steps_3 [.dat (encB b), t1, .dat (encM s.men), t3, .dat (.int s.turn), t5, t6, t7, t8, t9, .un] = .ok ((whr (isM s.turn) s.men).map PyData.int) := by
      intros
      unfold q_law_steps_3
      rw [whr_eq, ← hnn]
      refine xlc_map (enc := PyData.int) (xs := upto b.n.toNat) _ PyData.int (by simp [hix, hrg]) (by rw [upto_length]; omega) fun p hp => ⟨_, rfl, ?_, fun _ => by simp [wipeE]⟩
      rw [upto_mem] at hp
      simp [wipeE, encM, atI_men hp.1 (show p < s.men.length by omega), eq_oMi, isM]
    have hml : (whr (isM s.turn) s.men).length ≤ 24 := by have := whr_length (isM s.turn) s.men; omega
    generalize whr (isM s.turn) s.men = mine at hq3 hml
    have hgl : ∀ q, (lgoals b s.men mine.length q).length ≤ 24 := fun q => Nat.le_trans (List.length_filter_le _ _) hel
    -- the inner loop
    have inner : ∀ (q : Int) (acc : List (Int × Int)) (s9 : Sl), acc.length ≤ 2000 → ∃ s9', l_law_steps_1 [.dat (encB b), .dat (encS s), .dat (encM s.men), .dat (.tuple [.int s.l0, .int s.l1]), .dat (.int s.turn), .dat (.list ((emp s.men).map PyData.int)), .dat (.list (mine.map PyData.int)), .own (acc.map e2), .dat (.int q), s9, .un] =
        .nx [.dat (encB b), .dat (encS s), .dat (encM s.men), .dat (.tuple [.int s.l0, .int s.l1]), .dat (.int s.turn), .dat (.list ((emp s.men).map PyData.int)), .dat (.list (mine.map PyData.int)), .own ((acc ++ (lgoals b s.men mine.length q).map fun g => (q, g)).map e2), .dat (.int q), s9', .un] := by
      intro q acc s9 hacc
      obtain ⟨e', h1, s9', hE⟩ := forL_inv (enc := PyData.int) (f := gn 9) (B := lb_law_steps_1) (fun pre e => ∃ s9, e = [.dat (encB b), .dat (encS s), .dat (encM s.men), .dat (.tuple [.int s.l0, .int s.l1]), .dat (.int s.turn), .dat (.list ((emp s.men).map PyData.int)), .dat (.list (mine.map PyData.int)), .own ((acc ++ (pre.filter (lgC b mine.length q)).map fun g => (q, g)).map e2), .dat (.int q), s9, .un]) (emp s.men) []
        [.dat (encB b), .dat (encS s), .dat (encM s.men), .dat (.tuple [.int s.l0, .int s.l1]), .dat (.int s.turn), .dat (.list ((emp s.men).map PyData.int)), .dat (.list (mine.map PyData.int)), .own (acc.map e2), .dat (.int q), s9, .un] ⟨s9, by simp⟩ fun pre g rest e qq ⟨s9, h⟩ => by
          subst h
          rw [List.nil_append] at qq
          have hlp : pre.length < (emp s.men).length := by rw [qq, List.length_append, List.length_cons]; omega
          have hlf : (pre.filter (lgC b mine.length q)).length ≤ pre.length := List.length_filter_le _ _
          have htie : ∀ {t1 t2 t3 t4 t5 t6 t7 : Sl}, bin inD (xtup (lcons (bin min2D (xvV 8) (xvV 9)) (lcons (bin max2D (xvV 8) (xvV 9)) lnil))) (bin ixD (xvV 0) (xc (.int 1))) [.dat (encB b), t1, t2, t3, t4, t5, t6, t7, .dat (.int q), .dat (.int g), .un] = .ok (.bool (decide ((min q g, max q g) ∈ b.ties))) := by
            intros
            rw [bin_ev, show ∀ {t1 t2 t3 t4 t5 t6 t7 : Sl}, xtup (lcons (bin min2D (xvV 8) (xvV 9)) (lcons (bin max2D (xvV 8) (xvV 9)) lnil)) [.dat (encB b), t1, t2, t3, t4, t5, t6, t7, .dat (.int q), .dat (.int g), .un] = .ok (e2 (min q g, max q g)) from by intros; simp [e2, f2, tJ], bind_ok]
            simp [hix1, in_ties]
          by_cases hc : lgC b mine.length q g = true
          · refine ⟨_, [.dat (encB b), .dat (encS s), .dat (encM s.men), .dat (.tuple [.int s.l0, .int s.l1]), .dat (.int s.turn), .dat (.list ((emp s.men).map PyData.int)), .dat (.list (mine.map PyData.int)), .own ((acc ++ ((pre ++ [g]).filter (lgC b mine.length q)).map fun g => (q, g)).map e2), .dat (.int q), .dat (.int g), .un], rfl, .inl ?_, _, rfl⟩
            rw [List.filter_append, List.filter_cons_of_pos hc, List.filter_nil]
            unfold lb_law_steps_1
            show sif _ _ _ [.dat (encB b), .dat (encS s), .dat (encM s.men), .dat (.tuple [.int s.l0, .int s.l1]), .dat (.int s.turn), .dat (.list ((emp s.men).map PyData.int)), .dat (.list (mine.map PyData.int)), .own ((acc ++ (pre.filter (lgC b mine.length q)).map fun g => (q, g)).map e2), .dat (.int q), .dat (.int g), .un] = _
            rw [sif_t ?_]
            · rw [sapp_ev (d := e2 (q, g)) rfl (by simp [e2, f2, tJ]) (by rw [List.length_map, List.length_append, List.length_map]; omega)]
              rw [List.map_append, List.map_append, List.map_append, List.map_append, List.append_assoc]
              rfl
            · by_cases h4 : (mine.length : Int) < 4
              · simp [-List.map_append, -List.map_map, h4]
              · have h4' : ¬ mine.length < 4 := by omega
                have h5 : (min q g, max q g) ∈ b.ties := by simpa [lgC, h4'] using hc
                rw [tor_ev, xbl_ev, xbl_ev, htie]
                simp [-List.map_append, -List.map_map, h4, h5]
          · refine ⟨_, [.dat (encB b), .dat (encS s), .dat (encM s.men), .dat (.tuple [.int s.l0, .int s.l1]), .dat (.int s.turn), .dat (.list ((emp s.men).map PyData.int)), .dat (.list (mine.map PyData.int)), .own ((acc ++ ((pre ++ [g]).filter (lgC b mine.length q)).map fun g => (q, g)).map e2), .dat (.int q), .dat (.int g), .un], rfl, .inl ?_, _, rfl⟩
            rw [List.filter_append, List.filter_cons_of_neg hc, List.filter_nil, List.append_nil]
            unfold lb_law_steps_1
            show sif _ _ _ [.dat (encB b), .dat (encS s), .dat (encM s.men), .dat (.tuple [.int s.l0, .int s.l1]), .dat (.int s.turn), .dat (.list ((emp s.men).map PyData.int)), .dat (.list (mine.map PyData.int)), .own ((acc ++ (pre.filter (lgC b mine.length q)).map fun g => (q, g)).map e2), .dat (.int q), .dat (.int g), .un] = _
            rw [sif_f ?_]
            · rfl
            · have hc' : ¬ mine.length < 4 ∧ ¬ (min q g, max q g) ∈ b.ties := by
                unfold lgC at hc
                simp only [Bool.or_eq_true, decide_eq_true_eq, not_or] at hc
                exact hc
              have h4 : ¬ (mine.length : Int) < 4 := by omega
              rw [tor_ev, xbl_ev, xbl_ev, htie]
              simp [-List.map_append, -List.map_map, h4, hc'.2]
      subst hE
      refine ⟨s9', sfor_nx (by simp) h1⟩
    obtain ⟨e', h1, s8, s9, hE⟩ := forL_inv (enc := PyData.int) (f := gn 8) (B := lb_law_steps_2) (fun pre e => ∃ s8 s9, e = [.dat (encB b), .dat (encS s), .dat (encM s.men), .dat (.tuple [.int s.l0, .int s.l1]), .dat (.int s.turn), .dat (.list ((emp s.men).map PyData.int)), .dat (.list (mine.map PyData.int)), .own ((pre.flatMap fun q => (lgoals b s.men mine.length q).map fun g => (q, g)).map e2), s8, s9, .un]) mine []
      [.dat (encB b), .dat (encS s), .dat (encM s.men), .dat (.tuple [.int s.l0, .int s.l1]), .dat (.int s.turn), .dat (.list ((emp s.men).map PyData.int)), .dat (.list (mine.map PyData.int)), .own [], .un, .un, .un] ⟨_, _, rfl⟩ fun pre q rest e qq ⟨s8, s9, h⟩ => by
        subst h
        rw [List.nil_append] at qq
        have hlp : pre.length < mine.length := by rw [qq, List.length_append, List.length_cons]; omega
        have hfl := flat_len (f := fun q => (lgoals b s.men mine.length q).map fun g => (q, g)) (k := 24) (l := pre) fun x _ => by rw [List.length_map]; exact hgl x
        rw [List.flatMap_append, List.flatMap_cons, List.flatMap_nil, List.append_nil]
        obtain ⟨s9', hin⟩ := inner q (pre.flatMap fun q => (lgoals b s.men mine.length q).map fun g => (q, g)) s9 (by omega)
        exact ⟨_, _, rfl, .inl hin, _, _, rfl⟩
    subst hE
    have hl' : l_law_steps_2 [.dat (encB b), .dat (encS s), .dat (encM s.men), .dat (.tuple [.int s.l0, .int s.l1]), .dat (.int s.turn), .dat (.list ((emp s.men).map PyData.int)), .dat (.list (mine.map PyData.int)), .own [], .un, .un, .un] = .nx _ := sfor_nx (by simp) h1
    apply runD_rt
    simp [-List.map_map, b_law_steps, startE, es, hq1, hlx, h0, hq3, hl']
end
end Pf
/-! Lw2: the law's own moves and winner -/
namespace Pf
open PySem L2 Pu
section
variable {b : Bd} {s : Sd} {w : Int}
theorem whr_count (ms : List (Option Int)) (w : Int) : (whr (isM w) ms).length = ms.count (some w) := by
  unfold whr enumM
  rw [List.length_map]
  have : ∀ (k : Nat) (l : List (Option Int)), ((l.mapIdx fun i m => (((i + k : Nat) : Int), m)).filter fun p => isM w p.2).length = l.count (some w) := by
    intro k l
    induction l generalizing k with
    | nil => rfl
    | cons m l ih =>
      rw [List.mapIdx_cons]
      have e : (l.mapIdx fun i m => (((i + 1 + k : Nat) : Int), m)) = l.mapIdx fun i m => (((i + (k + 1) : Nat) : Int), m) := by
        congr 1
        funext i m
        rw [show i + 1 + k = i + (k + 1) by omega]
      rw [e, List.filter_cons, List.count_cons]
      have ih' := ih (k + 1)
      by_cases h : m = some w
      · subst h
        have : isM w (some w) = true := decide_eq_true rfl
        simp only [this, if_true, List.length_cons, ih', beq_self_eq_true]
      · have : isM w m = false := decide_eq_false h
        simp only [this, Bool.false_eq_true, if_false, ih']
        have h2 : (m == some w) = false := by rw [beq_eq_false_iff_ne]; exact h
        rw [h2]
        simp
  have := this 0 ms
  simpa using this
def lwinT (b : Bd) (s : Sd) : Option Int := if ((whr (isM s.turn) s.men).length : Int) + s.left s.turn < 3 ∨ lstepsT b s = [] then some (1 - s.turn) else none
theorem lwinner_ev (hn : b.n ≤ 24) (hs : s.Wk b.n) : f_law_winner [encB b, encS s] = .ok (oM (lwinT b s)) := by
  have hlen := hs.len
  have h2 := lsteps_ev hn hs
  have hlx : atI [PyData.int s.l0, PyData.int s.l1] s.turn = some (.int (s.left s.turn)) := left_ix hs.turn
  have es : gtup (gcons (gn 2) (gcons (gn 3) (gcons (gn 4) gnil))) (encS s) [.dat (encB b), .dat (encS s), .un, .un, .un] = some [.dat (encB b), .dat (encS s), .dat (encM s.men), .dat (.tuple [.int s.l0, .int s.l1]), .dat (.int s.turn)] := rfl
  have hc : xcount (xvV 2) (xvV 4) [.dat (encB b), .dat (encS s), .dat (encM s.men), .dat (.tuple [.int s.l0, .int s.l1]), .dat (.int s.turn)] = .ok (.int ((whr (isM s.turn) s.men).length : Nat)) := by
    rw [whr_count]
    exact xcount_ev (x := encM s.men) (y := .int s.turn) (by simp) (by simp) (.inr ⟨_, rfl⟩) (count_men_t _ _)
  apply runD_rt
  unfold lwinT
  by_cases c1 : ((whr (isM s.turn) s.men).length : Int) + s.left s.turn < 3
  · rw [if_pos (.inl c1)]
    simp [b_law_winner, startE, es, hc, hlx, c1]
  · by_cases c2 : lstepsT b s = []
    · rw [if_pos (.inr c2)]
      rw [c2] at h2
      simp [b_law_winner, startE, es, hc, hlx, c1, h2]
    · rw [if_neg (by rintro (z | z) <;> contradiction)]
      cases h : lstepsT b s with
      | nil => exact absurd h c2
      | cons x r =>
        rw [h] at h2
        simp [b_law_winner, startE, es, hc, hlx, c1, h2]
theorem fullR_list (ms : List (Option Int)) (w : Int) (r : Int × Int × Int) : decide ((f3 r).map (mAt ms) = [some w, some w, some w]) = fullR ms w r := by
  unfold fullR f3
  rw [Bool.eq_iff_iff]
  simp
theorem lrows_ev {ms : List (Option Int)} (hrow : ∀ r ∈ b.rows, RowOn ms.length r) (hr : b.rows.length ≤ 1000) : f_law_rows_of [encB b, .list (ms.map oM), .int w] = .ok (.list ((b.rows.filter (fullR ms w)).map e3)) := by
  have h : q_law_rows_of_2 [.dat (encB b), .dat (.list (ms.map oM)), .dat (.int w), .un, .un] = .ok ((b.rows.filter (fullR ms w)).map e3) := by
    unfold q_law_rows_of_2
    refine xlc_map (enc := e3) (xs := b.rows) (fullR ms w) e3 (by simp [encB]) (by omega) fun r hr' => ⟨_, rfl, ?_, fun _ => by simp [wipeE]⟩
    have h1 : ∀ {t4 : Sl}, q_law_rows_of_1 [.dat (encB b), .dat (.list (ms.map oM)), .dat (.int w), .dat (e3 r), t4] = .ok (((f3 r).map (mAt ms)).map oM) := by
      intros
      unfold q_law_rows_of_1
      rw [xlc_all (enc := PyData.int) (xs := f3 r) (fun p => oM (mAt ms p)) (by simp [e3, tJ]) (by simp [f3]) fun p hp => ?_]
      · rw [List.map_map]; rfl
      · obtain ⟨g0, g1⟩ := hrow r hr' p hp
        exact ⟨_, rfl, rfl, by simp [wipeE, atI_men g0 g1]⟩
    have he := eq_menL ((f3 r).map (mAt ms)) [some w, some w, some w]
    rw [fullR_list] at he
    simp only [List.map_cons, List.map_nil, oM_s] at he
    simp [-List.map_map, wipeE, h1, he]
  apply runD_rt
  simp [b_law_rows_of, startE, h]
/-! ### the man led away -/
def newM (ms : List (Option Int)) (beg : Int) : List (Option Int) := if 0 ≤ beg then ms.set beg.toNat none else ms
theorem newM_map (ms : List (Option Int)) (beg : Int) : (enumM ms).map (fun p => if p.1 = beg then none else p.2) = newM ms beg := by
  unfold enumM newM
  apply List.ext_getElem?
  intro i
  rw [List.getElem?_map, List.getElem?_mapIdx]
  split
  · rename_i h
    rw [List.getElem?_set]
    by_cases hi : beg.toNat = i
    · rw [if_pos hi]
      have : (i : Int) = beg := by omega
      cases q : ms[i]? with
      | none =>
        have := List.getElem?_eq_none_iff.mp q
        rw [if_neg (by omega)]
        rfl
      | some m =>
        have := (List.getElem?_eq_some_iff.mp q).1
        rw [if_pos (by omega)]
        show some (if (i : Int) = beg then none else m) = _
        rw [if_pos (by omega)]
    · rw [if_neg hi]
      cases q : ms[i]? with
      | none => rfl
      | some m =>
        show some (if (i : Int) = beg then none else m) = _
        rw [if_neg (by omega)]
  · cases q : ms[i]? with
    | none => rfl
    | some m =>
      show some (if (i : Int) = beg then none else m) = _
      rw [if_neg (by omega)]
theorem stepM_new (ms : List (Option Int)) (beg goal w : Int) : stepM ms beg goal w = (newM ms beg).set goal.toNat (some w) := rfl
def lmovesU (b : Bd) (s : Sd) : List (Int × Int × Int) := (lstepsT b s).flatMap fun st => (takT b (stepM s.men st.1 st.2 s.turn) st.2 s.turn).map fun t => (st.1, st.2, t)
theorem lsteps_on (hs : s.Wk b.n) {st : Int × Int} (h : st ∈ lstepsT b s) : (st.1 = -1 ∨ (0 ≤ st.1 ∧ st.1 < s.men.length ∧ mAt s.men st.1 = some s.turn)) ∧ 0 ≤ st.2 ∧ st.2 < s.men.length ∧ mAt s.men st.2 = none := by
  have hl := hs.len
  unfold lstepsT at h
  split at h
  · obtain ⟨g, hg, rfl⟩ := List.mem_map.mp h
    rw [emp_mem] at hg
    exact ⟨.inl rfl, hg.1, hg.2.1, hg.2.2⟩
  · obtain ⟨q, hq, h⟩ := List.mem_flatMap.mp h
    obtain ⟨g, hg, rfl⟩ := List.mem_map.mp h
    rw [whr_mem] at hq
    have hq2 : mAt s.men q = some s.turn := of_decide_eq_true hq.2.2
    refine ⟨.inr ⟨hq.1, hq.2.1, hq2⟩, ?_⟩
    unfold lgoals at hg
    rw [List.mem_filter, emp_mem] at hg
    exact hg.1
theorem lsteps_len (hl : s.men.length ≤ 24) : (lstepsT b s).length ≤ 600 := by
  have hel : (emp s.men).length ≤ 24 := by have := whr_length (·.isNone) s.men; unfold emp; omega
  unfold lstepsT
  split
  · rw [List.length_map]; omega
  · have hf := flat_len (f := fun q => (lgoals b s.men (whr (isM s.turn) s.men).length q).map fun g => (q, g)) (k := 24) (l := whr (isM s.turn) s.men) fun x _ => by rw [List.length_map]; exact Nat.le_trans (List.length_filter_le _ _) hel
    have := whr_length (isM s.turn) s.men
    omega
/-- a turn of the law's loop -/
theorem lbmoves_ev (hr : b.rows.length ≤ 1000) (hrow : ∀ r ∈ b.rows, RowOn b.n r) (hn : b.n ≤ 24) (hs : s.Wk b.n) {x y : Int} (hx : x < s.men.length) (hy0 : 0 ≤ y) (hy : y < s.men.length) {acc : List (Int × Int × Int)} (ha : acc.length ≤ 100000) {s8 s9 s10 s11 s12 s13 : Sl} :
    ∃ t8 t9 t10 t11 t12 t13, lb_law_moves_2 [.dat (encB b), .dat (encS s), .dat (encM s.men), .dat (.tuple [.int s.l0, .int s.l1]), .dat (.int s.turn), .own (acc.map e3), .dat (.int x), .dat (.int y), s8, s9, s10, s11, s12, s13, .un, .un, .un] =
      .nx [.dat (encB b), .dat (encS s), .dat (encM s.men), .dat (.tuple [.int s.l0, .int s.l1]), .dat (.int s.turn), .own ((acc ++ (takT b (stepM s.men x y s.turn) y s.turn).map fun t => (x, y, t)).map e3), .dat (.int x), .dat (.int y), t8, t9, t10, t11, t12, t13, .un, .un, .un] := by
  have hlen := hs.len
  have hl : s.men.length ≤ 24 := by omega
  have hq1 : q_law_moves_1 [.dat (encB b), .dat (encS s), .dat (encM s.men), .dat (.tuple [.int s.l0, .int s.l1]), .dat (.int s.turn), .own (acc.map e3), .dat (.int x), .dat (.int y), s8, s9, s10, s11, s12, s13, .un, .un, .un] = .ok ((newM s.men x).map oM) := by
    unfold q_law_moves_1
    rw [xlc_all (enc := encE) (xs := enumM s.men) (fun p => oM (if p.1 = x then none else p.2)) (by simp [-List.map_map, encM, enum_men]) (by rw [enumM_length]; omega) fun p _ => ?_]
    · rw [← newM_map, List.map_map]
      rfl
    · refine ⟨_, rfl, rfl, ?_⟩
      by_cases h : p.1 = x
      · simp [-List.map_map, wipeE, h]
      · simp [-List.map_map, wipeE, h]
  have hnl : (newM s.men x).length = s.men.length := by unfold newM; split <;> simp
  have hml : (stepM s.men x y s.turn).length = s.men.length := stepM_len _ _ _ _
  have hput : sput 8 (xvE 7) (xvE 4) [.dat (encB b), .dat (encS s), .dat (encM s.men), .dat (.tuple [.int s.l0, .int s.l1]), .dat (.int s.turn), .own (acc.map e3), .dat (.int x), .dat (.int y), .own ((newM s.men x).map oM), s9, s10, s11, s12, s13, .un, .un, .un] =
      .nx [.dat (encB b), .dat (encS s), .dat (encM s.men), .dat (.tuple [.int s.l0, .int s.l1]), .dat (.int s.turn), .own (acc.map e3), .dat (.int x), .dat (.int y), .own ((stepM s.men x y s.turn).map oM), s9, s10, s11, s12, s13, .un, .un, .un] := by
    rw [sput_ev (d := .int s.turn) (n := y) (m := y.toNat) (ds := (newM s.men x).map oM) (by simp [-List.map_map]) rfl (by simp [-List.map_map]) (by rw [List.length_map]; exact ixN_nat hy0 (by omega)), stepM_new, List.map_set]
    rfl
  have hrow' : ∀ r ∈ b.rows, RowOn (stepM s.men x y s.turn).length r := fun r h => by rw [hml, hlen]; exact hrow r h
  have r1 := lrows_ev (b := b) (w := s.turn) (ms := stepM s.men x y s.turn) hrow' hr
  have r2 := lrows_ev (b := b) (w := 1 - s.turn) (ms := stepM s.men x y s.turn) hrow' hr
  have htl := tak_len (b := b) (ms := stepM s.men x y s.turn) (by omega) y s.turn
  have nn : b.n.toNat = (stepM s.men x y s.turn).length := by omega
  unfold takT at htl ⊢
  generalize stepM s.men x y s.turn = nm at hput hml hrow' r1 r2 htl nn
  have l1 : (b.rows.filter (fullR nm s.turn)).length ≤ 1000 := Nat.le_trans (List.length_filter_le _ _) hr
  have l2 : (b.rows.filter (fullR nm (1 - s.turn))).length ≤ 1000 := Nat.le_trans (List.length_filter_le _ _) hr
  have inr : ∀ (p : Int) (r : Int × Int × Int), inD (.int p) (e3 r) = some (.bool (decide (p ∈ f3 r))) := fun p r => in_tJ p (f3 r)
  have hq2 : q_law_moves_2 [.dat (encB b), .dat (encS s), .dat (encM s.men), .dat (.tuple [.int s.l0, .int s.l1]), .dat (.int s.turn), .own (acc.map e3), .dat (.int x), .dat (.int y), .dat (.list (nm.map oM)), .dat (.list [.int (-1)]), s10, s11, s12, s13, .un, .un, .un] = .ok (((b.rows.filter (fullR nm s.turn)).filter fun r => decide (y ∈ f3 r)).map e3) := by
    unfold q_law_moves_2
    exact xlc_map (enc := e3) (xs := b.rows.filter (fullR nm s.turn)) _ e3 (by simp [-List.map_map, r1]) (by omega) fun r _ => ⟨_, rfl, by simp [-List.map_map, wipeE, inr], fun _ => by simp [-List.map_map, wipeE]⟩
  have fin : ∀ (tk : List Int) (u8 u10 u11 u12 u13 : Sl), tk.length ≤ 24 → sext 5 (asL q_law_moves_5) [.dat (encB b), .dat (encS s), .dat (encM s.men), .dat (.tuple [.int s.l0, .int s.l1]), .dat (.int s.turn), .own (acc.map e3), .dat (.int x), .dat (.int y), u8, .dat (.list (tk.map PyData.int)), u10, u11, u12, u13, .un, .un, .un] =
      .nx [.dat (encB b), .dat (encS s), .dat (encM s.men), .dat (.tuple [.int s.l0, .int s.l1]), .dat (.int s.turn), .own ((acc ++ tk.map fun t => (x, y, t)).map e3), .dat (.int x), .dat (.int y), u8, .dat (.list (tk.map PyData.int)), u10, u11, u12, u13, .un, .un, .un] := by
    intro tk u8 u10 u11 u12 u13 htk
    have hq5 : q_law_moves_5 [.dat (encB b), .dat (encS s), .dat (encM s.men), .dat (.tuple [.int s.l0, .int s.l1]), .dat (.int s.turn), .own (acc.map e3), .dat (.int x), .dat (.int y), u8, .dat (.list (tk.map PyData.int)), u10, u11, u12, u13, .un, .un, .un] = .ok ((tk.map fun t => (x, y, t)).map e3) := by
      unfold q_law_moves_5
      rw [xlc_all (enc := PyData.int) (xs := tk) (fun t => e3 (x, y, t)) (by simp) (by omega) fun t _ => ⟨_, rfl, rfl, by simp [wipeE, e3, f3, tJ]⟩, List.map_map]
      rfl
    rw [sext_ev (ds := acc.map e3) (d := .list ((tk.map fun t => (x, y, t)).map e3)) rfl (by simp [-List.map_map, hq5]) rfl (by rw [List.length_map, List.length_map, List.length_map]; omega), List.map_append]
    rfl
  have hne : ∀ (rs : List (Int × Int × Int)) (p : Int), anyRow rs p = !(rs.filter fun r => decide (p ∈ f3 r)).isEmpty := by
    intro rs p
    unfold anyRow
    induction rs with
    | nil => rfl
    | cons r rs ih =>
      rw [List.any_cons, List.filter_cons]
      by_cases h : decide (p ∈ f3 r) = true
      · rw [h]; simp
      · rw [Bool.eq_false_iff.mpr h]
        simp only [Bool.false_or, Bool.false_eq_true, if_false]
        exact ih
  by_cases h1 : anyRow (b.rows.filter (fullR nm s.turn)) y = true
  · rw [if_pos h1] at htl ⊢
    have ht2 : truD (.list (((b.rows.filter (fullR nm s.turn)).filter fun r => decide (y ∈ f3 r)).map e3)) = some true := by
      have h2 := h1
      rw [hne] at h2
      cases q : ((b.rows.filter (fullR nm s.turn)).filter fun r => decide (y ∈ f3 r)) with
      | nil => rw [q] at h2; cases h2
      | cons _ _ => rfl
    -- held
    obtain ⟨e', g1, u11, hE⟩ := forL_inv (enc := e3) (f := gn 11) (B := lb_law_moves_1) (fun pre e => ∃ u11, e = [.dat (encB b), .dat (encS s), .dat (encM s.men), .dat (.tuple [.int s.l0, .int s.l1]), .dat (.int s.turn), .own (acc.map e3), .dat (.int x), .dat (.int y), .dat (.list (nm.map oM)), .dat (.list [.int (-1)]), .own ((pre.flatMap f3).map PyData.int), u11, s12, s13, .un, .un, .un]) (b.rows.filter (fullR nm (1 - s.turn))) []
      [.dat (encB b), .dat (encS s), .dat (encM s.men), .dat (.tuple [.int s.l0, .int s.l1]), .dat (.int s.turn), .own (acc.map e3), .dat (.int x), .dat (.int y), .dat (.list (nm.map oM)), .dat (.list [.int (-1)]), .own [], s11, s12, s13, .un, .un, .un] ⟨_, rfl⟩ fun pre r rest e q ⟨u11, h⟩ => by
        subst h
        rw [List.nil_append] at q
        have hlp : pre.length < (b.rows.filter (fullR nm (1 - s.turn))).length := by rw [q, List.length_append, List.length_cons]; omega
        have hfl := flat_len (f := f3) (k := 3) (l := pre) fun x _ => by simp [f3]
        rw [List.flatMap_append, List.flatMap_cons, List.flatMap_nil, List.append_nil]
        refine ⟨_, [.dat (encB b), .dat (encS s), .dat (encM s.men), .dat (.tuple [.int s.l0, .int s.l1]), .dat (.int s.turn), .own (acc.map e3), .dat (.int x), .dat (.int y), .dat (.list (nm.map oM)), .dat (.list [.int (-1)]), .own ((pre.flatMap f3 ++ f3 r).map PyData.int), .dat (e3 r), s12, s13, .un, .un, .un], rfl, .inl ?_, _, rfl⟩
        show lb_law_moves_1 [.dat (encB b), .dat (encS s), .dat (encM s.men), .dat (.tuple [.int s.l0, .int s.l1]), .dat (.int s.turn), .own (acc.map e3), .dat (.int x), .dat (.int y), .dat (.list (nm.map oM)), .dat (.list [.int (-1)]), .own ((pre.flatMap f3).map PyData.int), .dat (e3 r), s12, s13, .un, .un, .un] = _
        unfold lb_law_moves_1
        rw [sext_ev (ds := (pre.flatMap f3).map PyData.int) (d := e3 r) (es := (f3 r).map PyData.int) rfl (by simp [-List.map_map]) rfl (by rw [List.length_map, List.length_map]; have : (f3 r).length = 3 := rfl; omega), List.map_append]
        rfl
    rw [List.nil_append] at hE
    subst hE
    have hheld : l_law_moves_1 [.dat (encB b), .dat (encS s), .dat (encM s.men), .dat (.tuple [.int s.l0, .int s.l1]), .dat (.int s.turn), .own (acc.map e3), .dat (.int x), .dat (.int y), .dat (.list (nm.map oM)), .dat (.list [.int (-1)]), .own [], s11, s12, s13, .un, .un, .un] = .nx _ := sfor_nx (by simp [-List.map_map, r2]) g1
    generalize hH : (b.rows.filter (fullR nm (1 - s.turn))).flatMap f3 = held at hheld
    have hix : ixD (encB b) (.int 0) = some (.int b.n) := rfl
    have hrg : rng1 (.int b.n) = some ((upto b.n.toNat).map PyData.int) := rng1_ev (by omega) (by omega)
    have hq3 : q_law_moves_3 [.dat (encB b), .dat (encS s), .dat (encM s.men), .dat (.tuple [.int s.l0, .int s.l1]), .dat (.int s.turn), .own (acc.map e3), .dat (.int x), .dat (.int y), .dat (.list (nm.map oM)), .dat (.list [.int (-1)]), .own (held.map PyData.int), u11, s12, s13, .un, .un, .un] = .ok ((whr (isM (1 - s.turn)) nm).map PyData.int) := by
      unfold q_law_moves_3
      rw [whr_eq, ← nn]
      refine xlc_map (enc := PyData.int) (xs := upto b.n.toNat) _ PyData.int (by simp [-List.map_map, hix, hrg]) (by rw [upto_length]; omega) fun p hp => ⟨_, rfl, ?_, fun _ => by simp [-List.map_map, wipeE]⟩
      rw [upto_mem] at hp
      simp [-List.map_map, wipeE, atI_men hp.1 (show p < nm.length by omega), eq_oMi, isM]
    have hol : (whr (isM (1 - s.turn)) nm).length ≤ 24 := by have := whr_length (isM (1 - s.turn)) nm; omega
    have hq4 : q_law_moves_4 [.dat (encB b), .dat (encS s), .dat (encM s.men), .dat (.tuple [.int s.l0, .int s.l1]), .dat (.int s.turn), .own (acc.map e3), .dat (.int x), .dat (.int y), .dat (.list (nm.map oM)), .dat (.list [.int (-1)]), .own (held.map PyData.int), u11, .dat (.list ((whr (isM (1 - s.turn)) nm).map PyData.int)), s13, .un, .un, .un] = .ok ((freeT b nm s.turn).map PyData.int) := by
      unfold q_law_moves_4 freeT
      refine xlc_map (enc := PyData.int) (xs := whr (isM (1 - s.turn)) nm) _ PyData.int (by simp [-List.map_map]) (by omega) fun p hp => ⟨_, rfl, ?_, fun _ => by simp [-List.map_map, wipeE]⟩
      have hni : notInD (.int p) (.list (held.map PyData.int)) = some (.bool (!anyRow (b.rows.filter (fullR nm (1 - s.turn))) p)) := by
        unfold notInD
        rw [in_ints_l]
        have : decide (p ∈ held) = anyRow (b.rows.filter (fullR nm (1 - s.turn))) p := by
          rw [← hH, Bool.eq_iff_iff, decide_eq_true_eq, List.mem_flatMap]
          unfold anyRow
          rw [List.any_eq_true]
          constructor
          · rintro ⟨r, h1, h2⟩; exact ⟨r, h1, decide_eq_true h2⟩
          · rintro ⟨r, h1, h2⟩; exact ⟨r, h1, of_decide_eq_true h2⟩
        rw [this]
        rfl
      simp [-List.map_map, wipeE, hni]
    have hd8 : ∀ (A : En → Fl), sfz 8 A [.dat (encB b), .dat (encS s), .dat (encM s.men), .dat (.tuple [.int s.l0, .int s.l1]), .dat (.int s.turn), .own (acc.map e3), .dat (.int x), .dat (.int y), .own (nm.map oM), .dat (.list [.int (-1)]), s10, s11, s12, s13, .un, .un, .un] = A [.dat (encB b), .dat (encS s), .dat (encM s.men), .dat (.tuple [.int s.l0, .int s.l1]), .dat (.int s.turn), .own (acc.map e3), .dat (.int x), .dat (.int y), .dat (.list (nm.map oM)), .dat (.list [.int (-1)]), s10, s11, s12, s13, .un, .un, .un] := fun A => rfl
    generalize whr (isM (1 - s.turn)) nm = ot at hq3 hq4 hol htl
    generalize freeT b nm s.turn = fr at hq4 htl
    cases fr with
    | cons z r =>
      rw [if_pos (by simp)] at htl ⊢
      have f := fin (z :: r) (.dat (.list (nm.map oM))) (.own (held.map PyData.int)) u11 (.dat (.list (ot.map PyData.int))) (.dat (.list ((z :: r).map PyData.int))) htl
      refine ⟨.dat (.list (nm.map oM)), .dat (.list ((z :: r).map PyData.int)), .own (held.map PyData.int), u11, .dat (.list (ot.map PyData.int)), .dat (.list ((z :: r).map PyData.int)), ?_⟩
      have htr : truD (.list ((z :: r).map PyData.int)) = some true := rfl
      simp only [lb_law_moves_2, sseq_ev, sasgN_ev, hq1, liftL_ok, then_nx, List.set_cons_succ, List.set_cons_zero, hput, sasg_ev, asL_ev, xlst_ev, lcons_ev, un1_ev, xc_ev, bind_ok, neg_i, opt_some, lnil_ev, mkL_ev (show [PyData.int (-1)].length ≤ 1000000 by decide), liftE_ok, hd8]
      rw [sif_t (by simp only [xtru_ev, asL_ev, hq2, bind_ok, ht2, opt_some])]
      simp only [sseq_ev, sasgN_ev, xlst_ev, lnil_ev, bind_ok, mkL_ev (show ([] : List D).length ≤ 1000000 by decide), liftL_ok, then_nx, List.set_cons_succ, List.set_cons_zero, hheld, sasg_ev, asL_ev, hq3, hq4, liftE_ok]
      rw [sif_t (by simp only [xtru_ev, xvV_ev, getV_s, getV_z, bind_ok, htr, opt_some])]
      simp only [sasg_ev, xvE_ev, getE_s, getE_z, liftE_ok, then_nx, List.set_cons_succ, List.set_cons_zero]
      exact f
    | nil =>
      rw [if_neg (by simp)] at htl ⊢
      cases ot with
      | cons z r =>
        rw [if_pos (by simp)] at htl ⊢
        have f := fin (z :: r) (.dat (.list (nm.map oM))) (.own (held.map PyData.int)) u11 (.dat (.list ((z :: r).map PyData.int))) (.dat (.list ([] : List D))) htl
        refine ⟨.dat (.list (nm.map oM)), .dat (.list ((z :: r).map PyData.int)), .own (held.map PyData.int), u11, .dat (.list ((z :: r).map PyData.int)), .dat (.list []), ?_⟩
        have htr : truD (.list ((z :: r).map PyData.int)) = some true := rfl
        have htr0 : truD (.list ([].map PyData.int)) = some false := rfl
        simp only [lb_law_moves_2, sseq_ev, sasgN_ev, hq1, liftL_ok, then_nx, List.set_cons_succ, List.set_cons_zero, hput, sasg_ev, asL_ev, xlst_ev, lcons_ev, un1_ev, xc_ev, bind_ok, neg_i, opt_some, lnil_ev, mkL_ev (show [PyData.int (-1)].length ≤ 1000000 by decide), liftE_ok, hd8]
        rw [sif_t (by simp only [xtru_ev, asL_ev, hq2, bind_ok, ht2, opt_some])]
        simp only [sseq_ev, sasgN_ev, xlst_ev, lnil_ev, bind_ok, mkL_ev (show ([] : List D).length ≤ 1000000 by decide), liftL_ok, then_nx, List.set_cons_succ, List.set_cons_zero, hheld, sasg_ev, asL_ev, hq3, hq4, liftE_ok]
        rw [sif_f (by simp only [xtru_ev, xvV_ev, getV_s, getV_z, bind_ok, htr0, opt_some]), sif_t (by simp only [xtru_ev, xvV_ev, getV_s, getV_z, bind_ok, htr, opt_some])]
        simp only [sasg_ev, xvE_ev, getE_s, getE_z, liftE_ok, then_nx, List.set_cons_succ, List.set_cons_zero]
        exact f
      | nil =>
        rw [if_neg (by simp)] at htl ⊢
        have f := fin [-1] (.dat (.list (nm.map oM))) (.own (held.map PyData.int)) u11 (.dat (.list ([] : List D))) (.dat (.list ([] : List D))) htl
        refine ⟨.dat (.list (nm.map oM)), .dat (.list ([-1].map PyData.int)), .own (held.map PyData.int), u11, .dat (.list []), .dat (.list []), ?_⟩
        have htr0 : truD (.list ([].map PyData.int)) = some false := rfl
        simp only [lb_law_moves_2, sseq_ev, sasgN_ev, hq1, liftL_ok, then_nx, List.set_cons_succ, List.set_cons_zero, hput, sasg_ev, asL_ev, xlst_ev, lcons_ev, un1_ev, xc_ev, bind_ok, neg_i, opt_some, lnil_ev, mkL_ev (show [PyData.int (-1)].length ≤ 1000000 by decide), liftE_ok, hd8]
        rw [sif_t (by simp only [xtru_ev, asL_ev, hq2, bind_ok, ht2, opt_some])]
        simp only [sseq_ev, sasgN_ev, xlst_ev, lnil_ev, bind_ok, mkL_ev (show ([] : List D).length ≤ 1000000 by decide), liftL_ok, then_nx, List.set_cons_succ, List.set_cons_zero, hheld, sasg_ev, asL_ev, hq3, hq4, liftE_ok]
        rw [sif_f (by simp only [xtru_ev, xvV_ev, getV_s, getV_z, bind_ok, htr0, opt_some]), sif_f (by simp only [xtru_ev, xvV_ev, getV_s, getV_z, bind_ok, htr0, opt_some])]
        simp only [snil_ev, then_nx]
        exact f
  · rw [if_neg h1] at htl ⊢
    have ht2 : truD (.list (((b.rows.filter (fullR nm s.turn)).filter fun r => decide (y ∈ f3 r)).map e3)) = some false := by
      have h2 := Bool.eq_false_iff.mpr h1
      rw [hne] at h2
      cases q : ((b.rows.filter (fullR nm s.turn)).filter fun r => decide (y ∈ f3 r)) with
      | nil => rfl
      | cons _ _ => rw [q] at h2; cases h2
    have hd8 : ∀ (A : En → Fl), sfz 8 A [.dat (encB b), .dat (encS s), .dat (encM s.men), .dat (.tuple [.int s.l0, .int s.l1]), .dat (.int s.turn), .own (acc.map e3), .dat (.int x), .dat (.int y), .own (nm.map oM), .dat (.list [.int (-1)]), s10, s11, s12, s13, .un, .un, .un] = A [.dat (encB b), .dat (encS s), .dat (encM s.men), .dat (.tuple [.int s.l0, .int s.l1]), .dat (.int s.turn), .own (acc.map e3), .dat (.int x), .dat (.int y), .dat (.list (nm.map oM)), .dat (.list [.int (-1)]), s10, s11, s12, s13, .un, .un, .un] := fun A => rfl
    have f := fin [-1] (.dat (.list (nm.map oM))) s10 s11 s12 s13 htl
    refine ⟨.dat (.list (nm.map oM)), .dat (.list ([-1].map PyData.int)), s10, s11, s12, s13, ?_⟩
    simp only [lb_law_moves_2, sseq_ev, sasgN_ev, hq1, liftL_ok, then_nx, List.set_cons_succ, List.set_cons_zero, hput, sasg_ev, asL_ev, xlst_ev, lcons_ev, un1_ev, xc_ev, bind_ok, neg_i, opt_some, lnil_ev, mkL_ev (show [PyData.int (-1)].length ≤ 1000000 by decide), liftE_ok, hd8]
    rw [sif_f (by simp only [xtru_ev, asL_ev, hq2, bind_ok, ht2, opt_some])]
    simp only [snil_ev, then_nx]
    exact f
def lmovesT (b : Bd) (s : Sd) : List (Int × Int × Int) := if lwinT b s = none then sortT f3 (lmovesU b s) else []
theorem lmoves_ev (hr : b.rows.length ≤ 1000) (hrow : ∀ r ∈ b.rows, RowOn b.n r) (hn : b.n ≤ 24) (hs : s.Wk b.n) : f_law_moves [encB b, encS s] = .ok (.tuple ((lmovesT b s).map e3)) := by
  have hlen := hs.len
  have hl : s.men.length ≤ 24 := by omega
  have hw := lwinner_ev hn hs
  have hst := lsteps_ev hn hs
  have es : gtup (gcons (gn 2) (gcons (gn 3) (gcons (gn 4) gnil))) (encS s) [.dat (encB b), .dat (encS s), .un, .un, .un, .un, .un, .un, .un, .un, .un, .un, .un, .un, .un, .un, .un] = some [.dat (encB b), .dat (encS s), .dat (encM s.men), .dat (.tuple [.int s.l0, .int s.l1]), .dat (.int s.turn), .un, .un, .un, .un, .un, .un, .un, .un, .un, .un, .un, .un] := rfl
  apply runD_rt
  unfold lmovesT
  cases hwin : lwinT b s with
  | some v =>
    rw [hwin] at hw
    simp [b_law_moves, startE, es, hw]
  | none =>
    rw [hwin] at hw
    have hsl := lsteps_len (b := b) (s := s) hl
    have hon : ∀ st ∈ lstepsT b s, (st.1 = -1 ∨ (0 ≤ st.1 ∧ st.1 < s.men.length ∧ mAt s.men st.1 = some s.turn)) ∧ 0 ≤ st.2 ∧ st.2 < s.men.length ∧ mAt s.men st.2 = none := fun st h => lsteps_on hs h
    have hul : (lmovesU b s).length ≤ 24 * (lstepsT b s).length := flat_len fun x _ => by rw [List.length_map]; exact tak_len (by rw [stepM_len]; exact hl) _ _
    have hsort : sortD ((lmovesU b s).map e3) = some ((sortT f3 (lmovesU b s)).map e3) := sort_tJ (f := f3) (fun a => by simp [f3]) (by omega)
    unfold lmovesU at hsort hul ⊢
    generalize lstepsT b s = sts at hst hsl hon hsort hul
    obtain ⟨e', h1, s6, s7, s8, s9, s10, s11, s12, s13, hE⟩ := forL_inv (enc := e2) (f := gtup (gcons (gn 6) (gcons (gn 7) gnil))) (B := lb_law_moves_2) (fun pre e => ∃ s6 s7 s8 s9 s10 s11 s12 s13, e = [.dat (encB b), .dat (encS s), .dat (encM s.men), .dat (.tuple [.int s.l0, .int s.l1]), .dat (.int s.turn), .own ((pre.flatMap fun st => (takT b (stepM s.men st.1 st.2 s.turn) st.2 s.turn).map fun t => (st.1, st.2, t)).map e3), s6, s7, s8, s9, s10, s11, s12, s13, .un, .un, .un]) sts []
      [.dat (encB b), .dat (encS s), .dat (encM s.men), .dat (.tuple [.int s.l0, .int s.l1]), .dat (.int s.turn), .own [], .un, .un, .un, .un, .un, .un, .un, .un, .un, .un, .un] ⟨_, _, _, _, _, _, _, _, rfl⟩ fun pre st rest e q ⟨s6, s7, s8, s9, s10, s11, s12, s13, h⟩ => by
        subst h
        rw [List.nil_append] at q
        have hst' : st ∈ sts := by rw [q]; simp
        obtain ⟨o1, o2, o3, o4⟩ := hon st hst'
        have hlp : pre.length < sts.length := by rw [q, List.length_append, List.length_cons]; omega
        have hfl := flat_len (f := fun st : Int × Int => (takT b (stepM s.men st.1 st.2 s.turn) st.2 s.turn).map fun t => (st.1, st.2, t)) (k := 24) (l := pre) fun x _ => by rw [List.length_map]; exact tak_len (by rw [stepM_len]; exact hl) _ _
        rw [List.flatMap_append, List.flatMap_cons, List.flatMap_nil, List.append_nil]
        obtain ⟨x, y⟩ := st
        obtain ⟨t8, t9, t10, t11, t12, t13, hlb⟩ := lbmoves_ev (b := b) (s := s) hr hrow hn hs (x := x) (y := y) (by simp only at o1; omega) o2 o3 (acc := pre.flatMap fun st => (takT b (stepM s.men st.1 st.2 s.turn) st.2 s.turn).map fun t => (st.1, st.2, t)) (by omega) (s8 := s8) (s9 := s9) (s10 := s10) (s11 := s11) (s12 := s12) (s13 := s13)
        exact ⟨_, _, rfl, .inl hlb, _, _, _, _, _, _, _, _, rfl⟩
    rw [List.nil_append] at hE
    subst hE
    have hl' : l_law_moves_2 [.dat (encB b), .dat (encS s), .dat (encM s.men), .dat (.tuple [.int s.l0, .int s.l1]), .dat (.int s.turn), .own [], .un, .un, .un, .un, .un, .un, .un, .un, .un, .un, .un] = .nx _ := sfor_nx (by simp [hst]) h1
    simp [-List.map_map, b_law_moves, startE, es, hw, hl', hsort]
/-! ### both are alike -/
theorem tie_iff (hb : b.Ok) (q g : Int) (hqg : q ≠ g) : g ∈ nbrs b q ↔ (min q g, max q g) ∈ b.ties := by
  unfold nbrs
  rw [List.mem_flatMap]
  constructor
  · rintro ⟨⟨x, y⟩, ht, hg⟩
    have h1 := hb.tie _ ht
    simp only at h1 hg
    rcases List.mem_append.mp hg with hg' | hg'
    · split at hg'
      · rename_i e
        simp only [List.mem_cons, List.not_mem_nil, or_false] at hg'
        subst e
        subst hg'
        rw [Int.min_eq_left (by omega), Int.max_eq_right (by omega)]
        exact ht
      · cases hg'
    · split at hg'
      · rename_i e
        simp only [List.mem_cons, List.not_mem_nil, or_false] at hg'
        subst e
        subst hg'
        rw [Int.min_eq_right (by omega), Int.max_eq_left (by omega)]
        exact ht
      · cases hg'
  · intro h
    refine ⟨_, h, ?_⟩
    by_cases hl : q < g
    · rw [Int.min_eq_left (by omega), Int.max_eq_right (by omega)]
      simp
    · rw [Int.min_eq_right (by omega), Int.max_eq_left (by omega)]
      simp
theorem nbrs_nodup (hb : b.Ok) (q : Int) : (nbrs b q).Nodup := by
  have key : ∀ l : List (Int × Int), l.Pairwise (fun p q => lexLe (f2 p) (f2 q) = true ∧ p ≠ q) → (∀ p ∈ l, p.1 < p.2) → (l.flatMap fun t => (if t.1 = q then [t.2] else []) ++ (if t.2 = q then [t.1] else [])).Nodup := by
    intro l
    induction l with
    | nil => intro _ _; simp
    | cons t l ih =>
      intro hp hlt
      rw [List.pairwise_cons] at hp
      rw [List.flatMap_cons, List.nodup_append]
      have ht := hlt t List.mem_cons_self
      refine ⟨?_, ih hp.2 fun p h => hlt p (List.mem_cons_of_mem _ h), ?_⟩
      · by_cases h1 : t.1 = q
        · have h2 : ¬ t.2 = q := by omega
          simp [h1, h2]
        · simp only [h1, if_false, List.nil_append]
          split <;> simp
      · intro x hx y hy e
        subst e
        obtain ⟨u, hu, hx2⟩ := List.mem_flatMap.mp hy
        have hu2 := hlt u (List.mem_cons_of_mem _ hu)
        have hne := (hp.1 u hu).2
        apply hne
        have c1 : (t.1 = q ∧ x = t.2) ∨ (t.2 = q ∧ x = t.1) := by
          rcases List.mem_append.mp hx with h | h
          · split at h
            · simp at h; left; constructor <;> assumption
            · cases h
          · split at h
            · simp at h; right; constructor <;> assumption
            · cases h
        have c2 : (u.1 = q ∧ x = u.2) ∨ (u.2 = q ∧ x = u.1) := by
          rcases List.mem_append.mp hx2 with h | h
          · split at h
            · simp at h; left; constructor <;> assumption
            · cases h
          · split at h
            · simp at h; right; constructor <;> assumption
            · cases h
        apply Prod.ext <;> omega
  exact key b.ties hb.ties fun p hp => (hb.tie p hp).2.1
theorem goals_perm (hb : b.Ok) (hs : s.Wk b.n) {q : Int} (hq : q ∈ whr (isM s.turn) s.men) (m : Nat) : (goalsT b s.men m q).Perm (lgoals b s.men m q) := by
  have hlen := hs.len
  have hqn : mAt s.men q = some s.turn := of_decide_eq_true (whr_mem.mp hq).2.2
  unfold goalsT lgoals
  by_cases h : 3 < m
  · rw [if_pos h]
    have h4 : ¬ m < 4 := by omega
    have nd2 : (emp s.men).Nodup := (whr_sorted (·.isNone) s.men).imp fun h => by omega
    rw [List.perm_ext_iff_of_nodup ((nbrs_nodup hb q).filter _) (nd2.filter _)]
    intro g
    rw [List.mem_filter, List.mem_filter, emp_mem]
    unfold lgC
    simp only [h4, decide_false, Bool.false_or, decide_eq_true_eq]
    by_cases hqg : q = g
    · subst hqg
      rw [hqn]
      simp
    · rw [tie_iff hb q g hqg]
      constructor
      · rintro ⟨h1, h2⟩
        have ht := hb.tie _ h1
        simp only at ht
        refine ⟨⟨by omega, by omega, ?_⟩, h1⟩
        cases z : mAt s.men g with
        | none => rfl
        | some _ => rw [z] at h2; cases h2
      · rintro ⟨⟨h0, h1, h2⟩, h3⟩
        exact ⟨h3, by rw [h2]; rfl⟩
  · rw [if_neg h]
    have : (emp s.men).filter (lgC b m q) = emp s.men := List.filter_eq_self.mpr fun g _ => by unfold lgC; rw [decide_eq_true (show m < 4 by omega)]; rfl
    rw [this]
theorem steps_perm (hb : b.Ok) (hs : s.Wk b.n) : (stepsT b s).Perm (lstepsT b s) := by
  unfold stepsT lstepsT
  split
  · exact List.Perm.refl _
  · generalize hM : whr (isM s.turn) s.men = mine
    have : ∀ l : List Int, (∀ q ∈ l, q ∈ whr (isM s.turn) s.men) → (l.flatMap fun q => (goalsT b s.men mine.length q).map fun g => (q, g)).Perm (l.flatMap fun q => (lgoals b s.men mine.length q).map fun g => (q, g)) := by
      intro l
      induction l with
      | nil => intro _; exact List.Perm.refl _
      | cons q l ih =>
        intro h
        rw [List.flatMap_cons, List.flatMap_cons]
        exact ((goals_perm hb hs (h q List.mem_cons_self) mine.length).map _).append (ih fun y hy => h y (List.mem_cons_of_mem _ hy))
    exact this mine fun q hq => by rw [hM]; exact hq
theorem win_same (hb : b.Ok) (hs : s.Wk b.n) : lwinT b s = winT b s := by
  have p := steps_perm hb hs
  have : lstepsT b s = [] ↔ stepsT b s = [] := by
    constructor
    · intro h; rw [h] at p; exact p.eq_nil
    · intro h; rw [h] at p; exact p.symm.eq_nil
  unfold lwinT winT
  simp only [this]
theorem moves_same (hb : b.Ok) (hs : s.Wk b.n) : lmovesT b s = movesT b s := by
  unfold lmovesT movesT
  rw [win_same hb hs]
  split
  · have p : (lmovesU b s).Perm (movesU b s) := ((steps_perm hb hs).symm).flatMap_right _
    exact (goodLex.on f3 f3_inj).perm p
  · rfl
theorem lmoves_ok (hb : b.Ok) (hs : s.Wk b.n) : f_law_moves [encB b, encS s] = .ok (.tuple ((movesT b s).map e3)) := by
  rw [lmoves_ev hb.nr hb.on hb.hi hs, moves_same hb hs]
theorem lwinner_ok (hb : b.Ok) (hs : s.Wk b.n) : f_law_winner [encB b, encS s] = .ok (oM (winT b s)) := by
  rw [lwinner_ev hb.hi hs, win_same hb hs]
end
end Pf
/-! Dn: what comes of a move -/
namespace Pf
open PySem L2 Pu
section
variable {b : Bd} {s : Sd} {m : Int × Int × Int}
def takM (ms : List (Option Int)) (t : Int) : List (Option Int) := if 0 ≤ t then ms.set t.toNat none else ms
def doneT (s : Sd) (m : Int × Int × Int) : Sd :=
  ⟨takM (stepM s.men m.1 m.2.1 s.turn) m.2.2, if m.1 < 0 ∧ s.turn = 0 then s.l0 - 1 else s.l0, if m.1 < 0 ∧ s.turn = 1 then s.l1 - 1 else s.l1, 1 - s.turn⟩
/-- a move that stands to reason -/
structure MvOk (s : Sd) (m : Int × Int × Int) : Prop where
  beg : m.1 = -1 ∨ (0 ≤ m.1 ∧ m.1 < s.men.length ∧ mAt s.men m.1 = some s.turn)
  g0 : 0 ≤ m.2.1
  g1 : m.2.1 < s.men.length
  gn : mAt s.men m.2.1 = none
  tak : m.2.2 = -1 ∨ (0 ≤ m.2.2 ∧ m.2.2 < s.men.length ∧ mAt s.men m.2.2 = some (1 - s.turn))
theorem takM_len (ms : List (Option Int)) (t : Int) : (takM ms t).length = ms.length := by unfold takM; split <;> simp
theorem done_len (s : Sd) (m : Int × Int × Int) : (doneT s m).men.length = s.men.length := by
  show (takM (stepM s.men m.1 m.2.1 s.turn) m.2.2).length = _
  rw [takM_len, stepM_len]
theorem done_wk {n : Int} (hs : s.Wk n) : (doneT s m).Wk n := ⟨by rw [done_len]; exact hs.len, by have := hs.turn; show 1 - s.turn = 0 ∨ 1 - s.turn = 1; omega⟩
theorem mAt_step {ms : List (Option Int)} {beg goal w p : Int} (hb : beg < ms.length) (h0 : 0 ≤ goal) (hg : goal < ms.length) (hp : 0 ≤ p) : mAt (stepM ms beg goal w) p = if p = goal then some w else if 0 ≤ beg ∧ p = beg then none else mAt ms p := by
  unfold stepM
  by_cases h : 0 ≤ beg
  · rw [if_pos h, mAt_set h0 (by rw [List.length_set]; exact hg) hp]
    split
    · rfl
    · rw [mAt_set h hb hp]
      by_cases e : p = beg
      · rw [if_pos e, if_pos ⟨h, e⟩]
      · rw [if_neg e, if_neg (fun z => e z.2)]
  · rw [if_neg h, mAt_set h0 hg hp]
    split
    · rfl
    · rw [if_neg (fun z => h z.1)]
theorem mAt_tak {ms : List (Option Int)} {t p : Int} (ht : t < ms.length) (hp : 0 ≤ p) : mAt (takM ms t) p = if 0 ≤ t ∧ p = t then none else mAt ms p := by
  unfold takM
  by_cases h : 0 ≤ t
  · rw [if_pos h, mAt_set h ht hp]
    by_cases e : p = t
    · rw [if_pos e, if_pos ⟨h, e⟩]
    · rw [if_neg e, if_neg (fun z => e z.2)]
  · rw [if_neg h, if_neg (fun z => h z.1)]
/-- all moves stand to reason -/
theorem tak_mem {ms : List (Option Int)} {goal w t : Int} (h : t ∈ takT b ms goal w) : t = -1 ∨ t ∈ whr (isM (1 - w)) ms := by
  unfold takT at h
  split at h
  · split at h
    · right
      unfold freeT at h
      exact (List.mem_filter.mp h).1
    · split at h
      · exact .inr h
      · left; simpa using h
  · left; simpa using h
theorem movesU_ok (ht : TiesOn b) (hs : s.Wk b.n) (h : m ∈ movesU b s) : MvOk s m := by
  unfold movesU at h
  obtain ⟨st, hst, h⟩ := List.mem_flatMap.mp h
  obtain ⟨t, ht', rfl⟩ := List.mem_map.mp h
  obtain ⟨o1, o2, o3, o4⟩ := steps_on ht hs hst
  refine ⟨o1, o2, o3, o4, ?_⟩
  simp only
  rcases tak_mem ht' with h | h
  · exact .inl h
  · right
    rw [whr_mem, stepM_len] at h
    obtain ⟨h0, h1, h2⟩ := h
    refine ⟨h0, h1, ?_⟩
    have h2 : mAt (stepM s.men st.1 st.2 s.turn) t = some (1 - s.turn) := of_decide_eq_true h2
    rw [mAt_step (by omega) o2 o3 h0] at h2
    split at h2
    · injection h2 with h2
      have := hs.turn
      omega
    · split at h2
      · cases h2
      · exact h2
theorem moves_mem (hb : b.Ok) (hs : s.Wk b.n) (h : m ∈ movesT b s) : m ∈ movesU b s ∧ MvOk s m := by
  unfold movesT at h
  split at h
  · have := (sortT_perm f3 _).mem_iff.mp h
    exact ⟨this, movesU_ok hb.tiesOn hs this⟩
  · cases h
theorem left_set : ∀ (l0 l1 t : Int), t = 0 ∨ t = 1 → ([PyData.int l0, PyData.int l1].set t.toNat (.int ((if t = 0 then l0 else l1) - 1))) = [.int (if t = 0 then l0 - 1 else l0), .int (if t = 1 then l1 - 1 else l1)] := by
  intro l0 l1 t ht
  rcases ht with rfl | rfl <;> simp
theorem done_ev (hs : s.turn = 0 ∨ s.turn = 1) (hm : MvOk s m) : fdone [encS s, e3 m] = .ok (encS (doneT s m)) := by
  obtain ⟨x, y, t⟩ := m
  obtain ⟨h1, h2, h3, h4, h5⟩ := hm
  simp only at h1 h2 h3 h4 h5
  have hw := with_step_ev (w := s.turn) (ms := s.men) (beg := x) (goal := y) (by omega) h2 h3
  have es : gtup (gcons (gn 2) (gcons (gn 3) (gcons (gn 4) gnil))) (encS s) [.dat (encS s), .dat (e3 (x, y, t)), .un, .un, .un, .un, .un, .un, .un, .un] = some [.dat (encS s), .dat (e3 (x, y, t)), .dat (encM s.men), .dat (.tuple [.int s.l0, .int s.l1]), .dat (.int s.turn), .un, .un, .un, .un, .un] := rfl
  have em : gtup (gcons (gn 5) (gcons (gn 6) (gcons (gn 7) gnil))) (e3 (x, y, t)) [.dat (encS s), .dat (e3 (x, y, t)), .dat (encM s.men), .dat (.tuple [.int s.l0, .int s.l1]), .dat (.int s.turn), .un, .un, .un, .un, .un] = some [.dat (encS s), .dat (e3 (x, y, t)), .dat (encM s.men), .dat (.tuple [.int s.l0, .int s.l1]), .dat (.int s.turn), .dat (.int x), .dat (.int y), .dat (.int t), .un, .un] := rfl
  have hsl := stepM_len s.men x y s.turn
  generalize hN : stepM s.men x y s.turn = nm at hw hsl
  have hlist : listN (encM nm) = some (nm.map oM) := rfl
  have h8 : sif (xbl (bin geD (xvV 7) (xc (.int 0)))) (sput 8 (xvE 7) (xc .none)) snil [.dat (encS s), .dat (e3 (x, y, t)), .dat (encM s.men), .dat (.tuple [.int s.l0, .int s.l1]), .dat (.int s.turn), .dat (.int x), .dat (.int y), .dat (.int t), .own (nm.map oM), .un] =
      .nx [.dat (encS s), .dat (e3 (x, y, t)), .dat (encM s.men), .dat (.tuple [.int s.l0, .int s.l1]), .dat (.int s.turn), .dat (.int x), .dat (.int y), .dat (.int t), .own ((takM nm t).map oM), .un] := by
    unfold takM
    by_cases h0 : 0 ≤ t
    · rw [sif_t (by simp [h0]), if_pos h0, sput_ev (d := .none) (n := t) (m := t.toNat) (ds := nm.map oM) (by simp) rfl (by simp) (by rw [List.length_map]; exact ixN_nat h0 (by omega)), List.map_set]
      rfl
    · rw [sif_f (by simp [h0]), if_neg h0]
      rfl
  apply runD_rt
  unfold doneT
  simp only [hN]
  by_cases hx : x < 0
  · have hput : sput 9 (xvE 4) (bin subD (bin ixD (xvV 9) (xvV 4)) (xc (.int 1))) [.dat (encS s), .dat (e3 (x, y, t)), .dat (encM s.men), .dat (.tuple [.int s.l0, .int s.l1]), .dat (.int s.turn), .dat (.int x), .dat (.int y), .dat (.int t), .own ((takM nm t).map oM), .own [.int s.l0, .int s.l1]] =
        .nx [.dat (encS s), .dat (e3 (x, y, t)), .dat (encM s.men), .dat (.tuple [.int s.l0, .int s.l1]), .dat (.int s.turn), .dat (.int x), .dat (.int y), .dat (.int t), .own ((takM nm t).map oM), .own [.int (if s.turn = 0 then s.l0 - 1 else s.l0), .int (if s.turn = 1 then s.l1 - 1 else s.l1)]] := by
      have hlx : atI [PyData.int s.l0, PyData.int s.l1] s.turn = some (.int (s.left s.turn)) := left_ix hs
      rw [sput_ev (d := .int (s.left s.turn - 1)) (n := s.turn) (m := s.turn.toNat) (ds := [.int s.l0, .int s.l1]) (by simp [hlx]) rfl (by simp) (ixN_nat (by omega) (by simp; omega))]
      have := left_set s.l0 s.l1 s.turn hs
      unfold Sd.left
      rw [this]
      rfl
    simp [bdone, startE, es, em, hw, hlist, h8, hx, hput]
    rfl
  · simp [bdone, startE, es, em, hw, hlist, h8, hx]
    rfl
theorem lafter_ev (hs : s.turn = 0 ∨ s.turn = 1) (hl : s.men.length ≤ 1000) (hm : MvOk s m) : f_law_after [encS s, e3 m] = .ok (encS (doneT s m)) := by
  have hm' := hm
  obtain ⟨x, y, t⟩ := m
  obtain ⟨h1, h2, h3, h4, h5⟩ := hm
  simp only at h1 h2 h3 h4 h5
  have es : gtup (gcons (gn 2) (gcons (gn 3) (gcons (gn 4) gnil))) (encS s) [.dat (encS s), .dat (e3 (x, y, t)), .un, .un, .un, .un, .un, .un, .un, .un, .un] = some [.dat (encS s), .dat (e3 (x, y, t)), .dat (encM s.men), .dat (.tuple [.int s.l0, .int s.l1]), .dat (.int s.turn), .un, .un, .un, .un, .un, .un] := rfl
  have em : gtup (gcons (gn 5) (gcons (gn 6) (gcons (gn 7) gnil))) (e3 (x, y, t)) [.dat (encS s), .dat (e3 (x, y, t)), .dat (encM s.men), .dat (.tuple [.int s.l0, .int s.l1]), .dat (.int s.turn), .un, .un, .un, .un, .un, .un] = some [.dat (encS s), .dat (e3 (x, y, t)), .dat (encM s.men), .dat (.tuple [.int s.l0, .int s.l1]), .dat (.int s.turn), .dat (.int x), .dat (.int y), .dat (.int t), .un, .un, .un] := rfl
  have hq : q_law_after_1 [.dat (encS s), .dat (e3 (x, y, t)), .dat (encM s.men), .dat (.tuple [.int s.l0, .int s.l1]), .dat (.int s.turn), .dat (.int x), .dat (.int y), .dat (.int t), .un, .un, .un] = .ok (((enumM s.men).map fun p => if p.1 = x ∨ p.1 = t then none else p.2).map oM) := by
    unfold q_law_after_1
    rw [xlc_all (enc := encE) (xs := enumM s.men) (fun p => oM (if p.1 = x ∨ p.1 = t then none else p.2)) (by simp [-List.map_map, encM, enum_men]) (by rw [enumM_length]; omega) fun p _ => ?_]
    · rw [List.map_map]
      rfl
    · refine ⟨[.dat (encS s), .dat (e3 (x, y, t)), .dat (encM s.men), .dat (.tuple [.int s.l0, .int s.l1]), .dat (.int s.turn), .dat (.int x), .dat (.int y), .dat (.int t), .un, .dat (.int p.1), .dat (oM p.2)], rfl, rfl, ?_⟩
      have hin : ∀ {t0 t1 t2 t3 t4 t6 t8 t10 : Sl}, bin inD (xvV 9) (xtup (lcons (xvE 5) (lcons (xvE 7) lnil))) [t0, t1, t2, t3, t4, .dat (.int x), t6, .dat (.int t), t8, .dat (.int p.1), t10] = .ok (.bool (decide (p.1 = x ∨ p.1 = t))) := by
        intros
        have := in_tJ p.1 [x, t]
        simp only [tJ, List.map_cons, List.map_nil, List.mem_cons, List.not_mem_nil, or_false] at this
        simp [this]
      by_cases h : p.1 = x ∨ p.1 = t
      · rw [xif_ev, xbl_ev, hin, bind_ok, decide_eq_true h, if_pos h]
        rfl
      · rw [xif_ev, xbl_ev, hin, bind_ok, decide_eq_false h, if_neg h]
        simp [wipeE]
  have hmen : ((enumM s.men).map fun p => if p.1 = x ∨ p.1 = t then none else p.2).set y.toNat (some s.turn) = takM (stepM s.men x y s.turn) t := by
    have hty : t ≠ y := fun e => by
      subst e
      rcases h5 with h5 | h5
      · omega
      · rw [h4] at h5; cases h5.2.2
    have hlen1 : (((enumM s.men).map fun p => if p.1 = x ∨ p.1 = t then none else p.2).set y.toNat (some s.turn)).length = s.men.length := by simp [enumM_length]
    apply List.ext_getElem?
    intro i
    have hL : (((enumM s.men).map fun p => if p.1 = x ∨ p.1 = t then none else p.2).set y.toNat (some s.turn))[i]? = if y.toNat = i then (if i < s.men.length then some (some s.turn) else none) else (s.men[i]?).map fun m => if (i : Int) = x ∨ (i : Int) = t then none else m := by
      rw [List.getElem?_set, List.length_map, enumM_length, List.getElem?_map]
      unfold enumM
      rw [List.getElem?_mapIdx]
      split
      · rename_i e
        subst e
        rfl
      · cases s.men[i]? <;> rfl
    rw [hL]
    unfold takM stepM
    by_cases hi : i < s.men.length
    · rw [List.getElem?_eq_getElem hi]
      by_cases hx0 : 0 ≤ x
      · by_cases ht0 : 0 ≤ t
        · rw [if_pos ht0, if_pos hx0, List.getElem?_set, List.getElem?_set, List.getElem?_set, List.length_set, List.length_set, List.getElem?_eq_getElem hi]
          by_cases c1 : y.toNat = i
          · have : ¬ t.toNat = i := by omega
            rw [if_pos c1, if_pos hi, if_neg this, if_pos c1, if_pos (by omega)]
          · rw [if_neg c1, if_neg c1]
            by_cases c2 : t.toNat = i
            · rw [if_pos c2, if_pos (by omega)]
              simp; omega
            · rw [if_neg c2]
              by_cases c3 : x.toNat = i
              · rw [if_pos c3, if_pos (by omega)]
                simp; omega
              · rw [if_neg c3]
                simp; omega
        · rw [if_neg ht0, if_pos hx0, List.getElem?_set, List.getElem?_set, List.length_set, List.getElem?_eq_getElem hi]
          by_cases c1 : y.toNat = i
          · rw [if_pos c1, if_pos hi, if_pos c1, if_pos (by omega)]
          · rw [if_neg c1, if_neg c1]
            by_cases c3 : x.toNat = i
            · rw [if_pos c3, if_pos (by omega)]
              simp; omega
            · rw [if_neg c3]
              simp; omega
      · by_cases ht0 : 0 ≤ t
        · rw [if_pos ht0, if_neg hx0, List.getElem?_set, List.getElem?_set, List.length_set, List.getElem?_eq_getElem hi]
          by_cases c1 : y.toNat = i
          · have : ¬ t.toNat = i := by omega
            rw [if_pos c1, if_pos hi, if_neg this, if_pos c1, if_pos (by omega)]
          · rw [if_neg c1, if_neg c1]
            by_cases c2 : t.toNat = i
            · rw [if_pos c2, if_pos (by omega)]
              simp; omega
            · rw [if_neg c2]
              simp; omega
        · rw [if_neg ht0, if_neg hx0, List.getElem?_set, List.getElem?_eq_getElem hi]
          by_cases c1 : y.toNat = i
          · rw [if_pos c1, if_pos hi, if_pos c1, if_pos (by omega)]
          · rw [if_neg c1, if_neg c1]
            simp; omega
    · have hlen2 : (takM (stepM s.men x y s.turn) t).length = s.men.length := by rw [takM_len, stepM_len]
      have h2' : (takM (stepM s.men x y s.turn) t)[i]? = none := List.getElem?_eq_none (by omega)
      unfold takM stepM at h2'
      rw [h2', List.getElem?_eq_none (by omega)]
      simp; omega
  generalize ((enumM s.men).map fun p => if p.1 = x ∨ p.1 = t then none else p.2) = am at hq hmen
  have hal : am.length = s.men.length := by
    have := congrArg List.length hmen
    rw [List.length_set, takM_len, stepM_len] at this
    exact this
  have hput : sput 8 (xvE 6) (xvE 4) [.dat (encS s), .dat (e3 (x, y, t)), .dat (encM s.men), .dat (.tuple [.int s.l0, .int s.l1]), .dat (.int s.turn), .dat (.int x), .dat (.int y), .dat (.int t), .own (am.map oM), .un, .un] =
      .nx [.dat (encS s), .dat (e3 (x, y, t)), .dat (encM s.men), .dat (.tuple [.int s.l0, .int s.l1]), .dat (.int s.turn), .dat (.int x), .dat (.int y), .dat (.int t), .own ((takM (stepM s.men x y s.turn) t).map oM), .un, .un] := by
    rw [sput_ev (d := .int s.turn) (n := y) (m := y.toNat) (ds := am.map oM) (by simp) rfl (by simp) (by rw [List.length_map]; exact ixN_nat h2 (by omega)), ← hmen, List.map_set]
    rfl
  apply runD_rt
  unfold doneT
  by_cases hx : x < 0
  · have hi0 : intD (.bool (decide (s.turn = 0))) = some (.int (if s.turn = 0 then 1 else 0)) := by rw [int_b]; congr 2; by_cases h : s.turn = 0 <;> simp [h]
    have hi1 : intD (.bool (decide (s.turn = 1))) = some (.int (if s.turn = 1 then 1 else 0)) := by rw [int_b]; congr 2; by_cases h : s.turn = 1 <;> simp [h]
    have r0 : s.l0 - (if s.turn = 0 then 1 else 0) = if s.turn = 0 then s.l0 - 1 else s.l0 := by split <;> omega
    have r1 : s.l1 - (if s.turn = 1 then 1 else 0) = if s.turn = 1 then s.l1 - 1 else s.l1 := by split <;> omega
    simp [-int_b, b_law_after, startE, es, em, hq, hput, hx, hi0, hi1, r0, r1]
    rfl
  · simp [b_law_after, startE, es, em, hq, hput, hx]
    rfl
end
end Pf
namespace Pf
open PySem L2 Pu
def bafter : En → Fl :=
  (sseq (sif (xbl (bin notInD (xvV 2) (xcall 2 fmoves (lcons (xvE 0) (lcons (xvE 1) lnil))))) (srai "NoMove") snil)
  (sret (xcall 2 fdone (lcons (xvE 1) (lcons (xvE 2) lnil)))))
def fafter : List D → R D := runD 3 bafter
end Pf
namespace Pf
open PySem L2 Pu
def qhow_1 : En → R (List D) :=
  (xlc [4] (iseq (xvV 1)) (gn 4) (xbl (bin eqD (xvV 4) (bin ixD (xvV 1) (un1 negD (xc (.int 1)))))) (xvE 4))
def bhow : En → Fl :=
  (sseq (sasg 3 (xcall 2 fwinner (lcons (xvE 0) (lcons (bin ixD (xvV 1) (un1 negD (xc (.int 1)))) lnil))))
  (sseq (sif (xbl (bin isNotD (xvV 3) (xc .none))) (sret (bin addD (xc (.str "won ")) (un1 strD (xvV 3)))) snil)
  (sseq (sif (xbl (bin geD (un1 lenD (asL qhow_1)) (xc (.int 3)))) (sret (xc (.str "thrice"))) snil)
  (sseq (sif (xbl (bin geD (xvV 2) (xc (.int 40)))) (sret (xc (.str "long"))) snil)
  (sret (xc (.str "on")))))))
def fhow : List D → R D := runD 5 bhow
def qplayed_1 : En → R (List D) :=
  (xlc [6] (irng1 (bin ixD (xvV 0) (xc (.int 0)))) (gn 6) tyes (xc .none))
def lbplayed_1 : En → Fl :=
  (sseq (sif (xbl (bin neD (xcallV 3 fhow (lcons (xvV 0) (lcons (xvV 3) (lcons (xvV 4) lnil)))) (xc (.str "on")))) (srai "NoMove") snil)
  (sseq (sapp 3 (xcall 3 fafter (lcons (xvE 0) (lcons (bin ixD (xvV 3) (un1 negD (xc (.int 1)))) (lcons (xvE 5) lnil)))))
  (sseq (sasg 4 (bin addD (xvE 4) (xc (.int 1))))
  (sif (tor (xbl (bin ltD (bin ixD (xvV 5) (xc (.int 0))) (xc (.int 0)))) (xbl (bin geD (bin ixD (xvV 5) (xc (.int 2))) (xc (.int 0))))) (sasg 4 (xc (.int 0))) snil))))
def lplayed_1 : En → Fl :=
  (sfor (iseq (xvE 2)) (gn 5) lbplayed_1)
def bplayed : En → Fl :=
  (sseq (sasgN 3 (xlst (lcons (xtup (lcons (un1 tupleD (asL qplayed_1)) (lcons (xtup (lcons (xvE 1) (lcons (xvE 1) lnil))) (lcons (xc (.int 0)) lnil)))) lnil)))
  (sseq (sasg 4 (xc (.int 0)))
  (sseq lplayed_1
  (sret (xtup (lcons (un1 tupleD (xvV 3)) (lcons (xcall 3 fhow (lcons (xvE 0) (lcons (xvE 3) (lcons (xvE 4) lnil)))) lnil)))))))
def fplayed : List D → R D := runD 7 bplayed
def bgame : En → Fl :=
  (sseq (sasgT (gtup (gcons (gn 3) (gcons (gn 4) gnil))) (xcall 3 fplayed (lcons (xvE 0) (lcons (xvE 1) (lcons (xvE 2) lnil)))))
  (sret (xtup (lcons (bin ixD (xvV 3) (un1 negD (xc (.int 1)))) (lcons (xvE 4) lnil)))))
def fgame : List D → R D := runD 5 bgame
def bstands_of : En → Fl :=
  (sret (bin ixD (xcall 3 fplayed (lcons (xvE 0) (lcons (xvE 1) (lcons (xvE 2) lnil)))) (xc (.int 0))))
def fstands_of : List D → R D := runD 3 bstands_of
end Pf
/-! Sm: the same data is the same -/
namespace Pf
open PySem L2 Pu
@[simp] theorem isi_tt (ds : List D) : isiD "tuple" (.tuple ds) = some (.bool true) := by
  show (kitB "tuple" "tuple").map PyData.bool = _
  rw [show kitB "tuple" "tuple" = some true by decide +kernel]; rfl
@[simp] theorem isi_tn : isiD "tuple" .none = some (.bool false) := by
  show (kitB "NoneType" "tuple").map PyData.bool = _
  rw [show kitB "NoneType" "tuple" = some false by decide +kernel]; rfl
@[simp] theorem isi_ti (i : Int) : isiD "tuple" (.int i) = some (.bool false) := by
  show (kitB "int" "tuple").map PyData.bool = _
  rw [show kitB "int" "tuple" = some false by decide +kernel]; rfl
@[simp] theorem isi_tb (i : Bool) : isiD "tuple" (.bool i) = some (.bool false) := by
  show (kitB "bool" "tuple").map PyData.bool = _
  rw [show kitB "bool" "tuple" = some false by decide +kernel]; rfl
@[simp] theorem isi_ts (x : Str) : isiD "tuple" (.str x) = some (.bool false) := by
  show (kitB "str" "tuple").map PyData.bool = _
  rw [show kitB "str" "tuple" = some false by decide +kernel]; rfl
@[simp] theorem isi_tl (ds : List D) : isiD "tuple" (.list ds) = some (.bool false) := by
  show (kitB "list" "tuple").map PyData.bool = _
  rw [show kitB "list" "tuple" = some false by decide +kernel]; rfl
@[simp] theorem isi_bi (i : Int) : isiD "bool" (.int i) = some (.bool false) := by
  show (kitB "int" "bool").map PyData.bool = _
  rw [show kitB "int" "bool" = some false by decide +kernel]; rfl
@[simp] theorem isi_bb (i : Bool) : isiD "bool" (.bool i) = some (.bool true) := by
  show (kitB "bool" "bool").map PyData.bool = _
  rw [show kitB "bool" "bool" = some true by decide +kernel]; rfl
@[simp] theorem isi_bs (x : Str) : isiD "bool" (.str x) = some (.bool false) := by
  show (kitB "str" "bool").map PyData.bool = _
  rw [show kitB "str" "bool" = some false by decide +kernel]; rfl
@[simp] theorem isi_bt (x : List D) : isiD "bool" (.tuple x) = some (.bool false) := by
  show (kitB "tuple" "bool").map PyData.bool = _
  rw [show kitB "tuple" "bool" = some false by decide +kernel]; rfl
@[simp] theorem isi_bl (x : List D) : isiD "bool" (.list x) = some (.bool false) := by
  show (kitB "list" "bool").map PyData.bool = _
  rw [show kitB "list" "bool" = some false by decide +kernel]; rfl
@[simp] theorem isi_bn : isiD "bool" .none = some (.bool false) := by
  show (kitB "NoneType" "bool").map PyData.bool = _
  rw [show kitB "NoneType" "bool" = some false by decide +kernel]; rfl
@[simp] theorem isi_ii (i : Int) : isiD "int" (.int i) = some (.bool true) := by
  show (kitB "int" "int").map PyData.bool = _
  rw [show kitB "int" "int" = some true by decide +kernel]; rfl
@[simp] theorem isi_ib (i : Bool) : isiD "int" (.bool i) = some (.bool true) := by
  show (kitB "bool" "int").map PyData.bool = _
  rw [show kitB "bool" "int" = some true by decide +kernel]; rfl
@[simp] theorem isi_in : isiD "int" .none = some (.bool false) := by
  show (kitB "NoneType" "int").map PyData.bool = _
  rw [show kitB "NoneType" "int" = some false by decide +kernel]; rfl
@[simp] theorem isi_is (x : Str) : isiD "int" (.str x) = some (.bool false) := by
  show (kitB "str" "int").map PyData.bool = _
  rw [show kitB "str" "int" = some false by decide +kernel]; rfl
@[simp] theorem isi_it (x : List D) : isiD "int" (.tuple x) = some (.bool false) := by
  show (kitB "tuple" "int").map PyData.bool = _
  rw [show kitB "tuple" "int" = some false by decide +kernel]; rfl
@[simp] theorem isi_il (x : List D) : isiD "int" (.list x) = some (.bool false) := by
  show (kitB "list" "int").map PyData.bool = _
  rw [show kitB "list" "int" = some false by decide +kernel]; rfl
@[simp] theorem isi2_i (i : Int) : isi2D "int" "str" (.int i) = some (.bool true) := by
  show ((kitB "int" "int").bind fun b => (kitB "int" "str").map fun b' => PyData.bool (b || b')) = _
  rw [show kitB "int" "int" = some true by decide +kernel, show kitB "int" "str" = some false by decide +kernel]; rfl
@[simp] theorem isi2_s (x : Str) : isi2D "int" "str" (.str x) = some (.bool true) := by
  show ((kitB "str" "int").bind fun b => (kitB "str" "str").map fun b' => PyData.bool (b || b')) = _
  rw [show kitB "str" "int" = some false by decide +kernel, show kitB "str" "str" = some true by decide +kernel]; rfl
/-- what is the same as itself, so deep -/
inductive SmD : Nat → D → Prop
  | non {n : Nat} : SmD n .none
  | int {n : Nat} (i : Int) : SmD n (.int i)
  | bl {n : Nat} (i : Bool) : SmD n (.bool i)
  | str {n : Nat} {x : Str} : SeqAt.shaped (.str x) = true → SmD n (.str x)
  | tup {n : Nat} {ds : List D} : ds.length ≤ 1000000 → (∀ d ∈ ds, SmD n d) → SmD (n + 1) (.tuple ds)
theorem zipL_same (ds : List D) : zipL ds ds = ds.map fun d => pairD d d := by
  unfold zipL
  induction ds with
  | nil => rfl
  | cons d ds ih => rw [List.zipWith_cons_cons, ih, List.map_cons]
theorem same_refl {n : Nat} {d : D} (h : SmD n d) : f_law_same (n + 1) [d, d] = .ok (.bool true) := by
  induction h with
  | non =>
    apply runD_rt
    simp [b_law_same, startE]
  | int i =>
    apply runD_rt
    simp [b_law_same, startE]
  | bl i =>
    apply runD_rt
    simp [b_law_same, startE]
  | str hx =>
    apply runD_rt
    simp [b_law_same, startE, eq_ev hx hx, PyData.eqv]
  | @tup n ds hl hd ih =>
    have hq : q_law_same_1 (f_law_same (n + 1)) (fz [.dat (.tuple ds), .dat (.tuple ds), .un, .un]) = .ok ((ds.map fun _ => true).map PyData.bool) := by
      unfold q_law_same_1
      rw [xlc_all (enc := fun d => pairD d d) (xs := ds) (fun _ => .bool true) ?_ hl fun d hd' => ⟨_, rfl, rfl, ?_⟩]
      · rw [List.map_map]; rfl
      · simp only [fz_cons, frz1_dat, frz1_un, fz_nil, izip_ev, xvV_ev, getV_s, getV_z, bind_ok]
        show opt (some (zipL ds ds)) = _
        rw [zipL_same]
        rfl
      · simp [wipeE, ih d hd']
    have ha : allD (.list ((ds.map fun _ => true).map PyData.bool)) = some (.bool true) := by
      show ((boolsOf ((ds.map fun _ => true).map PyData.bool)).map fun bs => PyData.bool (bs.all id)) = _
      rw [boolsOf_map]
      simp
    simp only [fz_cons, frz1_dat, frz1_un, fz_nil] at hq
    apply runD_rt
    simp [-List.map_map, b_law_same, startE, hq, ha]
theorem SmD.up {n : Nat} {d : D} (h : SmD n d) : SmD (n + 1) d := by
  induction h with
  | non => exact .non
  | int i => exact .int i
  | bl i => exact .bl i
  | str hx => exact .str hx
  | tup hl _ ih => exact .tup hl ih
theorem SmD.le {n m : Nat} {d : D} (h : SmD n d) (hm : n ≤ m) : SmD m d := by
  obtain ⟨k, rfl⟩ := Nat.le.dest hm
  induction k with
  | zero => exact h
  | succ k ih => exact (ih (Nat.le_add_right _ _)).up
theorem sm_oM (m : Option Int) : SmD 0 (oM m) := by
  cases m with
  | none => exact .non
  | some i => exact .int i
theorem sm_tJ {t : List Int} (h : t.length ≤ 1000000) : SmD 1 (tJ t) := .tup (by rw [List.length_map]; exact h) fun d hd => by
  obtain ⟨x, _, rfl⟩ := List.mem_map.mp hd
  exact .int x
/-- _law_same of a thing and itself -/
theorem same_ok {n : Nat} {d : D} (h : SmD n d) (hn : n ≤ 7) : f_law_same 8 [d, d] = .ok (.bool true) := same_refl (h.le hn)
end Pf
/-! Ev4: loops that may return; rising rows -/
namespace Pu
open PySem L2
/-- a loop that returns d at the first that is not so -/
theorem forL_all {α : Type} {enc : α → D} {f : Tg} {B : En → Fl} (P : En → Prop) (c : α → Bool) (d : D) : ∀ (xs : List α) (e : En), P e →
    (∀ x e, x ∈ xs → P e → ∃ e1, f (enc x) e = some e1 ∧ (c x = true → ∃ e2, (B e1 = .nx e2 ∨ B e1 = .ct e2) ∧ P e2) ∧ (c x = false → B e1 = .rt d)) →
    (xs.all c = true → ∃ e', forL f B (xs.map enc) e = .nx e' ∧ P e') ∧ (xs.all c = false → forL f B (xs.map enc) e = .rt d)
  | [], e, h, _ => ⟨fun _ => ⟨e, rfl, h⟩, fun z => by simp at z⟩
  | x :: xs, e, h, st => by
    obtain ⟨e1, h1, h2, h3⟩ := st x e List.mem_cons_self h
    rw [List.map_cons, List.all_cons]
    unfold forL
    rw [h1]
    dsimp only
    cases hc : c x with
    | true =>
      obtain ⟨e2, h4, h5⟩ := h2 hc
      have ih := forL_all (enc := enc) (f := f) (B := B) P c d xs e2 h5 fun y e hy => st y e (List.mem_cons_of_mem _ hy)
      rw [Bool.true_and]
      rcases h4 with h4 | h4
      · rw [h4]; exact ih
      · rw [h4]; exact ih
    | false =>
      rw [h3 hc, Bool.false_and]
      exact ⟨fun z => by simp at z, fun _ => rfl⟩
/-- a loop that may return -/
theorem forL_try {α : Type} {enc : α → D} {f : Tg} {B : En → Fl} (P : List α → En → Prop) (Q : List α → α → Fl → Prop) : ∀ (xs pre : List α) (e : En), P pre e →
    (∀ p x r e, pre ++ xs = p ++ x :: r → P p e → ∃ e1, f (enc x) e = some e1 ∧ ((∃ e2, (B e1 = .nx e2 ∨ B e1 = .ct e2) ∧ P (p ++ [x]) e2) ∨ (((∃ d, B e1 = .rt d) ∨ ∃ c e2, B e1 = .ex c e2) ∧ Q p x (B e1)))) →
    (∃ e', forL f B (xs.map enc) e = .nx e' ∧ P (pre ++ xs) e') ∨ ∃ p x r, pre ++ xs = p ++ x :: r ∧ Q p x (forL f B (xs.map enc) e)
  | [], pre, e, h, _ => .inl ⟨e, rfl, by rw [List.append_nil]; exact h⟩
  | x :: xs, pre, e, h, st => by
    obtain ⟨e1, h1, h2⟩ := st pre x xs e rfl h
    have ea : pre ++ x :: xs = (pre ++ [x]) ++ xs := by rw [List.append_assoc]; rfl
    rw [List.map_cons]
    unfold forL
    rw [h1]
    dsimp only
    rcases h2 with ⟨e2, h2, h3⟩ | ⟨h2, h3⟩
    · have ih := forL_try (enc := enc) (f := f) (B := B) P Q xs (pre ++ [x]) e2 h3 fun p y r e0 q => st p y r e0 (ea.trans q)
      rw [ea]
      rcases h2 with h2 | h2
      · rw [h2]; exact ih
      · rw [h2]; exact ih
    · right
      refine ⟨pre, x, xs, rfl, ?_⟩
      rcases h2 with ⟨d, h2⟩ | ⟨c, e2, h2⟩
      · rw [h2] at h3 ⊢; exact h3
      · rw [h2] at h3 ⊢; exact h3
theorem sfor_is {L : En → R (List D)} {f : Tg} {B : En → Fl} {e : En} {ds : List D} {r : Fl} (hL : L e = .ok ds) (h : forL f B ds e = r) : sfor L f B e = r := by
  unfold sfor
  rw [hL]
  exact h
/-- what a def tells -/
def finR : Fl → R D
  | .rt d => .ok d
  | .nx _ => .ok .none
  | .ex c _ => .ex c
  | _ => .bad
theorem runD_fin (m : Nat) (B : En → Fl) (ds : List D) : runD m B ds = finR (B (startE m ds)) := by
  unfold runD finR
  cases B (startE m ds) <;> rfl
/-- by lemmas, that the kernel unfolds nothing (a length that meets 2 ^ 62 is deep) -/
theorem irng1_of {F : En → R D} {e : En} {j : Int} {L : List D} (hF : F e = .ok (.int j)) (h : rng1 (.int j) = some L) : irng1 F e = .ok L := by
  rw [irng1_ev, hF, bind_ok, h]
  rfl
theorem irng2_of {F G : En → R D} {e : En} {i j : Int} {L : List D} (hF : F e = .ok (.int i)) (hG : G e = .ok (.int j)) (h : rng2 (.int i) (.int j) = some L) : irng2 F G e = .ok L := by
  rw [irng2_ev, hF, bind_ok, hG, bind_ok, h]
  rfl
/-- each below the next -/
def risL {α : Type} (lt : α → α → Bool) : List α → Bool
  | x :: y :: r => lt x y && risL lt (y :: r)
  | _ => true
theorem uptoFrom_succ (n : Nat) : uptoFrom 1 (n + 1) = 1 :: (uptoFrom 1 n).map (· + 1) := by
  unfold uptoFrom
  rw [List.range_succ_eq_map, List.map_cons, List.map_map, List.map_map]
  refine List.cons_eq_cons.mpr ⟨rfl, List.map_congr_left fun k _ => ?_⟩
  show 1 + ((k + 1 : Nat) : Int) = 1 + (k : Int) + 1
  omega
theorem uptoFrom_mem {lo x : Int} {n : Nat} : x ∈ uptoFrom lo n ↔ lo ≤ x ∧ x < lo + n := by
  unfold uptoFrom
  rw [List.mem_map]
  constructor
  · rintro ⟨k, hk, rfl⟩
    have := List.mem_range.mp hk
    omega
  · rintro ⟨h0, h1⟩
    exact ⟨(x - lo).toNat, List.mem_range.mpr (by omega), by omega⟩
theorem uptoFrom_length (lo : Int) (n : Nat) : (uptoFrom lo n).length = n := by unfold uptoFrom; rw [List.length_map, List.length_range]
theorem ris_all {α : Type} (lt : α → α → Bool) (z : α) : ∀ xs : List α, (uptoFrom 1 (xs.length - 1)).all (fun k => lt (xs.getD (k - 1).toNat z) (xs.getD k.toNat z)) = risL lt xs
  | [] => rfl
  | [x] => rfl
  | x :: y :: r => by
    have ih := ris_all lt z (y :: r)
    show (uptoFrom 1 (r.length + 1)).all _ = _
    rw [uptoFrom_succ, List.all_cons, List.all_map]
    unfold risL
    rw [← ih]
    congr 1
    show List.all _ _ = (uptoFrom 1 r.length).all _
    rw [Bool.eq_iff_iff, List.all_eq_true, List.all_eq_true]
    have key : ∀ k ∈ uptoFrom 1 r.length, ((fun k : Int => lt ((x :: y :: r).getD (k - 1).toNat z) ((x :: y :: r).getD k.toNat z)) ∘ fun x => x + 1) k = lt ((y :: r).getD (k - 1).toNat z) ((y :: r).getD k.toNat z) := fun k hk => by
      rw [uptoFrom_mem] at hk
      obtain ⟨j, rfl⟩ : ∃ j : Nat, k = (j : Int) + 1 := ⟨(k - 1).toNat, by omega⟩
      show lt ((x :: y :: r).getD ((j : Int) + 1 + 1 - 1).toNat z) ((x :: y :: r).getD ((j : Int) + 1 + 1).toNat z) = _
      rw [show ((j : Int) + 1 + 1 - 1).toNat = j + 1 by omega, show ((j : Int) + 1 + 1).toNat = j + 1 + 1 by omega, show ((j : Int) + 1 - 1).toNat = j by omega, show ((j : Int) + 1).toNat = j + 1 by omega]
      rfl
    exact ⟨fun h k hk => (key k hk).symm.trans (h k hk), fun h k hk => (key k hk).trans (h k hk)⟩
theorem risL_map {α β : Type} (lt : β → β → Bool) (f : α → β) : ∀ xs : List α, risL lt (xs.map f) = risL (fun x y => lt (f x) (f y)) xs
  | [] => rfl
  | [x] => rfl
  | x :: y :: r => by
    have ih := risL_map lt f (y :: r)
    rw [List.map_cons, List.map_cons] at *
    unfold risL
    rw [ih]
theorem risL_pair {α : Type} {lt : α → α → Bool} : ∀ {xs : List α}, xs.Pairwise (fun a b => lt a b = true) → risL lt xs = true
  | [], _ => rfl
  | [x], _ => rfl
  | x :: y :: r, h => by
    rw [List.pairwise_cons] at h
    unfold risL
    rw [h.1 y List.mem_cons_self, risL_pair h.2]
    rfl
def ltB (x y : D) : Bool := match ltD x y with
  | some (.bool b) => b
  | _ => false
theorem ltB_int (i j : Int) : ltB (.int i) (.int j) = decide (i < j) := rfl
theorem lt_tJ (s t : List Int) : ltD (tJ s) (tJ t) = some (.bool (HT.lexLt s t)) := by
  unfold tJ
  show (match intsOf (s.map PyData.int), intsOf (t.map PyData.int) with | some ns, some ms => some (PyData.bool (HT.lexLt ns ms)) | _, _ => none) = _
  rw [intsOf_map, intsOf_map]
theorem lexLt_of : ∀ s t : List Int, lexLe s t = true → s ≠ t → HT.lexLt s t = true
  | [], [], _, h => absurd rfl h
  | [], _ :: _, _, _ => rfl
  | _ :: _, [], h, _ => by simp [lexLe] at h
  | x :: s, y :: t, h, hn => by
    rw [HT.lexLt_cons]
    simp only [lexLe, Bool.or_eq_true, Bool.and_eq_true, decide_eq_true_eq] at h
    by_cases e : x = y
    · subst e
      rw [if_pos rfl]
      exact lexLt_of s t (h.elim (fun z => by omega) fun z => z.2) fun z => hn (by rw [z])
    · rw [if_neg e]
      exact decide_eq_true (by omega)
end Pu
/-! Af: after -/
namespace Pf
open PySem L2 Pu
section
variable {b : Bd} {s : Sd} {m : Int × Int × Int}
theorem after_in (hb : b.Ok) (hs : s.Wk b.n) (hm : m ∈ movesT b s) : fafter [encB b, encS s, e3 m] = .ok (encS (doneT s m)) := by
  have hmv := moves_ok hb hs
  have hd := done_ev hs.turn (moves_mem hb hs hm).2
  have hn := notIn_moves m (movesT b s)
  rw [decide_eq_true hm] at hn
  apply runD_rt
  unfold bafter
  generalize fmoves = F1 at hmv ⊢
  generalize fdone = F2 at hd ⊢
  generalize (movesT b s).map e3 = L at hmv hn
  rw [sseq_ev, sif_f (by simp [startE, hmv, hn])]
  simp [startE, hd]
theorem after_no (hb : b.Ok) (hs : s.Wk b.n) (hm : m ∉ movesT b s) : fafter [encB b, encS s, e3 m] = .ex "NoMove" := by
  have hmv := moves_ok hb hs
  have hn := notIn_moves m (movesT b s)
  rw [decide_eq_false hm] at hn
  unfold fafter
  refine runD_ex (e := startE 3 [encB b, encS s, e3 m]) ?_
  unfold bafter
  generalize fmoves = F1 at hmv ⊢
  generalize fdone = F2
  generalize (movesT b s).map e3 = L at hmv hn
  rw [sseq_ev, sif_t (by simp [startE, hmv, hn])]
  rfl
theorem sm_S (hl : s.men.length ≤ 1000000) : SmD 2 (encS s) := by
  refine .tup (by simp) fun d hd => ?_
  simp only [List.mem_cons, List.not_mem_nil, or_false] at hd
  rcases hd with rfl | rfl | rfl
  · exact .tup (by rw [List.length_map]; exact hl) fun d hd => by obtain ⟨m, _, rfl⟩ := List.mem_map.mp hd; exact sm_oM m
  · exact .tup (by simp) fun d hd => by
      simp only [List.mem_cons, List.not_mem_nil, or_false] at hd
      rcases hd with rfl | rfl <;> exact .int _
  · exact .int _
theorem e3_shaped (m : Int × Int × Int) : SeqAt.shaped (e3 m) = true := (tJ_shp _).shaped
theorem moves_wk (hb : b.Ok) (hs : s.Wk b.n) : (doneT s m).Wk b.n := done_wk hs
end
end Pf
/-! Ct: men are kept -/
namespace Pf
open PySem L2 Pu
theorem cnt_set {ms : List (Option Int)} {p : Int} (h0 : 0 ≤ p) (h : p < ms.length) (v a : Option Int) : ((ms.set p.toNat v).count a : Int) = ms.count a - (if mAt ms p = a then 1 else 0) + (if v = a then 1 else 0) := by
  have hi : p.toNat < ms.length := by omega
  have hm : mAt ms p = ms[p.toNat] := by
    unfold mAt
    rw [List.getD_eq_getElem?_getD, List.getElem?_eq_getElem hi]
    rfl
  rw [List.count_set hi, hm]
  by_cases e : ms[p.toNat] = a
  · have hc : 0 < ms.count a := List.count_pos_iff.mpr (by rw [← e]; exact List.getElem_mem hi)
    by_cases e2 : v = a
    · simp only [e, e2, beq_self_eq_true, if_true]; omega
    · have : (v == a) = false := beq_eq_false_iff_ne.mpr e2
      simp only [e, e2, beq_self_eq_true, if_true, this]
      simp
      omega
  · have h1 : (ms[p.toNat] == a) = false := beq_eq_false_iff_ne.mpr e
    by_cases e2 : v = a
    · simp only [e, e2, beq_self_eq_true, if_true, h1]
      simp
    · have : (v == a) = false := beq_eq_false_iff_ne.mpr e2
      simp only [e, e2, h1, this]
      simp
section
variable {s : Sd} {m : Int × Int × Int}
theorem mAt_done (hm : MvOk s m) {p : Int} (hp : 0 ≤ p) : mAt (doneT s m).men p = if 0 ≤ m.2.2 ∧ p = m.2.2 then none else if p = m.2.1 then some s.turn else if 0 ≤ m.1 ∧ p = m.1 then none else mAt s.men p := by
  obtain ⟨h1, h2, h3, h4, h5⟩ := hm
  show mAt (takM (stepM s.men m.1 m.2.1 s.turn) m.2.2) p = _
  have hb : m.1 < s.men.length := by rcases h1 with h | ⟨h, h', _⟩ <;> omega
  have ht : m.2.2 < (stepM s.men m.1 m.2.1 s.turn).length := by rw [stepM_len]; rcases h5 with h | ⟨h, h', _⟩ <;> omega
  rw [mAt_tak ht hp, mAt_step hb h2 h3 hp]
/-- men of either behind a move -/
theorem done_count (hs : s.turn = 0 ∨ s.turn = 1) (hm : MvOk s m) {w : Int} (hw : w = 0 ∨ w = 1) : ((doneT s m).men.count (some w) : Int) + (doneT s m).left w = s.men.count (some w) + s.left w - (if 0 ≤ m.2.2 ∧ w = 1 - s.turn then 1 else 0) := by
  obtain ⟨x, y, t⟩ := m
  obtain ⟨h1, h2, h3, h4, h5⟩ := hm
  simp only at h1 h2 h3 h4 h5
  have hb : x < s.men.length := by rcases h1 with h | ⟨h, h', _⟩ <;> omega
  have htl : t < s.men.length := by rcases h5 with h | ⟨h, h', _⟩ <;> omega
  -- the step
  have c1 : ((stepM s.men x y s.turn).count (some w) : Int) = s.men.count (some w) - (if 0 ≤ x ∧ w = s.turn then 1 else 0) + (if w = s.turn then 1 else 0) := by
    rw [stepM_new]
    have c0 : ((newM s.men x).count (some w) : Int) = s.men.count (some w) - (if 0 ≤ x ∧ w = s.turn then 1 else 0) := by
      unfold newM
      by_cases hx : 0 ≤ x
      · rw [if_pos hx, cnt_set hx hb, if_neg (show ¬ (none : Option Int) = some w by simp)]
        have hbx : mAt s.men x = some s.turn := by
          rcases h1 with h | ⟨_, _, h⟩
          · omega
          · exact h
        rw [hbx]
        by_cases e : w = s.turn
        · subst e; simp [hx]
        · have : ¬ (some s.turn : Option Int) = some w := fun z => e (Option.some.inj z).symm
          simp [this, e]
      · rw [if_neg hx]
        simp [hx]
    have hyl : (y : Int) < ((newM s.men x).length : Int) := by
      unfold newM
      split
      · rw [List.length_set]; exact h3
      · exact h3
    have hyn : mAt (newM s.men x) y = none := by
      unfold newM
      split
      · rename_i hx
        rw [mAt_set hx hb h2]
        split
        · rfl
        · exact h4
      · exact h4
    rw [cnt_set h2 hyl, hyn, if_neg (show ¬ (none : Option Int) = some w by simp), c0]
    have e2 : (if (some s.turn : Option Int) = some w then (1 : Int) else 0) = if w = s.turn then 1 else 0 := by
      by_cases e : w = s.turn
      · rw [if_pos e, if_pos (by rw [e])]
      · rw [if_neg e, if_neg (fun z => e (Option.some.inj z).symm)]
    rw [e2]
    omega
  have c2 : ((takM (stepM s.men x y s.turn) t).count (some w) : Int) = (stepM s.men x y s.turn).count (some w) - (if 0 ≤ t ∧ w = 1 - s.turn then 1 else 0) := by
    unfold takM
    by_cases ht : 0 ≤ t
    · rw [if_pos ht, cnt_set ht (by rw [stepM_len]; exact htl), if_neg (show ¬ (none : Option Int) = some w by simp)]
      have hbx : mAt s.men t = some (1 - s.turn) := by
        rcases h5 with h | ⟨_, _, h⟩
        · omega
        · exact h
      have hst : mAt (stepM s.men x y s.turn) t = some (1 - s.turn) := by
        rw [mAt_step hb h2 h3 ht]
        have n1 : t ≠ y := fun z => by rw [z, h4] at hbx; cases hbx
        have n2 : ¬ (0 ≤ x ∧ t = x) := fun z => by
          rcases h1 with h | ⟨_, _, h⟩
          · omega
          · rw [z.2, h] at hbx; injection hbx with hbx; omega
        rw [if_neg n1, if_neg n2]
        exact hbx
      rw [hst]
      by_cases e : w = 1 - s.turn
      · subst e; simp [ht]
      · have : ¬ (some (1 - s.turn) : Option Int) = some w := fun z => e (Option.some.inj z).symm
        simp [this, e]
    · rw [if_neg ht]
      simp [ht]
  show ((takM (stepM s.men x y s.turn) t).count (some w) : Int) + (doneT s (x, y, t)).left w = _
  rw [c2, c1]
  have c3 : (doneT s (x, y, t)).left w = s.left w - (if x < 0 ∧ w = s.turn then 1 else 0) := by
    unfold Sd.left doneT
    simp only
    rcases hw with rfl | rfl
    · simp only [if_true]
      by_cases e : x < 0 ∧ s.turn = 0
      · rw [if_pos e, if_pos ⟨e.1, e.2.symm⟩]
      · rw [if_neg e, if_neg (fun z => e ⟨z.1, z.2.symm⟩)]; omega
    · simp only [show ¬ (1 : Int) = 0 by decide, if_false]
      by_cases e : x < 0 ∧ s.turn = 1
      · rw [if_pos e, if_pos ⟨e.1, e.2.symm⟩]
      · rw [if_neg e, if_neg (fun z => e ⟨z.1, z.2.symm⟩)]; omega
  rw [c3]
  by_cases e : w = s.turn
  · by_cases hx : 0 ≤ x
    · simp only [e, hx, if_true, and_self, show ¬ x < 0 by omega, false_and, if_false]; omega
    · simp only [e, hx, if_true, and_self, show x < 0 by omega, false_and, if_false]; omega
  · simp only [e, and_false, if_false]; omega
end
theorem ne_oM (a b : Option Int) : neD (oM a) (oM b) = some (.bool (!decide (a = b))) := by rw [ne_ev (oM_shaped a) (oM_shaped b), eqv_oM]
theorem ne_oMi (a : Option Int) (i : Int) : neD (oM a) (.int i) = some (.bool (!decide (a = some i))) := by rw [ne_ev (oM_shaped a) (shaped_int i), eqv_oMi]
end Pf
/-! Gm: games -/
namespace Pf
open PySem L2 Pu
/-! ### stands as keys -/
theorem encS_inj (a b : Sd) (h : encS a = encS b) : a = b := by
  unfold encS encM at h
  injection h with h
  injection h with h1 h2
  injection h2 with h2 h3
  injection h3 with h3 _
  injection h1 with h1
  injection h2 with h2
  injection h2 with h2 h4
  injection h4 with h4 _
  injection h2 with h2
  injection h4 with h4
  injection h3 with h3
  have h1 := map_oM_inj _ _ h1
  obtain ⟨m, x, y, t⟩ := a
  obtain ⟨m', x', y', t'⟩ := b
  simp only at h1 h2 h3 h4
  rw [h1, h2, h3, h4]
instance : DecidableEq Sd := fun a b => decidable_of_iff (a.men = b.men ∧ a.l0 = b.l0 ∧ a.l1 = b.l1 ∧ a.turn = b.turn) ⟨fun ⟨h1, h2, h3, h4⟩ => by
  obtain ⟨m, x, y, t⟩ := a
  obtain ⟨m', x', y', t'⟩ := b
  simp only at h1 h2 h3 h4
  rw [h1, h2, h3, h4], fun h => by subst h; exact ⟨rfl, rfl, rfl, rfl⟩⟩
theorem encS_pl (a : Sd) : plD (encS a) = true := by
  unfold encS encM
  simp only [plD, plAll, plAll_oM, Bool.and_self]
theorem encS_shp (a : Sd) : shp 2 (encS a) := shp_tup fun d hd => by
  simp only [List.mem_cons, List.not_mem_nil, or_false] at hd
  rcases hd with rfl | rfl | rfl
  · exact shp_tup fun d hd => by obtain ⟨m, _, rfl⟩ := List.mem_map.mp hd; exact oM_shp m
  · exact shp_tup fun d hd => by
      simp only [List.mem_cons, List.not_mem_nil, or_false] at hd
      rcases hd with rfl | rfl <;> exact shp_int _
  · exact (shp_int _).up (by decide)
theorem eq_S (a b : Sd) : eqD (encS a) (encS b) = some (.bool (decide (a = b))) := by rw [eq_ev (encS_shp a).shaped (encS_shp b).shaped, eqv_enc encS_inj encS_pl]
theorem ne_S (a b : Sd) : neD (encS a) (encS b) = some (.bool (!decide (a = b))) := by rw [ne_ev (encS_shp a).shaped (encS_shp b).shaped, eqv_enc encS_inj encS_pl]
/-! ### the words -/
inductive Hw where
  | won (w : Bool)
  | thrice
  | long
  | on
  deriving DecidableEq
def hwS : Hw → Str
  | .won false => "won 0"
  | .won true => "won 1"
  | .thrice => "thrice"
  | .long => "long"
  | .on => "on"
theorem hw_eq (h : Hw) : eqD (.str (hwS h)) (.str "on") = some (.bool (decide (h = .on))) := by
  cases h with
  | won w => cases w <;> kernel_rfl
  | thrice => kernel_rfl
  | long => kernel_rfl
  | on => kernel_rfl
theorem hw_ne (h : Hw) : neD (.str (hwS h)) (.str "on") = some (.bool (!decide (h = .on))) := by
  cases h with
  | won w => cases w <;> kernel_rfl
  | thrice => kernel_rfl
  | long => kernel_rfl
  | on => kernel_rfl
theorem hw_sm (h : Hw) {n : Nat} : SmD n (.str (hwS h)) := .str (by
  cases h with
  | won w => cases w <;> kernel_rfl
  | thrice => kernel_rfl
  | long => kernel_rfl
  | on => kernel_rfl)
theorem won_ev {w : Int} (hw : w = 0 ∨ w = 1) : ∃ d, strD (.int w) = some d ∧ addD (.str "won ") d = some (.str (hwS (.won (w == 1)))) := by
  rcases hw with rfl | rfl
  · exact ⟨.str "0", by kernel_rfl, by kernel_rfl⟩
  · exact ⟨.str "1", by kernel_rfl, by kernel_rfl⟩
def lastS (ss : List Sd) : Sd := ss.getLastD ⟨[], 0, 0, 0⟩
theorem lastS_app (ss : List Sd) (s : Sd) : lastS (ss ++ [s]) = s := by
  unfold lastS
  rw [List.getLastD_eq_getLast?, List.getLast?_append]
  rfl
theorem atI_last {α : Type} (xs : List α) : atI xs (-1) = xs.getLast? := by
  unfold atI ixN
  rw [if_neg (by decide)]
  by_cases h : (-(xs.length : Int) ≤ -1)
  · rw [if_pos h]
    show xs[(-1 + (xs.length : Int)).toNat]? = _
    rw [List.getLast?_eq_getElem?]
    congr 1
    omega
  · rw [if_neg h]
    have : xs = [] := List.eq_nil_of_length_eq_zero (by omega)
    subst this
    rfl
theorem last_ix {ss : List Sd} (h : ss ≠ []) : atI (ss.map encS) (-1) = some (encS (lastS ss)) := by
  rw [atI_last, List.getLast?_map]
  unfold lastS
  rw [List.getLastD_eq_getLast?, List.getLast?_eq_some_getLast h]
  rfl
def howT (b : Bd) (ss : List Sd) (q : Int) : Hw := match winT b (lastS ss) with
  | some w => .won (w == 1)
  | none => if 3 ≤ ss.count (lastS ss) then .thrice else if 40 ≤ q then .long else .on
section
variable {b : Bd} {ss : List Sd} {q : Int}
theorem win_who {s : Sd} (hs : s.turn = 0 ∨ s.turn = 1) {w : Int} (h : winT b s = some w) : w = 0 ∨ w = 1 := by
  unfold winT at h
  split at h
  · injection h with h; omega
  · cases h
theorem how_ev (hb : b.Ok) (hne : ss ≠ []) (hl : ss.length ≤ 100000) (hw : (lastS ss).Wk b.n) : fhow [encB b, .list (ss.map encS), .int q] = .ok (.str (hwS (howT b ss q))) := by
  have hwn := winner_ok hb hw
  have hlast := last_ix hne
  apply runD_rt
  unfold bhow howT
  have e1 : sasg 3 (xcall 2 fwinner (lcons (xvE 0) (lcons (bin ixD (xvV 1) (un1 negD (xc (.int 1)))) lnil))) (startE 5 [encB b, .list (ss.map encS), .int q]) = .nx [.dat (encB b), .dat (.list (ss.map encS)), .dat (.int q), .dat (oM (winT b (lastS ss))), .un] := by
    generalize fwinner = F at hwn ⊢
    simp [startE, hlast, hwn]
  rw [sseq_ev, e1, then_nx, sseq_ev]
  cases hwin : winT b (lastS ss) with
  | some w =>
    obtain ⟨d, h1, h2⟩ := won_ev (win_who hw.turn hwin)
    rw [sif_t (by simp)]
    simp [h1, h2]
  | none =>
    rw [sif_f (by simp), snil_ev, then_nx, sseq_ev]
    have hq : qhow_1 [.dat (encB b), .dat (.list (ss.map encS)), .dat (.int q), .dat (oM none), .un] = .ok ((ss.filter fun s => decide (s = lastS ss)).map encS) := by
      unfold qhow_1
      refine xlc_map (enc := encS) (xs := ss) (fun s => decide (s = lastS ss)) encS (by simp) (by omega) fun s _ => ⟨[.dat (encB b), .dat (.list (ss.map encS)), .dat (.int q), .dat (oM none), .dat (encS s)], rfl, ?_, fun _ => rfl⟩
      simp [hlast, eq_S]
    have hcl : (ss.filter fun s => decide (s = lastS ss)).length = ss.count (lastS ss) := by
      rw [List.count_eq_length_filter]
      exact congrArg List.length (List.filter_congr fun s _ => by rw [Bool.eq_iff_iff, decide_eq_true_eq, beq_iff_eq])
    have t2 : (xbl (bin geD (un1 lenD (asL qhow_1)) (xc (.int 3)))) [.dat (encB b), .dat (.list (ss.map encS)), .dat (.int q), .dat (oM none), .un] = .ok (decide (3 ≤ ss.count (lastS ss))) := by
      have : decide ((3 : Int) ≤ (((ss.filter fun s => decide (s = lastS ss)).map encS).length : Int)) = decide (3 ≤ ss.count (lastS ss)) := by
        rw [List.length_map, hcl, decide_eq_decide]
        omega
      generalize qhow_1 = Q at hq ⊢
      simp only [xbl_ev, bin_ev, un1_ev, asL_ev, hq, bind_ok, len_l, opt_some, xc_ev, ge_ii, this, blD_b]
    show _ = Fl.rt (.str (hwS (if 3 ≤ ss.count (lastS ss) then .thrice else if 40 ≤ q then .long else .on)))
    by_cases h3 : 3 ≤ ss.count (lastS ss)
    · rw [decide_eq_true h3] at t2
      rw [sif_t t2, if_pos h3]
      simp [hwS]
    · rw [decide_eq_false h3] at t2
      rw [sif_f t2, if_neg h3, snil_ev, then_nx, sseq_ev]
      by_cases h4 : 40 ≤ q
      · rw [sif_t (by simp [h4]), if_pos h4]
        simp [hwS]
      · rw [sif_f (by simp [h4]), if_neg h4, snil_ev, then_nx]
        simp [hwS]
/-! ### played -/
def quietT (walk : List (Int × Int × Int)) : Nat := (walk.reverse.takeWhile fun m => decide (0 ≤ m.1) && decide (m.2.2 < 0)).length
theorem quiet_app (walk : List (Int × Int × Int)) (m : Int × Int × Int) : quietT (walk ++ [m]) = if m.1 < 0 ∨ 0 ≤ m.2.2 then 0 else quietT walk + 1 := by
  unfold quietT
  rw [List.reverse_append]
  show (List.takeWhile _ (m :: walk.reverse)).length = _
  rw [List.takeWhile_cons]
  by_cases h : m.1 < 0 ∨ 0 ≤ m.2.2
  · rw [if_pos h]
    have : (decide (0 ≤ m.1) && decide (m.2.2 < 0)) = false := by
      rw [Bool.and_eq_false_iff, decide_eq_false_iff_not, decide_eq_false_iff_not]; omega
    rw [this]; rfl
  · rw [if_neg h]
    have : (decide (0 ≤ m.1) && decide (m.2.2 < 0)) = true := by
      rw [Bool.and_eq_true, decide_eq_true_eq, decide_eq_true_eq]; omega
    rw [this]; rfl
def begT (b : Bd) (men : Int) : Sd := ⟨List.replicate b.n.toNat none, men, men, 0⟩
/-- a game that went on so -/
inductive Gm (b : Bd) (men : Int) : List Sd → List (Int × Int × Int) → Prop
  | beg : Gm b men [begT b men] []
  | step {ss : List Sd} {walk : List (Int × Int × Int)} {m : Int × Int × Int} : Gm b men ss walk → howT b ss (quietT walk) = .on → m ∈ movesT b (lastS ss) → Gm b men (ss ++ [doneT (lastS ss) m]) (walk ++ [m])
section
variable {men : Int} {walk : List (Int × Int × Int)} {m : Int × Int × Int}
theorem beg_wk (hb : b.Ok) : (begT b men).Wk b.n := ⟨by have := hb.lo; show ((List.replicate b.n.toNat none).length : Int) = b.n; rw [List.length_replicate]; omega, .inl rfl⟩
theorem Gm.len (g : Gm b men ss walk) : ss.length = walk.length + 1 := by
  induction g with
  | beg => rfl
  | step _ _ _ ih => rw [List.length_append, List.length_append, ih]; rfl
theorem Gm.ne (g : Gm b men ss walk) : ss ≠ [] := fun z => by have := g.len; rw [z] at this; simp at this
theorem Gm.wk (hb : b.Ok) (g : Gm b men ss walk) : ∀ s ∈ ss, s.Wk b.n := by
  induction g with
  | beg => intro s hs; rw [List.mem_singleton.mp hs]; exact beg_wk hb
  | @step ss walk m g _ _ ih =>
    intro s hs
    rcases List.mem_append.mp hs with hs | hs
    · exact ih s hs
    · rw [List.mem_singleton.mp hs]
      refine done_wk (ih _ ?_)
      unfold lastS
      rw [List.getLastD_eq_getLast?, List.getLast?_eq_some_getLast g.ne]
      exact List.getLast_mem g.ne
theorem Gm.last_wk (hb : b.Ok) (g : Gm b men ss walk) : (lastS ss).Wk b.n := g.wk hb _ (by
  unfold lastS
  rw [List.getLastD_eq_getLast?, List.getLast?_eq_some_getLast g.ne]
  exact List.getLast_mem g.ne)
/-- its beginnings are games -/
theorem Gm.take (g : Gm b men ss walk) : ∀ n : Nat, n ≤ walk.length → Gm b men (ss.take (n + 1)) (walk.take n) := by
  induction g with
  | beg => intro n hn; have : n = 0 := by simpa using hn
           subst this; exact .beg
  | @step ss walk m g h1 h2 ih =>
    intro n hn
    by_cases e : n = walk.length + 1
    · subst e
      have l1 : (ss ++ [doneT (lastS ss) m]).take (walk.length + 1 + 1) = ss ++ [doneT (lastS ss) m] := List.take_of_length_le (by rw [List.length_append, g.len]; simp)
      have l2 : (walk ++ [m]).take (walk.length + 1) = walk ++ [m] := List.take_of_length_le (by simp)
      rw [l1, l2]
      exact .step g h1 h2
    · have hn2 : n ≤ walk.length := by rw [List.length_append] at hn; simp at hn; omega
      rw [List.take_append_of_le_length (by rw [g.len]; omega), List.take_append_of_le_length hn2]
      exact ih n hn2
/-- the loop of played goes on -/
theorem played_step (hb : b.Ok) (g : Gm b men ss walk) (hl : ss.length ≤ 90000) {s0 s1 s2 s6 : Sl} : 
    (howT b ss (quietT walk) = .on → m ∈ movesT b (lastS ss) → lbplayed_1 [.dat (encB b), s1, s2, .own (ss.map encS), .dat (.int (quietT walk)), .dat (e3 m), s6] = .nx [.dat (encB b), s1, s2, .own ((ss ++ [doneT (lastS ss) m]).map encS), .dat (.int (quietT (walk ++ [m]))), .dat (e3 m), s6]) ∧
    ((howT b ss (quietT walk) ≠ .on ∨ m ∉ movesT b (lastS ss)) → ∃ e, lbplayed_1 [.dat (encB b), s1, s2, .own (ss.map encS), .dat (.int (quietT walk)), .dat (e3 m), s6] = .ex "NoMove" e) := by
  have hh := how_ev hb g.ne (by omega) (g.last_wk hb) (q := quietT walk)
  have hcv : xcallV 3 fhow (lcons (xvV 0) (lcons (xvV 3) (lcons (xvV 4) lnil))) [.dat (encB b), s1, s2, .own (ss.map encS), .dat (.int (quietT walk)), .dat (e3 m), s6] = .ok (.str (hwS (howT b ss (quietT walk)))) := by
    unfold xcallV
    generalize fhow = F at hh ⊢
    simp only [lcons_ev, xvV_ev, getV_z, getV_s, getV_o, lnil_ev, bind_ok, List.length_cons, List.length_nil, if_true, hh]
    rfl
  have t1 : (xbl (bin neD (xcallV 3 fhow (lcons (xvV 0) (lcons (xvV 3) (lcons (xvV 4) lnil)))) (xc (.str "on")))) [.dat (encB b), s1, s2, .own (ss.map encS), .dat (.int (quietT walk)), .dat (e3 m), s6] = .ok (!decide (howT b ss (quietT walk) = .on)) := by
    have hn := hw_ne (howT b ss (quietT walk))
    generalize xcallV 3 fhow (lcons (xvV 0) (lcons (xvV 3) (lcons (xvV 4) lnil))) = G at hcv ⊢
    simp only [xbl_ev, bin_ev, hcv, bind_ok, xc_ev, hn, opt_some, blD_b]
  have hlast := last_ix g.ne
  unfold lbplayed_1
  by_cases hon : howT b ss (quietT walk) = .on
  rotate_left
  · refine ⟨fun z => absurd z hon, fun _ => ?_⟩
    rw [decide_eq_false hon] at t1
    rw [sseq_ev, sif_t t1]
    exact ⟨_, rfl⟩
  rw [decide_eq_true hon] at t1
  rw [sseq_ev, sif_f t1, snil_ev, then_nx, sseq_ev]
  by_cases hm : m ∈ movesT b (lastS ss)
  · refine ⟨fun _ _ => ?_, fun z => z.elim (fun z => absurd hon z) fun z => absurd hm z⟩
    have ha := after_in hb (g.last_wk hb) hm
    have e1 : sapp 3 (xcall 3 fafter (lcons (xvE 0) (lcons (bin ixD (xvV 3) (un1 negD (xc (.int 1)))) (lcons (xvE 5) lnil)))) [.dat (encB b), s1, s2, .own (ss.map encS), .dat (.int (quietT walk)), .dat (e3 m), s6] = .nx [.dat (encB b), s1, s2, .own ((ss ++ [doneT (lastS ss) m]).map encS), .dat (.int (quietT walk)), .dat (e3 m), s6] := by
      rw [sapp_ev (d := encS (doneT (lastS ss) m)) (ds := ss.map encS) rfl ?_ (by rw [List.length_map]; omega), List.map_append]
      · rfl
      · generalize fafter = F at ha ⊢
        simp [hlast, ha]
    rw [e1, then_nx, sseq_ev]
    have e2 : sasg 4 (bin addD (xvE 4) (xc (.int 1))) [.dat (encB b), s1, s2, .own ((ss ++ [doneT (lastS ss) m]).map encS), .dat (.int (quietT walk)), .dat (e3 m), s6] = .nx [.dat (encB b), s1, s2, .own ((ss ++ [doneT (lastS ss) m]).map encS), .dat (.int (quietT walk + 1)), .dat (e3 m), s6] := rfl
    rw [e2, then_nx, quiet_app]
    have i0 : ixD (e3 m) (.int 0) = some (.int m.1) := rfl
    have i2 : ixD (e3 m) (.int 2) = some (.int m.2.2) := rfl
    by_cases hq : m.1 < 0 ∨ 0 ≤ m.2.2
    · rw [if_pos hq]
      rw [sif_t (by
        by_cases h1 : m.1 < 0
        · simp [i0, h1]
        · have h2 : 0 ≤ m.2.2 := by omega
          simp [i0, i2, h1, h2])]
      rfl
    · rw [if_neg hq]
      rw [sif_f (by
        have h1 : ¬ m.1 < 0 := by omega
        have h2 : ¬ 0 ≤ m.2.2 := by omega
        simp [i0, i2, h1, h2])]
      rfl
  · refine ⟨fun _ z => absurd z hm, fun _ => ?_⟩
    have ha := after_no hb (g.last_wk hb) hm
    have e1 : sapp 3 (xcall 3 fafter (lcons (xvE 0) (lcons (bin ixD (xvV 3) (un1 negD (xc (.int 1)))) (lcons (xvE 5) lnil)))) [.dat (encB b), s1, s2, .own (ss.map encS), .dat (.int (quietT walk)), .dat (e3 m), s6] = .ex "NoMove" [.dat (encB b), s1, s2, .own (ss.map encS), .dat (.int (quietT walk)), .dat (e3 m), s6] := by
      unfold sapp
      show liftE (xcall 3 fafter _ _) _ _ = _
      generalize fafter = F at ha ⊢
      have : xcall 3 F (lcons (xvE 0) (lcons (bin ixD (xvV 3) (un1 negD (xc (.int 1)))) (lcons (xvE 5) lnil))) [.dat (encB b), s1, s2, .own (ss.map encS), .dat (.int (quietT walk)), .dat (e3 m), s6] = .ex "NoMove" := by
        simp [hlast, ha]
      rw [this]
      rfl
    rw [e1]
    exact ⟨_, rfl⟩
/-- the head of played -/
theorem played_head (hb : b.Ok) {W : D} : ∃ Z : Fl → Pu.R D, (∀ e, lplayed_1 [.dat (encB b), .dat (.int men), .dat W, .own [encS (begT b men)], .dat (.int 0), .un, .un] = e → fplayed [encB b, .int men, W] = Z e) ∧
    (∀ ss q s5, ss ≠ [] → ss.length ≤ 100000 → (lastS ss).Wk b.n → Z (.nx [.dat (encB b), .dat (.int men), .dat W, .own (ss.map encS), .dat (.int q), s5, .un]) = .ok (.tuple [.tuple (ss.map encS), .str (hwS (howT b ss q))])) ∧ (∀ c e, Z (.ex c e) = .ex c) := by
  have h24 := hb.hi
  have h3' := hb.lo
  have hn : ixD (encB b) (.int 0) = some (.int b.n) := rfl
  have q1 : qplayed_1 [.dat (encB b), .dat (.int men), .dat W, .un, .un, .un, .un] = .ok ((List.replicate b.n.toNat (none : Option Int)).map oM) := by
    unfold qplayed_1
    rw [xlc_all (enc := PyData.int) (xs := upto b.n.toNat) (fun _ => .none) (irng1_of (j := b.n) (by simp [hn]) (rng1_ev (by omega) (by omega))) (by rw [upto_length]; omega) fun k _ => ⟨_, rfl, rfl, rfl⟩]
    congr 1
    rw [List.map_replicate]
    exact List.eq_replicate_iff.mpr ⟨by rw [List.length_map, upto_length], fun x hx => by obtain ⟨_, _, rfl⟩ := List.mem_map.mp hx; rfl⟩
  have e1 : sasgN 3 (xlst (lcons (xtup (lcons (un1 tupleD (asL qplayed_1)) (lcons (xtup (lcons (xvE 1) (lcons (xvE 1) lnil))) (lcons (xc (.int 0)) lnil)))) lnil)) (startE 7 [encB b, .int men, W]) = .nx [.dat (encB b), .dat (.int men), .dat W, .own [encS (begT b men)], .un, .un, .un] := by
    show sasgN 3 _ [.dat (encB b), .dat (.int men), .dat W, .un, .un, .un, .un] = _
    have eb : encS (begT b men) = .tuple [.tuple ((List.replicate b.n.toNat (none : Option Int)).map oM), .tuple [.int men, .int men], .int 0] := rfl
    rw [eb]
    generalize (List.replicate b.n.toNat (none : Option Int)).map oM = M at q1 ⊢
    generalize qplayed_1 = Q at q1 ⊢
    simp [q1]
  refine ⟨fun r => finR (Fl.andThen r (sret (xtup (lcons (un1 tupleD (xvV 3)) (lcons (xcall 3 fhow (lcons (xvE 0) (lcons (xvE 3) (lcons (xvE 4) lnil)))) lnil))))), fun e he => ?_, fun ss q s5 hne hl hw => ?_, fun c e => rfl⟩
  · unfold fplayed bplayed
    rw [runD_fin]
    rw [sseq_ev, e1, then_nx, sseq_ev]
    have e2 : sasg 4 (xc (.int 0)) [.dat (encB b), .dat (.int men), .dat W, .own [encS (begT b men)], .un, .un, .un] = .nx [.dat (encB b), .dat (.int men), .dat W, .own [encS (begT b men)], .dat (.int 0), .un, .un] := rfl
    rw [e2, then_nx, sseq_ev, he]
  · have hh := how_ev hb hne hl hw (q := q)
    have : Fl.andThen (.nx [.dat (encB b), .dat (.int men), .dat W, .own (ss.map encS), .dat (.int q), s5, .un]) (sret (xtup (lcons (un1 tupleD (xvV 3)) (lcons (xcall 3 fhow (lcons (xvE 0) (lcons (xvE 3) (lcons (xvE 4) lnil)))) lnil)))) = .rt (.tuple [.tuple (ss.map encS), .str (hwS (howT b ss q))]) := by
      rw [then_nx]
      generalize fhow = F at hh ⊢
      simp [hh]
    show finR _ = _
    rw [this]
    rfl
/-- the loop, as far as the game went -/
theorem played_loop (hb : b.Ok) (g : Gm b men ss walk) (hl : walk.length ≤ 80000) {W : D} : ∃ s5, ∀ rest : List D, forL (gn 5) lbplayed_1 (walk.map e3 ++ rest) [.dat (encB b), .dat (.int men), .dat W, .own [encS (begT b men)], .dat (.int 0), .un, .un] = forL (gn 5) lbplayed_1 rest [.dat (encB b), .dat (.int men), .dat W, .own (ss.map encS), .dat (.int (quietT walk)), s5, .un] := by
  induction g with
  | beg => exact ⟨.un, fun rest => rfl⟩
  | @step ss walk m g hon hm ih =>
    have hlw : walk.length + 1 ≤ 80000 := by rw [List.length_append] at hl; simpa using hl
    obtain ⟨s5, ih⟩ := ih (by omega)
    have hst := (played_step hb g (m := m) (by rw [g.len]; omega) (s0 := .un) (s1 := .dat (.int men)) (s2 := .dat W) (s6 := .un)).1 hon hm
    refine ⟨.dat (e3 m), fun rest => ?_⟩
    rw [List.map_append, List.append_assoc, ih]
    show forL (gn 5) lbplayed_1 (e3 m :: rest) _ = _
    conv => lhs; unfold forL
    show (match lbplayed_1 [.dat (encB b), .dat (.int men), .dat W, .own (ss.map encS), .dat (.int (quietT walk)), .dat (e3 m), .un] with
      | .nx e2 => forL (gn 5) lbplayed_1 rest e2
      | .ct e2 => forL (gn 5) lbplayed_1 rest e2
      | .bk e2 => .nx e2
      | r => r) = _
    rw [hst]
/-- what is played -/
theorem played_ok (hb : b.Ok) (g : Gm b men ss walk) (hl : walk.length ≤ 80000) : fplayed [encB b, .int men, .tuple (walk.map e3)] = .ok (.tuple [.tuple (ss.map encS), .str (hwS (howT b ss (quietT walk)))]) := by
  obtain ⟨Z, h1, h2, h3⟩ := played_head (men := men) hb (W := .tuple (walk.map e3))
  obtain ⟨s5, hm⟩ := played_loop hb g hl (W := .tuple (walk.map e3))
  have hm := hm []
  rw [List.append_nil] at hm
  have hm : forL (gn 5) lbplayed_1 (walk.map e3) [.dat (encB b), .dat (.int men), .dat (.tuple (walk.map e3)), .own [encS (begT b men)], .dat (.int 0), .un, .un] = .nx [.dat (encB b), .dat (.int men), .dat (.tuple (walk.map e3)), .own (ss.map encS), .dat (.int (quietT walk)), s5, .un] := hm
  rw [h1 _ (sfor_is rfl hm), h2 ss _ s5 g.ne (by rw [g.len]; omega) (g.last_wk hb)]
/-- what is refused -/
theorem played_no (hb : b.Ok) (g : Gm b men ss walk) (hl : walk.length ≤ 80000) (hno : howT b ss (quietT walk) ≠ .on ∨ m ∉ movesT b (lastS ss)) (rest : List (Int × Int × Int)) : fplayed [encB b, .int men, .tuple ((walk ++ m :: rest).map e3)] = .ex "NoMove" := by
  obtain ⟨Z, h1, h2, h3⟩ := played_head (men := men) hb (W := .tuple ((walk ++ m :: rest).map e3))
  obtain ⟨s5, hm⟩ := played_loop hb g hl (W := .tuple ((walk ++ m :: rest).map e3))
  obtain ⟨e, hst⟩ := (played_step hb g (m := m) (by rw [g.len]; omega) (s0 := .un) (s1 := .dat (.int men)) (s2 := .dat (.tuple ((walk ++ m :: rest).map e3))) (s6 := .un)).2 hno
  have hloop : forL (gn 5) lbplayed_1 ((walk ++ m :: rest).map e3) [.dat (encB b), .dat (.int men), .dat (.tuple ((walk ++ m :: rest).map e3)), .own [encS (begT b men)], .dat (.int 0), .un, .un] = .ex "NoMove" e := by
    generalize PyData.tuple ((walk ++ m :: rest).map e3) = W at hm hst ⊢
    rw [List.map_append, hm]
    show forL (gn 5) lbplayed_1 (e3 m :: rest.map e3) _ = _
    conv => lhs; unfold forL
    show (match lbplayed_1 [.dat (encB b), .dat (.int men), .dat W, .own (ss.map encS), .dat (.int (quietT walk)), .dat (e3 m), .un] with
      | .nx e2 => forL (gn 5) lbplayed_1 (rest.map e3) e2
      | .ct e2 => forL (gn 5) lbplayed_1 (rest.map e3) e2
      | .bk e2 => .nx e2
      | r => r) = _
    rw [hst]
  rw [h1 _ (sfor_is rfl hloop), h3]
theorem game_ok (hb : b.Ok) (g : Gm b men ss walk) (hl : walk.length ≤ 80000) : fgame [encB b, .int men, .tuple (walk.map e3)] = .ok (.tuple [encS (lastS ss), .str (hwS (howT b ss (quietT walk)))]) := by
  have hp := played_ok hb g hl
  have hlast := last_ix g.ne
  apply runD_rt
  unfold bgame
  generalize fplayed = F at hp ⊢
  generalize walk.map e3 = W at hp ⊢
  have e1 : sasgT (gtup (gcons (gn 3) (gcons (gn 4) gnil))) (xcall 3 F (lcons (xvE 0) (lcons (xvE 1) (lcons (xvE 2) lnil)))) (startE 5 [encB b, .int men, .tuple W]) = .nx [.dat (encB b), .dat (.int men), .dat (.tuple W), .dat (.tuple (ss.map encS)), .dat (.str (hwS (howT b ss (quietT walk))))] := by
    simp [startE, hp]
  rw [sseq_ev, e1, then_nx]
  simp [hlast]
theorem stands_ok (hb : b.Ok) (g : Gm b men ss walk) (hl : walk.length ≤ 80000) : fstands_of [encB b, .int men, .tuple (walk.map e3)] = .ok (.tuple (ss.map encS)) := by
  have hp := played_ok hb g hl
  apply runD_rt
  unfold bstands_of
  generalize fplayed = F at hp ⊢
  generalize walk.map e3 = W at hp ⊢
  simp [startE, hp]
theorem game_no (hb : b.Ok) (g : Gm b men ss walk) (hl : walk.length ≤ 80000) (hno : howT b ss (quietT walk) ≠ .on ∨ m ∉ movesT b (lastS ss)) (rest : List (Int × Int × Int)) : fgame [encB b, .int men, .tuple ((walk ++ m :: rest).map e3)] = .ex "NoMove" := by
  have hp := played_no hb g hl hno rest
  unfold fgame
  generalize (walk ++ m :: rest).map e3 = W at hp ⊢
  refine runD_ex (e := startE 5 [encB b, .int men, .tuple W]) ?_
  unfold bgame
  generalize fplayed = F at hp ⊢
  have e1 : sasgT (gtup (gcons (gn 3) (gcons (gn 4) gnil))) (xcall 3 F (lcons (xvE 0) (lcons (xvE 1) (lcons (xvE 2) lnil)))) (startE 5 [encB b, .int men, .tuple W]) = .ex "NoMove" (startE 5 [encB b, .int men, .tuple W]) := by
    simp [startE, hp]
  rw [sseq_ev, e1]
  rfl
theorem stands_no (hb : b.Ok) (g : Gm b men ss walk) (hl : walk.length ≤ 80000) (hno : howT b ss (quietT walk) ≠ .on ∨ m ∉ movesT b (lastS ss)) (rest : List (Int × Int × Int)) : fstands_of [encB b, .int men, .tuple ((walk ++ m :: rest).map e3)] = .ex "NoMove" := by
  have hp := played_no hb g hl hno rest
  unfold fstands_of
  generalize (walk ++ m :: rest).map e3 = W at hp ⊢
  refine runD_ex (e := fz (startE 3 [encB b, .int men, .tuple W])) ?_
  unfold bstands_of
  generalize fplayed = F at hp ⊢
  simp [startE, hp]
end
end
end Pf
/-! Ed: how it ends, by rounds, plain: nothing of the program -/
namespace Ed
section
variable {α : Type}
def isL : Option (Bool × Nat) → Bool
  | some (false, _) => true
  | _ => false
def isW : Option (Bool × Nat) → Bool
  | some (true, _) => true
  | _ => false
/-- what is known behind r rounds: true is won -/
def lab (nx : α → List α) : Nat → α → Option (Bool × Nat)
  | 0, v => if (nx v).isEmpty then some (false, 0) else none
  | r + 1, v => match lab nx r v with
    | some x => some x
    | none => if (nx v).any (fun u => isL (lab nx r u)) then some (true, r + 1) else if (nx v).all (fun u => isW (lab nx r u)) then some (false, r + 1) else none
variable {nx : α → List α}
theorem lab_keep {r : Nat} {v : α} {x : Bool × Nat} (h : lab nx r v = some x) : lab nx (r + 1) v = some x := by
  rw [lab.eq_2, h]
theorem lab_mono {r s : Nat} (hs : r ≤ s) {v : α} {x : Bool × Nat} (h : lab nx r v = some x) : lab nx s v = some x := by
  induction s with
  | zero => rw [show r = 0 by omega] at h; exact h
  | succ s ih =>
    by_cases c : r = s + 1
    · rw [← c]; exact h
    · exact lab_keep (ih (by omega))
theorem lab_none {r s : Nat} (hs : r ≤ s) {v : α} (h : lab nx s v = none) : lab nx r v = none := by
  cases q : lab nx r v with
  | none => rfl
  | some x => rw [lab_mono hs q] at h; cases h
/-- it was found in its own round -/
theorem lab_own : ∀ (r : Nat) (v : α) (w : Bool) (k : Nat), lab nx r v = some (w, k) → k ≤ r ∧ lab nx k v = some (w, k) ∧ ∀ j < k, lab nx j v = none
  | 0, v, w, k, h => by
    have h0 := h
    rw [lab.eq_1] at h
    split at h
    · injection h with h; injection h with h1 h2
      subst h2
      exact ⟨Nat.le_refl _, h0, fun j hj => by omega⟩
    · cases h
  | r + 1, v, w, k, h => by
    have h0 := h
    rw [lab.eq_2] at h
    cases q : lab nx r v with
    | some x =>
      rw [q] at h
      obtain ⟨a, b, c⟩ := lab_own r v w k (by rw [q]; exact h)
      exact ⟨by omega, b, c⟩
    | none =>
      rw [q] at h
      have hk : k = r + 1 := by
        simp only at h
        split at h
        · injection h with h; injection h with h1 h2; exact h2.symm
        · split at h
          · injection h with h; injection h with h1 h2; exact h2.symm
          · cases h
      subst hk
      exact ⟨Nat.le_refl _, h0, fun j hj => lab_none (by omega) q⟩
theorem isL_of {o : Option (Bool × Nat)} (h : isL o = true) : ∃ n, o = some (false, n) := by
  match o, h with
  | some (false, n), _ => exact ⟨n, rfl⟩
theorem isW_of {o : Option (Bool × Nat)} (h : isW o = true) : ∃ n, o = some (true, n) := by
  match o, h with
  | some (true, n), _ => exact ⟨n, rfl⟩
/-- how the round is seen -/
theorem lab_step {r : Nat} {v : α} {w : Bool} (h : lab nx (r + 1) v = some (w, r + 1)) : lab nx r v = none ∧ ((w = true ∧ ∃ u ∈ nx v, ∃ n, n ≤ r ∧ lab nx r u = some (false, n)) ∨ (w = false ∧ ∀ u ∈ nx v, ∃ n, n ≤ r ∧ lab nx r u = some (true, n))) := by
  have no : lab nx r v = none := (lab_own _ _ _ _ h).2.2 r (by omega)
  refine ⟨no, ?_⟩
  rw [lab.eq_2, no] at h
  simp only at h
  split at h
  · rename_i c
    rw [List.any_eq_true] at c
    obtain ⟨u, hu, hl⟩ := c
    obtain ⟨n, hn⟩ := isL_of hl
    injection h with h; injection h with h1 h2
    exact .inl ⟨h1.symm, u, hu, n, (lab_own _ _ _ _ hn).1, hn⟩
  · split at h
    · rename_i c
      rw [List.all_eq_true] at c
      injection h with h; injection h with h1 h2
      refine .inr ⟨h1.symm, fun u hu => ?_⟩
      obtain ⟨n, hn⟩ := isW_of (c u hu)
      exact ⟨n, (lab_own _ _ _ _ hn).1, hn⟩
    · cases h
theorem lab_lost {r : Nat} {v u : α} (hu : u ∈ nx v) {n : Nat} (h : lab nx r u = some (false, n)) : lab nx (r + 1) v ≠ none := fun z => by
  have no := lab_none (Nat.le_succ r) z
  rw [lab.eq_2, no] at z
  simp only at z
  rw [if_pos (List.any_eq_true.mpr ⟨u, hu, by rw [h]; rfl⟩)] at z
  cases z
theorem lab_won {r : Nat} {v : α} (h : ∀ u ∈ nx v, ∃ n, lab nx r u = some (true, n)) : lab nx (r + 1) v ≠ none := fun z => by
  have no := lab_none (Nat.le_succ r) z
  rw [lab.eq_2, no] at z
  simp only at z
  split at z
  · cases z
  · rw [if_pos (List.all_eq_true.mpr fun u hu => by obtain ⟨n, hn⟩ := h u hu; rw [hn]; rfl)] at z
    cases z
/-! ### nothing more comes -/
/-- behind round r nothing more comes in what V holds -/
structure Still (nx : α → List α) (V : α → Prop) (r : Nat) : Prop where
  closed : ∀ v, V v → ∀ u ∈ nx v, V u
  still : ∀ v, V v → lab nx (r + 1) v = lab nx r v
theorem Still.on {V : α → Prop} {r : Nat} (h : Still nx V r) : ∀ (k : Nat) (v : α), V v → lab nx (r + k) v = lab nx r v
  | 0, v, _ => rfl
  | k + 1, v, hv => by
    have ih := fun u hu => h.on k u hu
    show lab nx (r + k + 1) v = _
    rw [lab.eq_2, ih v hv]
    have st := h.still v hv
    rw [lab.eq_2] at st
    cases q : lab nx r v with
    | some x => rfl
    | none =>
      rw [q] at st
      simp only at st ⊢
      have c1 : ((nx v).any fun u => isL (lab nx (r + k) u)) = (nx v).any fun u => isL (lab nx r u) := by
        rw [Bool.eq_iff_iff, List.any_eq_true, List.any_eq_true]
        constructor
        · rintro ⟨u, hu, z⟩; exact ⟨u, hu, by rw [← ih u (h.closed v hv u hu)]; exact z⟩
        · rintro ⟨u, hu, z⟩; exact ⟨u, hu, by rw [ih u (h.closed v hv u hu)]; exact z⟩
      have c2 : ((nx v).all fun u => isW (lab nx (r + k) u)) = (nx v).all fun u => isW (lab nx r u) := by
        rw [Bool.eq_iff_iff, List.all_eq_true, List.all_eq_true]
        constructor
        · intro z u hu; rw [← ih u (h.closed v hv u hu)]; exact z u hu
        · intro z u hu; rw [ih u (h.closed v hv u hu)]; exact z u hu
      rw [c1, c2]
      split
      · rename_i c; rw [if_pos c] at st; cases st
      · rename_i c
        rw [if_neg c] at st
        split
        · rename_i d; rw [if_pos d] at st; cases st
        · rfl
/-- two who see nothing more come see the same -/
theorem Still.same {V U : α → Prop} {r s : Nat} (h : Still nx V r) (g : Still nx U s) {v : α} (hv : V v) (hu : U v) : lab nx r v = lab nx s v := by
  have a := h.on s v hv
  have b := g.on r v hu
  rw [Nat.add_comm] at b
  rw [← a, ← b]
/-! ### what is asked -/
section
variable {V : α → Prop} {r : Nat}
theorem ask_end (v : α) (h : nx v = []) : lab nx r v = some (false, 0) := lab_mono (Nat.zero_le r) (by rw [lab.eq_1, h]; rfl)
theorem lab_pos {v : α} (hn : nx v ≠ []) {w : Bool} {k : Nat} (h : lab nx r v = some (w, k)) : ∃ j, k = j + 1 ∧ lab nx (j + 1) v = some (w, j + 1) := by
  obtain ⟨_, o, _⟩ := lab_own _ _ _ _ h
  cases k with
  | zero =>
    rw [lab.eq_1] at o
    split at o
    · rename_i c
      exact absurd (List.isEmpty_iff.mp c) hn
    · cases o
  | succ j => exact ⟨j, rfl, o⟩
/-- one that is lost can be moved to: m is the least -/
theorem ask_won (h : Still nx V r) {v u : α} (hv : V v) (hu : u ∈ nx v) {m : Nat} (hm : lab nx r u = some (false, m)) (least : ∀ x ∈ nx v, ∀ n, lab nx r x = some (false, n) → m ≤ n) : lab nx r v = some (true, m + 1) := by
  have ne : nx v ≠ [] := fun z => by rw [z] at hu; cases hu
  have own := lab_own _ _ _ _ hm
  cases q : lab nx r v with
  | none =>
    have := lab_lost hu hm
    rw [h.still v hv] at this
    exact absurd q this
  | some wk =>
    obtain ⟨w, k⟩ := wk
    obtain ⟨j, rfl, o⟩ := lab_pos ne q
    have jr : j + 1 ≤ r := (lab_own _ _ _ _ q).1
    obtain ⟨no, alt⟩ := lab_step o
    rcases alt with ⟨rfl, x, hx, n, hn, hl⟩ | ⟨rfl, all⟩
    · have ge := least x hx n (lab_mono (by omega) hl)
      have le : j ≤ m := by
        refine Nat.le_of_not_lt fun lt => ?_
        exact lab_lost hu own.2.1 (lab_none (by omega) no)
      rw [show j = m by omega]
    · obtain ⟨n, _, hn⟩ := all u hu
      have := lab_mono (show j ≤ r by omega) hn
      rw [hm] at this
      cases this
/-- all that can be moved to are won: m is the greatest -/
theorem ask_lost (h : Still nx V r) {v u : α} (hv : V v) (hu : u ∈ nx v) {m : Nat} (hm : lab nx r u = some (true, m)) (most : ∀ x ∈ nx v, ∃ n, n ≤ m ∧ lab nx r x = some (true, n)) : lab nx r v = some (false, m + 1) := by
  have ne : nx v ≠ [] := fun z => by rw [z] at hu; cases hu
  have own := lab_own _ _ _ _ hm
  cases q : lab nx r v with
  | none =>
    have := lab_won (nx := nx) (r := r) (v := v) fun x hx => let ⟨n, _, e⟩ := most x hx; ⟨n, e⟩
    rw [h.still v hv] at this
    exact absurd q this
  | some wk =>
    obtain ⟨w, k⟩ := wk
    obtain ⟨j, rfl, o⟩ := lab_pos ne q
    have jr : j + 1 ≤ r := (lab_own _ _ _ _ q).1
    obtain ⟨no, alt⟩ := lab_step o
    rcases alt with ⟨rfl, x, hx, n, hn, hl⟩ | ⟨rfl, all⟩
    · obtain ⟨n', _, e⟩ := most x hx
      have := lab_mono (show j ≤ r by omega) hl
      rw [e] at this
      cases this
    · have ge : m ≤ j := by
        obtain ⟨n, hn, e⟩ := all u hu
        have := lab_mono (show j ≤ r by omega) e
        rw [hm] at this
        injection this with this; injection this with _ this
        omega
      have le : j ≤ m := by
        refine Nat.le_of_not_lt fun lt => ?_
        refine lab_won (r := m) (v := v) (fun x hx => ?_) (lab_none (show m + 1 ≤ j by omega) no)
        obtain ⟨n, hn, e⟩ := most x hx
        exact ⟨n, lab_mono hn (lab_own _ _ _ _ e).2.1⟩
      rw [show j = m by omega]
theorem ask_open {v : α} (hn : nx v ≠ []) (noL : ∀ x ∈ nx v, ∀ n, lab nx r x ≠ some (false, n)) (notW : ∃ x ∈ nx v, ∀ n, lab nx r x ≠ some (true, n)) : lab nx r v = none := by
  cases q : lab nx r v with
  | none => rfl
  | some wk =>
    obtain ⟨w, k⟩ := wk
    obtain ⟨j, rfl, o⟩ := lab_pos hn q
    have jr : j + 1 ≤ r := (lab_own _ _ _ _ q).1
    obtain ⟨no, alt⟩ := lab_step o
    rcases alt with ⟨rfl, x, hx, n, _, hl⟩ | ⟨rfl, all⟩
    · exact absurd (lab_mono (show j ≤ r by omega) hl) (noL x hx n)
    · obtain ⟨x, hx, z⟩ := notW
      obtain ⟨n, _, e⟩ := all x hx
      exact absurd (lab_mono (show j ≤ r by omega) e) (z n)
end
end
end Ed
/-! Em: stands as keys -/
namespace Pf
open PySem L2 Pu
def kM : Option Int → NestedKey
  | none => .none
  | some i => .num i
def kS (s : Sd) : NestedKey := .tup [.tup (s.men.map kM), .tup [.num s.l0, .num s.l1], .num s.turn]
theorem nkAll_men : ∀ ms : List (Option Int), nkAll (ms.map oM) = some (ms.map kM)
  | [] => by simp [nkAll]
  | none :: ms => by simp [nkAll, oM, nk, nkAll_men ms, kM]
  | some i :: ms => by simp [nkAll, oM, nk, nkAll_men ms, kM]
theorem nk_S (s : Sd) : nk (encS s) = some (kS s) := by
  unfold encS encM kS
  simp [nk, nkAll, nkAll_men]
theorem depth_men : ∀ ms : List (Option Int), NestedKey.depthAll (ms.map kM) = 0
  | [] => by simp [NestedKey.depthAll]
  | none :: ms => by simp [NestedKey.depthAll, NestedKey.depth, kM, depth_men ms]
  | some i :: ms => by simp [NestedKey.depthAll, NestedKey.depth, kM, depth_men ms]
theorem keyD_S (s : Sd) : keyD (encS s) = some (kS s) := by
  unfold keyD
  rw [show isTup (encS s) = true from rfl, if_pos rfl, nk_S]
  show (if (kS s).depth ≤ 8 then some (kS s) else none) = _
  rw [if_pos]
  unfold kS
  simp [NestedKey.depth, NestedKey.depthAll, depth_men]
theorem kM_inj : ∀ ms ns : List (Option Int), ms.map kM = ns.map kM → ms = ns
  | [], [], _ => rfl
  | [], _ :: _, h => by cases h
  | _ :: _, [], h => by cases h
  | x :: ms, y :: ns, h => by
    rw [List.map_cons, List.map_cons] at h
    injection h with h1 h2
    rw [kM_inj ms ns h2]
    cases x <;> cases y <;> first | rfl | (cases h1; rfl) | cases h1
theorem kS_inj (s t : Sd) (h : kS s = kS t) : s = t := by
  unfold kS at h
  injection h with h
  injection h with h1 h
  injection h with h2 h
  injection h with h3 _
  injection h1 with h1
  injection h2 with h2
  injection h2 with h4 h2
  injection h2 with h5 _
  injection h3 with h3
  injection h4 with h4
  injection h5 with h5
  have := kM_inj _ _ h1
  cases s
  cases t
  simp_all
theorem keyS : KeyOk encS kS := ⟨keyD_S, kS_inj⟩
/-- what comes of a stand -/
def nxT (b : Bd) (s : Sd) : List Sd := (movesT b s).map (doneT s)
end Pf
/-! El: all that can come of a stand -/
namespace Pf
open PySem L2 Pu
theorem whL_t {T : En → R Bool} {B : En → Fl} {n : Nat} {e e2 : En} (h : T e = .ok true) (h2 : B e = .nx e2) : whL T B (n + 1) e = whL T B n e2 := by
  conv => lhs; unfold whL
  rw [h]
  show (match B e with | .nx e2 => whL T B n e2 | .ct e2 => whL T B n e2 | .bk e2 => .nx e2 | r => r) = _
  rw [h2]
theorem whL_f {T : En → R Bool} {B : En → Fl} {n : Nat} {e : En} (h : T e = .ok false) : whL T B (n + 1) e = .nx e := by
  conv => lhs; unfold whL
  rw [h]
def nxD (nx : Sd → List Sd) (a : Sd) : D := .list ((nx a).map encS)
section
variable {b : Bd} {nx : Sd → List Sd} {s0 : D}
abbrev eA (b : Bd) (s0 : D) (nx : Sd → List Sd) (xs ws : List Sd) (s4 : Sl) : En := [.dat (encB b), .dat s0, .dic (gD encS (nxD nx) xs), .own (ws.map encS), s4, .un]
theorem lbA {a : Sd} (hq : ∀ xs ws, qall_stands_1 (eA b s0 nx xs ws (.dat (encS a))) = .ok ((nx a).map encS)) {xs ws : List Sd} {s4 : Sl} (hx : xs.length < 1000000) (hw : a ∉ xs → ws.length + (nx a).length ≤ 1000000) :
    lball_stands_1 (eA b s0 nx xs (ws ++ [a]) s4) = .nx (if a ∈ xs then eA b s0 nx xs ws (.dat (encS a)) else eA b s0 nx (xs ++ [a]) (ws ++ nx a) (.dat (encS a))) := by
  have e1 : spopTo 3 4 (eA b s0 nx xs (ws ++ [a]) s4) = .nx (eA b s0 nx xs ws (.dat (encS a))) := by
    unfold spopTo
    show (match ((ws ++ [a]).map encS).getLast? with | some d => Fl.nx (((eA b s0 nx xs (ws ++ [a]) s4).set 3 (.own ((ws ++ [a]).map encS).dropLast)).set 4 (.dat d)) | none => .bad) = _
    rw [List.map_append, List.map_cons, List.map_nil, List.getLast?_concat, List.dropLast_concat]
    rfl
  have t2 : xbl (bin notInD (xvV 4) (xvV 2)) (eA b s0 nx xs ws (.dat (encS a))) = .ok (!decide (a ∈ xs)) := by
    show ((opt (notInD (encS a) (.dict (gD encS (nxD nx) xs)))).bind blD) = _
    rw [notIn_g keyS]
    rfl
  unfold lball_stands_1
  rw [sseq_ev, e1, then_nx]
  by_cases h : a ∈ xs
  · rw [decide_eq_true h] at t2
    rw [sif_f t2, if_pos h]
    rfl
  · rw [decide_eq_false h] at t2
    rw [sif_t t2, if_neg h, sseq_ev]
    have e3 : sdput 2 (xvE 4) (asL qall_stands_1) (eA b s0 nx xs ws (.dat (encS a))) = .nx (eA b s0 nx (xs ++ [a]) ws (.dat (encS a))) := by
      unfold sdput
      rw [asL_ev, hq, bind_ok, liftE_ok]
      show liftE (.ok (encS a)) _ (dputAt 2 _ (gD encS (nxD nx) xs) (.list ((nx a).map encS))) = _
      rw [liftE_ok]
      unfold dputAt
      rw [keyD_S]
      show (if (gD encS (nxD nx) xs).length < many then _ else _) = _
      rw [gD_length, if_pos (show xs.length < many from hx), dput_new keyS _ h]
      rw [gD_cong (v := updV (nxD nx) a (.list ((nx a).map encS))) (w := nxD nx) fun c _ => by
        by_cases z : c = a
        · subst z; rw [updV_same]; rfl
        · rw [updV_ne z]]
      rfl
    rw [e3, then_nx]
    unfold sext
    show liftE (bin dixD (xvV 2) (xvV 4) (eA b s0 nx (xs ++ [a]) ws (.dat (encS a)))) _ _ = _
    have e4 : bin dixD (xvV 2) (xvV 4) (eA b s0 nx (xs ++ [a]) ws (.dat (encS a))) = .ok (.list ((nx a).map encS)) := by
      show opt (dixD (.dict (gD encS (nxD nx) (xs ++ [a]))) (encS a)) = _
      rw [dix_g keyS (by simp)]
      rfl
    rw [e4, liftE_ok]
    show (if (ws.map encS).length + ((nx a).map encS).length ≤ many then Fl.nx ((eA b s0 nx (xs ++ [a]) ws (.dat (encS a))).set 3 (.own (ws.map encS ++ (nx a).map encS))) else .bad) = _
    rw [if_pos (by rw [List.length_map, List.length_map]; exact hw h), ← List.map_append]
    rfl
variable {V : Sd → Prop} {U : List Sd} {M : Nat}
theorem whA (hq : ∀ a, V a → ∀ xs ws, qall_stands_1 (eA b s0 nx xs ws (.dat (encS a))) = .ok ((nx a).map encS)) (cl : ∀ a, V a → ∀ u ∈ nx a, V u) (hM : ∀ a, V a → (nx a).length ≤ M) (hU : ∀ a, V a → a ∈ U) (hb : (M + 1) * U.length ≤ 900000) :
    ∀ (n : Nat) (xs ws : List Sd) (s4 : Sl), xs.Nodup → (∀ a ∈ xs, V a) → (∀ a ∈ ws, V a) → (∀ a ∈ xs, ∀ u ∈ nx a, u ∈ xs ∨ u ∈ ws) → ws.length + (M + 1) * (U.length - xs.length) < n → ws.length + (M + 1) * (U.length - xs.length) ≤ 950000 →
    ∃ xs' t4, whL ltall_stands_1 lball_stands_1 n (eA b s0 nx xs ws s4) = .nx (eA b s0 nx xs' [] t4) ∧ xs'.Nodup ∧ (∀ a ∈ xs', V a) ∧ (∀ a ∈ xs, a ∈ xs') ∧ (∀ a ∈ ws, a ∈ xs') ∧ ∀ a ∈ xs', ∀ u ∈ nx a, u ∈ xs'
  | 0, xs, ws, s4, _, _, _, _, h, _ => by omega
  | n + 1, xs, ws, s4, nd, vx, vw, clo, hn, hf => by
    have ht : ltall_stands_1 (eA b s0 nx xs ws s4) = .ok (!ws.isEmpty) := by
      show opt (truD (.list (ws.map encS))) = _
      show R.ok (!(ws.map encS).isEmpty) = _
      rw [List.isEmpty_map]
    have hxU : xs.length ≤ U.length := nodup_len xs U nd fun a ha => hU a (vx a ha)
    rcases List.eq_nil_or_concat ws with rfl | ⟨ws', a, rfl⟩
    · exact ⟨xs, s4, whL_f ht, nd, vx, fun _ h => h, ⟨fun a h => absurd h List.not_mem_nil, fun a ha u hu => (clo a ha u hu).resolve_right List.not_mem_nil⟩⟩
    · rw [List.concat_eq_append] at *
      have ht : ltall_stands_1 (eA b s0 nx xs (ws' ++ [a]) s4) = .ok true := by rw [ht]; cases ws' <;> rfl
      have va : V a := vw a (by simp)
      have la := hM a va
      have hlw : (ws' ++ [a]).length = ws'.length + 1 := by simp
      rw [hlw] at hn hf
      have hxl : xs.length < 1000000 := by
        have : U.length ≤ (M + 1) * U.length := Nat.le_mul_of_pos_left _ (by omega)
        omega
      have new : a ∉ xs → xs.length + 1 ≤ U.length := fun ha => nodup_len (a :: xs) U (List.nodup_cons.mpr ⟨ha, nd⟩) fun c hc => by
        rcases List.mem_cons.mp hc with rfl | hc
        · exact hU c va
        · exact hU c (vx c hc)
      have split : a ∉ xs → (M + 1) * (U.length - xs.length) = (M + 1) * (U.length - (xs ++ [a]).length) + (M + 1) := fun ha => by
        have := new ha
        rw [List.length_append, List.length_singleton, show U.length - xs.length = (U.length - (xs.length + 1)) + 1 by omega, Nat.mul_succ]
      have stp := lbA (b := b) (s0 := s0) (nx := nx) (a := a) (hq a va) (xs := xs) (ws := ws') (s4 := s4) hxl (fun ha => by
        have := split ha
        omega)
      by_cases ha : a ∈ xs
      · rw [if_pos ha] at stp
        obtain ⟨xs', t4, h1, h2, h3, h4, h5, h6⟩ := whA hq cl hM hU hb n xs ws' (.dat (encS a)) nd vx (fun c hc => vw c (by simp [hc])) (fun c hc u hu => by
          rcases clo c hc u hu with h | h
          · exact .inl h
          · rcases List.mem_append.mp h with h | h
            · exact .inr h
            · rw [List.mem_singleton.mp h]; exact .inl ha) (by omega) (by omega)
        refine ⟨xs', t4, (whL_t ht stp).trans h1, h2, h3, h4, fun c hc => ?_, h6⟩
        rcases List.mem_append.mp hc with h | h
        · exact h5 c h
        · rw [List.mem_singleton.mp h]; exact h4 a ha
      · rw [if_neg ha] at stp
        have sp := split ha
        have hl2 : (ws' ++ nx a).length = ws'.length + (nx a).length := List.length_append
        obtain ⟨xs', t4, h1, h2, h3, h4, h5, h6⟩ := whA hq cl hM hU hb n (xs ++ [a]) (ws' ++ nx a) (.dat (encS a)) (by
            rw [List.nodup_append]
            exact ⟨nd, by simp, fun x hx y hy => by rw [List.mem_singleton.mp hy]; exact fun z => ha (z ▸ hx)⟩) (fun c hc => by
            rcases List.mem_append.mp hc with h | h
            · exact vx c h
            · rw [List.mem_singleton.mp h]; exact va) (fun c hc => by
            rcases List.mem_append.mp hc with h | h
            · exact vw c (by simp [h])
            · exact cl a va c h) (fun c hc u hu => by
            rcases List.mem_append.mp hc with h | h
            · rcases clo c h u hu with h | h
              · exact .inl (by simp [h])
              · rcases List.mem_append.mp h with h | h
                · exact .inr (by simp [h])
                · exact .inl (by simp [List.mem_singleton.mp h])
            · rw [List.mem_singleton.mp h] at hu
              exact .inr (by simp [hu])) (by rw [hl2]; omega) (by rw [hl2]; omega)
        refine ⟨xs', t4, (whL_t ht stp).trans h1, h2, h3, fun c hc => h4 c (by simp [hc]), fun c hc => ?_, h6⟩
        rcases List.mem_append.mp hc with h | h
        · exact h5 c (by simp [h])
        · rw [List.mem_singleton.mp h]; exact h4 a (by simp)
end
/-- what all_stands tells -/
theorem all_stands_ev {b : Bd} {nx : Sd → List Sd} {V : Sd → Prop} {U : List Sd} {M : Nat} {s : Sd} (hs : V s) (hq : ∀ a, V a → ∀ xs ws, qall_stands_1 (eA b (encS s) nx xs ws (.dat (encS a))) = .ok ((nx a).map encS)) (cl : ∀ a, V a → ∀ u ∈ nx a, V u) (hM : ∀ a, V a → (nx a).length ≤ M) (hU : ∀ a, V a → a ∈ U) (hb : (M + 1) * U.length ≤ 900000) :
    ∃ xs : List Sd, fall_stands [encB b, encS s] = .ok (.dict (gD encS (nxD nx) xs)) ∧ xs.Nodup ∧ s ∈ xs ∧ (∀ a ∈ xs, V a) ∧ ∀ a ∈ xs, ∀ u ∈ nx a, u ∈ xs := by
  obtain ⟨xs, t4, h1, h2, h3, h4, h5, h6⟩ := whA (b := b) (s0 := encS s) (nx := nx) hq cl hM hU hb 1000000 [] [s] .un List.nodup_nil (fun a h => absurd h List.not_mem_nil) (fun a h => by rw [List.mem_singleton.mp h]; exact hs) (fun a h => absurd h List.not_mem_nil) (by rw [List.length_singleton, List.length_nil, Nat.sub_zero]; omega) (by rw [List.length_singleton, List.length_nil, Nat.sub_zero]; omega)
  refine ⟨xs, runD_rt ?_, h2, h5 s (by simp), h3, h6⟩
  unfold ball_stands
  rw [sseq_ev]
  show (Fl.nx [.dat (encB b), .dat (encS s), .dic [], .un, .un, .un]).andThen _ = _
  rw [then_nx, sseq_ev]
  have e2 : sasgN 3 (xlst (lcons (xvE 1) lnil)) [.dat (encB b), .dat (encS s), .dic [], .un, .un, .un] = .nx (eA b (encS s) nx [] [s] .un) := by
    simp
    rfl
  rw [e2, then_nx, sseq_ev]
  have e3 : lall_stands_1 (eA b (encS s) nx [] [s] .un) = .nx (eA b (encS s) nx xs [] t4) := h1
  rw [e3, then_nx]
  rfl
end Pf
/-! Ep: a round of ends_of, plain -/
namespace Ed
section
variable {α : Type} [DecidableEq α]
/-- what stands in the dicts left and found, and in more -/
structure Sx (α : Type) where
  lf : α → Int
  fs : List α
  lb : α → Bool × Nat
  mo : List α
/-- one is seen from a stand that is won (w) or lost -/
def evS (r : Nat) (w : Bool) (st : Sx α) (a : α) : Sx α :=
  let lf := fun b => if b = a then st.lf a - (if w then 1 else 0) else st.lf b
  if a ∉ st.fs ∧ (w = false ∨ lf a = 0) then ⟨lf, st.fs ++ [a], fun b => if b = a then (!w, r + 1) else st.lb b, st.mo ++ [a]⟩ else ⟨lf, st.fs, st.lb, st.mo⟩
/-- behind the events E -/
structure Iv (r : Nat) (wn : α → Bool) (s0 : Sx α) (E : List (α × α)) (st : Sx α) : Prop where
  lf : ∀ a, st.lf a = s0.lf a - (E.countP (fun e => decide (e.2 = a) && wn e.1) : Nat)
  nd : st.fs.Nodup
  fs : ∀ a, a ∈ st.fs ↔ a ∈ s0.fs ∨ (∃ e ∈ E, e.2 = a ∧ wn e.1 = false) ∨ ((∃ e ∈ E, e.2 = a) ∧ st.lf a ≤ 0)
  mo : ∀ a, a ∈ st.mo ↔ a ∈ st.fs ∧ a ∉ s0.fs
  mnd : st.mo.Nodup
  len : st.fs.length = s0.fs.length + st.mo.length
  old : ∀ a ∈ s0.fs, st.lb a = s0.lb a
  new : ∀ a ∈ st.fs, a ∉ s0.fs → (st.lb a = (true, r + 1) ∧ ∃ e ∈ E, e.2 = a ∧ wn e.1 = false) ∨ (st.lb a = (false, r + 1) ∧ st.lf a ≤ 0)
  pos : ∀ a, a ∉ st.fs → 0 < st.lf a ∨ ¬ (∃ e ∈ E, e.2 = a)
variable {r : Nat} {wn : α → Bool} {s0 st : Sx α}
theorem Iv.nil (nd : s0.fs.Nodup) (hm : s0.mo = []) : Iv r wn s0 [] s0 where
  lf := fun a => by simp
  nd := nd
  fs := fun a => by simp
  mo := fun a => by simp [hm]
  mnd := by simp [hm]
  len := by simp [hm]
  old := fun _ _ => rfl
  new := fun a h h' => absurd h h'
  pos := fun a _ => .inr (by simp)
theorem Iv.step {E : List (α × α)} (p0 : ∀ a, a ∉ s0.fs → 0 < s0.lf a) (I : Iv r wn s0 E st) (u a : α) : Iv r wn s0 (E ++ [(u, a)]) (evS r (wn u) st a) := by
  have cnt : ∀ b, ((E ++ [(u, a)]).countP (fun e => decide (e.2 = b) && wn e.1) : Nat) = E.countP (fun e => decide (e.2 = b) && wn e.1) + if b = a ∧ wn u = true then 1 else 0 := fun b => by
    rw [List.countP_append, List.countP_singleton]
    by_cases z : b = a
    · subst z; simp
    · have : ¬ a = b := fun y => z y.symm
      simp [z, this]
  have gr : ∀ b, b ∉ st.fs → 0 < st.lf b := fun b hb => by
    rcases I.pos b hb with h | h
    · exact h
    · have hb0 : b ∉ s0.fs := fun z => hb ((I.fs b).mpr (.inl z))
      have c0 : E.countP (fun e => decide (e.2 = b) && wn e.1) = 0 := List.countP_eq_zero.mpr fun e he z => by
        simp at z
        exact h ⟨e, he, z.1⟩
      rw [I.lf b, c0]
      have := p0 b hb0
      omega
  have lfE : ∀ b, (if b = a then st.lf a - (if wn u then 1 else 0) else st.lf b) = s0.lf b - ((E ++ [(u, a)]).countP (fun e => decide (e.2 = b) && wn e.1) : Nat) := fun b => by
    rw [cnt b]
    by_cases z : b = a
    · subst z
      rw [if_pos rfl, I.lf b]
      cases wn u <;> simp <;> omega
    · rw [if_neg z, I.lf b]
      simp [z]
  have ex : ∀ (P : α × α → Prop), (∃ e ∈ E ++ [(u, a)], P e) ↔ (∃ e ∈ E, P e) ∨ P (u, a) := fun P => by
    constructor
    · rintro ⟨e, he, h⟩
      rcases List.mem_append.mp he with he | he
      · exact .inl ⟨e, he, h⟩
      · rw [List.mem_singleton.mp he] at h; exact .inr h
    · rintro (⟨e, he, h⟩ | h)
      · exact ⟨e, by simp [he], h⟩
      · exact ⟨_, by simp, h⟩
  have mon : (if wn u then (1 : Int) else 0) ≥ 0 := by split <;> omega
  unfold evS
  by_cases c : a ∉ st.fs ∧ (wn u = false ∨ (if a = a then st.lf a - (if wn u then 1 else 0) else st.lf a) = 0)
  · rw [if_pos c]
    have ha := c.1
    have ha0 : a ∉ s0.fs := fun z => ha ((I.fs a).mpr (.inl z))
    refine ⟨lfE, ?_, fun b => ?_, fun b => ?_, ?_, ?_, fun b hb => ?_, fun b hb hb0 => ?_, fun b hb => ?_⟩
    · show (st.fs ++ [a]).Nodup
      rw [List.nodup_append]
      exact ⟨I.nd, by simp, fun x hx y hy => by rw [List.mem_singleton.mp hy]; exact fun z => ha (z ▸ hx)⟩
    · show b ∈ st.fs ++ [a] ↔ _ ∨ _ ∨ (_ ∧ (if b = a then _ else _) ≤ 0)
      rw [List.mem_append, List.mem_singleton, ex, ex, I.fs b]
      by_cases z : b = a
      · subst z
        rw [if_pos rfl] at c ⊢
        have : wn u = false ∨ st.lf b - (if wn u then 1 else 0) ≤ 0 := c.2.imp_right fun h => by omega
        constructor
        · intro _
          rcases this with h | h
          · exact .inr (.inl (.inr ⟨rfl, h⟩))
          · exact .inr (.inr ⟨.inr rfl, h⟩)
        · exact fun _ => .inr rfl
      · have z' : ¬ a = b := fun y => z y.symm
        rw [if_neg z]
        simp [z, z']
    · show b ∈ st.mo ++ [a] ↔ b ∈ st.fs ++ [a] ∧ _
      rw [List.mem_append, List.mem_append, List.mem_singleton, I.mo b]
      constructor
      · rintro (⟨h1, h2⟩ | rfl)
        · exact ⟨.inl h1, h2⟩
        · exact ⟨.inr rfl, ha0⟩
      · rintro ⟨h1 | h1, h2⟩
        · exact .inl ⟨h1, h2⟩
        · exact .inr h1
    · show (st.mo ++ [a]).Nodup
      rw [List.nodup_append]
      exact ⟨I.mnd, by simp, fun x hx y hy => by rw [List.mem_singleton.mp hy]; exact fun z => ha ((I.mo a).mp (z ▸ hx)).1⟩
    · show (st.fs ++ [a]).length = _ + (st.mo ++ [a]).length
      rw [List.length_append, List.length_append, I.len]
      simp only [List.length_singleton]
      omega
    · show (if b = a then _ else st.lb b) = _
      rw [if_neg (fun z : b = a => ha0 (z ▸ hb))]
      exact I.old b hb
    · show ((if b = a then ((!wn u), r + 1) else st.lb b) = _ ∧ _) ∨ ((if b = a then ((!wn u), r + 1) else st.lb b) = _ ∧ (if b = a then _ else _) ≤ 0)
      rw [ex]
      by_cases z : b = a
      · subst z
        rw [if_pos rfl] at c
        rw [if_pos rfl, if_pos rfl]
        cases hw : wn u with
        | false => exact .inl ⟨rfl, .inr ⟨rfl, rfl⟩⟩
        | true =>
          rw [hw] at c
          refine .inr ⟨rfl, ?_⟩
          rcases c.2 with h | h
          · cases h
          · omega
      · rw [if_neg z, if_neg z]
        have hb : b ∈ st.fs := by
          rcases List.mem_append.mp hb with h | h
          · exact h
          · exact absurd (List.mem_singleton.mp h) z
        rcases I.new b hb hb0 with ⟨h1, h2⟩ | h
        · exact .inl ⟨h1, .inl h2⟩
        · exact .inr h
    · have hb : b ∉ st.fs ++ [a] := hb
      rw [List.mem_append, List.mem_singleton, not_or] at hb
      refine .inl ?_
      show 0 < (if b = a then _ else st.lf b)
      rw [if_neg hb.2]
      exact gr b hb.1
  · rw [if_neg c]
    have nc : a ∉ st.fs → wn u = true ∧ st.lf a - 1 ≠ 0 := fun ha => by
      have c1 : ¬ wn u = false := fun h => c ⟨ha, .inl h⟩
      have hw : wn u = true := by simpa using c1
      refine ⟨hw, fun h => c ⟨ha, .inr ?_⟩⟩
      rw [if_pos rfl, hw, if_pos rfl]
      exact h
    refine ⟨lfE, I.nd, fun b => ?_, I.mo, I.mnd, I.len, I.old, fun b hb hb0 => ?_, fun b hb => ?_⟩
    · show b ∈ st.fs ↔ _ ∨ _ ∨ (_ ∧ (if b = a then _ else _) ≤ 0)
      rw [ex, ex, I.fs b]
      by_cases z : b = a
      · subst z
        rw [if_pos rfl]
        by_cases ha : b ∈ st.fs
        · have hh := (I.fs b).mp ha
          refine ⟨fun _ => ?_, fun _ => hh⟩
          rcases hh with h | h | ⟨h, h'⟩
          · exact .inl h
          · exact .inr (.inl (.inl h))
          · exact .inr (.inr ⟨.inl h, by omega⟩)
        · obtain ⟨hw, hl⟩ := nc ha
          have := gr b ha
          refine ⟨fun h => absurd ((I.fs b).mpr h) ha, fun h => ?_⟩
          rw [hw] at h
          rcases h with h | (h | ⟨_, h⟩) | ⟨_, h⟩
          · exact .inl h
          · exact .inr (.inl h)
          · cases h
          · rw [if_pos rfl] at h; omega
      · have z' : ¬ a = b := fun y => z y.symm
        rw [if_neg z]
        simp [z']
    · show (_ ∧ _) ∨ (_ ∧ (if b = a then _ else _) ≤ 0)
      rw [ex]
      rcases I.new b hb hb0 with ⟨h1, h2⟩ | ⟨h1, h2⟩
      · exact .inl ⟨h1, .inl h2⟩
      · refine .inr ⟨h1, ?_⟩
        split
        · rename_i z; subst z; omega
        · exact h2
    · refine .inl ?_
      show 0 < (if b = a then _ else st.lf b)
      split
      · rename_i z
        subst z
        obtain ⟨hw, hl⟩ := nc hb
        have := gr b hb
        rw [hw, if_pos rfl]
        omega
      · exact gr b hb
theorem Iv.all (p0 : ∀ a, a ∉ s0.fs → 0 < s0.lf a) : ∀ (E2 E : List (α × α)) (st : Sx α), Iv r wn s0 E st → Iv r wn s0 (E ++ E2) (E2.foldl (fun st e => evS r (wn e.1) st e.2) st)
  | [], E, st, I => by rw [List.append_nil]; exact I
  | e :: E2, E, st, I => by
    have := Iv.all p0 E2 (E ++ [e]) _ (I.step p0 e.1 e.2)
    rw [List.append_assoc] at this
    exact this
/-- the events of a round -/
def evs (pre : α → List α) (ws : List α) : List (α × α) := ws.flatMap fun u => (pre u).map fun a => (u, a)
theorem evs_mem {pre : α → List α} {ws : List α} {u a : α} : (u, a) ∈ evs pre ws ↔ u ∈ ws ∧ a ∈ pre u := by
  unfold evs
  rw [List.mem_flatMap]
  constructor
  · rintro ⟨v, hv, h⟩
    obtain ⟨c, hc, e⟩ := List.mem_map.mp h
    cases e
    exact ⟨hv, hc⟩
  · rintro ⟨h1, h2⟩
    exact ⟨u, h1, List.mem_map.mpr ⟨a, h2, rfl⟩⟩
theorem evs_fold {β : Type} (f : β → α × α → β) (pre : α → List α) : ∀ (ws : List α) (s : β), (evs pre ws).foldl f s = ws.foldl (fun s u => (pre u).foldl (fun s a => f s (u, a)) s) s
  | [], s => rfl
  | u :: ws, s => by
    show (((pre u).map fun a => (u, a)) ++ evs pre ws).foldl f s = _
    rw [List.foldl_append, List.foldl_map, evs_fold f pre ws, List.foldl_cons]
theorem evs_count {nx pre : α → List α} {a : α} (hp : ∀ u, (pre u).count a = (nx a).count u) : ∀ (ws : List α), ws.Nodup → (evs pre ws).countP (fun e => decide (e.2 = a) && wn e.1) = (nx a).countP (fun v => decide (v ∈ ws) && wn v)
  | [], _ => by
    show 0 = _
    symm
    exact List.countP_eq_zero.mpr fun v _ => by simp
  | u :: ws, nd => by
    rw [List.nodup_cons] at nd
    show ((((pre u).map fun a => (u, a)) ++ evs pre ws).countP _) = _
    rw [List.countP_append, evs_count hp ws nd.2, List.countP_map]
    have e1 : (pre u).countP ((fun e : α × α => decide (e.2 = a) && wn e.1) ∘ fun a => (u, a)) = if wn u then (nx a).count u else 0 := by
      cases hw : wn u with
      | false => exact List.countP_eq_zero.mpr fun v _ => by simp [hw]
      | true =>
        rw [if_pos rfl, ← hp u]
        show (pre u).countP (fun c => decide (c = a) && wn u) = (pre u).countP (· == a)
        congr 1
        funext c
        rw [hw, Bool.and_true]
        rfl
    rw [e1]
    have e2 : ∀ l : List α, l.countP (fun v => decide (v ∈ u :: ws) && wn v) = (if wn u then l.count u else 0) + l.countP (fun v => decide (v ∈ ws) && wn v) := by
      intro l
      induction l with
      | nil => simp
      | cons x l ih =>
        rw [List.countP_cons, List.countP_cons, ih, List.count_cons]
        by_cases z : x = u
        · subst z
          cases hw : wn x <;> simp [nd.1, hw] <;> omega
        · have z' : ¬ (x == u) = true := by simpa using z
          simp [z, z']
          split <;> omega
    rw [e2]
end
end Ed
/-! Eq: round by round, plain -/
namespace Ed
section
variable {α : Type} [DecidableEq α] {nx pre : α → List α} {xs : List α}
/-- won ahead of round r -/
def wb (nx : α → List α) (r : Nat) (v : α) : Bool := match lab nx r v with
  | some (true, n) => decide (n < r)
  | _ => false
structure Rnd (nx : α → List α) (xs : List α) (r : Nat) (st : Sx α) (ws : List α) : Prop where
  nd : st.fs.Nodup
  sub : ∀ a ∈ st.fs, a ∈ xs
  fs : ∀ a ∈ xs, a ∈ st.fs ↔ lab nx r a ≠ none
  lb : ∀ a ∈ st.fs, lab nx r a = some (st.lb a)
  wnd : ws.Nodup
  ws : ∀ a, a ∈ ws ↔ a ∈ xs ∧ ∃ w, lab nx r a = some (w, r)
  lf : ∀ a ∈ xs, st.lf a = ((nx a).length : Int) - ((nx a).countP (wb nx r) : Nat)
  lfo : ∀ a, a ∉ xs → 0 < st.lf a
theorem countP_or {p q t : α → Bool} : ∀ {l : List α}, (∀ v ∈ l, t v = (p v || q v)) → (∀ v ∈ l, ¬ (p v = true ∧ q v = true)) → l.countP t = l.countP p + l.countP q
  | [], _, _ => rfl
  | x :: l, h, d => by
    rw [List.countP_cons, List.countP_cons, List.countP_cons, countP_or (fun v hv => h v (List.mem_cons_of_mem _ hv)) fun v hv => d v (List.mem_cons_of_mem _ hv), h x List.mem_cons_self]
    have := d x List.mem_cons_self
    cases hp : p x <;> cases hq : q x <;> simp_all <;> omega
theorem countP_full {p : α → Bool} {l : List α} (h : l.length ≤ l.countP p) : ∀ v ∈ l, p v = true := by
  have := List.countP_eq_length.mp (Nat.le_antisymm List.countP_le_length h)
  exact this
theorem wb_of {r : Nat} {v : α} (h : wb nx r v = true) : ∃ n, n < r ∧ lab nx r v = some (true, n) := by
  unfold wb at h
  split at h
  · rename_i n hn
    exact ⟨n, of_decide_eq_true h, hn⟩
  · cases h
theorem wb_at {r n : Nat} {v : α} (h : lab nx r v = some (true, n)) (hn : n < r) : wb nx r v = true := by
  unfold wb
  rw [h]
  exact decide_eq_true hn
theorem lab_new {r : Nat} {v : α} {x : Bool × Nat} (h : lab nx (r + 1) v = some x) (h0 : lab nx r v = none) : x.2 = r + 1 := by
  obtain ⟨w, k⟩ := x
  obtain ⟨a, b, c⟩ := lab_own _ _ _ _ h
  by_cases z : k = r + 1
  · exact z
  · have := lab_mono (show k ≤ r by omega) b
    rw [h0] at this
    cases this
/-- none is known of what has a move left that is not won -/
theorem Rnd.pos {r : Nat} {st : Sx α} {ws : List α} (R : Rnd nx xs r st ws) (a : α) (h : a ∉ st.fs) : 0 < st.lf a := by
  by_cases hx : a ∈ xs
  · have no : lab nx r a = none := Classical.byContradiction fun z => h ((R.fs a hx).mpr z)
    rw [R.lf a hx]
    have le := List.countP_le_length (p := wb nx r) (l := nx a)
    by_cases z : (nx a).countP (wb nx r) = (nx a).length
    · have all := countP_full (Nat.le_of_eq z.symm)
      cases r with
      | zero =>
        cases hn : nx a with
        | nil => rw [ask_end a hn] at no; cases no
        | cons v l =>
          obtain ⟨n, h1, _⟩ := wb_of (all v (by rw [hn]; exact List.mem_cons_self))
          omega
      | succ r =>
        exact absurd no (lab_won fun v hv => by
          obtain ⟨n, h1, h2⟩ := wb_of (all v hv)
          exact ⟨n, lab_mono (by omega) (lab_own _ _ _ _ h2).2.1⟩)
    · omega
  · exact R.lfo a hx
theorem Rnd.step {r : Nat} {st : Sx α} {ws : List α} (R : Rnd nx xs r st ws) (cl : ∀ a ∈ xs, ∀ u ∈ nx a, u ∈ xs) (hp : ∀ a ∈ xs, ∀ u, (pre u).count a = (nx a).count u) (hpx : ∀ u, ∀ a ∈ pre u, a ∈ xs) :
    Rnd nx xs (r + 1) ((evs pre ws).foldl (fun st e => evS r (isW (lab nx r e.1)) st e.2) ⟨st.lf, st.fs, st.lb, []⟩) ((evs pre ws).foldl (fun st e => evS r (isW (lab nx r e.1)) st e.2) ⟨st.lf, st.fs, st.lb, []⟩).mo ∧
    ((evs pre ws).foldl (fun st e => evS r (isW (lab nx r e.1)) st e.2) ⟨st.lf, st.fs, st.lb, []⟩).fs.length = st.fs.length + ((evs pre ws).foldl (fun st e => evS r (isW (lab nx r e.1)) st e.2) ⟨st.lf, st.fs, st.lb, []⟩).mo.length := by
  have I := Iv.all (r := r) (wn := fun u => isW (lab nx r u)) (s0 := ⟨st.lf, st.fs, st.lb, []⟩) (fun a h => R.pos a h) (evs pre ws) [] _ (Iv.nil R.nd rfl)
  rw [List.nil_append] at I
  revert I
  generalize (evs pre ws).foldl (fun st e => evS r (isW (lab nx r e.1)) st e.2) ⟨st.lf, st.fs, st.lb, []⟩ = s1
  intro I
  have hpm : ∀ a ∈ xs, ∀ u, a ∈ pre u ↔ u ∈ nx a := fun a ha u => by rw [← List.count_pos_iff, hp a ha u, List.count_pos_iff]
  have lfE : ∀ a ∈ xs, s1.lf a = ((nx a).length : Int) - ((nx a).countP (wb nx (r + 1)) : Nat) := fun a ha => by
    have e1 := evs_count (wn := fun u => isW (lab nx r u)) (hp a ha) ws R.wnd
    have e2 : (nx a).countP (wb nx (r + 1)) = (nx a).countP (wb nx r) + (nx a).countP (fun v => decide (v ∈ ws) && isW (lab nx r v)) := by
      refine countP_or (fun v hv => ?_) fun v hv ⟨h1, h2⟩ => ?_
      · have vx := cl a ha v hv
        cases hl : lab nx r v with
        | some x =>
          obtain ⟨w, n⟩ := x
          have hn := (lab_own _ _ _ _ hl).1
          have hk := lab_keep hl
          cases w with
          | false =>
            unfold wb
            rw [hl, hk]
            simp [isW]
          | true =>
            rw [wb_at hk (by omega)]
            by_cases z : n < r
            · rw [wb_at hl z]; rfl
            · have : v ∈ ws := (R.ws v).mpr ⟨vx, true, by rw [hl, show n = r by omega]⟩
              rw [decide_eq_true this]
              simp [isW]
        | none =>
          have : wb nx (r + 1) v = false := by
            cases hw : wb nx (r + 1) v with
            | false => rfl
            | true =>
              obtain ⟨n, h1, h2⟩ := wb_of hw
              have := lab_new h2 hl
              have this : n = r + 1 := this
              omega
          rw [this]
          unfold wb
          rw [hl]
          simp [isW]
      · obtain ⟨n, n1, n2⟩ := wb_of h1
        rw [Bool.and_eq_true] at h2
        obtain ⟨w, hw⟩ := ((R.ws v).mp (of_decide_eq_true h2.1)).2
        rw [n2] at hw
        injection hw with hw
        injection hw with _ hw
        omega
    rw [I.lf a]
    show st.lf a - _ = _
    rw [R.lf a ha, e1, e2]
    omega
  have lost : ∀ a ∈ xs, (∃ e ∈ evs pre ws, e.2 = a ∧ isW (lab nx r e.1) = false) ↔ ∃ u ∈ nx a, lab nx r u = some (false, r) := fun a ha => by
    constructor
    · rintro ⟨⟨u, a'⟩, he, rfl, hw⟩
      obtain ⟨h1, h2⟩ := evs_mem.mp he
      obtain ⟨w, hl⟩ := ((R.ws u).mp h1).2
      refine ⟨u, (hpm _ ha u).mp h2, ?_⟩
      cases w with
      | false => exact hl
      | true => rw [show isW (lab nx r u) = true by rw [hl]; rfl] at hw; cases hw
    · rintro ⟨u, hu, hl⟩
      exact ⟨(u, a), evs_mem.mpr ⟨(R.ws u).mpr ⟨cl a ha u hu, false, hl⟩, (hpm a ha u).mpr hu⟩, rfl, by show isW (lab nx r u) = false; rw [hl]; rfl⟩
  have full : ∀ a ∈ xs, s1.lf a ≤ 0 → ∀ u ∈ nx a, ∃ n, lab nx r u = some (true, n) := fun a ha h u hu => by
    rw [lfE a ha] at h
    obtain ⟨n, h1, h2⟩ := wb_of (countP_full (p := wb nx (r + 1)) (l := nx a) (by omega) u hu)
    exact ⟨n, lab_mono (by omega) (lab_own _ _ _ _ h2).2.1⟩
  have subx : ∀ a ∈ s1.fs, a ∈ xs := fun a ha => by
    rcases (I.fs a).mp ha with h | ⟨⟨u, a'⟩, he, rfl, _⟩ | ⟨⟨⟨u, a'⟩, he, rfl⟩, _⟩
    · exact R.sub a h
    · exact hpx u _ (evs_mem.mp he).2
    · exact hpx u _ (evs_mem.mp he).2
  have val : ∀ a ∈ s1.fs, a ∉ st.fs → lab nx r a = none ∧ lab nx (r + 1) a = some (s1.lb a) ∧ (s1.lb a).2 = r + 1 := fun a ha h0 => by
    have hx := subx a ha
    have no : lab nx r a = none := Classical.byContradiction fun z => h0 ((R.fs a hx).mpr z)
    refine ⟨no, ?_⟩
    rw [lab.eq_2, no]
    rcases I.new a ha h0 with ⟨h1, h2⟩ | ⟨h1, h2⟩
    · obtain ⟨u, hu, hl⟩ := (lost a hx).mp h2
      rw [h1]
      refine ⟨?_, rfl⟩
      show (if (nx a).any (fun u => isL (lab nx r u)) = true then _ else _) = _
      rw [if_pos (List.any_eq_true.mpr ⟨u, hu, by rw [hl]; rfl⟩)]
    · have all := full a hx h2
      rw [h1]
      refine ⟨?_, rfl⟩
      show (if (nx a).any (fun u => isL (lab nx r u)) = true then _ else if (nx a).all (fun u => isW (lab nx r u)) = true then _ else _) = _
      rw [if_neg (fun z => by
        obtain ⟨u, hu, h⟩ := List.any_eq_true.mp z
        obtain ⟨n, hn⟩ := all u hu
        rw [hn] at h
        cases h), if_pos (List.all_eq_true.mpr fun u hu => by
        obtain ⟨n, hn⟩ := all u hu
        rw [hn]
        rfl)]
  have lbE : ∀ a ∈ s1.fs, lab nx (r + 1) a = some (s1.lb a) := fun a ha => by
    by_cases h0 : a ∈ st.fs
    · rw [I.old a h0]
      exact lab_keep (R.lb a h0)
    · exact (val a ha h0).2.1
  have fsE : ∀ a ∈ xs, a ∈ s1.fs ↔ lab nx (r + 1) a ≠ none := fun a ha => by
    constructor
    · intro h z
      rw [lbE a h] at z
      cases z
    · intro h
      cases q : lab nx (r + 1) a with
      | none => exact absurd q h
      | some x =>
        cases q0 : lab nx r a with
        | some y => exact (I.fs a).mpr (.inl ((R.fs a ha).mpr (by rw [q0]; intro z; cases z)))
        | none =>
          have hk := lab_new q q0
          obtain ⟨w, k⟩ := x
          have hk : k = r + 1 := hk
          subst hk
          obtain ⟨_, alt⟩ := lab_step q
          rcases alt with ⟨rfl, u, hu, n, hn, hl⟩ | ⟨rfl, all⟩
          · have : n = r := by
              refine Classical.byContradiction fun z => ?_
              exact lab_lost hu (lab_own _ _ _ _ hl).2.1 (lab_none (show n + 1 ≤ r by omega) q0)
            subst this
            exact (I.fs a).mpr (.inr (.inl ((lost a ha).mpr ⟨u, hu, hl⟩)))
          · refine (I.fs a).mpr (.inr (.inr ⟨?_, ?_⟩))
            · have ne : nx a ≠ [] := fun z => by rw [ask_end a z] at q0; cases q0
              obtain ⟨u, hu, hl⟩ : ∃ u ∈ nx a, lab nx r u = some (true, r) := by
                refine Classical.byContradiction fun z => ?_
                cases r with
                | zero =>
                  cases hn : nx a with
                  | nil => exact ne hn
                  | cons u l =>
                    have hu : u ∈ nx a := by rw [hn]; exact List.mem_cons_self
                    obtain ⟨n, h1, h2⟩ := all u hu
                    exact z ⟨u, hu, by rw [h2, show n = 0 by omega]⟩
                | succ r =>
                  refine lab_won (r := r) (v := a) (fun u hu => ?_) q0
                  obtain ⟨n, h1, h2⟩ := all u hu
                  have : n ≠ r + 1 := fun e => z ⟨u, hu, by rw [h2, e]⟩
                  exact ⟨n, lab_mono (by omega) (lab_own _ _ _ _ h2).2.1⟩
              exact ⟨(u, a), evs_mem.mpr ⟨(R.ws u).mpr ⟨cl a ha u hu, true, hl⟩, (hpm a ha u).mpr hu⟩, rfl⟩
            · rw [lfE a ha, List.countP_eq_length.mpr fun u hu => by
                obtain ⟨n, h1, h2⟩ := all u hu
                exact wb_at (lab_keep h2) (by omega)]
              omega
  refine ⟨⟨I.nd, subx, fsE, lbE, I.mnd, fun a => ?_, lfE, fun a ha => ?_⟩, I.len⟩
  · rw [I.mo a]
    constructor
    · rintro ⟨h1, h2⟩
      obtain ⟨_, v1, v2⟩ := val a h1 h2
      refine ⟨subx a h1, (s1.lb a).1, ?_⟩
      rw [v1, ← v2]
    · rintro ⟨ha, w, hw⟩
      refine ⟨(fsE a ha).mpr (by rw [hw]; intro z; cases z), fun h0 => ?_⟩
      have := lab_keep (R.lb a h0)
      rw [hw] at this
      injection this with this
      have h2 : (st.lb a).2 ≤ r := (lab_own _ _ _ _ (R.lb a h0)).1
      rw [← this] at h2
      have h2 : r + 1 ≤ r := h2
      omega
  · rw [I.lf a, List.countP_eq_zero.mpr fun e he z => by
      simp at z
      obtain ⟨u, a'⟩ := e
      exact ha (z.1 ▸ hpx u _ (evs_mem.mp he).2)]
    have := R.lfo a ha
    show 0 < st.lf a - _
    omega
/-- nothing more comes -/
theorem Rnd.still {r : Nat} {st : Sx α} (R : Rnd nx xs r st []) (cl : ∀ a ∈ xs, ∀ u ∈ nx a, u ∈ xs) : Still nx (fun a => a ∈ xs) r := by
  refine ⟨cl, fun v hv => ?_⟩
  have no : ∀ u ∈ xs, ∀ w, lab nx r u ≠ some (w, r) := fun u hu w h => absurd ((R.ws u).mpr ⟨hu, w, h⟩) List.not_mem_nil
  cases q0 : lab nx r v with
  | some x => exact lab_keep q0
  | none =>
    cases q : lab nx (r + 1) v with
    | none => rfl
    | some x =>
      exfalso
      have hk := lab_new q q0
      obtain ⟨w, k⟩ := x
      have hk : k = r + 1 := hk
      subst hk
      obtain ⟨_, alt⟩ := lab_step q
      rcases alt with ⟨rfl, u, hu, n, hn, hl⟩ | ⟨rfl, all⟩
      · have : n ≠ r := fun e => no u (cl v hv u hu) false (by rw [hl, e])
        exact lab_lost hu (lab_own _ _ _ _ hl).2.1 (lab_none (show n + 1 ≤ r by omega) q0)
      · cases r with
        | zero =>
          cases hn : nx v with
          | nil => rw [ask_end v hn] at q0; cases q0
          | cons u l =>
            have hu : u ∈ nx v := by rw [hn]; exact List.mem_cons_self
            obtain ⟨n, h1, h2⟩ := all u hu
            exact no u (cl v hv u hu) true (by rw [h2, show n = 0 by omega])
        | succ r =>
          refine lab_won (r := r) (v := v) (fun u hu => ?_) q0
          obtain ⟨n, h1, h2⟩ := all u hu
          have : n ≠ r + 1 := fun e => no u (cl v hv u hu) true (by rw [h2, e])
          exact ⟨n, lab_mono (by omega) (lab_own _ _ _ _ h2).2.1⟩
end
end Ed
/-! Er: ends_of -/
namespace Pf
open PySem L2 Pu Ed
def wdS (w : Bool) : Str := if w then "won" else "lost"
def labD (x : Bool × Nat) : D := .tuple [.str (wdS x.1), .int x.2]
theorem eq_won (w : Bool) : eqD (.str (wdS w)) (.str "won") = some (.bool w) := by cases w <;> kernel_rfl
theorem eq_lost (w : Bool) : eqD (.str (wdS w)) (.str "lost") = some (.bool (!w)) := by cases w <;> kernel_rfl
theorem eq_zero (i : Int) : eqD (.int i) (.int 0) = some (.bool (decide (i = 0))) := by
  rw [eq_ev (shp_int i).shaped (shp_int 0).shaped, eqv_enc int_inj int_pl]
theorem look_w (w : Bool) : lookT [(.str "lost", .str "won"), (.str "won", .str "lost")] (.str (wdS w)) = some (.str (wdS (!w))) := by cases w <;> rfl
abbrev eE (xs : List Sd) (nx pre : Sd → List Sd) (lf : Sd → Int) (fs : List Sd) (lb : Sd → Bool × Nat) (ws : List Sd) (s2 s3 s7 s8 s9 : Sl) : En :=
  [.dat (.dict (gD encS (nxD nx) xs)), .dat (.dict (gD encS (nxD pre) xs)), s2, s3, .dic (gD encS (fun a => .int (lf a)) xs), .dic (gD encS (fun a => labD (lb a)) fs), .dat (.list (ws.map encS)), s7, s8, s9]
abbrev eS (xs : List Sd) (nx pre : Sd → List Sd) (st : Sx Sd) (ws : List Sd) (s2 s3 s8 s9 : Sl) : En := eE xs nx pre st.lf st.fs st.lb ws s2 s3 (.own (st.mo.map encS)) s8 s9
section
variable {xs : List Sd} {nx pre : Sd → List Sd} {st : Sx Sd} {ws : List Sd} {s2 s3 s7 s8 s9 : Sl} {r : Nat} {w : Bool} {a : Sd}
theorem lbE1 (ha : a ∈ xs) (hx : xs.length < 1000000) (hf : st.fs.length < 1000000) (hm : st.mo.length < 1000000) :
    lbends_of_1 (eS xs nx pre st ws s2 (.dat (encS a)) (.dat (.str (wdS w))) (.dat (.int r))) = .nx (eS xs nx pre (evS r w st a) ws s2 (.dat (encS a)) (.dat (.str (wdS w))) (.dat (.int r))) := by
  unfold lbends_of_1
  rw [sseq_ev]
  have e1 : sdput 4 (xvE 3) (bin subD (bin dixD (xvV 4) (xvV 3)) (un1 intD (bin eqD (xvV 8) (xc (.str "won"))))) (eS xs nx pre st ws s2 (.dat (encS a)) (.dat (.str (wdS w))) (.dat (.int r))) =
      .nx (eE xs nx pre (fun b => if b = a then st.lf a - (if w then 1 else 0) else st.lf b) st.fs st.lb ws s2 (.dat (encS a)) (.own (st.mo.map encS)) (.dat (.str (wdS w))) (.dat (.int r))) := by
    unfold sdput
    have v : bin subD (bin dixD (xvV 4) (xvV 3)) (un1 intD (bin eqD (xvV 8) (xc (.str "won")))) (eS xs nx pre st ws s2 (.dat (encS a)) (.dat (.str (wdS w))) (.dat (.int r))) = .ok (.int (st.lf a - (if w then 1 else 0))) := by
      show ((opt (dixD (.dict (gD encS (fun a => .int (st.lf a)) xs)) (encS a))).bind fun x => ((opt (eqD (.str (wdS w)) (.str "won"))).bind fun y => opt (intD y)).bind fun y => opt (subD x y)) = _
      rw [dix_g keyS ha, eq_won]
      cases w <;> rfl
    rw [v, liftE_ok]
    show liftE (.ok (encS a)) _ (dputAt 4 _ (gD encS (fun a => .int (st.lf a)) xs) _) = _
    rw [liftE_ok]
    unfold dputAt
    rw [keyD_S]
    show (if (gD encS (fun a => PyData.int (st.lf a)) xs).length < many then _ else _) = _
    rw [gD_length, if_pos (show xs.length < many from hx), dput_old keyS _ ha]
    rw [gD_cong (w := fun b => PyData.int (if b = a then st.lf a - (if w then 1 else 0) else st.lf b)) fun c _ => by
      by_cases z : c = a
      · subst z; rw [updV_same, if_pos rfl]
      · rw [updV_ne z, if_neg z]]
    rfl
  rw [e1, then_nx]
  have t2 : tand (xbl (bin notInD (xvV 3) (xvV 5))) (tor (xbl (bin eqD (xvV 8) (xc (.str "lost")))) (xbl (bin eqD (bin dixD (xvV 4) (xvV 3)) (xc (.int 0))))) (eE xs nx pre (fun b => if b = a then st.lf a - (if w then 1 else 0) else st.lf b) st.fs st.lb ws s2 (.dat (encS a)) (.own (st.mo.map encS)) (.dat (.str (wdS w))) (.dat (.int r))) =
      .ok (decide (a ∉ st.fs ∧ (w = false ∨ (if a = a then st.lf a - (if w then 1 else 0) else st.lf a) = 0))) := by
    show (((opt (notInD (encS a) (.dict (gD encS (fun a => labD (st.lb a)) st.fs)))).bind blD).bind fun k => if k = true then ((opt (eqD (.str (wdS w)) (.str "lost"))).bind blD).bind fun k => if k = true then .ok true else (((opt (dixD (.dict (gD encS (fun b => .int (if b = a then st.lf a - (if w then 1 else 0) else st.lf b)) xs)) (encS a))).bind fun x => opt (eqD x (.int 0))).bind blD) else .ok false) = _
    rw [notIn_g keyS, dix_g keyS ha, eq_lost]
    show (if (!decide (a ∈ st.fs)) = true then (if (!w) = true then R.ok true else ((opt (eqD (.int (if a = a then st.lf a - (if w then 1 else 0) else st.lf a)) (.int 0))).bind blD)) else .ok false) = _
    rw [eq_zero]
    by_cases h1 : a ∈ st.fs
    · simp [h1]
    · cases w with
      | false => simp [h1]
      | true => simp [h1]
  by_cases c : a ∉ st.fs ∧ (w = false ∨ (if a = a then st.lf a - (if w then 1 else 0) else st.lf a) = 0)
  · rw [decide_eq_true c] at t2
    have ee : evS r w st a = ⟨fun b => if b = a then st.lf a - (if w then 1 else 0) else st.lf b, st.fs ++ [a], fun b => if b = a then (!w, r + 1) else st.lb b, st.mo ++ [a]⟩ := by
      unfold evS
      exact if_pos c
    rw [sif_t t2, ee, sseq_ev]
    have e3 : sdput 5 (xvE 3) (xtup (lcons (un1 (lookT [(.str "lost", .str "won"), (.str "won", .str "lost")]) (xvV 8)) (lcons (bin addD (xvE 9) (xc (.int 1))) lnil))) (eE xs nx pre (fun b => if b = a then st.lf a - (if w then 1 else 0) else st.lf b) st.fs st.lb ws s2 (.dat (encS a)) (.own (st.mo.map encS)) (.dat (.str (wdS w))) (.dat (.int r))) =
        .nx (eE xs nx pre (fun b => if b = a then st.lf a - (if w then 1 else 0) else st.lf b) (st.fs ++ [a]) (fun b => if b = a then (!w, r + 1) else st.lb b) ws s2 (.dat (encS a)) (.own (st.mo.map encS)) (.dat (.str (wdS w))) (.dat (.int r))) := by
      unfold sdput
      have v : xtup (lcons (un1 (lookT [(.str "lost", .str "won"), (.str "won", .str "lost")]) (xvV 8)) (lcons (bin addD (xvE 9) (xc (.int 1))) lnil)) (eE xs nx pre (fun b => if b = a then st.lf a - (if w then 1 else 0) else st.lf b) st.fs st.lb ws s2 (.dat (encS a)) (.own (st.mo.map encS)) (.dat (.str (wdS w))) (.dat (.int r))) = .ok (labD (!w, r + 1)) := by
        show (((opt (lookT [(.str "lost", .str "won"), (.str "won", .str "lost")] (.str (wdS w)))).bind fun d => R.ok [d, PyData.int ((r : Int) + 1)]).bind mkT) = _
        rw [look_w]
        rfl
      rw [v, liftE_ok]
      show liftE (.ok (encS a)) _ (dputAt 5 _ (gD encS (fun a => labD (st.lb a)) st.fs) _) = _
      rw [liftE_ok]
      unfold dputAt
      rw [keyD_S]
      show (if (gD encS (fun a => labD (st.lb a)) st.fs).length < many then _ else _) = _
      rw [gD_length, if_pos (show st.fs.length < many from hf), dput_new keyS _ c.1]
      rw [gD_cong (w := fun b => labD (if b = a then (!w, r + 1) else st.lb b)) fun c _ => by
        by_cases z : c = a
        · subst z; rw [updV_same, if_pos rfl]
        · rw [updV_ne z, if_neg z]]
      rfl
    rw [e3, then_nx]
    unfold sapp
    show (if (st.mo.map encS).length < many then Fl.nx _ else .bad) = _
    rw [List.length_map, if_pos (show st.mo.length < many from hm)]
    show Fl.nx (eE xs nx pre _ _ _ ws s2 _ (.own (st.mo.map encS ++ [encS a])) _ _) = Fl.nx (eE xs nx pre _ _ _ ws s2 _ (.own ((st.mo ++ [a]).map encS)) _ _)
    rw [List.map_append]
    rfl
  · rw [decide_eq_false c] at t2
    have ee : evS r w st a = ⟨fun b => if b = a then st.lf a - (if w then 1 else 0) else st.lf b, st.fs, st.lb, st.mo⟩ := by
      unfold evS
      exact if_neg c
    rw [sif_f t2, ee]
    rfl
/-- what stays -/
structure Gd (xs : List Sd) (st : Sx Sd) : Prop where
  nd : st.fs.Nodup
  sub : ∀ a ∈ st.fs, a ∈ xs
  mo : st.mo.length ≤ st.fs.length
theorem evS_alt (r : Nat) (w : Bool) (st : Sx Sd) (a : Sd) : (a ∉ st.fs ∧ evS r w st a = ⟨fun b => if b = a then st.lf a - (if w then 1 else 0) else st.lf b, st.fs ++ [a], fun b => if b = a then (!w, r + 1) else st.lb b, st.mo ++ [a]⟩) ∨ evS r w st a = ⟨fun b => if b = a then st.lf a - (if w then 1 else 0) else st.lf b, st.fs, st.lb, st.mo⟩ := by
  by_cases c : a ∉ st.fs ∧ (w = false ∨ (if a = a then st.lf a - (if w then 1 else 0) else st.lf a) = 0)
  · refine .inl ⟨c.1, ?_⟩
    unfold evS
    exact if_pos c
  · refine .inr ?_
    unfold evS
    exact if_neg c
theorem Gd.step (G : Gd xs st) (ha : a ∈ xs) : Gd xs (evS r w st a) := by
  rcases evS_alt r w st a with ⟨c, e⟩ | e <;> rw [e]
  · refine ⟨?_, fun b hb => ?_, ?_⟩
    · show (st.fs ++ [a]).Nodup
      rw [List.nodup_append]
      exact ⟨G.nd, by simp, fun x hx y hy => by rw [List.mem_singleton.mp hy]; exact fun z => c (z ▸ hx)⟩
    · rcases List.mem_append.mp hb with h | h
      · exact G.sub b h
      · rw [List.mem_singleton.mp h]; exact ha
    · show (st.mo ++ [a]).length ≤ (st.fs ++ [a]).length
      rw [List.length_append, List.length_append]
      have := G.mo
      omega
  · exact ⟨G.nd, G.sub, G.mo⟩
theorem evS_keep {u : Sd} (h : u ∈ st.fs) : u ∈ (evS r w st a).fs ∧ (evS r w st a).lb u = st.lb u := by
  rcases evS_alt r w st a with ⟨c, e⟩ | e <;> rw [e]
  · exact ⟨List.mem_append.mpr (.inl h), if_neg fun z : u = a => c (z ▸ h)⟩
  · exact ⟨h, rfl⟩
theorem fold_keep {u : Sd} : ∀ (as : List Sd) (st : Sx Sd), u ∈ st.fs → u ∈ (as.foldl (evS r w) st).fs ∧ (as.foldl (evS r w) st).lb u = st.lb u
  | [], st, h => ⟨h, rfl⟩
  | a :: as, st, h => by
    obtain ⟨h1, h2⟩ := evS_keep (r := r) (w := w) (a := a) h
    obtain ⟨h3, h4⟩ := fold_keep as (evS r w st a) h1
    exact ⟨h3, h4.trans h2⟩
theorem fold_gd : ∀ (as : List Sd) (st : Sx Sd), (∀ a ∈ as, a ∈ xs) → Gd xs st → Gd xs (as.foldl (evS r w) st)
  | [], st, _, G => G
  | a :: as, st, h, G => fold_gd as _ (fun b hb => h b (List.mem_cons_of_mem _ hb)) (G.step (h a List.mem_cons_self))
theorem llE1 {u : Sd} (hu : u ∈ xs) (hx : xs.length < 1000000) (hp : ∀ a ∈ pre u, a ∈ xs) (G : Gd xs st) : ∃ t3, lends_of_1 (eS xs nx pre st ws (.dat (encS u)) s3 (.dat (.str (wdS w))) (.dat (.int r))) = .nx (eS xs nx pre ((pre u).foldl (evS r w) st) ws (.dat (encS u)) t3 (.dat (.str (wdS w))) (.dat (.int r))) := by
  obtain ⟨e', h1, t3, rfl⟩ := forL_inv (enc := encS) (f := gn 3) (B := lbends_of_1) (fun p e => ∃ t3, e = eS xs nx pre (p.foldl (evS r w) st) ws (.dat (encS u)) t3 (.dat (.str (wdS w))) (.dat (.int r))) (pre u) [] (eS xs nx pre st ws (.dat (encS u)) s3 (.dat (.str (wdS w))) (.dat (.int r))) ⟨_, rfl⟩ fun p a rest e hpe ⟨t3, he⟩ => by
    subst he
    rw [List.nil_append] at hpe
    have hpx : ∀ b ∈ p, b ∈ xs := fun b hb => hp b (by rw [hpe]; simp [hb])
    have ha : a ∈ xs := hp a (by rw [hpe]; simp)
    have G' := fold_gd (r := r) (w := w) p st hpx G
    have hf : (p.foldl (evS r w) st).fs.length ≤ xs.length := nodup_len _ _ G'.nd G'.sub
    have hm := G'.mo
    refine ⟨_, _, rfl, .inl (lbE1 (st := p.foldl (evS r w) st) (r := r) (w := w) ha hx (by omega) (by omega)), .dat (encS a), ?_⟩
    rw [List.foldl_append]
    rfl
  exact ⟨t3, sfor_nx (by
    show (opt (dixD (.dict (gD encS (nxD pre) xs)) (encS u))).bind (fun d => opt (seqD d)) = _
    rw [dix_g keyS hu]
    rfl) h1⟩
theorem lbE2 {u : Sd} (hu : u ∈ st.fs) (hl : st.lb u = (w, r)) (hx : xs.length < 1000000) (hp : ∀ a ∈ pre u, a ∈ xs) (G : Gd xs st) : ∃ t3, lbends_of_2 (eS xs nx pre st ws (.dat (encS u)) s3 s8 s9) = .nx (eS xs nx pre ((pre u).foldl (evS r w) st) ws (.dat (encS u)) t3 (.dat (.str (wdS w))) (.dat (.int r))) := by
  obtain ⟨t3, h⟩ := llE1 (nx := nx) (ws := ws) (s3 := s3) (r := r) (w := w) (G.sub u hu) hx hp G
  refine ⟨t3, ?_⟩
  unfold lbends_of_2
  rw [sseq_ev]
  have e1 : sasgT (gtup (gcons (gn 8) (gcons (gn 9) gnil))) (bin dixD (xvV 5) (xvV 2)) (eS xs nx pre st ws (.dat (encS u)) s3 s8 s9) = .nx (eS xs nx pre st ws (.dat (encS u)) s3 (.dat (.str (wdS w))) (.dat (.int r))) := by
    rw [sasgT_ev]
    show liftE (opt (dixD (.dict (gD encS (fun a => labD (st.lb a)) st.fs)) (encS u))) _ _ = _
    rw [dix_g keyS hu, hl]
    rfl
  rw [e1, then_nx]
  exact h
theorem llE2 {wn : Sd → Bool} (hw : ∀ u ∈ ws, u ∈ st.fs ∧ st.lb u = (wn u, r)) (hx : xs.length < 1000000) (hp : ∀ u, ∀ a ∈ pre u, a ∈ xs) (G : Gd xs st) :
    ∃ t2 t3 t8 t9, lends_of_2 (eS xs nx pre st ws s2 s3 s8 s9) = .nx (eS xs nx pre (ws.foldl (fun st u => (pre u).foldl (evS r (wn u)) st) st) ws t2 t3 t8 t9) := by
  obtain ⟨e', h1, ⟨t2, t3, t8, t9, rfl⟩, _⟩ := forL_inv (enc := encS) (f := gn 2) (B := lbends_of_2) (fun p e => (∃ t2 t3 t8 t9, e = eS xs nx pre (p.foldl (fun st u => (pre u).foldl (evS r (wn u)) st) st) ws t2 t3 t8 t9) ∧ Gd xs (p.foldl (fun st u => (pre u).foldl (evS r (wn u)) st) st) ∧ ∀ u ∈ ws, u ∈ (p.foldl (fun st u => (pre u).foldl (evS r (wn u)) st) st).fs ∧ (p.foldl (fun st u => (pre u).foldl (evS r (wn u)) st) st).lb u = (wn u, r)) ws [] (eS xs nx pre st ws s2 s3 s8 s9) ⟨⟨_, _, _, _, rfl⟩, G, hw⟩ fun p u rest e hpe ⟨⟨t2, t3, t8, t9, he⟩, G1, k1⟩ => by
    subst he
    rw [List.nil_append] at hpe
    have huw : u ∈ ws := by rw [hpe]; simp
    obtain ⟨a1, a2⟩ := k1 u huw
    obtain ⟨u3, h⟩ := lbE2 (st := p.foldl (fun st u => (pre u).foldl (evS r (wn u)) st) st) (nx := nx) (ws := ws) (s3 := t3) (s8 := t8) (s9 := t9) a1 a2 hx (hp u) G1
    refine ⟨_, _, rfl, .inl h, ⟨.dat (encS u), u3, .dat (.str (wdS (wn u))), .dat (.int r), ?_⟩, ?_, fun v hv => ?_⟩
    · rw [List.foldl_append]; rfl
    · rw [List.foldl_append]; exact fold_gd _ _ (hp u) G1
    · rw [List.foldl_append]
      obtain ⟨b1, b2⟩ := k1 v hv
      obtain ⟨c1, c2⟩ := fold_keep (r := r) (w := wn u) (pre u) _ b1
      exact ⟨c1, c2.trans b2⟩
  exact ⟨t2, t3, t8, t9, sfor_nx rfl h1⟩
theorem lbE3 {wn : Sd → Bool} (hw : ∀ u ∈ ws, u ∈ st.fs ∧ st.lb u = (wn u, r)) (hx : xs.length < 1000000) (hp : ∀ u, ∀ a ∈ pre u, a ∈ xs) (G : Gd xs ⟨st.lf, st.fs, st.lb, []⟩) :
    ∃ t2 t3 t7 t8 t9, lbends_of_3 (eE xs nx pre st.lf st.fs st.lb ws s2 s3 s7 s8 s9) = .nx (eE xs nx pre ((evs pre ws).foldl (fun st e => evS r (wn e.1) st e.2) ⟨st.lf, st.fs, st.lb, []⟩).lf ((evs pre ws).foldl (fun st e => evS r (wn e.1) st e.2) ⟨st.lf, st.fs, st.lb, []⟩).fs ((evs pre ws).foldl (fun st e => evS r (wn e.1) st e.2) ⟨st.lf, st.fs, st.lb, []⟩).lb ((evs pre ws).foldl (fun st e => evS r (wn e.1) st e.2) ⟨st.lf, st.fs, st.lb, []⟩).mo t2 t3 t7 t8 t9) := by
  rw [evs_fold]
  obtain ⟨t2, t3, t8, t9, h⟩ := llE2 (st := ⟨st.lf, st.fs, st.lb, []⟩) (nx := nx) (wn := wn) (s2 := s2) (s3 := s3) (s8 := s8) (s9 := s9) hw hx hp G
  refine ⟨t2, t3, .dat (.list ((ws.foldl (fun st u => (pre u).foldl (evS r (wn u)) st) ⟨st.lf, st.fs, st.lb, []⟩).mo.map encS)), t8, t9, ?_⟩
  unfold lbends_of_3
  rw [sseq_ev]
  show (Fl.nx (eS xs nx pre ⟨st.lf, st.fs, st.lb, []⟩ ws s2 s3 s8 s9)).andThen _ = _
  rw [then_nx, sseq_ev, h, then_nx]
  rfl
/-- turn by turn -/
theorem whE (nd : xs.Nodup) (cl : ∀ a ∈ xs, ∀ u ∈ nx a, u ∈ xs) (hp : ∀ a ∈ xs, ∀ u, (pre u).count a = (nx a).count u) (hpx : ∀ u, ∀ a ∈ pre u, a ∈ xs) (hx : xs.length < 1000000) :
    ∀ (n r : Nat) (st : Sx Sd) (ws : List Sd) (s2 s3 s7 s8 s9 : Sl), Rnd nx xs r st ws → 2 * (xs.length - st.fs.length) + (if ws = [] then 0 else 1) < n →
    ∃ R st' t2 t3 t7 t8 t9, whL ltends_of_3 lbends_of_3 n (eE xs nx pre st.lf st.fs st.lb ws s2 s3 s7 s8 s9) = .nx (eE xs nx pre st'.lf st'.fs st'.lb [] t2 t3 t7 t8 t9) ∧ Rnd nx xs R st' []
  | 0, r, st, ws, s2, s3, s7, s8, s9, _, h => by omega
  | n + 1, r, st, ws, s2, s3, s7, s8, s9, Rr, hn => by
    have ht : ltends_of_3 (eE xs nx pre st.lf st.fs st.lb ws s2 s3 s7 s8 s9) = .ok (!ws.isEmpty) := by
      show R.ok (!(ws.map encS).isEmpty) = _
      rw [List.isEmpty_map]
    by_cases hw : ws = []
    · subst hw
      exact ⟨r, st, _, _, _, _, _, whL_f ht, Rr⟩
    · rw [if_neg hw] at hn
      have ht : ltends_of_3 (eE xs nx pre st.lf st.fs st.lb ws s2 s3 s7 s8 s9) = .ok true := by
        rw [ht]
        cases ws with
        | nil => exact absurd rfl hw
        | cons _ _ => rfl
      obtain ⟨R2, len⟩ := Rr.step cl hp hpx
      obtain ⟨t2, t3, t7, t8, t9, h⟩ := lbE3 (st := st) (ws := ws) (xs := xs) (nx := nx) (pre := pre) (r := r) (wn := fun u => isW (lab nx r u)) (s2 := s2) (s3 := s3) (s7 := s7) (s8 := s8) (s9 := s9) (fun u hu => by
        obtain ⟨ux, w, hl⟩ := (Rr.ws u).mp hu
        have uf : u ∈ st.fs := (Rr.fs u ux).mpr (by rw [hl]; intro z; cases z)
        have := Rr.lb u uf
        rw [hl] at this
        refine ⟨uf, ?_⟩
        rw [← Option.some.inj this, hl]
        cases w <;> rfl) hx hpx ⟨Rr.nd, Rr.sub, Nat.zero_le _⟩
      have le1 : st.fs.length ≤ xs.length := nodup_len _ _ Rr.nd Rr.sub
      have le2 := nodup_len _ _ R2.nd R2.sub
      obtain ⟨R, st', u2, u3, u7, u8, u9, h2, h3⟩ := whE nd cl hp hpx hx n (r + 1) _ _ t2 t3 t7 t8 t9 R2 (by
        split
        · omega
        · rename_i z
          have := List.length_pos_iff.mpr z
          omega)
      exact ⟨R, st', u2, u3, u7, u8, u9, (whL_t ht h).trans h2, h3⟩
end
end Pf
/-! Es: ends_of, end_in -/
namespace Pf
open PySem L2 Pu Ed
section
variable {xs : List Sd} {nx : Sd → List Sd}
theorem rnd0 (nd : xs.Nodup) : Rnd nx xs 0 ⟨fun a => if a ∈ xs then ((nx a).length : Int) else 1, xs.filter (fun a => (nx a).isEmpty), fun _ => (false, 0), []⟩ (xs.filter fun a => (nx a).isEmpty) := by
  have l0 : ∀ a, lab nx 0 a = if (nx a).isEmpty then some (false, 0) else none := fun a => lab.eq_1 ..
  have m : ∀ a, a ∈ xs.filter (fun a => (nx a).isEmpty) ↔ a ∈ xs ∧ (nx a).isEmpty = true := fun a => List.mem_filter
  refine ⟨nd.filter _, fun a h => ((m a).mp h).1, fun a ha => ?_, fun a h => ?_, nd.filter _, fun a => ?_, fun a ha => ?_, fun a ha => ?_⟩
  · show a ∈ xs.filter _ ↔ _
    rw [m a, l0 a]
    cases hn : (nx a).isEmpty <;> simp [ha]
  · rw [l0 a, if_pos ((m a).mp h).2]
  · rw [m a, l0 a]
    cases hn : (nx a).isEmpty <;> simp
  · show (if a ∈ xs then _ else _) = _
    rw [if_pos ha, List.countP_eq_zero.mpr fun v _ z => by
      obtain ⟨n, h, _⟩ := wb_of z
      omega]
    simp
  · show 0 < (if a ∈ xs then _ else _)
    rw [if_neg ha]
    decide
theorem ends_of_ev (nd : xs.Nodup) (cl : ∀ a ∈ xs, ∀ u ∈ nx a, u ∈ xs) {M : Nat} (hM : ∀ a ∈ xs, (nx a).length ≤ M) (hb : M * xs.length ≤ 1000000) (hx : xs.length < 499000) :
    ∃ (Rr : Nat) (fs : List Sd) (lb : Sd → Bool × Nat), fends_of [.dict (gD encS (nxD nx) xs)] = .ok (.dict (gD encS (fun a => labD (lb a)) fs)) ∧ Still nx (fun a => a ∈ xs) Rr ∧ (∀ a ∈ xs, a ∈ fs ↔ lab nx Rr a ≠ none) ∧ ∀ a ∈ fs, lab nx Rr a = some (lb a) := by
  have hp : ∀ a ∈ xs, ∀ u, (fillP nx xs (fun _ => []) u).count a = (nx a).count u := fun a ha u => by
    rw [fillP_count a u xs _ nd, if_pos ha]
    simp
  have hpx : ∀ u, ∀ a ∈ fillP nx xs (fun _ => []) u, a ∈ xs := fun u a h => by
    have h := List.count_pos_iff.mpr h
    rw [fillP_count a u xs _ nd] at h
    by_cases z : a ∈ xs
    · exact z
    · rw [if_neg z] at h
      simp at h
  have fo := fillO_g (enc := encS) keyS nd (nx := nx) cl hM xs (fun _ => []) (fun _ h => h) (fun a => by simpa using hb)
  have e1 : sahead 0 1 3 2 2 (startE 10 [.dict (gD encS (nxD nx) xs)]) = .nx [.dat (.dict (gD encS (nxD nx) xs)), .dat (.dict (gD encS (nxD (fillP nx xs fun _ => [])) xs)), .un, .un, .un, .un, .un, .un, .un, .un] := by
    show (if (true && true && true && true && headD (gD encS (nxD nx) xs) && keysOk (gD encS (nxD nx) xs) && decide ((gD encS (nxD nx) xs).length ≤ many)) = true then match fillO (gD encS (nxD nx) xs) (kvKeys (gD encS (nxD nx) xs)) ((gD encS (nxD nx) xs).map nilL) with
      | some as => Fl.nx [.dat (.dict (gD encS (nxD nx) xs)), .dat (.dict as), .un, .un, .un, .un, .un, .un, .un, .un]
      | none => .bad
      else .bad) = _
    rw [if_pos (by rw [gD_head keyS, keysOk_g keyS nd, gD_length, decide_eq_true (show xs.length ≤ many by unfold many; omega)]; rfl), gD_keys]
    have e2 : (gD encS (nxD nx) xs).map nilL = gD encS (fun a => .list (((fun _ => []) a : List Sd).map encS)) xs := by
      unfold gD
      rw [List.map_map]
      rfl
    rw [e2]
    show (match fillO (gD encS (fun a => .list ((nx a).map encS)) xs) (xs.map encS) (gD encS (fun a => .list (((fun _ => []) a : List Sd).map encS)) xs) with
      | some as => Fl.nx [.dat (.dict (gD encS (nxD nx) xs)), .dat (.dict as), .un, .un, .un, .un, .un, .un, .un, .un]
      | none => .bad) = _
    rw [fo]
    rfl
  generalize hpre : fillP nx xs (fun _ => []) = pre at hp hpx e1
  have kv : keysN (.dict (gD encS (nxD nx) xs)) = some (xs.map encS) := by
    show (if headD (gD encS (nxD nx) xs) then some (kvKeys (gD encS (nxD nx) xs)) else none) = _
    rw [if_pos (gD_head keyS _ _), gD_keys]
  have q1 : qends_of_1 [.dat (.dict (gD encS (nxD nx) xs)), .dat (.dict (gD encS (nxD pre) xs)), .un, .un, .un, .un, .un, .un, .un, .un] = .ok (xs.map fun a => .tuple [encS a, .int (nx a).length]) := by
    refine xlc_all (enc := encS) (xs := xs) _ (by show opt (keysN (.dict (gD encS (nxD nx) xs))) = _; rw [kv]; rfl) (by omega) fun a ha => ⟨_, rfl, rfl, ?_⟩
    show (((((opt (dixD (.dict (gD encS (nxD nx) xs)) (encS a))).bind fun x => opt (lenD x)).bind fun d => R.ok [d]).bind fun ds => R.ok (encS a :: ds)).bind mkT) = _
    rw [dix_g keyS ha]
    show mkT [encS a, .int ((nx a).map encS).length] = _
    rw [List.length_map]
    rfl
  have e3 : sasgD 4 (asL qends_of_1) [.dat (.dict (gD encS (nxD nx) xs)), .dat (.dict (gD encS (nxD pre) xs)), .un, .un, .un, .un, .un, .un, .un, .un] = .nx [.dat (.dict (gD encS (nxD nx) xs)), .dat (.dict (gD encS (nxD pre) xs)), .un, .un, .dic (gD encS (fun a => .int (nx a).length) xs), .un, .un, .un, .un, .un] := by
    unfold sasgD
    rw [asL_ev, q1, bind_ok, liftE_ok, dict_g keyS nd (by omega)]
    rfl
  have q2 : qends_of_2 [.dat (.dict (gD encS (nxD nx) xs)), .dat (.dict (gD encS (nxD pre) xs)), .un, .un, .dic (gD encS (fun a => .int (nx a).length) xs), .un, .un, .un, .un, .un] = .ok ((xs.filter fun a => (nx a).isEmpty).map fun a => .tuple [encS a, labD (false, 0)]) := by
    refine xlc_map (enc := encS) (xs := xs) (fun a => (nx a).isEmpty) _ (by show opt (keysN (.dict (gD encS (nxD nx) xs))) = _; rw [kv]; rfl) (by omega) fun a ha => ⟨_, rfl, ?_, fun _ => rfl⟩
    show (((opt (dixD (.dict (gD encS (nxD nx) xs)) (encS a))).bind fun d => opt (truD d)).bind fun k => R.ok (!k)) = _
    rw [dix_g keyS ha]
    show R.ok (!!((nx a).map encS).isEmpty) = _
    rw [Bool.not_not, List.isEmpty_map]
  have fl : (xs.filter fun a => (nx a).isEmpty).length ≤ xs.length := List.length_filter_le _ _
  have e4 : sasgD 5 (asL qends_of_2) [.dat (.dict (gD encS (nxD nx) xs)), .dat (.dict (gD encS (nxD pre) xs)), .un, .un, .dic (gD encS (fun a => .int (nx a).length) xs), .un, .un, .un, .un, .un] = .nx [.dat (.dict (gD encS (nxD nx) xs)), .dat (.dict (gD encS (nxD pre) xs)), .un, .un, .dic (gD encS (fun a => .int (nx a).length) xs), .dic (gD encS (fun _ => labD (false, 0)) (xs.filter fun a => (nx a).isEmpty)), .un, .un, .un, .un] := by
    unfold sasgD
    rw [asL_ev, q2, bind_ok, liftE_ok, dict_g keyS (nd.filter _) (by omega)]
    rfl
  have e5 : sasg 6 (asL (un1N keysN (xvV 5))) [.dat (.dict (gD encS (nxD nx) xs)), .dat (.dict (gD encS (nxD pre) xs)), .un, .un, .dic (gD encS (fun a => .int (nx a).length) xs), .dic (gD encS (fun _ => labD (false, 0)) (xs.filter fun a => (nx a).isEmpty)), .un, .un, .un, .un] =
      .nx (eE xs nx pre (fun a => if a ∈ xs then ((nx a).length : Int) else 1) (xs.filter fun a => (nx a).isEmpty) (fun _ => (false, 0)) (xs.filter fun a => (nx a).isEmpty) .un .un .un .un .un) := by
    rw [sasg_ev]
    have kv2 : keysN (.dict (gD encS (fun _ => labD (false, 0)) (xs.filter fun a => (nx a).isEmpty))) = some ((xs.filter fun a => (nx a).isEmpty).map encS) := by
      show (if headD (gD encS (fun _ => labD (false, 0)) (xs.filter fun a => (nx a).isEmpty)) then some (kvKeys (gD encS (fun _ => labD (false, 0)) (xs.filter fun a => (nx a).isEmpty))) else none) = _
      rw [if_pos (gD_head keyS _ _), gD_keys]
    show liftE ((opt (keysN (.dict (gD encS (fun _ => labD (false, 0)) (xs.filter fun a => (nx a).isEmpty))))).bind fun ds => R.ok (.list ds)) _ _ = _
    rw [kv2, gD_cong (v := fun a => PyData.int (nx a).length) (w := fun a => PyData.int (if a ∈ xs then ((nx a).length : Int) else 1)) fun a ha => by rw [if_pos ha]]
    rfl
  obtain ⟨Rr, st', t2, t3, t7, t8, t9, h1, h2⟩ := whE (pre := pre) nd cl hp hpx (by omega) 1000000 0 _ _ .un .un .un .un .un (rnd0 (nx := nx) nd) (by
    show 2 * (xs.length - (xs.filter fun a => (nx a).isEmpty).length) + _ < 1000000
    split <;> omega)
  refine ⟨Rr, st'.fs, st'.lb, runD_rt ?_, h2.still cl, h2.fs, h2.lb⟩
  unfold bends_of
  rw [sseq_ev, e1, then_nx, sseq_ev, e3, then_nx, sseq_ev, e4, then_nx, sseq_ev, e5, then_nx, sseq_ev]
  have e6 : lends_of_3 (eE xs nx pre (fun a => if a ∈ xs then ((nx a).length : Int) else 1) (xs.filter fun a => (nx a).isEmpty) (fun _ => (false, 0)) (xs.filter fun a => (nx a).isEmpty) .un .un .un .un .un) = _ := h1
  rw [e6, then_nx]
  rfl
def labO : Option (Bool × Nat) → D
  | some x => labD x
  | none => .tuple [.str "open", .int 0]
theorem end_in_ev {fs : List Sd} {lb : Sd → Bool × Nat} {o : Option (Bool × Nat)} {s : Sd} (h1 : s ∈ fs ↔ o ≠ none) (h2 : s ∈ fs → o = some (lb s)) : fend_in [.dict (gD encS (fun a => labD (lb a)) fs), encS s] = .ok (labO o) := by
  apply runD_rt
  unfold bend_in
  rw [sret_ev]
  have : xdget (xvV 0) (xvV 1) (xtup (lcons (xc (.str "open")) (lcons (xc (.int 0)) lnil))) [.dat (.dict (gD encS (fun a => labD (lb a)) fs)), .dat (encS s)] = .ok (labO o) := by
    show (if headD (gD encS (fun a => labD (lb a)) fs) = true then (opt (dorD (.dict (gD encS (fun a => labD (lb a)) fs)) (encS s) (.tuple [.str "open", .int 0]))) else .bad) = _
    rw [if_pos (gD_head keyS _ _), dor_g keyS]
    by_cases h : s ∈ fs
    · rw [if_pos h, h2 h]; rfl
    · rw [if_neg h]
      have : o = none := Classical.byContradiction fun z => h (h1.mpr z)
      rw [this]
      rfl
  show retF (xdget _ _ _ [.dat (.dict (gD encS (fun a => labD (lb a)) fs)), .dat (encS s)]) _ = _
  rw [this]
  rfl
end
end Pf
/-! Et: end_of, of small boards -/
namespace Pf
open PySem L2 Pu Ed
/-- a stand with nothing to lay -/
structure SmS (b : Bd) (s : Sd) : Prop where
  wk : s.Wk b.n
  man : ∀ m ∈ s.men, ManOk m
  l0 : s.l0 = 0
  l1 : s.l1 = 0
section
variable {b : Bd} {s : Sd} {m : Int × Int × Int}
theorem SmS.left (h : SmS b s) (w : Int) : s.left w = 0 := by unfold Sd.left; rw [h.l0, h.l1]; split <;> rfl
theorem SmS.steps (h : SmS b s) : stepsT b s = (whr (isM s.turn) s.men).flatMap fun q => (goalsT b s.men (whr (isM s.turn) s.men).length q).map fun g => (q, g) := by
  unfold stepsT
  rw [h.left, if_neg (by decide)]
theorem SmS.beg (hb : b.Ok) (h : SmS b s) (hm : m ∈ movesT b s) : 0 ≤ m.1 := by
  have hu := (moves_mem hb h.wk hm).1
  unfold movesU at hu
  obtain ⟨st, hst, h2⟩ := List.mem_flatMap.mp hu
  obtain ⟨t, _, rfl⟩ := List.mem_map.mp h2
  rw [h.steps] at hst
  obtain ⟨q, hq, h3⟩ := List.mem_flatMap.mp hst
  obtain ⟨g, _, rfl⟩ := List.mem_map.mp h3
  exact (whr_mem.mp hq).1
theorem set_manS {ms : List (Option Int)} {i : Nat} {v : Option Int} (h : ∀ m ∈ ms, ManOk m) (hv : ManOk v) : ∀ m ∈ ms.set i v, ManOk m := fun m hm => by
  rcases List.mem_or_eq_of_mem_set hm with h1 | rfl
  · exact h m h1
  · exact hv
theorem SmS.next (hb : b.Ok) (h : SmS b s) (hm : m ∈ movesT b s) : SmS b (doneT s m) := by
  have h0 := h.beg hb hm
  have hn : ¬ m.1 < 0 := by omega
  have tk : ManOk (some s.turn) := by rcases h.wk.turn with z | z <;> rw [z]; exact .inr (.inl rfl); exact .inr (.inr rfl)
  refine ⟨done_wk h.wk, ?_, ?_, ?_⟩
  · show ∀ x ∈ takM (stepM s.men m.1 m.2.1 s.turn) m.2.2, ManOk x
    have h1 : ∀ x ∈ stepM s.men m.1 m.2.1 s.turn, ManOk x := by
      unfold stepM
      rw [if_pos h0]
      exact set_manS (set_manS h.man (.inl rfl)) tk
    unfold takM
    split
    · exact set_manS h1 (.inl rfl)
    · exact h1
  · show (if m.1 < 0 ∧ s.turn = 0 then s.l0 - 1 else s.l0) = 0
    rw [if_neg (fun z => hn z.1), h.l0]
  · show (if m.1 < 0 ∧ s.turn = 1 then s.l1 - 1 else s.l1) = 0
    rw [if_neg (fun z => hn z.1), h.l1]
/-! ### few moves -/
theorem filter2_len {α : Type} {p q : α → Bool} (d : ∀ x, ¬ (p x = true ∧ q x = true)) : ∀ l : List α, (l.filter p).length + (l.filter q).length ≤ l.length
  | [] => Nat.le_refl _
  | x :: l => by
    have ih := filter2_len d l
    rw [List.filter_cons, List.filter_cons, List.length_cons]
    have := d x
    cases hp : p x <;> cases hq : q x <;> simp_all <;> omega
theorem mine_emp (ms : List (Option Int)) (w : Int) : (whr (isM w) ms).length + (emp ms).length ≤ ms.length := by
  unfold emp whr
  rw [List.length_map, List.length_map]
  refine Nat.le_trans (filter2_len (fun x ⟨h1, h2⟩ => ?_) (enumM ms)) (Nat.le_of_eq (enumM_length ms))
  unfold isM at h1
  rw [of_decide_eq_true h1] at h2
  cases h2
theorem mul12 : ∀ x y : Nat, x + y ≤ 7 → y * x ≤ 12
  | 0, y, _ => by omega
  | 1, y, h => by omega
  | 2, y, h => by omega
  | 3, y, h => by omega
  | 4, y, h => by omega
  | 5, y, h => by omega
  | 6, y, h => by omega
  | 7, y, h => by omega
  | n + 8, y, h => by omega
theorem tak_few {ms : List (Option Int)} (hl : ms.length ≤ 7) (goal w : Int) : (takT b ms goal w).length ≤ 7 := by
  have h1 : (whr (isM (1 - w)) ms).length ≤ 7 := Nat.le_trans (whr_length _ _) hl
  unfold takT
  split
  · split
    · exact Nat.le_trans (List.length_filter_le _ _) h1
    · split
      · exact h1
      · decide
  · decide
theorem SmS.few (hb : b.Ok) (h7 : b.n ≤ 7) (h : SmS b s) : (movesT b s).length ≤ 84 := by
  have hl : s.men.length ≤ 7 := by have := h.wk.len; omega
  have h1 : (stepsT b s).length ≤ 12 := by
    rw [h.steps]
    refine Nat.le_trans (flat_len (k := (emp s.men).length) fun q hq => ?_) (mul12 _ _ (Nat.le_trans (mine_emp s.men s.turn) hl))
    rw [List.length_map, (goals_perm hb h.wk hq _).length_eq]
    exact List.length_filter_le _ _
  have h2 : (movesU b s).length ≤ 84 := by
    unfold movesU
    refine Nat.le_trans (flat_len (k := 7) fun st _ => ?_) (by omega)
    rw [List.length_map]
    exact tak_few (by rw [stepM_len]; exact hl) _ _
  unfold movesT
  split
  · rw [(sortT_perm _ _).length_eq]; exact h2
  · exact Nat.zero_le _
theorem nxT_few (hb : b.Ok) (h7 : b.n ≤ 7) (h : SmS b s) : (nxT b s).length ≤ 84 := by
  unfold nxT
  rw [List.length_map]
  exact h.few hb h7
theorem nxT_sm (hb : b.Ok) (h : SmS b s) : ∀ u ∈ nxT b s, SmS b u := fun u hu => by
  obtain ⟨m, hm, rfl⟩ := List.mem_map.mp hu
  exact h.next hb hm
/-! ### all there are -/
def allM : Nat → List (List (Option Int))
  | 0 => [[]]
  | k + 1 => (allM k).flatMap fun l => [none :: l, some 0 :: l, some 1 :: l]
theorem flat3_len {α β : Type} {f : α → List β} {k : Nat} : ∀ {l : List α}, (∀ x ∈ l, (f x).length = k) → (l.flatMap f).length = k * l.length
  | [], _ => rfl
  | x :: l, h => by
    rw [List.flatMap_cons, List.length_append, h x List.mem_cons_self, flat3_len fun y hy => h y (List.mem_cons_of_mem _ hy), List.length_cons, Nat.mul_succ]
    omega
theorem allM_len : ∀ k, (allM k).length = 3 ^ k
  | 0 => rfl
  | k + 1 => by
    show ((allM k).flatMap _).length = _
    rw [flat3_len (k := 3) fun _ _ => rfl, allM_len k, Nat.pow_succ, Nat.mul_comm]
theorem allM_mem : ∀ (ms : List (Option Int)), (∀ m ∈ ms, ManOk m) → ms ∈ allM ms.length
  | [], _ => List.mem_singleton.mpr rfl
  | m :: ms, h => by
    show m :: ms ∈ (allM ms.length).flatMap _
    refine List.mem_flatMap.mpr ⟨ms, allM_mem ms fun x hx => h x (List.mem_cons_of_mem _ hx), ?_⟩
    rcases h m List.mem_cons_self with rfl | rfl | rfl <;> simp
def allS (n : Int) : List Sd := (allM n.toNat).flatMap fun ms => [⟨ms, 0, 0, 0⟩, ⟨ms, 0, 0, 1⟩]
theorem allS_mem (h : SmS b s) : s ∈ allS b.n := by
  refine List.mem_flatMap.mpr ⟨s.men, ?_, ?_⟩
  · have := h.wk.len
    rw [show b.n.toNat = s.men.length by omega]
    exact allM_mem _ h.man
  · obtain ⟨ms, x, y, t⟩ := s
    have h0 : x = 0 := h.l0
    have h1 : y = 0 := h.l1
    subst h0 h1
    rcases h.wk.turn with z | z
    · have z : t = 0 := z
      subst z; simp
    · have z : t = 1 := z
      subst z; simp
theorem allS_len (h7 : b.n ≤ 7) : (allS b.n).length ≤ 4374 := by
  unfold allS
  rw [flat3_len (k := 2) fun _ _ => rfl, allM_len]
  have : 3 ^ b.n.toNat ≤ 3 ^ 7 := Nat.pow_le_pow_right (by decide) (by omega)
  have e : (3 : Nat) ^ 7 = 2187 := by decide
  omega
/-- what is told of a stand's end -/
def EndIs (b : Bd) (s : Sd) (d : D) : Prop := ∃ (V : Sd → Prop) (r : Nat), Still (nxT b) V r ∧ V s ∧ d = labO (lab (nxT b) r s)
theorem end_of_ev (hb : b.Ok) (h7 : b.n ≤ 7) (hs : SmS b s) : ∃ d, fend_of [encB b, encS s] = .ok d ∧ EndIs b s d := by
  have hl := allS_len (b := b) h7
  obtain ⟨xs, h1, nd, hsx, hv, cl⟩ := all_stands_ev (b := b) (nx := nxT b) (V := SmS b) (U := allS b.n) (M := 84) hs (fun a ha xs ws => by
      unfold qall_stands_1
      have ml : (movesT b a).length ≤ 1000000 := Nat.le_trans (ha.few hb h7) (by decide)
      have e1 := xlc_all (enc := e3) (vs := [5]) (L := iseq (xcall 2 fmoves (lcons (xvE 0) (lcons (xvE 4) lnil)))) (f := gn 5) (T := tyes) (E := xcall 2 fdone (lcons (xvE 4) (lcons (xvE 5) lnil))) (e := eA b (encS s) (nxT b) xs ws (.dat (encS a))) (xs := movesT b a) (fun m => encS (doneT a m)) (by
        show (fmoves [encB b, encS a]).bind (fun d => opt (seqD d)) = _
        rw [moves_ok hb ha.wk]
        rfl) ml fun m hm => ⟨_, rfl, rfl, by
        show fdone [encS a, e3 m] = _
        exact done_ev ha.wk.turn (moves_mem hb ha.wk hm).2⟩
      rw [e1]
      unfold nxT
      rw [List.map_map]
      rfl) (fun a ha => nxT_sm hb ha) (fun a ha => nxT_few hb h7 ha) (fun a ha => allS_mem ha) (by omega)
  have xl : xs.length ≤ 4374 := Nat.le_trans (nodup_len xs _ nd fun a ha => allS_mem (hv a ha)) hl
  obtain ⟨Rr, fs, lb, h2, st, h3, h4⟩ := ends_of_ev nd cl (M := 84) (fun a ha => nxT_few hb h7 (hv a ha)) (by omega) (by omega)
  refine ⟨_, runD_rt ?_, (fun a => a ∈ xs), Rr, st, hsx, rfl⟩
  have h5 := end_in_ev (fs := fs) (lb := lb) (o := lab (nxT b) Rr s) (s := s) (h3 s hsx) (h4 s)
  unfold bend_of
  rw [sret_ev]
  generalize fall_stands = F1 at h1 ⊢
  generalize fends_of = F2 at h2 ⊢
  generalize fend_in = F3 at h5 ⊢
  show retF (((((F1 [encB b, encS s]).bind fun d => R.ok [d]).bind fun ds => if ds.length = 1 then F2 ds else .bad).bind fun d => R.ok [d, encS s]).bind fun ds => if ds.length = 2 then F3 ds else .bad) _ = _
  rw [h1]
  show retF (((F2 [.dict (gD encS (nxD (nxT b)) xs)]).bind fun d => R.ok [d, encS s]).bind fun ds => if ds.length = 2 then F3 ds else .bad) _ = _
  rw [h2]
  show retF (F3 [.dict (gD encS (fun a => labD (lb a)) fs), encS s]) _ = _
  rw [h5]
  rfl
theorem EndIs.same {d d' : D} (h : EndIs b s d) (h' : EndIs b s d') : d = d' := by
  obtain ⟨V, r, st, v, rfl⟩ := h
  obtain ⟨V', r', st', v', rfl⟩ := h'
  rw [st.same st' v v']
end
end Pf
/-! Eu: _law_is_right of what end_of tells -/
namespace M12
open PySem L2 Pu Pf Ed
def nOf (o : Option (Bool × Nat)) : Int := match o with
  | some x => x.2
  | none => 0
def wdO (o : Option (Bool × Nat)) : Str := match o with
  | some x => wdS x.1
  | none => "open"
theorem labO_pair (o : Option (Bool × Nat)) : labO o = .tuple [.str (wdO o), .int (nOf o)] := by cases o <;> rfl
theorem wd_lost (o : Option (Bool × Nat)) : eqD (.str (wdO o)) (.str "lost") = some (.bool (isL o)) := by
  match o with
  | none => kernel_rfl
  | some (false, n) => exact eq_lost false
  | some (true, n) => exact eq_lost true
theorem wd_won (o : Option (Bool × Nat)) : eqD (.str (wdO o)) (.str "won") = some (.bool (Ed.isW o)) := by
  match o with
  | none => kernel_rfl
  | some (false, n) => exact eq_won false
  | some (true, n) => exact eq_won true
theorem same_lab (o : Option (Bool × Nat)) : f_law_same 8 [labO o, labO o] = .ok (.bool true) := by
  refine same_ok (n := 1) ?_ (by decide)
  rw [labO_pair]
  refine .tup (show 2 ≤ 1000000 by decide) fun d hd => ?_
  rcases List.mem_cons.mp hd with rfl | hd
  · refine .str ?_
    match o with
    | none => kernel_rfl
    | some (false, n) => show SeqAt.shaped (.str (wdS false)) = true; kernel_rfl
    | some (true, n) => show SeqAt.shaped (.str (wdS true)) = true; kernel_rfl
  · rw [List.mem_singleton.mp hd]
    exact .int _
section
variable {b : Bd} {s : Sd} {val : Sd → D} {ks : List Sd}
abbrev eR (b : Bd) (s : Sd) (kn : D) (s3 s4 s5 s6 : Sl) : En := [.dat (encB b), .dat (encS s), .dat kn, s3, s4, s5, s6, .un, .un, .un]
theorem q23 {B : D} {kn : D} {s3 s5 s6 : Sl} (os : List (Option (Bool × Nat))) (hl : os.length ≤ 1000000) (t : Option (Bool × Nat) → Bool) (x : Str) (ht : ∀ o, eqD (.str (wdO o)) (.str x) = some (.bool (t o))) :
    xlc [8, 9] (iseq (xvV 4)) (gtup (gcons (gn 8) (gcons (gn 9) gnil))) (xbl (bin eqD (xvV 8) (xc (.str x)))) (xvE 9) (eR b s kn s3 (.dat (.list (os.map labO))) s5 s6) = .ok ((os.filter t).map fun o => .int (nOf o)) := by
  refine xlc_map (enc := labO) (xs := os) t _ rfl hl fun o _ => ?_
  rw [labO_pair]
  refine ⟨_, rfl, ?_, fun _ => rfl⟩
  show (opt (eqD (.str (wdO o)) (.str x))).bind blD = _
  rw [ht]
  rfl
theorem ints_of (os : List (Option (Bool × Nat))) : intsOf (os.map fun o => PyData.int (nOf o)) = some (os.map nOf) := by
  induction os with
  | nil => rfl
  | cons o os ih =>
    show (intsOf (os.map fun o => PyData.int (nOf o))).map (nOf o :: ·) = _
    rw [ih]
    rfl
theorem min_is {ns : List Int} (h : ns ≠ []) : ∃ m, minL ns = some m ∧ m ∈ ns ∧ ∀ y ∈ ns, m ≤ y := by
  cases ns with
  | nil => exact absurd rfl h
  | cons n ns =>
    obtain ⟨h1, h2, h3⟩ := foldl_min ns n
    refine ⟨_, rfl, ?_, fun y hy => ?_⟩
    · rcases h1 with h1 | h1
      · rw [h1]; exact List.mem_cons_self
      · exact List.mem_cons_of_mem _ h1
    · rcases List.mem_cons.mp hy with rfl | hy
      · exact h2
      · exact h3 y hy
theorem max_is {ns : List Int} (h : ns ≠ []) : ∃ m, maxL ns = some m ∧ m ∈ ns ∧ ∀ y ∈ ns, y ≤ m := by
  cases ns with
  | nil => exact absurd rfl h
  | cons n ns =>
    obtain ⟨h1, h2, h3⟩ := foldl_max ns n
    refine ⟨_, rfl, ?_, fun y hy => ?_⟩
    · rcases h1 with h1 | h1
      · rw [h1]; exact List.mem_cons_self
      · exact List.mem_cons_of_mem _ h1
    · rcases List.mem_cons.mp hy with rfl | hy
      · exact h2
      · exact h3 y hy
theorem eq_ints (i j : Int) : eqD (.int i) (.int j) = some (.bool (decide (i = j))) := by
  rw [eq_ev (shp_int i).shaped (shp_int j).shaped, eqv_enc int_inj int_pl]
theorem call2_ev {F : List D → R D} {A B : En → R D} {e : En} {x y : D} (h1 : A e = .ok x) (h2 : B e = .ok y) : xcall 2 F (lcons A (lcons B lnil)) e = F [x, y] := by
  rw [xcall_ev, lcons_ev, h1, bind_ok, lcons_ev, h2]
  rfl
theorem tup2_ev {f : D → Option D} {A : En → R D} {e : En} {x : Str} {d : D} {k : Int} (hA : A e = .ok d) (hf : f d = some (.int k)) : xtup (lcons (xc (.str x)) (lcons (bin addD (xc (.int 1)) (un1 f A)) lnil)) e = .ok (.tuple [.str x, .int (1 + k)]) := by
  have h : bin addD (xc (.int 1)) (un1 f A) e = .ok (.int (1 + k)) := by
    rw [bin_ev, xc_ev, bind_ok, un1_ev, hA, bind_ok, hf]
    rfl
  rw [xtup_ev, lcons_ev, xc_ev, bind_ok, lcons_ev, h]
  rfl
theorem is_right_ev (hb : b.Ok) (h7 : b.n ≤ 7) (hs : SmS b s) (hk : s ∈ ks) (hn : ∀ u ∈ nxT b s, u ∈ ks) (hv : ∀ u ∈ ks, EndIs b u (val u)) : f_law_is_right [encB b, encS s, .dict (gD encS val ks)] = .ok (.bool true) := by
  obtain ⟨V, r, st, vs, es⟩ := hv s hk
  have ev : ∀ u ∈ nxT b s, val u = labO (lab (nxT b) r u) := fun u hu => (hv u (hn u hu)).same ⟨V, r, st, st.closed s vs u hu, rfl⟩
  have hm := lmoves_ok hb hs.wk
  have few := hs.few hb h7
  generalize hos : (nxT b s).map (lab (nxT b) r) = os
  have ol : os.length ≤ 1000000 := by
    rw [← hos, List.length_map]
    exact Nat.le_trans (nxT_few hb h7 hs) (by decide)
  have q1 : ∀ s3, q_law_is_right_1 (eR b s (.dict (gD encS val ks)) s3 .un .un .un) = .ok (os.map labO) := fun s3 => by
    have := xlc_all (enc := e3) (vs := [7]) (L := iseq (xcall 2 f_law_moves (lcons (xvE 0) (lcons (xvE 1) lnil)))) (f := gn 7) (T := tyes) (E := bin dixD (xvV 2) (xcall 2 f_law_after (lcons (xvE 1) (lcons (xvE 7) lnil)))) (e := eR b s (.dict (gD encS val ks)) s3 .un .un .un) (xs := movesT b s) (fun m => labO (lab (nxT b) r (doneT s m))) (by
      show (f_law_moves [encB b, encS s]).bind (fun d => opt (seqD d)) = _
      rw [hm]
      rfl) (Nat.le_trans few (by decide)) fun m hmm => ⟨_, rfl, rfl, by
      have hu : doneT s m ∈ nxT b s := List.mem_map.mpr ⟨m, hmm, rfl⟩
      show (f_law_after [encS s, e3 m]).bind (fun y => opt (dixD (.dict (gD encS val ks)) y)) = _
      rw [lafter_ev hs.wk.turn (by have := hs.wk.len; omega) (moves_mem hb hs.wk hmm).2, bind_ok, dix_g keyS (hn _ hu), ev _ hu]
      rfl⟩
    unfold q_law_is_right_1
    rw [this, ← hos]
    unfold nxT
    rw [List.map_map, List.map_map]
    rfl
  have q2 : q_law_is_right_2 (eR b s (.dict (gD encS val ks)) (.dat (val s)) (.dat (.list (os.map labO))) .un .un) = .ok ((os.filter isL).map fun o => .int (nOf o)) := q23 (B := .none) os ol isL "lost" wd_lost
  have q3 : q_law_is_right_3 (eR b s (.dict (gD encS val ks)) (.dat (val s)) (.dat (.list (os.map labO))) (.dat (.list ((os.filter isL).map fun o => .int (nOf o)))) .un) = .ok ((os.filter Ed.isW).map fun o => .int (nOf o)) := q23 (B := .none) os ol Ed.isW "won" wd_won
  apply runD_rt
  unfold b_law_is_right
  rw [sseq_ev]
  have a1 : sasg 3 (bin dixD (xvV 2) (xvV 1)) (startE 10 [encB b, encS s, .dict (gD encS val ks)]) = .nx (eR b s (.dict (gD encS val ks)) (.dat (val s)) .un .un .un) := by
    show liftE (opt (dixD (.dict (gD encS val ks)) (encS s))) _ _ = _
    rw [dix_g keyS hk]
    rfl
  rw [a1, then_nx, sseq_ev]
  have a2 : (tor (tnot (xtru (un1 (isiD "tuple") (xvV 3)))) (xbl (bin neD (un1 lenD (xvV 3)) (xc (.int 2))))) (eR b s (.dict (gD encS val ks)) (.dat (val s)) .un .un .un) = .ok false := by
    rw [es, labO_pair]
    simp
    try kernel_rfl
  rw [sif_f a2, snil_ev, then_nx, sseq_ev]
  have a3 : sasg 4 (asL q_law_is_right_1) (eR b s (.dict (gD encS val ks)) (.dat (val s)) .un .un .un) = .nx (eR b s (.dict (gD encS val ks)) (.dat (val s)) (.dat (.list (os.map labO))) .un .un) := by
    rw [sasg_ev, asL_ev, q1]
    rfl
  rw [a3, then_nx, sseq_ev]
  have a4 : (tnot (xtru (xvV 4))) (eR b s (.dict (gD encS val ks)) (.dat (val s)) (.dat (.list (os.map labO))) .un .un) = .ok os.isEmpty := by
    show R.ok (!!(os.map labO).isEmpty) = _
    rw [Bool.not_not, List.isEmpty_map]
  by_cases he : nxT b s = []
  · have : os = [] := by rw [← hos, he]; rfl
    rw [this] at a4 ⊢
    rw [sif_t a4, sret_ev]
    have hl := same_lab (some (false, 0))
    rw [es, ask_end (r := r) s he]
    generalize f_law_same 8 = F at hl ⊢
    show (retF (F [labO (some (false, 0)), labO (some (false, 0))]) _).andThen _ = _
    rw [hl]
    rfl
  · have on : os ≠ [] := fun z => he (List.map_eq_nil_iff.mp (hos.trans z))
    have a4' : (tnot (xtru (xvV 4))) (eR b s (.dict (gD encS val ks)) (.dat (val s)) (.dat (.list (os.map labO))) .un .un) = .ok false := by
      rw [a4]
      cases os with
      | nil => exact absurd rfl on
      | cons _ _ => rfl
    have mem : ∀ o ∈ os, ∃ u ∈ nxT b s, lab (nxT b) r u = o := fun o ho => by rw [← hos] at ho; exact List.mem_map.mp ho
    have mem' : ∀ u ∈ nxT b s, lab (nxT b) r u ∈ os := fun u hu => by rw [← hos]; exact List.mem_map.mpr ⟨u, hu, rfl⟩
    rw [sif_f a4', snil_ev, then_nx, sseq_ev]
    have a5 : sasg 5 (asL q_law_is_right_2) (eR b s (.dict (gD encS val ks)) (.dat (val s)) (.dat (.list (os.map labO))) .un .un) = .nx (eR b s (.dict (gD encS val ks)) (.dat (val s)) (.dat (.list (os.map labO))) (.dat (.list ((os.filter isL).map fun o => .int (nOf o)))) .un) := by
      rw [sasg_ev, asL_ev, q2]
      rfl
    have a6 : sasg 6 (asL q_law_is_right_3) (eR b s (.dict (gD encS val ks)) (.dat (val s)) (.dat (.list (os.map labO))) (.dat (.list ((os.filter isL).map fun o => .int (nOf o)))) .un) = .nx (eR b s (.dict (gD encS val ks)) (.dat (val s)) (.dat (.list (os.map labO))) (.dat (.list ((os.filter isL).map fun o => .int (nOf o)))) (.dat (.list ((os.filter Ed.isW).map fun o => .int (nOf o))))) := by
      rw [sasg_ev, asL_ev, q3]
      rfl
    rw [a5, then_nx, sseq_ev, a6, then_nx, sseq_ev]
    have a7 : (xtru (xvV 5)) (eR b s (.dict (gD encS val ks)) (.dat (val s)) (.dat (.list (os.map labO))) (.dat (.list ((os.filter isL).map fun o => .int (nOf o)))) (.dat (.list ((os.filter Ed.isW).map fun o => .int (nOf o))))) = .ok (!(os.filter isL).isEmpty) := by
      show R.ok (!((os.filter isL).map fun o => PyData.int (nOf o)).isEmpty) = _
      rw [List.isEmpty_map]
    by_cases hL : os.filter isL = []
    · rw [hL] at a7 ⊢
      rw [sif_f a7, snil_ev, then_nx, sseq_ev]
      have noL : ∀ u ∈ nxT b s, ∀ n, lab (nxT b) r u ≠ some (false, n) := fun u hu n z => by
        have : lab (nxT b) r u ∈ os.filter isL := List.mem_filter.mpr ⟨mem' u hu, by rw [z]; rfl⟩
        rw [hL] at this
        cases this
      have a8 : (xbl (bin eqD (un1 lenD (xvV 6)) (un1 lenD (xvV 4)))) (eR b s (.dict (gD encS val ks)) (.dat (val s)) (.dat (.list (os.map labO))) (.dat (.list (([] : List (Option (Bool × Nat))).map fun o => .int (nOf o)))) (.dat (.list ((os.filter Ed.isW).map fun o => .int (nOf o))))) = .ok (decide (((os.filter Ed.isW).length : Int) = os.length)) := by
        show (opt (eqD (.int ((os.filter Ed.isW).map fun o => PyData.int (nOf o)).length) (.int (os.map labO).length))).bind blD = _
        rw [eq_ints, List.length_map, List.length_map]
        rfl
      by_cases hW : (os.filter Ed.isW).length = os.length
      · rw [decide_eq_true (by omega)] at a8
        rw [sif_t a8, sret_ev]
        have fw : os.filter Ed.isW = os := List.filter_eq_self.mpr (List.length_filter_eq_length_iff.mp hW)
        rw [fw]
        obtain ⟨m, hm1, hm2, hm3⟩ := max_is (ns := os.map nOf) (by intro z; exact on (List.map_eq_nil_iff.mp z))
        obtain ⟨o, ho, eo⟩ := List.mem_map.mp hm2
        obtain ⟨k, ek⟩ := isW_of (List.length_filter_eq_length_iff.mp hW o ho)
        obtain ⟨u, hu, lu⟩ := mem o ho
        have mk : m = (k : Int) := by rw [← eo, ek]; rfl
        have ans : lab (nxT b) r s = some (false, k + 1) := ask_lost st vs hu (by rw [lu, ek]) fun x hx => by
          have hx' := mem' x hx
          obtain ⟨n, hn⟩ := isW_of (List.length_filter_eq_length_iff.mp hW _ hx')
          refine ⟨n, ?_, hn⟩
          have := hm3 (nOf (lab (nxT b) r x)) (List.mem_map.mpr ⟨_, hx', rfl⟩)
          rw [hn] at this
          have this : (n : Int) ≤ m := this
          omega
        have hl := same_lab (some (false, k + 1))
        rw [es, ans]
        have mx : maxD (.list (os.map fun o => .int (nOf o))) = some (.int k) := by
          show ((intsOf (os.map fun o => PyData.int (nOf o))).bind fun ns => (maxL ns).map PyData.int) = _
          rw [ints_of]
          show (maxL (os.map nOf)).map PyData.int = _
          rw [hm1, mk]
          rfl
        have due : labO (some (false, k + 1)) = .tuple [.str "lost", .int (1 + (k : Int))] := by
          show PyData.tuple [.str "lost", .int ((k + 1 : Nat) : Int)] = _
          rw [show ((k + 1 : Nat) : Int) = 1 + (k : Int) by omega]
        rw [due] at hl ⊢
        generalize f_law_same 8 = F at hl ⊢
        rw [call2_ev (F := F) (x := .tuple [.str "lost", .int (1 + (k : Int))]) (y := .tuple [.str "lost", .int (1 + (k : Int))]) rfl (tup2_ev (d := .list (os.map fun o => .int (nOf o))) rfl mx), hl]
        rfl
      · rw [decide_eq_false (by omega)] at a8
        rw [sif_f a8, snil_ev, then_nx, sret_ev]
        have ans : lab (nxT b) r s = none := ask_open he noL (Classical.byContradiction fun z => hW (List.length_filter_eq_length_iff.mpr fun o ho => by
          obtain ⟨u, hu, lu⟩ := mem o ho
          have : ∃ n, lab (nxT b) r u = some (true, n) := Classical.byContradiction fun y => z ⟨u, hu, fun n e => y ⟨n, e⟩⟩
          obtain ⟨n, e⟩ := this
          rw [← lu, e]
          rfl))
        have hl := same_lab none
        rw [es, ans]
        generalize f_law_same 8 = F at hl ⊢
        show retF (F [labO none, labO none]) _ = _
        rw [hl]
        rfl
    · have a7' : (xtru (xvV 5)) (eR b s (.dict (gD encS val ks)) (.dat (val s)) (.dat (.list (os.map labO))) (.dat (.list ((os.filter isL).map fun o => .int (nOf o)))) (.dat (.list ((os.filter Ed.isW).map fun o => .int (nOf o))))) = .ok true := by
        rw [a7]
        cases hh : os.filter isL with
        | nil => exact absurd hh hL
        | cons _ _ => rfl
      rw [sif_t a7', sret_ev]
      obtain ⟨m, hm1, hm2, hm3⟩ := min_is (ns := (os.filter isL).map nOf) (by intro z; exact hL (List.map_eq_nil_iff.mp z))
      obtain ⟨o, ho, eo⟩ := List.mem_map.mp hm2
      obtain ⟨ho1, ho2⟩ := List.mem_filter.mp ho
      obtain ⟨k, ek⟩ := isL_of ho2
      obtain ⟨u, hu, lu⟩ := mem o ho1
      have mk : m = (k : Int) := by rw [← eo, ek]; rfl
      have ans : lab (nxT b) r s = some (true, k + 1) := ask_won st vs hu (by rw [lu, ek]) fun x hx n hn => by
        have := hm3 (nOf (lab (nxT b) r x)) (List.mem_map.mpr ⟨_, List.mem_filter.mpr ⟨mem' x hx, by rw [hn]; rfl⟩, rfl⟩)
        rw [hn] at this
        have this : m ≤ (n : Int) := this
        omega
      have hl := same_lab (some (true, k + 1))
      rw [es, ans]
      have mx : minD (.list ((os.filter isL).map fun o => .int (nOf o))) = some (.int k) := by
        show ((intsOf ((os.filter isL).map fun o => PyData.int (nOf o))).bind fun ns => (minL ns).map PyData.int) = _
        rw [ints_of]
        show (minL ((os.filter isL).map nOf)).map PyData.int = _
        rw [hm1, mk]
        rfl
      have due : labO (some (true, k + 1)) = .tuple [.str "won", .int (1 + (k : Int))] := by
        show PyData.tuple [.str "won", .int ((k + 1 : Nat) : Int)] = _
        rw [show ((k + 1 : Nat) : Int) = 1 + (k : Int) by omega]
      rw [due] at hl ⊢
      generalize f_law_same 8 = F at hl ⊢
      rw [call2_ev (F := F) (x := .tuple [.str "won", .int (1 + (k : Int))]) (y := .tuple [.str "won", .int (1 + (k : Int))]) rfl (tup2_ev (d := .list ((os.filter isL).map fun o => .int (nOf o))) rfl mx), hl]
      rfl
end
end M12
namespace M12
open PySem L2 Pu Pf Ed
section
variable {b : Bd} {s : Sd}
def val (b : Bd) (u : Sd) : D := match fend_of [encB b, encS u] with
  | .ok d => d
  | _ => .none
theorem val_ev (hb : b.Ok) (h7 : b.n ≤ 7) (hs : SmS b s) : fend_of [encB b, encS s] = .ok (val b s) ∧ EndIs b s (val b s) := by
  obtain ⟨d, h1, h2⟩ := end_of_ev hb h7 hs
  have e : val b s = d := by unfold val; rw [h1]
  rw [e]
  exact ⟨h1, h2⟩
abbrev eL (b : Bd) (s0 s1 s2 s4 : Sl) (ks : List Sd) (s6 s7 s8 s9 : Sl) : En := [s0, s1, s2, .dat (encB b), s4, .dic (gD encS (val b) ks), s6, s7, s8, s9, .un]
def Kn (b : Bd) (ks : List Sd) : Prop := ks.Nodup ∧ ∀ u ∈ ks, SmS b u
theorem Kn.len (h7 : b.n ≤ 7) {ks : List Sd} (h : Kn b ks) : ks.length < 1000000 := by
  have := nodup_len ks (allS b.n) h.1 fun a ha => allS_mem (h.2 a ha)
  have := allS_len (b := b) h7
  omega
theorem Kn.add {ks : List Sd} {u : Sd} (h : Kn b ks) (hu : SmS b u) : Kn b (addK ks u) := ⟨addK_nodup h.1, fun v hv => by
  rcases addK_mem.mp hv with hv | rfl
  · exact h.2 v hv
  · exact hu⟩
variable {s0 s1 s2 s4 t5' s6 s7 s8 s9 : Sl} {ks : List Sd}
theorem put_ev (hb : b.Ok) (h7 : b.n ≤ 7) {u : Sd} (hu : SmS b u) (K : Kn b ks) {i : Nat} (hi : getE (eL b s0 s1 s2 s4 ks s6 s7 s8 s9) i = .ok (encS u)) :
    sdput 5 (xvE i) (xcall 2 fend_of (lcons (xvE 3) (lcons (xvE i) lnil))) (eL b s0 s1 s2 s4 ks s6 s7 s8 s9) = .nx (eL b s0 s1 s2 s4 (addK ks u) s6 s7 s8 s9) := by
  unfold sdput
  rw [call2_ev (F := fend_of) (x := encB b) (y := encS u) rfl hi, (val_ev hb h7 hu).1, liftE_ok]
  show liftE (getE (eL b s0 s1 s2 s4 ks s6 s7 s8 s9) i) _ (dputAt 5 _ (gD encS (val b) ks) _) = _
  rw [hi, liftE_ok]
  unfold dputAt
  rw [keyD_S]
  show (if (gD encS (val b) ks).length < many then _ else _) = _
  rw [gD_length, if_pos (show ks.length < many from K.len h7)]
  have same : ∀ xs, gD encS (updV (val b) u (val b u)) xs = gD encS (val b) xs := fun xs => gD_cong fun c _ => by
    by_cases z : c = u
    · subst z; rw [updV_same]
    · rw [updV_ne z]
  unfold addK
  by_cases h : u ∈ ks
  · rw [dput_old keyS _ h, same, if_pos h]
    rfl
  · rw [dput_new keyS _ h, same, if_neg h]
    rfl
theorem lb1 (hb : b.Ok) (h7 : b.n ≤ 7) {o : Sd} (ho : SmS b o) {m : Int × Int × Int} (hm : m ∈ movesT b o) (K : Kn b ks) :
    lblaw_1 (eL b s0 s1 s2 s4 ks s6 (.dat (encS o)) (.dat (e3 m)) s9) = .nx (eL b s0 s1 s2 s4 (addK ks (doneT o m)) s6 (.dat (encS o)) (.dat (e3 m)) (.dat (encS (doneT o m)))) := by
  unfold lblaw_1
  rw [sseq_ev]
  have e1 : sasg 9 (xcall 2 f_law_after (lcons (xvE 7) (lcons (xvE 8) lnil))) (eL b s0 s1 s2 s4 ks s6 (.dat (encS o)) (.dat (e3 m)) s9) = .nx (eL b s0 s1 s2 s4 ks s6 (.dat (encS o)) (.dat (e3 m)) (.dat (encS (doneT o m)))) := by
    rw [sasg_ev, call2_ev (F := f_law_after) (x := encS o) (y := e3 m) rfl rfl, lafter_ev ho.wk.turn (by have := ho.wk.len; omega) (moves_mem hb ho.wk hm).2]
    rfl
  rw [e1, then_nx]
  have t2 : xbl (bin notInD (xvV 9) (xvV 5)) (eL b s0 s1 s2 s4 ks s6 (.dat (encS o)) (.dat (e3 m)) (.dat (encS (doneT o m)))) = .ok (!decide (doneT o m ∈ ks)) := by
    show (opt (notInD (encS (doneT o m)) (.dict (gD encS (val b) ks)))).bind blD = _
    rw [notIn_g keyS]
    rfl
  by_cases h : doneT o m ∈ ks
  · rw [decide_eq_true h] at t2
    rw [sif_f t2]
    unfold addK
    rw [if_pos h]
    rfl
  · rw [decide_eq_false h] at t2
    rw [sif_t t2]
    exact put_ev hb h7 (ho.next hb hm) K rfl
theorem ll1 (hb : b.Ok) (h7 : b.n ≤ 7) {o : Sd} (ho : SmS b o) (K : Kn b ks) : ∃ ks' t8 t9, llaw_1 (eL b s0 s1 s2 s4 ks s6 (.dat (encS o)) s8 s9) = .nx (eL b s0 s1 s2 s4 ks' s6 (.dat (encS o)) t8 t9) ∧ Kn b ks' ∧ (∀ u ∈ ks, u ∈ ks') ∧ ∀ u ∈ nxT b o, u ∈ ks' := by
  obtain ⟨e', h1, ks', t8, t9, rfl, K', sub, all⟩ := forL_inv (enc := e3) (f := gn 8) (B := lblaw_1) (fun p e => ∃ ks' t8 t9, e = eL b s0 s1 s2 s4 ks' s6 (.dat (encS o)) t8 t9 ∧ Kn b ks' ∧ (∀ u ∈ ks, u ∈ ks') ∧ ∀ m ∈ p, doneT o m ∈ ks') (movesT b o) [] (eL b s0 s1 s2 s4 ks s6 (.dat (encS o)) s8 s9) ⟨ks, s8, s9, rfl, K, fun _ h => h, fun m h => by cases h⟩ fun p m r e hp ⟨k1, t8, t9, he, K1, sub, all⟩ => by
    subst he
    rw [List.nil_append] at hp
    have hm : m ∈ movesT b o := by rw [hp]; simp
    refine ⟨_, _, rfl, .inl (lb1 (s9 := t9) hb h7 ho hm K1), addK k1 (doneT o m), .dat (e3 m), .dat (encS (doneT o m)), rfl, K1.add (ho.next hb hm), fun u hu => addK_mem.mpr (.inl (sub u hu)), fun x hx => ?_⟩
    rcases List.mem_append.mp hx with hx | hx
    · exact addK_mem.mpr (.inl (all x hx))
    · rw [List.mem_singleton.mp hx]; exact addK_mem.mpr (.inr rfl)
  refine ⟨ks', t8, t9, sfor_nx ?_ h1, K', sub, fun u hu => ?_⟩
  · rw [iseq_ev, call2_ev (F := f_law_moves) (x := encB b) (y := encS o) rfl rfl, lmoves_ok hb ho.wk]
    rfl
  · obtain ⟨m, hm, rfl⟩ := List.mem_map.mp hu
    exact all m hm
theorem ll2 (hb : b.Ok) (h7 : b.n ≤ 7) {ss : List Sd} (hss : ∀ o ∈ ss, SmS b o) (K : Kn b ks) : ∃ ks' t7 t8 t9, llaw_2 (eL b s0 s1 s2 s4 ks (.dat (.list (ss.map encS))) s7 s8 s9) = .nx (eL b s0 s1 s2 s4 ks' (.dat (.list (ss.map encS))) t7 t8 t9) ∧ Kn b ks' ∧ ∀ o ∈ ss, o ∈ ks' ∧ ∀ u ∈ nxT b o, u ∈ ks' := by
  obtain ⟨e', h1, ks', t7, t8, t9, rfl, K', all⟩ := forL_inv (enc := encS) (f := gn 7) (B := lblaw_2) (fun p e => ∃ ks' t7 t8 t9, e = eL b s0 s1 s2 s4 ks' (.dat (.list (ss.map encS))) t7 t8 t9 ∧ Kn b ks' ∧ ∀ o ∈ p, o ∈ ks' ∧ ∀ u ∈ nxT b o, u ∈ ks') ss [] (eL b s0 s1 s2 s4 ks (.dat (.list (ss.map encS))) s7 s8 s9) ⟨ks, s7, s8, s9, rfl, K, fun m h => by cases h⟩ fun p o r e hp ⟨k1, t7, t8, t9, he, K1, all⟩ => by
    subst he
    rw [List.nil_append] at hp
    have ho : SmS b o := hss o (by rw [hp]; simp)
    have e1 := put_ev (s0 := s0) (s1 := s1) (s2 := s2) (s4 := s4) (s6 := .dat (.list (ss.map encS))) (s7 := .dat (encS o)) (s8 := t8) (s9 := t9) hb h7 ho K1 (i := 7) rfl
    obtain ⟨k2, u8, u9, e2, K2, sub, nxs⟩ := ll1 (s0 := s0) (s1 := s1) (s2 := s2) (s4 := s4) (s6 := .dat (.list (ss.map encS))) (s8 := t8) (s9 := t9) hb h7 ho (K1.add ho)
    refine ⟨_, _, rfl, .inl (?_ : lblaw_2 (eL b s0 s1 s2 s4 k1 (.dat (.list (ss.map encS))) (.dat (encS o)) t8 t9) = .nx (eL b s0 s1 s2 s4 k2 (.dat (.list (ss.map encS))) (.dat (encS o)) u8 u9)), k2, .dat (encS o), u8, u9, rfl, K2, fun x hx => ?_⟩
    · unfold lblaw_2
      rw [sseq_ev, e1, then_nx]
      exact e2
    · rcases List.mem_append.mp hx with hx | hx
      · exact ⟨sub x (addK_mem.mpr (.inl (all x hx).1)), fun u hu => sub u (addK_mem.mpr (.inl ((all x hx).2 u hu)))⟩
      · rw [List.mem_singleton.mp hx]
        exact ⟨sub o (addK_mem.mpr (.inr rfl)), nxs⟩
  exact ⟨ks', t7, t8, t9, sfor_nx rfl h1, K', all⟩
theorem cut_sub {α : Type} {xs : List α} {lo hi : Option Int} {x : α} (h : x ∈ cutD xs lo hi) : x ∈ xs := by
  unfold cutD at h
  first
    | exact List.mem_of_mem_drop (List.mem_of_mem_take h)
    | exact List.mem_of_mem_take (List.mem_of_mem_drop h)
theorem cut_mapE {α β : Type} (f : α → β) (xs : List α) (lo hi : Option Int) : cutD (xs.map f) lo hi = (cutD xs lo hi).map f := by
  unfold cutD
  simp only [List.length_map, List.map_take, List.map_drop]
theorem cut_le {α : Type} (xs : List α) (lo hi : Option Int) : (cutD xs lo hi).length ≤ xs.length := by
  unfold cutD
  simp
  omega
/-- what is asked of one stand -/
theorem ask_ev (hb : b.Ok) (h7 : b.n ≤ 7) (hs : SmS b s) : ∃ t5 t6 t7 t8 t9,
    (sseq (sdnew 5) (sseq (sdput 5 (xvE 4) (xcall 2 fend_of (lcons (xvE 3) (lcons (xvE 4) lnil)))) (sseq (sasg 6 (bin addD (asL (xlst (lcons (xvE 4) lnil))) (asL qlaw_2))) (sseq llaw_2 (sif (tnot (xtru (un1 allD (asL qlaw_3)))) (sret (xc (.bool false))) snil))))) [s0, s1, s2, .dat (encB b), .dat (encS s), t5', s6, s7, s8, s9, .un] = .nx [s0, s1, s2, .dat (encB b), .dat (encS s), t5, t6, t7, t8, t9, .un] := by
  have K0 : Kn b [] := ⟨List.nodup_nil, fun u h => by cases h⟩
  rw [sseq_ev]
  show ∃ t5 t6 t7 t8 t9, (Fl.nx (eL b s0 s1 s2 (.dat (encS s)) [] s6 s7 s8 s9)).andThen _ = _
  rw [then_nx, sseq_ev]
  have e1 := put_ev (s0 := s0) (s1 := s1) (s2 := s2) (s4 := .dat (encS s)) (s6 := s6) (s7 := s7) (s8 := s8) (s9 := s9) hb h7 hs K0 (i := 4) rfl
  rw [e1, then_nx, sseq_ev]
  have K1 := K0.add hs
  generalize addK [] s = k1 at K1
  have few := hs.few hb h7
  generalize hms : cutD (movesT b s) none (some 2) = ms
  have msub : ∀ m ∈ ms, m ∈ movesT b s := fun m hm => cut_sub (by rw [hms]; exact hm)
  have mle : ms.length ≤ 84 := by rw [← hms]; exact Nat.le_trans (cut_le _ _ _) few
  have q2 : qlaw_2 (eL b s0 s1 s2 (.dat (encS s)) k1 s6 s7 s8 s9) = .ok (ms.map fun m => encS (doneT s m)) := by
    unfold qlaw_2
    refine xlc_all (enc := e3) (xs := ms) _ ?_ (by omega) fun m hm => ⟨_, rfl, rfl, ?_⟩
    · show ((f_law_moves [encB b, encS s]).bind fun d => opt (sliceD d none (some 2))).bind (fun d => opt (seqD d)) = _
      rw [lmoves_ok hb hs.wk, bind_ok]
      show R.ok (cutD ((movesT b s).map e3) none (some 2)) = _
      rw [cut_mapE, hms]
    · show f_law_after [encS s, e3 m] = _
      exact lafter_ev hs.wk.turn (by have := hs.wk.len; omega) (moves_mem hb hs.wk (msub m hm)).2
  have e2 : sasg 6 (bin addD (asL (xlst (lcons (xvE 4) lnil))) (asL qlaw_2)) (eL b s0 s1 s2 (.dat (encS s)) k1 s6 s7 s8 s9) = .nx (eL b s0 s1 s2 (.dat (encS s)) k1 (.dat (.list ((s :: ms.map (doneT s)).map encS))) s7 s8 s9) := by
    rw [sasg_ev, bin_ev, asL_ev, asL_ev, q2]
    show liftE (opt (if [encS s].length + (ms.map fun m => encS (doneT s m)).length ≤ many then some (.list ([encS s] ++ ms.map fun m => encS (doneT s m))) else none)) _ _ = _
    rw [if_pos (by rw [List.length_map]; show 1 + ms.length ≤ 1000000; omega), List.map_cons, List.map_map]
    rfl
  rw [e2, then_nx, sseq_ev]
  have hss : ∀ o ∈ s :: ms.map (doneT s), SmS b o := fun o ho => by
    rcases List.mem_cons.mp ho with rfl | ho
    · exact hs
    · obtain ⟨m, hm, rfl⟩ := List.mem_map.mp ho
      exact hs.next hb (msub m hm)
  have sl : (s :: ms.map (doneT s)).length ≤ 1000000 := by
    rw [List.length_cons, List.length_map]; omega
  generalize s :: ms.map (doneT s) = ss at hss sl
  obtain ⟨k2, t7, t8, t9, e3', K2, all⟩ := ll2 (s0 := s0) (s1 := s1) (s2 := s2) (s4 := .dat (encS s)) (s7 := s7) (s8 := s8) (s9 := s9) hb h7 hss K1
  rw [e3', then_nx]
  have q3 : qlaw_3 (eL b s0 s1 s2 (.dat (encS s)) k2 (.dat (.list (ss.map encS))) t7 t8 t9) = .ok (ss.map fun _ => .bool true) := by
    unfold qlaw_3
    refine xlc_all (enc := encS) (xs := ss) _ rfl sl fun o ho => ⟨_, rfl, rfl, ?_⟩
    show (match f_law_is_right [encB b, encS o, .dict (gD encS (val b) k2)] with | .ok d => if flatD d then R.ok d else .bad | .ex c => .ex c | .bad => .bad) = _
    rw [is_right_ev hb h7 (hss o ho) (all o ho).1 (all o ho).2 fun u hu => (val_ev hb h7 (K2.2 u hu)).2]
    rfl
  have ta : (tnot (xtru (un1 allD (asL qlaw_3)))) (eL b s0 s1 s2 (.dat (encS s)) k2 (.dat (.list (ss.map encS))) t7 t8 t9) = .ok false := by
    have al : allD (.list (ss.map fun _ => PyData.bool true)) = some (.bool true) := by
      have hbs : boolsOf (ss.map fun _ => PyData.bool true) = some (ss.map fun _ => true) := by
        have := boolsOf_map (ss.map fun _ => true)
        rw [List.map_map] at this
        exact this
      show (boolsOf (ss.map fun _ => PyData.bool true)).map _ = _
      rw [hbs]
      simp
    rw [tnot_ev, xtru_ev, un1_ev, asL_ev, q3, bind_ok, bind_ok, al]
    rfl
  rw [sif_f ta]
  exact ⟨_, _, _, _, _, rfl⟩
/-! ### the board -/
def lineT (n : Int) : List (Int × Int) := (upto (n - 1).toNat).map fun p => (p, p + 1)
def lineB (b : Bd) : Bd := ⟨b.n, lineT b.n, b.rows⟩
theorem line_ok (hb : b.Ok) (h5 : 5 ≤ b.n) (h7 : b.n ≤ 7) : (lineB b).Ok := by
  have ht : (lineT b.n).Pairwise (fun p q => lexLe (f2 p) (f2 q) = true ∧ p ≠ q) ∧ (∀ p ∈ lineT b.n, 0 ≤ p.1 ∧ p.1 < p.2 ∧ p.2 < b.n) ∧ (lineT b.n).length ≤ 200 := by
    have : b.n = 5 ∨ b.n = 6 ∨ b.n = 7 := by omega
    rcases this with h | h | h <;> rw [h] <;> exact ⟨by decide, by decide, by decide⟩
  exact ⟨hb.lo, hb.hi, ht.1, ht.2.1, hb.rows, hb.row, ht.2.2, hb.nr⟩
theorem line_ev (h5 : 5 ≤ b.n) (h7 : b.n ≤ 7) : sasg 3 (xtup (lcons (bin ixD (xvV 3) (xc (.int 0))) (lcons (un1 tupleD (asL qlaw_1)) (lcons (bin ixD (xvV 3) (xc (.int 2))) lnil)))) [s0, s1, s2, .dat (encB b), s4, t5', s6, s7, s8, s9, .un] = .nx [s0, s1, s2, .dat (encB (lineB b)), s4, t5', s6, s7, s8, s9, .un] := by
  have q1 : qlaw_1 [s0, s1, s2, .dat (encB b), s4, t5', s6, s7, s8, s9, .un] = .ok ((lineT b.n).map e2) := by
    unfold qlaw_1
    have := xlc_all (enc := PyData.int) (vs := [10]) (L := irng1 (bin subD (bin ixD (xvV 3) (xc (.int 0))) (xc (.int 1)))) (f := gn 10) (T := tyes) (E := xtup (lcons (xvE 10) (lcons (bin addD (xvE 10) (xc (.int 1))) lnil))) (e := [s0, s1, s2, .dat (encB b), s4, t5', s6, s7, s8, s9, .un]) (xs := upto (b.n - 1).toNat) (fun p => e2 (p, p + 1)) (irng1_of (j := b.n - 1) rfl (rng1_ev (by omega) (by omega))) (by rw [upto_length]; omega) fun p _ => ⟨_, rfl, rfl, rfl⟩
    rw [this]
    unfold lineT
    rw [List.map_map]
    rfl
  have h : xtup (lcons (bin ixD (xvV 3) (xc (.int 0))) (lcons (un1 tupleD (asL qlaw_1)) (lcons (bin ixD (xvV 3) (xc (.int 2))) lnil))) [s0, s1, s2, .dat (encB b), s4, t5', s6, s7, s8, s9, .un] = .ok (encB (lineB b)) := by
    have u : un1 tupleD (asL qlaw_1) [s0, s1, s2, .dat (encB b), s4, t5', s6, s7, s8, s9, .un] = .ok (.tuple ((lineT b.n).map e2)) := by
      rw [un1_ev, asL_ev, q1]
      rfl
    rw [xtup_ev, lcons_ev, lcons_ev, u]
    rfl
  rw [sasg_ev, h]
  rfl
theorem lb3 {ns : List Int} {k : Int} (hk : 0 ≤ k) {s3 : Sl} : ∃ t2 t3 t4 t5 t6 t7 t8 t9, lblaw_3 [.dat (scrD ns), .dat (.int k), s2, s3, s4, t5', s6, s7, s8, s9, .un] = .nx [.dat (scrD ns), .dat (.int k), t2, t3, t4, t5, t6, t7, t8, t9, .un] := by
  have hc := cell_ev (ns := ns) (k := k) hk
  generalize cellI ns k = c0 at hc
  have hc2 := cell_ev (ns := ns) (k := 2) (by decide)
  generalize cellI ns 2 = c2 at hc2
  have m3 : mulD (.int 3) (.int k) = some (.int (3 * k)) := mul_ii (.inl (by decide))
  have m5 : mulD (.int 5) (.int k) = some (.int (5 * k)) := mul_ii (.inl (by decide))
  have md : modD (.int (c0 + 3 * k)) (.int 3) = some (.int ((c0 + 3 * k) % 3)) := mod_ii (by decide)
  obtain ⟨b0, hb0, h50, h70, eb⟩ := drawn_ev (c := c0 + 3 * k) (most := 7) (by decide) (by decide)
  unfold lblaw_3
  have e1 : sasg 2 (bin addD (xcall 2 f_law_cell (lcons (xvE 0) (lcons (xvE 1) lnil))) (bin mulD (xc (.int 3)) (xvE 1))) [.dat (scrD ns), .dat (.int k), s2, s3, s4, t5', s6, s7, s8, s9, .un] = .nx [.dat (scrD ns), .dat (.int k), .dat (.int (c0 + 3 * k)), s3, s4, t5', s6, s7, s8, s9, .un] := by
    generalize f_law_cell = F at hc ⊢
    simp [hc, m3]
  have e2' : sasg 3 (xcall 2 f_law_drawn_board (lcons (xvE 2) (lcons (xc (.int 7)) lnil))) [.dat (scrD ns), .dat (.int k), .dat (.int (c0 + 3 * k)), s3, s4, t5', s6, s7, s8, s9, .un] = .nx [.dat (scrD ns), .dat (.int k), .dat (.int (c0 + 3 * k)), .dat (encB b0), s4, t5', s6, s7, s8, s9, .un] := by
    generalize f_law_drawn_board = F at eb ⊢
    simp [eb]
  have e3' : ∃ b : Bd, b.Ok ∧ 5 ≤ b.n ∧ b.n ≤ 7 ∧ sif (xbl (bin eqD (bin modD (xvE 2) (xc (.int 3))) (xc (.int 0)))) (sasg 3 (xtup (lcons (bin ixD (xvV 3) (xc (.int 0))) (lcons (un1 tupleD (asL qlaw_1)) (lcons (bin ixD (xvV 3) (xc (.int 2))) lnil))))) snil [.dat (scrD ns), .dat (.int k), .dat (.int (c0 + 3 * k)), .dat (encB b0), s4, t5', s6, s7, s8, s9, .un] = .nx [.dat (scrD ns), .dat (.int k), .dat (.int (c0 + 3 * k)), .dat (encB b), s4, t5', s6, s7, s8, s9, .un] := by
    have tt : xbl (bin eqD (bin modD (xvE 2) (xc (.int 3))) (xc (.int 0))) [.dat (scrD ns), .dat (.int k), .dat (.int (c0 + 3 * k)), .dat (encB b0), s4, t5', s6, s7, s8, s9, .un] = .ok (decide ((c0 + 3 * k) % 3 = 0)) := by
      show ((opt (modD (.int (c0 + 3 * k)) (.int 3))).bind fun x => opt (eqD x (.int 0))).bind blD = _
      rw [md]
      show (opt (eqD (.int ((c0 + 3 * k) % 3)) (.int 0))).bind blD = _
      rw [eq_ints]
      rfl
    by_cases h : (c0 + 3 * k) % 3 = 0
    · rw [decide_eq_true h] at tt
      exact ⟨lineB b0, line_ok hb0 h50 h70, h50, h70, by rw [sif_t tt]; exact line_ev h50 h70⟩
    · rw [decide_eq_false h] at tt
      exact ⟨b0, hb0, h50, h70, by rw [sif_f tt]; rfl⟩
  obtain ⟨b, hb, h5, h7, e3'⟩ := e3'
  obtain ⟨s, hs, hfew, _, _, _, est⟩ := stand_ev (b := b) (c := c2 + 5 * k) (few := 3) h5 hb.hi (by decide)
  obtain ⟨_, _, hl0, hl1⟩ := hfew (by decide)
  have hsm : SmS b s := ⟨hs.wk, hs.man, hl0, hl1⟩
  have e4 : sasg 4 (xcall 3 f_law_stand (lcons (xvE 3) (lcons (bin addD (xcall 2 f_law_cell (lcons (xvE 0) (lcons (xc (.int 2)) lnil))) (bin mulD (xc (.int 5)) (xvE 1))) (lcons (xc (.int 3)) lnil)))) [.dat (scrD ns), .dat (.int k), .dat (.int (c0 + 3 * k)), .dat (encB b), s4, t5', s6, s7, s8, s9, .un] = .nx [.dat (scrD ns), .dat (.int k), .dat (.int (c0 + 3 * k)), .dat (encB b), .dat (encS s), t5', s6, s7, s8, s9, .un] := by
    generalize f_law_cell = F at hc2 ⊢
    generalize f_law_stand = F2 at est ⊢
    simp [hc2, m5, est]
  obtain ⟨t5, t6, t7, t8, t9, ea⟩ := ask_ev (s0 := .dat (scrD ns)) (s1 := .dat (.int k)) (s2 := .dat (.int (c0 + 3 * k))) (t5' := t5') (s6 := s6) (s7 := s7) (s8 := s8) (s9 := s9) hb h7 hsm
  rw [sseq_ev, e1, then_nx, sseq_ev, e2', then_nx, sseq_ev, e3', then_nx, sseq_ev, e4, then_nx]
  exact ⟨_, _, _, _, _, _, _, _, ea⟩
theorem law_true : ∀ ns : List Int, ns.length ≤ 63 → flaw [scrD ns] = .ok (.bool true) := fun ns _ => by
  obtain ⟨e', h1, s1, s2, s3, s4, s5, s6, s7, s8, s9, rfl⟩ := forL_stay (enc := PyData.int) (f := gn 1) (B := lblaw_3) (fun e => ∃ s1 s2 s3 s4 s5 s6 s7 s8 s9, e = [.dat (scrD ns), s1, s2, s3, s4, s5, s6, s7, s8, s9, .un]) (upto 2)
    [.dat (scrD ns), .un, .un, .un, .un, .un, .un, .un, .un, .un, .un] ⟨_, _, _, _, _, _, _, _, _, rfl⟩ fun k e hk ⟨s1, s2, s3, s4, s5, s6, s7, s8, s9, he⟩ => by
      subst he
      rw [upto_mem] at hk
      obtain ⟨t2, t3, t4, t5, t6, t7, t8, t9, h⟩ := lb3 (ns := ns) (k := k) hk.1 (s2 := s2) (s3 := s3) (s4 := s4) (t5' := s5) (s6 := s6) (s7 := s7) (s8 := s8) (s9 := s9)
      exact ⟨_, _, rfl, .inl h, _, _, _, _, _, _, _, _, _, rfl⟩
  have hll : llaw_3 [.dat (scrD ns), .un, .un, .un, .un, .un, .un, .un, .un, .un, .un] = .nx [.dat (scrD ns), s1, s2, s3, s4, s5, s6, s7, s8, s9, .un] := sfor_nx (irng1_of (F := xc (.int 2)) (j := 2) rfl (rng1_ev (by decide) (by decide))) h1
  apply runD_rt
  unfold blaw
  generalize llaw_3 = L at hll ⊢
  rw [sseq_ev]
  show (L [.dat (scrD ns), .un, .un, .un, .un, .un, .un, .un, .un, .un, .un]).andThen _ = _
  rw [hll, then_nx]
  rfl
end
end M12
namespace M12
open PySem L2 Pu Pf
def top (i : Nat) : Stmt := PySem.Challenge.pw_millrows_k12_whole_ends.main.body.getD i (.Pass ⟨0, 0, 0, 0⟩)
abbrev st__law_mix : Stmt := top 20
abbrev st__law_drawn_board : Stmt := top 22
abbrev st__law_stand : Stmt := top 23
abbrev st_end_in : Stmt := top 16
abbrev st_ends_of : Stmt := top 15
abbrev st_with_step : Stmt := top 7
abbrev st_done : Stmt := top 12
abbrev st_points_of : Stmt := top 1
abbrev st_count : Stmt := top 3
abbrev st_neighbours : Stmt := top 5
abbrev st_steps : Stmt := top 6
abbrev st_winner : Stmt := top 10
abbrev st_full_rows : Stmt := top 2
abbrev st_takings : Stmt := top 8
abbrev st_all_moves : Stmt := top 9
abbrev st_moves : Stmt := top 11
abbrev st_all_stands : Stmt := top 14
abbrev st_end_of : Stmt := top 17
abbrev st__law_cell : Stmt := top 19
abbrev st__law_steps : Stmt := top 25
abbrev st__law_winner : Stmt := top 27
abbrev st__law_rows_of : Stmt := top 24
abbrev st__law_moves : Stmt := top 26
abbrev st__law_after : Stmt := top 28
abbrev st__law_same : Stmt := top 21
abbrev st__law_is_right : Stmt := top 29
abbrev st_law : Stmt := top 30
structure Top (w : World) (K : PySem.W.Frag) (mg : Str → Option Value) : Prop where
  d__law_mix : Def K mg "_law_mix" st__law_mix ["cell", "prime", "many"]
  d__law_drawn_board : Def K mg "_law_drawn_board" st__law_drawn_board ["cell", "most"]
  d__law_stand : Def K mg "_law_stand" st__law_stand ["board", "cell", "few"]
  d_end_in : Def K mg "end_in" st_end_in ["found", "stand"]
  d_ends_of : Def K mg "ends_of" st_ends_of ["comes"]
  d_with_step : Def K mg "with_step" st_with_step ["men", "begin", "goal", "who"]
  d_done : Def K mg "done" st_done ["stand", "move"]
  d_points_of : Def K mg "points_of" st_points_of ["stand", "who"]
  d_count : Def K mg "count" st_count ["stand", "who"]
  d_neighbours : Def K mg "neighbours" st_neighbours ["board", "point"]
  d_steps : Def K mg "steps" st_steps ["board", "stand"]
  d_winner : Def K mg "winner" st_winner ["board", "stand"]
  d_full_rows : Def K mg "full_rows" st_full_rows ["board", "men", "who"]
  d_takings : Def K mg "takings" st_takings ["board", "men", "goal", "who"]
  d_all_moves : Def K mg "all_moves" st_all_moves ["board", "stand"]
  d_moves : Def K mg "moves" st_moves ["board", "stand"]
  d_all_stands : Def K mg "all_stands" st_all_stands ["board", "stand"]
  d_end_of : Def K mg "end_of" st_end_of ["board", "stand"]
  d__law_cell : Def K mg "_law_cell" st__law_cell ["script", "k"]
  d__law_steps : Def K mg "_law_steps" st__law_steps ["board", "stand"]
  d__law_winner : Def K mg "_law_winner" st__law_winner ["board", "stand"]
  d__law_rows_of : Def K mg "_law_rows_of" st__law_rows_of ["board", "men", "who"]
  d__law_moves : Def K mg "_law_moves" st__law_moves ["board", "stand"]
  d__law_after : Def K mg "_law_after" st__law_after ["stand", "move"]
  d__law_same : Def K mg "_law_same" st__law_same ["found", "due"]
  d__law_is_right : Def K mg "_law_is_right" st__law_is_right ["board", "stand", "known"]
  d_law : Def K mg "law" st_law ["script"]
  m_all : mg "all" = none
  m_any : mg "any" = none
  m_bool : mg "bool" = none
  m_dict : mg "dict" = none
  m_enumerate : mg "enumerate" = none
  m_int : mg "int" = none
  m_isinstance : mg "isinstance" = none
  m_len : mg "len" = none
  m_list : mg "list" = none
  m_max : mg "max" = none
  m_min : mg "min" = none
  m_range : mg "range" = none
  m_set : mg "set" = none
  m_sorted : mg "sorted" = none
  m_str : mg "str" = none
  m_tuple : mg "tuple" = none
  m_zip : mg "zip" = none
theorem sc__law_mix : FnScope ["cell", "prime", "many", "blend"] ["cell", "prime", "many"] (defScope st__law_mix) := ⟨rfl, rfl, rfl, by decide +kernel, rfl, by decide +kernel, by decide +kernel⟩
theorem sc__law_drawn_board : FnScope ["cell", "most", "many", "ties", "k", "one", "other", "rows", "some", "j"] ["cell", "most"] (defScope st__law_drawn_board) := ⟨rfl, rfl, rfl, by decide +kernel, rfl, by decide +kernel, by decide +kernel⟩
theorem sc__law_stand : FnScope ["board", "cell", "few", "men", "free", "k", "who", "empty", "left", "point", "man"] ["board", "cell", "few"] (defScope st__law_stand) := ⟨rfl, rfl, rfl, by decide +kernel, rfl, by decide +kernel, by decide +kernel⟩
theorem sc_end_in : FnScope ["found", "stand"] ["found", "stand"] (defScope st_end_in) := ⟨rfl, rfl, rfl, by decide +kernel, rfl, by decide +kernel, by decide +kernel⟩
theorem sc_ends_of : FnScope ["comes", "ahead", "stand", "one", "left", "found", "waiting", "more", "word", "n"] ["comes"] (defScope st_ends_of) := ⟨rfl, rfl, rfl, by decide +kernel, rfl, by decide +kernel, by decide +kernel⟩
theorem sc_with_step : FnScope ["men", "begin", "goal", "who", "found"] ["men", "begin", "goal", "who"] (defScope st_with_step) := ⟨rfl, rfl, rfl, by decide +kernel, rfl, by decide +kernel, by decide +kernel⟩
theorem sc_done : FnScope ["stand", "move", "men", "left", "turn", "begin", "goal", "taken", "found", "less"] ["stand", "move"] (defScope st_done) := ⟨rfl, rfl, rfl, by decide +kernel, rfl, by decide +kernel, by decide +kernel⟩
theorem sc_points_of : FnScope ["stand", "who", "p", "man"] ["stand", "who"] (defScope st_points_of) := ⟨rfl, rfl, rfl, by decide +kernel, rfl, by decide +kernel, by decide +kernel⟩
theorem sc_count : FnScope ["stand", "who"] ["stand", "who"] (defScope st_count) := ⟨rfl, rfl, rfl, by decide +kernel, rfl, by decide +kernel, by decide +kernel⟩
theorem sc_neighbours : FnScope ["board", "point", "found", "one", "other"] ["board", "point"] (defScope st_neighbours) := ⟨rfl, rfl, rfl, by decide +kernel, rfl, by decide +kernel, by decide +kernel⟩
theorem sc_steps : FnScope ["board", "stand", "men", "left", "turn", "empty", "mine", "found", "begin", "goals", "p", "man", "goal"] ["board", "stand"] (defScope st_steps) := ⟨rfl, rfl, rfl, by decide +kernel, rfl, by decide +kernel, by decide +kernel⟩
theorem sc_winner : FnScope ["board", "stand", "turn"] ["board", "stand"] (defScope st_winner) := ⟨rfl, rfl, rfl, by decide +kernel, rfl, by decide +kernel, by decide +kernel⟩
theorem sc_full_rows : FnScope ["board", "men", "who", "row", "p"] ["board", "men", "who"] (defScope st_full_rows) := ⟨rfl, rfl, rfl, by decide +kernel, rfl, by decide +kernel, by decide +kernel⟩
theorem sc_takings : FnScope ["board", "men", "goal", "who", "other", "rows", "free", "p", "man", "row"] ["board", "men", "goal", "who"] (defScope st_takings) := ⟨rfl, rfl, rfl, by decide +kernel, rfl, by decide +kernel, by decide +kernel⟩
theorem sc_all_moves : FnScope ["board", "stand", "men", "left", "turn", "found", "begin", "goal", "taken", "one"] ["board", "stand"] (defScope st_all_moves) := ⟨rfl, rfl, rfl, by decide +kernel, rfl, by decide +kernel, by decide +kernel⟩
theorem sc_moves : FnScope ["board", "stand"] ["board", "stand"] (defScope st_moves) := ⟨rfl, rfl, rfl, by decide +kernel, rfl, by decide +kernel, by decide +kernel⟩
theorem sc_all_stands : FnScope ["board", "stand", "found", "waiting", "one", "move"] ["board", "stand"] (defScope st_all_stands) := ⟨rfl, rfl, rfl, by decide +kernel, rfl, by decide +kernel, by decide +kernel⟩
theorem sc_end_of : FnScope ["board", "stand"] ["board", "stand"] (defScope st_end_of) := ⟨rfl, rfl, rfl, by decide +kernel, rfl, by decide +kernel, by decide +kernel⟩
theorem sc__law_cell : FnScope ["script", "k"] ["script", "k"] (defScope st__law_cell) := ⟨rfl, rfl, rfl, by decide +kernel, rfl, by decide +kernel, by decide +kernel⟩
theorem sc__law_steps : FnScope ["board", "stand", "men", "left", "turn", "empty", "mine", "found", "begin", "goal", "p"] ["board", "stand"] (defScope st__law_steps) := ⟨rfl, rfl, rfl, by decide +kernel, rfl, by decide +kernel, by decide +kernel⟩
theorem sc__law_winner : FnScope ["board", "stand", "men", "left", "turn"] ["board", "stand"] (defScope st__law_winner) := ⟨rfl, rfl, rfl, by decide +kernel, rfl, by decide +kernel, by decide +kernel⟩
theorem sc__law_rows_of : FnScope ["board", "men", "who", "row", "p"] ["board", "men", "who"] (defScope st__law_rows_of) := ⟨rfl, rfl, rfl, by decide +kernel, rfl, by decide +kernel, by decide +kernel⟩
theorem sc__law_moves : FnScope ["board", "stand", "men", "left", "turn", "found", "begin", "goal", "new", "taken", "held", "row", "other", "free", "p", "man", "one"] ["board", "stand"] (defScope st__law_moves) := ⟨rfl, rfl, rfl, by decide +kernel, rfl, by decide +kernel, by decide +kernel⟩
theorem sc__law_after : FnScope ["stand", "move", "men", "left", "turn", "begin", "goal", "taken", "new", "p", "man"] ["stand", "move"] (defScope st__law_after) := ⟨rfl, rfl, rfl, by decide +kernel, rfl, by decide +kernel, by decide +kernel⟩
theorem sc__law_same : FnScope ["found", "due", "one", "other"] ["found", "due"] (defScope st__law_same) := ⟨rfl, rfl, rfl, by decide +kernel, rfl, by decide +kernel, by decide +kernel⟩
theorem sc__law_is_right : FnScope ["board", "stand", "known", "said", "some", "lost", "won", "move", "word", "n"] ["board", "stand", "known"] (defScope st__law_is_right) := ⟨rfl, rfl, rfl, by decide +kernel, rfl, by decide +kernel, by decide +kernel⟩
theorem sc_law : FnScope ["script", "k", "cell", "board", "stand", "known", "some", "one", "move", "new", "p"] ["script"] (defScope st_law) := ⟨rfl, rfl, rfl, by decide +kernel, rfl, by decide +kernel, by decide +kernel⟩
section
variable {P : Program} {w : World} {K : PySem.W.Frag} {mg : Str → Option Value} {base : Heap}
theorem ok__law_mix (T : Top w K mg) : OkF P w K mg base "_law_mix" ["cell", "prime", "many"] 1 f_law_mix :=
  okO T.d__law_mix sc__law_mix fun f cdv A outer s H E z =>
  (sCons (sLet 3 z (xBin op_modB (xBin op_mulB (pxE 0 (pv 0)) xInt) (pxE 1 (pv 1))))
  (sOne (sRet (xBin op_modB (xBin op_modB (xBin op_mulB (pxE 3 (pv 3)) (xBin op_addB (pxE 3 (pv 3)) xInt)) (pxE 1 (pv 1))) (pxE 2 (pv 2))))))
theorem ok__law_drawn_board (T : Top w K mg) : OkF P w K mg base "_law_drawn_board" ["cell", "most"] 2 f_law_drawn_board :=
  okO T.d__law_drawn_board sc__law_drawn_board fun f cdv A outer s H E z =>
  (sCons (sLet 2 z (xBin op_addB xInt (xC1 z (ok__law_mix T) (by decide) (aCons (pxE 0 (pv 0)) (aCons xInt (aCons (xBin op_subB (pxE 1 (pv 1)) xInt) aNil))))))
  (sCons (sLetD 3 z)
  (sCons (sFor z.po z.calm (iRange1 (by rfl) T.m_range (xC1 z (ok__law_mix T) (by decide) (aCons (pxE 0 (pv 0)) (aCons xInt (aCons (xBin op_mulB xInt (pxE 2 (pv 2))) aNil))))) (gN 4 z) (sCons (sLet 5 z (xC1 z (ok__law_mix T) (by decide) (aCons (xBin op_addB (pxE 0 (pv 0)) (xBin op_mulB xInt (pxE 4 (pv 4)))) (aCons xInt (aCons (pxE 2 (pv 2)) aNil)))))
  (sCons (sLet 6 z (xC1 z (ok__law_mix T) (by decide) (aCons (xBin op_addB (pxE 0 (pv 0)) (xBin op_mulB xInt (pxE 4 (pv 4)))) (aCons xInt (aCons (pxE 2 (pv 2)) aNil)))))
  (sOne (sIf (tCmp (op_neB z.rm) (pxV 5 (pv 5)) (pxV 6 (pv 6)) (nomark _)) (sOne (sDSet 3 z xBool (pv 3) (xTup (aCons (xMin2 z T.m_min (pxV 5 (pv 5)) (pxV 6 (pv 6))) (aCons (xMax2 z T.m_max (pxV 5 (pv 5)) (pxV 6 (pv 6))) aNil))))) sNil)))))
  (sCons (sLetD 7 z)
  (sCons (sFor z.po z.calm (iRange1 (by rfl) T.m_range (xC1 z (ok__law_mix T) (by decide) (aCons (pxE 0 (pv 0)) (aCons xInt (aCons xInt aNil))))) (gN 4 z) (sCons (sLet 8 z (n2e (xSSet z T.m_sorted T.m_set (e2v (n2e (xLc (own := [("j", 9)]) z.calm z.nd (iRange1 (by rfl) T.m_range xInt) (blkOk_by (by kernel_rfl)) (by decide) (fun _ _ _ _ _ => (gN 9 (z.blk _ _ _ _ _))) (fun _ _ _ _ _ => tsNil) (fun _ _ _ _ _ => (xC1 (z.blk _ _ _ _ _) (ok__law_mix T) (by decide) (aCons (xBin op_addB (xBin op_addB (pxE 0 (pv 0)) (xBin op_mulB xInt (pxE 4 (pv 4)))) (pxE 9 (pv 9))) (aCons xInt (aCons (pxE 2 (pv 2)) aNil)))))))))))
  (sOne (sIf (tCmp (op_eqB z.rm) (e2v (xLen T.m_len (pxV 8 (pv 8)))) (e2v xInt) (nomark _)) (sOne (sDSet 7 z xBool (pv 7) (xTuple T.m_tuple (pxV 8 (pv 8))))) sNil))))
  (sOne (sRet (xTup (aCons (pxE 2 (pv 2)) (aCons (xTuple T.m_tuple (e2v (n2e (xSorted z T.m_sorted (pxV 3 (pv 3)))))) (aCons (xTuple T.m_tuple (e2v (n2e (xSorted z T.m_sorted (pxV 7 (pv 7)))))) aNil)))))))))))
theorem ok__law_stand (T : Top w K mg) : OkF P w K mg base "_law_stand" ["board", "cell", "few"] 2 f_law_stand :=
  okO T.d__law_stand sc__law_stand fun f cdv A outer s H E z =>
  (sCons (sLc (i := 3) (own := [("point", 9)]) z.calm z.nd rfl rfl (by rfl) (iRange1 (by rfl) T.m_range (xIx (pxV 0 (pv 0)) (e2v xInt) (fun _ _ => rfl))) (blkOk_by (by kernel_rfl)) (by decide) (fun _ _ _ _ _ => (gN 9 (z.blk _ _ _ _ _))) (fun _ _ _ _ _ => tsNil) (fun _ _ _ _ _ => xNone))
  (sCons (sLet 4 z (xC1 z (ok__law_mix T) (by decide) (aCons (pxE 1 (pv 1)) (aCons xInt (aCons xInt aNil)))))
  (sCons (sFor z.po z.calm (iRange1 (by rfl) T.m_range (xBin op_addB (xC1 z (ok__law_mix T) (by decide) (aCons (pxE 1 (pv 1)) (aCons xInt (aCons (xBin op_addB xInt (xBin op_mulB xInt (xInt1 T.m_int (e2v (xCmp (op_eqB z.rm) (pxV 2 (pv 2)) (e2v xInt) (nomark _)))))) aNil)))) xInt)) (gN 5 z) (sOne (sFor z.po z.calm (iSeqF (xTup (aCons xInt (aCons xInt aNil)))) (gN 6 z) (sCons (sLcF (sLc (i := 7) (own := [("point", 9), ("man", 10)]) z.calm z.nd rfl rfl (by rfl) (iEnumV (by rfl) T.m_enumerate (pxV 3 (pv 3))) (blkOk_by (by kernel_rfl)) (by decide) (fun _ _ _ _ _ => (gT (z.blk _ _ _ _ _) (gcons_len (gcons_len gnil_len)) (gC (gN 9 (z.blk _ _ _ _ _)) (gC (gN 10 (z.blk _ _ _ _ _)) gNil')))) (fun _ _ _ _ _ => (tsOne (tCmp op_isB (pxV 10 (pv 10)) (e2v xNone) (nomark _)))) (fun _ _ _ _ _ => (pxE 9 (pv 9)))))
  (sOne (sIf (tW (tAnd (tCmp op_gtB (e2v (xLen T.m_len (pxV 7 (pv 7)))) (pxV 4 (pv 4)) (nomark _)) (tAnd1 (tW (tOr (tCmp (op_eqB z.rm) (pxV 2 (pv 2)) (e2v xInt) (nomark _)) (tOr1 (tCmp (op_ltB z.rm) (e2v (xCount z.rm (pxV 3 (pv 3)) (pxV 6 (pv 6)))) (pxV 2 (pv 2)) (nomark _)))))))) (sOne (sSet 3 (pxE 6 (pv 6)) (pv 3) (xIx (pxV 7 (pv 7)) (e2v (xC1 z (ok__law_mix T) (by decide) (aCons (xBin op_addB (xBin op_addB (pxE 1 (pv 1)) (xBin op_mulB xInt (pxE 5 (pv 5)))) (xBin op_mulB xInt (pxE 6 (pv 6)))) (aCons xInt (aCons (xLen T.m_len (pxV 7 (pv 7))) aNil))))) (fun _ _ => rfl)))) sNil))))))
  (sCons (sLet 8 z (xTup (aCons xInt (aCons xInt aNil))))
  (sCons (sIf (tW (tAnd (tCmp (op_eqB z.rm) (pxV 2 (pv 2)) (e2v xInt) (nomark _)) (tAnd1 (tCmp (op_eqB z.rm) (e2v (xBin op_modB (pxE 1 (pv 1)) xInt)) (e2v xInt) (nomark _))))) (sOne (sLet 8 z (xTup (aCons (xC1 z (ok__law_mix T) (by decide) (aCons (pxE 1 (pv 1)) (aCons xInt (aCons xInt aNil)))) (aCons (xC1 z (ok__law_mix T) (by decide) (aCons (pxE 1 (pv 1)) (aCons xInt (aCons xInt aNil)))) aNil))))) sNil)
  (sOne (sRet (xTup (aCons (xTuple T.m_tuple (pxV 3 (pv 3))) (aCons (pxE 8 (pv 8)) (aCons (xBin op_modB (pxE 1 (pv 1)) xInt) aNil)))))))))))
theorem ok_end_in (T : Top w K mg) : OkF P w K mg base "end_in" ["found", "stand"] 1 fend_in :=
  okO T.d_end_in sc_end_in fun f cdv A outer s H E z =>
  (sOne (sRet (xDGetW z (pxV 0 (pv 0)) (pxV 1 (pv 1)) (xTup (aCons xStr (aCons xInt aNil))))))
theorem ok_ends_of (T : Top w K mg) : OkF P w K mg base "ends_of" ["comes"] 1 fends_of :=
  okO T.d_ends_of sc_ends_of fun f cdv A outer s H E z =>
  (sAhead (c := 0) (i := 1) (j := 3) (l := 2) (l0 := 2) (by decide) (by decide) (by decide)
  (ps_ah0 (own := [("stand", 2)]) z T.m_dict z.nd rfl (by first | exact .inl rfl | exact .inr rfl) (i2v (iKeysF (pxE 0 (pv 0)))) (blkOk_by (by kernel_rfl)) (by decide) (fun _ _ _ _ _ => (gN 2 (z.blk _ _ _ _ _))) (fun _ _ _ _ _ => pv 2))
  (ps_ah3 (W := W0) z.po z.calm (by decide) (by decide) (by decide) (iKeysF (pxE 0 (pv 0))) (gN 2 z) (pss_one (ps_ah2 z.po z.calm (by decide) (by decide) (by decide) (iSeqF (xDIx z (e2v (pxE 0 (pv 0))) (e2v (pxE 2 (pv 2))) (fun _ _ => rfl))) (gN 3 z) (pss_one (ps_ah1 z (pv 1) (pv 3) (pv 2) (fun _ _ => rfl))))))
  (sCons (sLetK 4 z T.m_dict (e2v (n2e (xLc (own := [("stand", 2)]) z.calm z.nd (iKeysV (pxV 0 (pv 0))) (blkOk_by (by kernel_rfl)) (by decide) (fun _ _ _ _ _ => (gN 2 (z.blk _ _ _ _ _))) (fun _ _ _ _ _ => tsNil) (fun _ _ _ _ _ => (xTup (aCons (pxE 2 (pv 2)) (aCons (xLen T.m_len (e2v (xDIx (z.blk _ _ _ _ _) (pxV 0 (pv 0)) (pxV 2 (pv 2)) (fun _ _ => rfl)))) aNil))))))))
  (sCons (sLetK 5 z T.m_dict (e2v (n2e (xLc (own := [("stand", 2)]) z.calm z.nd (iKeysV (pxV 0 (pv 0))) (blkOk_by (by kernel_rfl)) (by decide) (fun _ _ _ _ _ => (gN 2 (z.blk _ _ _ _ _))) (fun _ _ _ _ _ => (tsOne (tNot (tTru (e2v (xDIx (z.blk _ _ _ _ _) (pxV 0 (pv 0)) (pxV 2 (pv 2)) (fun _ _ => rfl))))))) (fun _ _ _ _ _ => (xTup (aCons (pxE 2 (pv 2)) (aCons (xTup (aCons xStr (aCons xInt aNil))) aNil))))))))
  (sCons (sLet 6 z (n2e (xListK z T.m_list (pxV 5 (pv 5)))))
  (sCons (sWhile 1000000 z.po (tTru (pxV 6 (pv 6))) (sCons (sLetN 7 z (xLst aNil))
  (sCons (sFor z.po z.calm (iSeqF (pxE 6 (pv 6))) (gN 2 z) (sCons (sUnp (xDIx z (pxV 5 (pv 5)) (pxV 2 (pv 2)) (fun _ _ => rfl)) (gT z (gcons_len (gcons_len gnil_len)) (gC (gN 8 z) (gC (gN 9 z) gNil'))))
  (sOne (sFor z.po z.calm (iSeqF (xDIx z (pxV 1 (pv 1)) (pxV 2 (pv 2)) (fun _ _ => rfl))) (gN 3 z) (sCons (sDSet 4 z (xBin op_subB (xDIx z (pxV 4 (pv 4)) (pxV 3 (pv 3)) (fun _ _ => rfl)) (xInt1 T.m_int (e2v (xCmp (op_eqB z.rm) (pxV 8 (pv 8)) (e2v xStr) (nomark _))))) (pv 4) (pxE 3 (pv 3)))
  (sOne (sIf (tW (tAnd (tCmp (op_notInB z.rm) (pxV 3 (pv 3)) (pxV 5 (pv 5)) (by rfl)) (tAnd1 (tW (tOr (tCmp (op_eqB z.rm) (pxV 8 (pv 8)) (e2v xStr) (nomark _)) (tOr1 (tCmp (op_eqB z.rm) (e2v (xDIx z (pxV 4 (pv 4)) (pxV 3 (pv 3)) (fun _ _ => rfl))) (e2v xInt) (nomark _)))))))) (sCons (sDSet 5 z (xTup (aCons (xDispIx (tab := [(.str "lost", .str "won"), (.str "won", .str "lost")]) (pps_cons pe_str pe_str (pps_cons pe_str pe_str pps_nil)) (by kernel_rfl) (pxV 8 (pv 8)) (fun _ _ => rfl)) (aCons (xBin op_addB (pxE 9 (pv 9)) xInt) aNil))) (pv 5) (pxE 3 (pv 3)))
  (sOne (sAppend 7 (pv 7) (pxE 3 (pv 3))))) sNil)))))))
  (sOne (sFz 7 (sLet 6 z (pxE 7 (pv 7))))))))
  (sOne (sRet (pxE 5 (pv 5)))))))))
theorem ok_with_step (T : Top w K mg) : OkF P w K mg base "with_step" ["men", "begin", "goal", "who"] 1 fwith_step :=
  okO T.d_with_step sc_with_step fun f cdv A outer s H E z =>
  (sCons (sLetN 4 z (xList T.m_list (pxV 0 (pv 0))))
  (sCons (sIf (tCmp op_geB (pxV 1 (pv 1)) (e2v xInt) (nomark _)) (sOne (sSet 4 xNone (pv 4) (pxE 1 (pv 1)))) sNil)
  (sCons (sSet 4 (pxE 3 (pv 3)) (pv 4) (pxE 2 (pv 2)))
  (sOne (sRet (xTuple T.m_tuple (pxV 4 (pv 4))))))))
theorem ok_done (T : Top w K mg) : OkF P w K mg base "done" ["stand", "move"] 2 fdone :=
  okO T.d_done sc_done fun f cdv A outer s H E z =>
  (sCons (sUnp (pxE 0 (pv 0)) (gT z (gcons_len (gcons_len (gcons_len gnil_len))) (gC (gN 2 z) (gC (gN 3 z) (gC (gN 4 z) gNil')))))
  (sCons (sUnp (pxE 1 (pv 1)) (gT z (gcons_len (gcons_len (gcons_len gnil_len))) (gC (gN 5 z) (gC (gN 6 z) (gC (gN 7 z) gNil')))))
  (sCons (sLetN 8 z (xList T.m_list (e2v (xC1 z (ok_with_step T) (by decide) (aCons (pxE 2 (pv 2)) (aCons (pxE 5 (pv 5)) (aCons (pxE 6 (pv 6)) (aCons (pxE 4 (pv 4)) aNil))))))))
  (sCons (sIf (tCmp op_geB (pxV 7 (pv 7)) (e2v xInt) (nomark _)) (sOne (sSet 8 xNone (pv 8) (pxE 7 (pv 7)))) sNil)
  (sCons (sIf (tCmp (op_ltB z.rm) (pxV 5 (pv 5)) (e2v xInt) (nomark _)) (sCons (sLetN 9 z (xLst (aCons (xIx (pxV 3 (pv 3)) (e2v xInt) (fun _ _ => rfl)) (aCons (xIx (pxV 3 (pv 3)) (e2v xInt) (fun _ _ => rfl)) aNil))))
  (sCons (sSet 9 (xBin op_subB (xIx (pxV 9 (pv 9)) (pxV 4 (pv 4)) (fun _ _ => rfl)) xInt) (pv 9) (pxE 4 (pv 4)))
  (sOne (sLet 3 z (xTuple T.m_tuple (pxV 9 (pv 9))))))) sNil)
  (sOne (sRet (xTup (aCons (xTuple T.m_tuple (pxV 8 (pv 8))) (aCons (pxE 3 (pv 3)) (aCons (xBin op_subB xInt (pxE 4 (pv 4))) aNil)))))))))))
theorem ok_points_of (T : Top w K mg) : OkF P w K mg base "points_of" ["stand", "who"] 1 fpoints_of :=
  okO T.d_points_of sc_points_of fun f cdv A outer s H E z =>
  (sOne (sRet (n2e (xLc (own := [("p", 2), ("man", 3)]) z.calm z.nd (iEnumV (by rfl) T.m_enumerate (e2v (xIx (pxV 0 (pv 0)) (e2v xInt) (fun _ _ => rfl)))) (blkOk_by (by kernel_rfl)) (by decide) (fun _ _ _ _ _ => (gT (z.blk _ _ _ _ _) (gcons_len (gcons_len gnil_len)) (gC (gN 2 (z.blk _ _ _ _ _)) (gC (gN 3 (z.blk _ _ _ _ _)) gNil')))) (fun _ _ _ _ _ => (tsOne (tCmp (op_eqB (z.blk _ _ _ _ _).rm) (pxV 3 (pv 3)) (pxV 1 (pv 1)) (nomark _)))) (fun _ _ _ _ _ => (pxE 2 (pv 2)))))))
theorem ok_count (T : Top w K mg) : OkF P w K mg base "count" ["stand", "who"] 2 fcount :=
  okO T.d_count sc_count fun f cdv A outer s H E z =>
  (sOne (sRet (xBin op_addB (xLen T.m_len (e2v (xC1 z (ok_points_of T) (by decide) (aCons (pxE 0 (pv 0)) (aCons (pxE 1 (pv 1)) aNil))))) (xIx (e2v (xIx (pxV 0 (pv 0)) (e2v xInt) (fun _ _ => rfl))) (pxV 1 (pv 1)) (fun _ _ => rfl)))))
theorem ok_neighbours (T : Top w K mg) : OkF P w K mg base "neighbours" ["board", "point"] 1 fneighbours :=
  okO T.d_neighbours sc_neighbours fun f cdv A outer s H E z =>
  (sCons (sLetN 2 z (xLst aNil))
  (sCons (sFor z.po z.calm (iSeqF (xIx (pxV 0 (pv 0)) (e2v xInt) (fun _ _ => rfl))) (gT z (gcons_len (gcons_len gnil_len)) (gC (gN 3 z) (gC (gN 4 z) gNil'))) (sCons (sIf (tCmp (op_eqB z.rm) (pxV 3 (pv 3)) (pxV 1 (pv 1)) (nomark _)) (sOne (sAppend 2 (pv 2) (pxE 4 (pv 4)))) sNil)
  (sOne (sIf (tCmp (op_eqB z.rm) (pxV 4 (pv 4)) (pxV 1 (pv 1)) (nomark _)) (sOne (sAppend 2 (pv 2) (pxE 3 (pv 3)))) sNil))))
  (sOne (sRet (pxE 2 (pv 2))))))
theorem ok_steps (T : Top w K mg) : OkF P w K mg base "steps" ["board", "stand"] 2 fsteps :=
  okO T.d_steps sc_steps fun f cdv A outer s H E z =>
  (sCons (sUnp (pxE 1 (pv 1)) (gT z (gcons_len (gcons_len (gcons_len gnil_len))) (gC (gN 2 z) (gC (gN 3 z) (gC (gN 4 z) gNil')))))
  (sCons (sLcF (sLc (i := 5) (own := [("p", 10), ("man", 11)]) z.calm z.nd rfl rfl (by rfl) (iEnumV (by rfl) T.m_enumerate (pxV 2 (pv 2))) (blkOk_by (by kernel_rfl)) (by decide) (fun _ _ _ _ _ => (gT (z.blk _ _ _ _ _) (gcons_len (gcons_len gnil_len)) (gC (gN 10 (z.blk _ _ _ _ _)) (gC (gN 11 (z.blk _ _ _ _ _)) gNil')))) (fun _ _ _ _ _ => (tsOne (tCmp op_isB (pxV 11 (pv 11)) (e2v xNone) (nomark _)))) (fun _ _ _ _ _ => (pxE 10 (pv 10)))))
  (sCons (sIf (tCmp op_gtB (e2v (xIx (pxV 3 (pv 3)) (pxV 4 (pv 4)) (fun _ _ => rfl))) (e2v xInt) (nomark _)) (sOne (sRet (n2e (xLc (own := [("goal", 12)]) z.calm z.nd (iSeqV (pxV 5 (pv 5))) (blkOk_by (by kernel_rfl)) (by decide) (fun _ _ _ _ _ => (gN 12 (z.blk _ _ _ _ _))) (fun _ _ _ _ _ => tsNil) (fun _ _ _ _ _ => (xTup (aCons (xUn un_negB xInt) (aCons (pxE 12 (pv 12)) aNil)))))))) sNil)
  (sCons (sLet 6 z (xC1 z (ok_points_of T) (by decide) (aCons (pxE 1 (pv 1)) (aCons (pxE 4 (pv 4)) aNil))))
  (sCons (sLetN 7 z (xLst aNil))
  (sCons (sFor z.po z.calm (iSeqF (pxE 6 (pv 6))) (gN 8 z) (sCons (sLet 9 z (pxE 5 (pv 5)))
  (sCons (sIf (tCmp op_gtB (e2v (xLen T.m_len (pxV 6 (pv 6)))) (e2v xInt) (nomark _)) (sOne (sLcF (sLc (i := 9) (own := [("p", 10)]) z.calm z.nd rfl rfl (by rfl) (iSeqV (e2v (xC1 z (ok_neighbours T) (by decide) (aCons (pxE 0 (pv 0)) (aCons (pxE 8 (pv 8)) aNil))))) (blkOk_by (by kernel_rfl)) (by decide) (fun _ _ _ _ _ => (gN 10 (z.blk _ _ _ _ _))) (fun _ _ _ _ _ => (tsOne (tCmp op_isB (e2v (xIx (pxV 2 (pv 2)) (pxV 10 (pv 10)) (fun _ _ => rfl))) (e2v xNone) (nomark _)))) (fun _ _ _ _ _ => (pxE 10 (pv 10)))))) sNil)
  (sOne (sExtend 7 (pv 7) (n2e (xLc (own := [("goal", 12)]) z.calm z.nd (iSeqV (pxV 9 (pv 9))) (blkOk_by (by kernel_rfl)) (by decide) (fun _ _ _ _ _ => (gN 12 (z.blk _ _ _ _ _))) (fun _ _ _ _ _ => tsNil) (fun _ _ _ _ _ => (xTup (aCons (pxE 8 (pv 8)) (aCons (pxE 12 (pv 12)) aNil)))))))))))
  (sOne (sRet (pxE 7 (pv 7))))))))))
theorem ok_winner (T : Top w K mg) : OkF P w K mg base "winner" ["board", "stand"] 3 fwinner :=
  okO T.d_winner sc_winner fun f cdv A outer s H E z =>
  (sCons (sLet 2 z (xIx (pxV 1 (pv 1)) (e2v xInt) (fun _ _ => rfl)))
  (sCons (sIf (tW (tOr (tCmp (op_ltB z.rm) (e2v (xC1 z (ok_count T) (by decide) (aCons (pxE 1 (pv 1)) (aCons (pxE 2 (pv 2)) aNil)))) (e2v xInt) (nomark _)) (tOr1 (tNot (tTru (e2v (xC1 z (ok_steps T) (by decide) (aCons (pxE 0 (pv 0)) (aCons (pxE 1 (pv 1)) aNil))))))))) (sOne (sRet (xBin op_subB xInt (pxE 2 (pv 2))))) sNil)
  (sOne (sRet xNone))))
theorem ok_full_rows (T : Top w K mg) : OkF P w K mg base "full_rows" ["board", "men", "who"] 1 ffull_rows :=
  okO T.d_full_rows sc_full_rows fun f cdv A outer s H E z =>
  (sOne (sRet (n2e (xLc (own := [("row", 3)]) z.calm z.nd (iSeqV (e2v (xIx (pxV 0 (pv 0)) (e2v xInt) (fun _ _ => rfl)))) (blkOk_by (by kernel_rfl)) (by decide) (fun _ _ _ _ _ => (gN 3 (z.blk _ _ _ _ _))) (fun _ _ _ _ _ => (tsOne (tTru (e2v (xAll (z.blk _ _ _ _ _) T.m_all (e2v (n2e (xLc (own := [("p", 4)]) (z.blk _ _ _ _ _).calm (z.blk _ _ _ _ _).nd (iSeqV (pxV 3 (pv 3))) (blkOk_by (by kernel_rfl)) (by decide) (fun _ _ _ _ _ => (gN 4 ((z.blk _ _ _ _ _).blk _ _ _ _ _))) (fun _ _ _ _ _ => tsNil) (fun _ _ _ _ _ => (xCmp (op_eqB ((z.blk _ _ _ _ _).blk _ _ _ _ _).rm) (e2v (xIx (pxV 1 (pv 1)) (pxV 4 (pv 4)) (fun _ _ => rfl))) (pxV 2 (pv 2)) (nomark _))))))))))) (fun _ _ _ _ _ => (pxE 3 (pv 3)))))))
theorem ok_takings (T : Top w K mg) : OkF P w K mg base "takings" ["board", "men", "goal", "who"] 2 ftakings :=
  okO T.d_takings sc_takings fun f cdv A outer s H E z =>
  (sCons (sIf (tNot (tTru (e2v (xAny z T.m_any (e2v (n2e (xLc (own := [("row", 9)]) z.calm z.nd (iSeqV (e2v (xC1 z (ok_full_rows T) (by decide) (aCons (pxE 0 (pv 0)) (aCons (pxE 1 (pv 1)) (aCons (pxE 3 (pv 3)) aNil)))))) (blkOk_by (by kernel_rfl)) (by decide) (fun _ _ _ _ _ => (gN 9 (z.blk _ _ _ _ _))) (fun _ _ _ _ _ => tsNil) (fun _ _ _ _ _ => (xCmp (op_inB (z.blk _ _ _ _ _).rm) (pxV 2 (pv 2)) (pxV 9 (pv 9)) (by rfl)))))))))) (sOne (sRet (n2e (xLst (aCons (xUn un_negB xInt) aNil))))) sNil)
  (sCons (sLcF (sLc (i := 4) (own := [("p", 7), ("man", 8)]) z.calm z.nd rfl rfl (by rfl) (iEnumV (by rfl) T.m_enumerate (pxV 1 (pv 1))) (blkOk_by (by kernel_rfl)) (by decide) (fun _ _ _ _ _ => (gT (z.blk _ _ _ _ _) (gcons_len (gcons_len gnil_len)) (gC (gN 7 (z.blk _ _ _ _ _)) (gC (gN 8 (z.blk _ _ _ _ _)) gNil')))) (fun _ _ _ _ _ => (tsOne (tCmp (op_eqB (z.blk _ _ _ _ _).rm) (pxV 8 (pv 8)) (e2v (xBin op_subB xInt (pxE 3 (pv 3)))) (nomark _)))) (fun _ _ _ _ _ => (pxE 7 (pv 7)))))
  (sCons (sLet 5 z (xC1 z (ok_full_rows T) (by decide) (aCons (pxE 0 (pv 0)) (aCons (pxE 1 (pv 1)) (aCons (xBin op_subB xInt (pxE 3 (pv 3))) aNil)))))
  (sCons (sLcF (sLc (i := 6) (own := [("p", 7)]) z.calm z.nd rfl rfl (by rfl) (iSeqV (pxV 4 (pv 4))) (blkOk_by (by kernel_rfl)) (by decide) (fun _ _ _ _ _ => (gN 7 (z.blk _ _ _ _ _))) (fun _ _ _ _ _ => (tsOne (tNot (tTru (e2v (xAny (z.blk _ _ _ _ _) T.m_any (e2v (n2e (xLc (own := [("row", 9)]) (z.blk _ _ _ _ _).calm (z.blk _ _ _ _ _).nd (iSeqV (pxV 5 (pv 5))) (blkOk_by (by kernel_rfl)) (by decide) (fun _ _ _ _ _ => (gN 9 ((z.blk _ _ _ _ _).blk _ _ _ _ _))) (fun _ _ _ _ _ => tsNil) (fun _ _ _ _ _ => (xCmp (op_inB ((z.blk _ _ _ _ _).blk _ _ _ _ _).rm) (pxV 7 (pv 7)) (pxV 9 (pv 9)) (by rfl)))))))))))) (fun _ _ _ _ _ => (pxE 7 (pv 7)))))
  (sOne (sRet (xOr (pxE 6 (pv 6)) (xOr (pxE 4 (pv 4)) (xOne (n2e (xLst (aCons (xUn un_negB xInt) aNil))))))))))))
theorem ok_all_moves (T : Top w K mg) : OkF P w K mg base "all_moves" ["board", "stand"] 3 fall_moves :=
  okO T.d_all_moves sc_all_moves fun f cdv A outer s H E z =>
  (sCons (sUnp (pxE 1 (pv 1)) (gT z (gcons_len (gcons_len (gcons_len gnil_len))) (gC (gN 2 z) (gC (gN 3 z) (gC (gN 4 z) gNil')))))
  (sCons (sLetN 5 z (xLst aNil))
  (sCons (sFor z.po z.calm (iSeqF (xC1 z (ok_steps T) (by decide) (aCons (pxE 0 (pv 0)) (aCons (pxE 1 (pv 1)) aNil)))) (gT z (gcons_len (gcons_len gnil_len)) (gC (gN 6 z) (gC (gN 7 z) gNil'))) (sCons (sLet 8 z (xC1 z (ok_takings T) (by decide) (aCons (pxE 0 (pv 0)) (aCons (xC1 z (ok_with_step T) (by decide) (aCons (pxE 2 (pv 2)) (aCons (pxE 6 (pv 6)) (aCons (pxE 7 (pv 7)) (aCons (pxE 4 (pv 4)) aNil))))) (aCons (pxE 7 (pv 7)) (aCons (pxE 4 (pv 4)) aNil))))))
  (sOne (sExtend 5 (pv 5) (n2e (xLc (own := [("one", 9)]) z.calm z.nd (iSeqV (pxV 8 (pv 8))) (blkOk_by (by kernel_rfl)) (by decide) (fun _ _ _ _ _ => (gN 9 (z.blk _ _ _ _ _))) (fun _ _ _ _ _ => tsNil) (fun _ _ _ _ _ => (xTup (aCons (pxE 6 (pv 6)) (aCons (pxE 7 (pv 7)) (aCons (pxE 9 (pv 9)) aNil)))))))))))
  (sOne (sRet (pxE 5 (pv 5)))))))
theorem ok_moves (T : Top w K mg) : OkF P w K mg base "moves" ["board", "stand"] 4 fmoves :=
  okO T.d_moves sc_moves fun f cdv A outer s H E z =>
  (sCons (sIf (tCmp op_isNotB (e2v (xC1 z (ok_winner T) (by decide) (aCons (pxE 0 (pv 0)) (aCons (pxE 1 (pv 1)) aNil)))) (e2v xNone) (nomark _)) (sOne (sRet (xTup aNil))) sNil)
  (sOne (sRet (xTuple T.m_tuple (e2v (n2e (xSorted z T.m_sorted (e2v (xC1 z (ok_all_moves T) (by decide) (aCons (pxE 0 (pv 0)) (aCons (pxE 1 (pv 1)) aNil)))))))))))
theorem ok_all_stands (T : Top w K mg) : OkF P w K mg base "all_stands" ["board", "stand"] 5 fall_stands :=
  okO T.d_all_stands sc_all_stands fun f cdv A outer s H E z =>
  (sCons (sLetD 2 z)
  (sCons (sLetN 3 z (xLst (aCons (pxE 1 (pv 1)) aNil)))
  (sCons (sWhile 1000000 z.po (tTru (pxV 3 (pv 3))) (sCons (sLetP 3 4 z (pv 3))
  (sOne (sIf (tCmp (op_notInB z.rm) (pxV 4 (pv 4)) (pxV 2 (pv 2)) (by rfl)) (sCons (sDSet 2 z (n2e (xLc (own := [("move", 5)]) z.calm z.nd (iSeqV (e2v (xC1 z (ok_moves T) (by decide) (aCons (pxE 0 (pv 0)) (aCons (pxE 4 (pv 4)) aNil))))) (blkOk_by (by kernel_rfl)) (by decide) (fun _ _ _ _ _ => (gN 5 (z.blk _ _ _ _ _))) (fun _ _ _ _ _ => tsNil) (fun _ _ _ _ _ => (xC1 (z.blk _ _ _ _ _) (ok_done T) (by decide) (aCons (pxE 4 (pv 4)) (aCons (pxE 5 (pv 5)) aNil)))))) (pv 2) (pxE 4 (pv 4)))
  (sOne (sExtend 3 (pv 3) (xDIx z (pxV 2 (pv 2)) (pxV 4 (pv 4)) (fun _ _ => rfl))))) sNil))))
  (sOne (sRet (pxE 2 (pv 2)))))))
theorem ok_end_of (T : Top w K mg) : OkF P w K mg base "end_of" ["board", "stand"] 6 fend_of :=
  okO T.d_end_of sc_end_of fun f cdv A outer s H E z =>
  (sOne (sRet (xC1 z (ok_end_in T) (by decide) (aCons (xC1 z (ok_ends_of T) (by decide) (aCons (xC1 z (ok_all_stands T) (by decide) (aCons (pxE 0 (pv 0)) (aCons (pxE 1 (pv 1)) aNil))) aNil)) (aCons (pxE 1 (pv 1)) aNil)))))
theorem ok__law_cell (T : Top w K mg) : OkF P w K mg base "_law_cell" ["script", "k"] 1 f_law_cell :=
  okO T.d__law_cell sc__law_cell fun f cdv A outer s H E z =>
  (sCons (sIf (tCmp (op_ltB z.rm) (pxV 1 (pv 1)) (e2v (xLen T.m_len (pxV 0 (pv 0)))) (nomark _)) (sOne (sRet (xIx (pxV 0 (pv 0)) (pxV 1 (pv 1)) (fun _ _ => rfl)))) sNil)
  (sOne (sRet xInt)))
theorem ok__law_steps (T : Top w K mg) : OkF P w K mg base "_law_steps" ["board", "stand"] 1 f_law_steps :=
  okO T.d__law_steps sc__law_steps fun f cdv A outer s H E z =>
  (sCons (sUnp (pxE 1 (pv 1)) (gT z (gcons_len (gcons_len (gcons_len gnil_len))) (gC (gN 2 z) (gC (gN 3 z) (gC (gN 4 z) gNil')))))
  (sCons (sLcF (sLc (i := 5) (own := [("p", 10)]) z.calm z.nd rfl rfl (by rfl) (iRange1 (by rfl) T.m_range (xIx (pxV 0 (pv 0)) (e2v xInt) (fun _ _ => rfl))) (blkOk_by (by kernel_rfl)) (by decide) (fun _ _ _ _ _ => (gN 10 (z.blk _ _ _ _ _))) (fun _ _ _ _ _ => (tsOne (tCmp op_isB (e2v (xIx (pxV 2 (pv 2)) (pxV 10 (pv 10)) (fun _ _ => rfl))) (e2v xNone) (nomark _)))) (fun _ _ _ _ _ => (pxE 10 (pv 10)))))
  (sCons (sIf (tCmp op_gtB (e2v (xIx (pxV 3 (pv 3)) (pxV 4 (pv 4)) (fun _ _ => rfl))) (e2v xInt) (nomark _)) (sOne (sRet (n2e (xLc (own := [("goal", 9)]) z.calm z.nd (iSeqV (pxV 5 (pv 5))) (blkOk_by (by kernel_rfl)) (by decide) (fun _ _ _ _ _ => (gN 9 (z.blk _ _ _ _ _))) (fun _ _ _ _ _ => tsNil) (fun _ _ _ _ _ => (xTup (aCons (xUn un_negB xInt) (aCons (pxE 9 (pv 9)) aNil)))))))) sNil)
  (sCons (sLcF (sLc (i := 6) (own := [("p", 10)]) z.calm z.nd rfl rfl (by rfl) (iRange1 (by rfl) T.m_range (xIx (pxV 0 (pv 0)) (e2v xInt) (fun _ _ => rfl))) (blkOk_by (by kernel_rfl)) (by decide) (fun _ _ _ _ _ => (gN 10 (z.blk _ _ _ _ _))) (fun _ _ _ _ _ => (tsOne (tCmp (op_eqB (z.blk _ _ _ _ _).rm) (e2v (xIx (pxV 2 (pv 2)) (pxV 10 (pv 10)) (fun _ _ => rfl))) (pxV 4 (pv 4)) (nomark _)))) (fun _ _ _ _ _ => (pxE 10 (pv 10)))))
  (sCons (sLetN 7 z (xLst aNil))
  (sCons (sFor z.po z.calm (iSeqF (pxE 6 (pv 6))) (gN 8 z) (sOne (sFor z.po z.calm (iSeqF (pxE 5 (pv 5))) (gN 9 z) (sOne (sIf (tW (tOr (tCmp (op_ltB z.rm) (e2v (xLen T.m_len (pxV 6 (pv 6)))) (e2v xInt) (nomark _)) (tOr1 (tCmp (op_inB z.rm) (e2v (xTup (aCons (xMin2 z T.m_min (pxV 8 (pv 8)) (pxV 9 (pv 9))) (aCons (xMax2 z T.m_max (pxV 8 (pv 8)) (pxV 9 (pv 9))) aNil)))) (e2v (xIx (pxV 0 (pv 0)) (e2v xInt) (fun _ _ => rfl))) (by rfl))))) (sOne (sAppend 7 (pv 7) (xTup (aCons (pxE 8 (pv 8)) (aCons (pxE 9 (pv 9)) aNil))))) sNil)))))
  (sOne (sRet (pxE 7 (pv 7))))))))))
theorem ok__law_winner (T : Top w K mg) : OkF P w K mg base "_law_winner" ["board", "stand"] 2 f_law_winner :=
  okO T.d__law_winner sc__law_winner fun f cdv A outer s H E z =>
  (sCons (sUnp (pxE 1 (pv 1)) (gT z (gcons_len (gcons_len (gcons_len gnil_len))) (gC (gN 2 z) (gC (gN 3 z) (gC (gN 4 z) gNil')))))
  (sCons (sIf (tW (tOr (tCmp (op_ltB z.rm) (e2v (xBin op_addB (xCount z.rm (pxV 2 (pv 2)) (pxV 4 (pv 4))) (xIx (pxV 3 (pv 3)) (pxV 4 (pv 4)) (fun _ _ => rfl)))) (e2v xInt) (nomark _)) (tOr1 (tNot (tTru (e2v (xC1 z (ok__law_steps T) (by decide) (aCons (pxE 0 (pv 0)) (aCons (pxE 1 (pv 1)) aNil))))))))) (sOne (sRet (xBin op_subB xInt (pxE 4 (pv 4))))) sNil)
  (sOne (sRet xNone))))
theorem ok__law_rows_of (T : Top w K mg) : OkF P w K mg base "_law_rows_of" ["board", "men", "who"] 1 f_law_rows_of :=
  okO T.d__law_rows_of sc__law_rows_of fun f cdv A outer s H E z =>
  (sOne (sRet (n2e (xLc (own := [("row", 3)]) z.calm z.nd (iSeqV (e2v (xIx (pxV 0 (pv 0)) (e2v xInt) (fun _ _ => rfl)))) (blkOk_by (by kernel_rfl)) (by decide) (fun _ _ _ _ _ => (gN 3 (z.blk _ _ _ _ _))) (fun _ _ _ _ _ => (tsOne (tCmp (op_eqB (z.blk _ _ _ _ _).rm) (e2v (n2e (xLc (own := [("p", 4)]) (z.blk _ _ _ _ _).calm (z.blk _ _ _ _ _).nd (iSeqV (pxV 3 (pv 3))) (blkOk_by (by kernel_rfl)) (by decide) (fun _ _ _ _ _ => (gN 4 ((z.blk _ _ _ _ _).blk _ _ _ _ _))) (fun _ _ _ _ _ => tsNil) (fun _ _ _ _ _ => (xIx (pxV 1 (pv 1)) (pxV 4 (pv 4)) (fun _ _ => rfl)))))) (e2v (n2e (xLst (aCons (pxE 2 (pv 2)) (aCons (pxE 2 (pv 2)) (aCons (pxE 2 (pv 2)) aNil)))))) (nomark _)))) (fun _ _ _ _ _ => (pxE 3 (pv 3)))))))
theorem ok__law_moves (T : Top w K mg) : OkF P w K mg base "_law_moves" ["board", "stand"] 3 f_law_moves :=
  okO T.d__law_moves sc__law_moves fun f cdv A outer s H E z =>
  (sCons (sUnp (pxE 1 (pv 1)) (gT z (gcons_len (gcons_len (gcons_len gnil_len))) (gC (gN 2 z) (gC (gN 3 z) (gC (gN 4 z) gNil')))))
  (sCons (sIf (tCmp op_isNotB (e2v (xC1 z (ok__law_winner T) (by decide) (aCons (pxE 0 (pv 0)) (aCons (pxE 1 (pv 1)) aNil)))) (e2v xNone) (nomark _)) (sOne (sRet (xTup aNil))) sNil)
  (sCons (sLetN 5 z (xLst aNil))
  (sCons (sFor z.po z.calm (iSeqF (xC1 z (ok__law_steps T) (by decide) (aCons (pxE 0 (pv 0)) (aCons (pxE 1 (pv 1)) aNil)))) (gT z (gcons_len (gcons_len gnil_len)) (gC (gN 6 z) (gC (gN 7 z) gNil'))) (sCons (sLetN 8 z (xLc (own := [("p", 14), ("man", 15)]) z.calm z.nd (iEnumV (by rfl) T.m_enumerate (pxV 2 (pv 2))) (blkOk_by (by kernel_rfl)) (by decide) (fun _ _ _ _ _ => (gT (z.blk _ _ _ _ _) (gcons_len (gcons_len gnil_len)) (gC (gN 14 (z.blk _ _ _ _ _)) (gC (gN 15 (z.blk _ _ _ _ _)) gNil')))) (fun _ _ _ _ _ => tsNil) (fun _ _ _ _ _ => (xIf (tCmp (op_eqB (z.blk _ _ _ _ _).rm) (pxV 14 (pv 14)) (pxV 6 (pv 6)) (nomark _)) xNone (pxE 15 (pv 15))))))
  (sCons (sSet 8 (pxE 4 (pv 4)) (pv 8) (pxE 7 (pv 7)))
  (sCons (sLet 9 z (n2e (xLst (aCons (xUn un_negB xInt) aNil))))
  (sCons (sFz 8 (sIf (tTru (e2v (n2e (xLc (own := [("row", 11)]) z.calm z.nd (iSeqV (e2v (xC1 z (ok__law_rows_of T) (by decide) (aCons (pxE 0 (pv 0)) (aCons (pxE 8 (pv 8)) (aCons (pxE 4 (pv 4)) aNil)))))) (blkOk_by (by kernel_rfl)) (by decide) (fun _ _ _ _ _ => (gN 11 (z.blk _ _ _ _ _))) (fun _ _ _ _ _ => (tsOne (tCmp (op_inB (z.blk _ _ _ _ _).rm) (pxV 7 (pv 7)) (pxV 11 (pv 11)) (by rfl)))) (fun _ _ _ _ _ => (pxE 11 (pv 11))))))) (sCons (sLetN 10 z (xLst aNil))
  (sCons (sFor z.po z.calm (iSeqF (xC1 z (ok__law_rows_of T) (by decide) (aCons (pxE 0 (pv 0)) (aCons (pxE 8 (pv 8)) (aCons (xBin op_subB xInt (pxE 4 (pv 4))) aNil))))) (gN 11 z) (sOne (sExtend 10 (pv 10) (pxE 11 (pv 11)))))
  (sCons (sLcF (sLc (i := 12) (own := [("p", 14)]) z.calm z.nd rfl rfl (by rfl) (iRange1 (by rfl) T.m_range (xIx (pxV 0 (pv 0)) (e2v xInt) (fun _ _ => rfl))) (blkOk_by (by kernel_rfl)) (by decide) (fun _ _ _ _ _ => (gN 14 (z.blk _ _ _ _ _))) (fun _ _ _ _ _ => (tsOne (tCmp (op_eqB (z.blk _ _ _ _ _).rm) (e2v (xIx (pxV 8 (pv 8)) (pxV 14 (pv 14)) (fun _ _ => rfl))) (e2v (xBin op_subB xInt (pxE 4 (pv 4)))) (nomark _)))) (fun _ _ _ _ _ => (pxE 14 (pv 14)))))
  (sCons (sLcF (sLc (i := 13) (own := [("p", 14)]) z.calm z.nd rfl rfl (by rfl) (iSeqV (pxV 12 (pv 12))) (blkOk_by (by kernel_rfl)) (by decide) (fun _ _ _ _ _ => (gN 14 (z.blk _ _ _ _ _))) (fun _ _ _ _ _ => (tsOne (tCmp (op_notInB (z.blk _ _ _ _ _).rm) (pxV 14 (pv 14)) (pxV 10 (pv 10)) (by rfl)))) (fun _ _ _ _ _ => (pxE 14 (pv 14)))))
  (sOne (sIf (tTru (pxV 13 (pv 13))) (sOne (sLet 9 z (pxE 13 (pv 13)))) (sOne (sIf (tTru (pxV 12 (pv 12))) (sOne (sLet 9 z (pxE 12 (pv 12)))) sNil)))))))) sNil))
  (sOne (sExtend 5 (pv 5) (n2e (xLc (own := [("one", 16)]) z.calm z.nd (iSeqV (pxV 9 (pv 9))) (blkOk_by (by kernel_rfl)) (by decide) (fun _ _ _ _ _ => (gN 16 (z.blk _ _ _ _ _))) (fun _ _ _ _ _ => tsNil) (fun _ _ _ _ _ => (xTup (aCons (pxE 6 (pv 6)) (aCons (pxE 7 (pv 7)) (aCons (pxE 16 (pv 16)) aNil))))))))))))))
  (sOne (sRet (xTuple T.m_tuple (e2v (n2e (xSorted z T.m_sorted (pxV 5 (pv 5))))))))))))
theorem ok__law_after (T : Top w K mg) : OkF P w K mg base "_law_after" ["stand", "move"] 1 f_law_after :=
  okO T.d__law_after sc__law_after fun f cdv A outer s H E z =>
  (sCons (sUnp (pxE 0 (pv 0)) (gT z (gcons_len (gcons_len (gcons_len gnil_len))) (gC (gN 2 z) (gC (gN 3 z) (gC (gN 4 z) gNil')))))
  (sCons (sUnp (pxE 1 (pv 1)) (gT z (gcons_len (gcons_len (gcons_len gnil_len))) (gC (gN 5 z) (gC (gN 6 z) (gC (gN 7 z) gNil')))))
  (sCons (sLc (i := 8) (own := [("p", 9), ("man", 10)]) z.calm z.nd rfl rfl (by rfl) (iEnumV (by rfl) T.m_enumerate (pxV 2 (pv 2))) (blkOk_by (by kernel_rfl)) (by decide) (fun _ _ _ _ _ => (gT (z.blk _ _ _ _ _) (gcons_len (gcons_len gnil_len)) (gC (gN 9 (z.blk _ _ _ _ _)) (gC (gN 10 (z.blk _ _ _ _ _)) gNil')))) (fun _ _ _ _ _ => tsNil) (fun _ _ _ _ _ => (xIf (tCmp (op_inB (z.blk _ _ _ _ _).rm) (pxV 9 (pv 9)) (e2v (xTup (aCons (pxE 5 (pv 5)) (aCons (pxE 7 (pv 7)) aNil)))) (by rfl)) xNone (pxE 10 (pv 10)))))
  (sCons (sSet 8 (pxE 4 (pv 4)) (pv 8) (pxE 6 (pv 6)))
  (sCons (sIf (tCmp (op_ltB z.rm) (pxV 5 (pv 5)) (e2v xInt) (nomark _)) (sOne (sLet 3 z (xTup (aCons (xBin op_subB (xIx (pxV 3 (pv 3)) (e2v xInt) (fun _ _ => rfl)) (xInt1 T.m_int (e2v (xCmp (op_eqB z.rm) (pxV 4 (pv 4)) (e2v xInt) (nomark _))))) (aCons (xBin op_subB (xIx (pxV 3 (pv 3)) (e2v xInt) (fun _ _ => rfl)) (xInt1 T.m_int (e2v (xCmp (op_eqB z.rm) (pxV 4 (pv 4)) (e2v xInt) (nomark _))))) aNil))))) sNil)
  (sOne (sRet (xTup (aCons (xTuple T.m_tuple (pxV 8 (pv 8))) (aCons (pxE 3 (pv 3)) (aCons (xBin op_subB xInt (pxE 4 (pv 4))) aNil)))))))))))
theorem step__law_same (T : Top w K mg) (n : Nat) {F_law_same : List D → R D} (G_law_same : OkF P w K mg base "_law_same" ["found", "due"] (0 + n) F_law_same) : OkF P w K mg base "_law_same" ["found", "due"] (0 + n + 1) (runD 4 (b_law_same F_law_same)) :=
  okO T.d__law_same sc__law_same fun f cdv A outer s H E z =>
  (sCons (sIf (tTru (e2v (xIsi (T := "tuple") (by rfl) T.m_isinstance bt_isinstance (by rfl) T.m_tuple bt_tuple (pxV 1 (pv 1))))) (sCons (sIf (tW (tOr (tNot (tTru (e2v (xIsi (T := "tuple") (by rfl) T.m_isinstance bt_isinstance (by rfl) T.m_tuple bt_tuple (pxV 0 (pv 0)))))) (tOr1 (tCmp (op_neB z.rm) (e2v (xLen T.m_len (pxV 0 (pv 0)))) (e2v (xLen T.m_len (pxV 1 (pv 1)))) (nomark _))))) (sOne (sRet xBool)) sNil)
  (sOne (sRet (xAll z T.m_all (e2v (n2e (xLc (own := [("one", 2), ("other", 3)]) z.calm z.nd (iZipV (by rfl) T.m_zip (pxV 0 (pv 0)) (pxV 1 (pv 1))) (blkOk_by (by kernel_rfl)) (by decide) (fun _ _ _ _ _ => (gT (z.blk _ _ _ _ _) (gcons_len (gcons_len gnil_len)) (gC (gN 2 (z.blk _ _ _ _ _)) (gC (gN 3 (z.blk _ _ _ _ _)) gNil')))) (fun _ _ _ _ _ => tsNil) (fun _ _ _ _ _ => (xC1 (z.blk _ _ _ _ _) G_law_same (by omega) (aCons (pxE 2 (pv 2)) (aCons (pxE 3 (pv 3)) aNil))))))))))) sNil)
  (sCons (sIf (tCmp op_isB (pxV 1 (pv 1)) (e2v xNone) (nomark _)) (sOne (sRet (xCmp op_isB (pxV 0 (pv 0)) (e2v xNone) (nomark _)))) sNil)
  (sCons (sIf (tW (tOr (tTru (e2v (xIsi (T := "bool") (by rfl) T.m_isinstance bt_isinstance (by rfl) T.m_bool bt_bool (pxV 1 (pv 1))))) (tOr1 (tTru (e2v (xIsi (T := "bool") (by rfl) T.m_isinstance bt_isinstance (by rfl) T.m_bool bt_bool (pxV 0 (pv 0)))))))) (sOne (sRet (xAnd (xIsi (T := "bool") (by rfl) T.m_isinstance bt_isinstance (by rfl) T.m_bool bt_bool (pxV 1 (pv 1))) (xAnd (xIsi (T := "bool") (by rfl) T.m_isinstance bt_isinstance (by rfl) T.m_bool bt_bool (pxV 0 (pv 0))) (xOne (xCmp (op_eqB z.rm) (pxV 0 (pv 0)) (pxV 1 (pv 1)) (nomark _))))))) sNil)
  (sOne (sRet (xAnd (xIsi2 (T := "int") (U := "str") (by rfl) T.m_isinstance bt_isinstance (by rfl) T.m_int bt_int (by rfl) T.m_str bt_str (pxV 0 (pv 0))) (xOne (xCmp (op_eqB z.rm) (pxV 0 (pv 0)) (pxV 1 (pv 1)) (nomark _)))))))))
theorem fam__law_same (T : Top w K mg) : ∀ n : Nat, OkF P w K mg base "_law_same" ["found", "due"] (0 + n) (f_law_same n)
  | 0 => okBad T.d__law_same
  | n + 1 => step__law_same T n (fam__law_same T n)
theorem ok__law_same (T : Top w K mg) (n : Nat) : OkF P w K mg base "_law_same" ["found", "due"] (0 + n) (f_law_same n) := (fam__law_same T n)
theorem ok__law_is_right (T : Top w K mg) : OkF P w K mg base "_law_is_right" ["board", "stand", "known"] 9 f_law_is_right :=
  okO T.d__law_is_right sc__law_is_right fun f cdv A outer s H E z =>
  (sCons (sLet 3 z (xDIx z (pxV 2 (pv 2)) (pxV 1 (pv 1)) (fun _ _ => rfl)))
  (sCons (sIf (tW (tOr (tNot (tTru (e2v (xIsi (T := "tuple") (by rfl) T.m_isinstance bt_isinstance (by rfl) T.m_tuple bt_tuple (pxV 3 (pv 3)))))) (tOr1 (tCmp (op_neB z.rm) (e2v (xLen T.m_len (pxV 3 (pv 3)))) (e2v xInt) (nomark _))))) (sOne (sRet xBool)) sNil)
  (sCons (sLcF (sLc (i := 4) (own := [("move", 7)]) z.calm z.nd rfl rfl (by rfl) (iSeqV (e2v (xC1 z (ok__law_moves T) (by decide) (aCons (pxE 0 (pv 0)) (aCons (pxE 1 (pv 1)) aNil))))) (blkOk_by (by kernel_rfl)) (by decide) (fun _ _ _ _ _ => (gN 7 (z.blk _ _ _ _ _))) (fun _ _ _ _ _ => tsNil) (fun _ _ _ _ _ => (xDIx (z.blk _ _ _ _ _) (pxV 2 (pv 2)) (e2v (xC1 (z.blk _ _ _ _ _) (ok__law_after T) (by decide) (aCons (pxE 1 (pv 1)) (aCons (pxE 7 (pv 7)) aNil)))) (fun _ _ => rfl)))))
  (sCons (sIf (tNot (tTru (pxV 4 (pv 4)))) (sOne (sRet (xC1 z (ok__law_same T 8) (by decide) (aCons (pxE 3 (pv 3)) (aCons (xTup (aCons xStr (aCons xInt aNil))) aNil))))) sNil)
  (sCons (sLcF (sLc (i := 5) (own := [("word", 8), ("n", 9)]) z.calm z.nd rfl rfl (by rfl) (iSeqV (pxV 4 (pv 4))) (blkOk_by (by kernel_rfl)) (by decide) (fun _ _ _ _ _ => (gT (z.blk _ _ _ _ _) (gcons_len (gcons_len gnil_len)) (gC (gN 8 (z.blk _ _ _ _ _)) (gC (gN 9 (z.blk _ _ _ _ _)) gNil')))) (fun _ _ _ _ _ => (tsOne (tCmp (op_eqB (z.blk _ _ _ _ _).rm) (pxV 8 (pv 8)) (e2v xStr) (nomark _)))) (fun _ _ _ _ _ => (pxE 9 (pv 9)))))
  (sCons (sLcF (sLc (i := 6) (own := [("word", 8), ("n", 9)]) z.calm z.nd rfl rfl (by rfl) (iSeqV (pxV 4 (pv 4))) (blkOk_by (by kernel_rfl)) (by decide) (fun _ _ _ _ _ => (gT (z.blk _ _ _ _ _) (gcons_len (gcons_len gnil_len)) (gC (gN 8 (z.blk _ _ _ _ _)) (gC (gN 9 (z.blk _ _ _ _ _)) gNil')))) (fun _ _ _ _ _ => (tsOne (tCmp (op_eqB (z.blk _ _ _ _ _).rm) (pxV 8 (pv 8)) (e2v xStr) (nomark _)))) (fun _ _ _ _ _ => (pxE 9 (pv 9)))))
  (sCons (sIf (tTru (pxV 5 (pv 5))) (sOne (sRet (xC1 z (ok__law_same T 8) (by decide) (aCons (pxE 3 (pv 3)) (aCons (xTup (aCons xStr (aCons (xBin op_addB xInt (xMin z T.m_min (pxV 5 (pv 5)))) aNil))) aNil))))) sNil)
  (sCons (sIf (tCmp (op_eqB z.rm) (e2v (xLen T.m_len (pxV 6 (pv 6)))) (e2v (xLen T.m_len (pxV 4 (pv 4)))) (nomark _)) (sOne (sRet (xC1 z (ok__law_same T 8) (by decide) (aCons (pxE 3 (pv 3)) (aCons (xTup (aCons xStr (aCons (xBin op_addB xInt (xMax z T.m_max (pxV 6 (pv 6)))) aNil))) aNil))))) sNil)
  (sOne (sRet (xC1 z (ok__law_same T 8) (by decide) (aCons (pxE 3 (pv 3)) (aCons (xTup (aCons xStr (aCons xInt aNil))) aNil)))))))))))))
theorem ok_law (T : Top w K mg) : OkF P w K mg base "law" ["script"] 10 flaw :=
  okO T.d_law sc_law fun f cdv A outer s H E z =>
  (sCons (sFor z.po z.calm (iRange1 (by rfl) T.m_range xInt) (gN 1 z) (sCons (sLet 2 z (xBin op_addB (xC1 z (ok__law_cell T) (by decide) (aCons (pxE 0 (pv 0)) (aCons (pxE 1 (pv 1)) aNil))) (xBin op_mulB xInt (pxE 1 (pv 1)))))
  (sCons (sLet 3 z (xC1 z (ok__law_drawn_board T) (by decide) (aCons (pxE 2 (pv 2)) (aCons xInt aNil))))
  (sCons (sIf (tCmp (op_eqB z.rm) (e2v (xBin op_modB (pxE 2 (pv 2)) xInt)) (e2v xInt) (nomark _)) (sOne (sLet 3 z (xTup (aCons (xIx (pxV 3 (pv 3)) (e2v xInt) (fun _ _ => rfl)) (aCons (xTuple T.m_tuple (e2v (n2e (xLc (own := [("p", 10)]) z.calm z.nd (iRange1 (by rfl) T.m_range (xBin op_subB (xIx (pxV 3 (pv 3)) (e2v xInt) (fun _ _ => rfl)) xInt)) (blkOk_by (by kernel_rfl)) (by decide) (fun _ _ _ _ _ => (gN 10 (z.blk _ _ _ _ _))) (fun _ _ _ _ _ => tsNil) (fun _ _ _ _ _ => (xTup (aCons (pxE 10 (pv 10)) (aCons (xBin op_addB (pxE 10 (pv 10)) xInt) aNil)))))))) (aCons (xIx (pxV 3 (pv 3)) (e2v xInt) (fun _ _ => rfl)) aNil)))))) sNil)
  (sCons (sLet 4 z (xC1 z (ok__law_stand T) (by decide) (aCons (pxE 3 (pv 3)) (aCons (xBin op_addB (xC1 z (ok__law_cell T) (by decide) (aCons (pxE 0 (pv 0)) (aCons xInt aNil))) (xBin op_mulB xInt (pxE 1 (pv 1)))) (aCons xInt aNil)))))
  (sCons (sLetD 5 z)
  (sCons (sDSet 5 z (xC1 z (ok_end_of T) (by decide) (aCons (pxE 3 (pv 3)) (aCons (pxE 4 (pv 4)) aNil))) (pv 5) (pxE 4 (pv 4)))
  (sCons (sLet 6 z (xBin op_addB (n2e (xLst (aCons (pxE 4 (pv 4)) aNil))) (n2e (xLc (own := [("move", 8)]) z.calm z.nd (iSeqV (e2v (xSl (e2v (xC1 z (ok__law_moves T) (by decide) (aCons (pxE 3 (pv 3)) (aCons (pxE 4 (pv 4)) aNil)))) oNone (oSome xInt)))) (blkOk_by (by kernel_rfl)) (by decide) (fun _ _ _ _ _ => (gN 8 (z.blk _ _ _ _ _))) (fun _ _ _ _ _ => tsNil) (fun _ _ _ _ _ => (xC1 (z.blk _ _ _ _ _) (ok__law_after T) (by decide) (aCons (pxE 4 (pv 4)) (aCons (pxE 8 (pv 8)) aNil))))))))
  (sCons (sFor z.po z.calm (iSeqF (pxE 6 (pv 6))) (gN 7 z) (sCons (sDSet 5 z (xC1 z (ok_end_of T) (by decide) (aCons (pxE 3 (pv 3)) (aCons (pxE 7 (pv 7)) aNil))) (pv 5) (pxE 7 (pv 7)))
  (sOne (sFor z.po z.calm (iSeqF (xC1 z (ok__law_moves T) (by decide) (aCons (pxE 3 (pv 3)) (aCons (pxE 7 (pv 7)) aNil)))) (gN 8 z) (sCons (sLet 9 z (xC1 z (ok__law_after T) (by decide) (aCons (pxE 7 (pv 7)) (aCons (pxE 8 (pv 8)) aNil))))
  (sOne (sIf (tCmp (op_notInB z.rm) (pxV 9 (pv 9)) (pxV 5 (pv 5)) (by rfl)) (sOne (sDSet 5 z (xC1 z (ok_end_of T) (by decide) (aCons (pxE 3 (pv 3)) (aCons (pxE 9 (pv 9)) aNil))) (pv 5) (pxE 9 (pv 9)))) sNil)))))))
  (sOne (sIf (tNot (tTru (e2v (xAll z T.m_all (e2v (n2e (xLc (own := [("one", 7)]) z.calm z.nd (iSeqV (pxV 6 (pv 6))) (blkOk_by (by kernel_rfl)) (by decide) (fun _ _ _ _ _ => (gN 7 (z.blk _ _ _ _ _))) (fun _ _ _ _ _ => tsNil) (fun _ _ _ _ _ => (xCV (z.blk _ _ _ _ _) (ok__law_is_right T) (by decide) (avCons (pxV 3 (pv 3)) (avCons (pxV 7 (pv 7)) (avCons (pxV 5 (pv 5)) avNil)))))))))))) (sOne (sRet xBool)) sNil)))))))))))
  (sOne (sRet xBool)))
end
theorem top_mk {w : World} {K : PySem.W.Frag} {h : Heap} {mg : Str → Option Value} (X : K.In h) (G : h.Ns mainGlobals mg)
    {f0 : Addr} {od0 an0 : Option Addr} {sl0 : Array (Option Value)} {oc0 kV0 dc0 pm0 cd0 ct0 : Value}
    {f1 : Addr} {od1 an1 : Option Addr} {sl1 : Array (Option Value)} {oc1 kV1 dc1 pm1 cd1 ct1 : Value}
    {f2 : Addr} {od2 an2 : Option Addr} {sl2 : Array (Option Value)} {oc2 kV2 dc2 pm2 cd2 ct2 : Value}
    {f3 : Addr} {od3 an3 : Option Addr} {sl3 : Array (Option Value)} {oc3 kV3 dc3 pm3 cd3 ct3 : Value}
    {f4 : Addr} {od4 an4 : Option Addr} {sl4 : Array (Option Value)} {oc4 kV4 dc4 pm4 cd4 ct4 : Value}
    {f5 : Addr} {od5 an5 : Option Addr} {sl5 : Array (Option Value)} {oc5 kV5 dc5 pm5 cd5 ct5 : Value}
    {f6 : Addr} {od6 an6 : Option Addr} {sl6 : Array (Option Value)} {oc6 kV6 dc6 pm6 cd6 ct6 : Value}
    {f7 : Addr} {od7 an7 : Option Addr} {sl7 : Array (Option Value)} {oc7 kV7 dc7 pm7 cd7 ct7 : Value}
    {f8 : Addr} {od8 an8 : Option Addr} {sl8 : Array (Option Value)} {oc8 kV8 dc8 pm8 cd8 ct8 : Value}
    {f9 : Addr} {od9 an9 : Option Addr} {sl9 : Array (Option Value)} {oc9 kV9 dc9 pm9 cd9 ct9 : Value}
    {f10 : Addr} {od10 an10 : Option Addr} {sl10 : Array (Option Value)} {oc10 kV10 dc10 pm10 cd10 ct10 : Value}
    {f11 : Addr} {od11 an11 : Option Addr} {sl11 : Array (Option Value)} {oc11 kV11 dc11 pm11 cd11 ct11 : Value}
    {f12 : Addr} {od12 an12 : Option Addr} {sl12 : Array (Option Value)} {oc12 kV12 dc12 pm12 cd12 ct12 : Value}
    {f13 : Addr} {od13 an13 : Option Addr} {sl13 : Array (Option Value)} {oc13 kV13 dc13 pm13 cd13 ct13 : Value}
    {f14 : Addr} {od14 an14 : Option Addr} {sl14 : Array (Option Value)} {oc14 kV14 dc14 pm14 cd14 ct14 : Value}
    {f15 : Addr} {od15 an15 : Option Addr} {sl15 : Array (Option Value)} {oc15 kV15 dc15 pm15 cd15 ct15 : Value}
    {f16 : Addr} {od16 an16 : Option Addr} {sl16 : Array (Option Value)} {oc16 kV16 dc16 pm16 cd16 ct16 : Value}
    {f17 : Addr} {od17 an17 : Option Addr} {sl17 : Array (Option Value)} {oc17 kV17 dc17 pm17 cd17 ct17 : Value}
    {f18 : Addr} {od18 an18 : Option Addr} {sl18 : Array (Option Value)} {oc18 kV18 dc18 pm18 cd18 ct18 : Value}
    {f19 : Addr} {od19 an19 : Option Addr} {sl19 : Array (Option Value)} {oc19 kV19 dc19 pm19 cd19 ct19 : Value}
    {f20 : Addr} {od20 an20 : Option Addr} {sl20 : Array (Option Value)} {oc20 kV20 dc20 pm20 cd20 ct20 : Value}
    {f21 : Addr} {od21 an21 : Option Addr} {sl21 : Array (Option Value)} {oc21 kV21 dc21 pm21 cd21 ct21 : Value}
    {f22 : Addr} {od22 an22 : Option Addr} {sl22 : Array (Option Value)} {oc22 kV22 dc22 pm22 cd22 ct22 : Value}
    {f23 : Addr} {od23 an23 : Option Addr} {sl23 : Array (Option Value)} {oc23 kV23 dc23 pm23 cd23 ct23 : Value}
    {f24 : Addr} {od24 an24 : Option Addr} {sl24 : Array (Option Value)} {oc24 kV24 dc24 pm24 cd24 ct24 : Value}
    {f25 : Addr} {od25 an25 : Option Addr} {sl25 : Array (Option Value)} {oc25 kV25 dc25 pm25 cd25 ct25 : Value}
    {f26 : Addr} {od26 an26 : Option Addr} {sl26 : Array (Option Value)} {oc26 kV26 dc26 pm26 cd26 ct26 : Value}
    (a0 : PySem.W.nsIn K mainGlobals "_law_mix" = some (some (.ref f0))) (l0 : K.lookup f0 = some ⟨oc0, od0, .func (PySem.W.fnOf "_law_mix" "_law_mix" (defArgs st__law_mix) (defBody st__law_mix) (defScope st__law_mix) .none kV0 dc0 pm0 an0 cd0 ct0), sl0⟩) (c0 : PySem.W.codeIn K cd0 "_law_mix" = true) (k0 : PySem.W.keepIn K (.ref f0) = true)
    (a1 : PySem.W.nsIn K mainGlobals "_law_drawn_board" = some (some (.ref f1))) (l1 : K.lookup f1 = some ⟨oc1, od1, .func (PySem.W.fnOf "_law_drawn_board" "_law_drawn_board" (defArgs st__law_drawn_board) (defBody st__law_drawn_board) (defScope st__law_drawn_board) .none kV1 dc1 pm1 an1 cd1 ct1), sl1⟩) (c1 : PySem.W.codeIn K cd1 "_law_drawn_board" = true) (k1 : PySem.W.keepIn K (.ref f1) = true)
    (a2 : PySem.W.nsIn K mainGlobals "_law_stand" = some (some (.ref f2))) (l2 : K.lookup f2 = some ⟨oc2, od2, .func (PySem.W.fnOf "_law_stand" "_law_stand" (defArgs st__law_stand) (defBody st__law_stand) (defScope st__law_stand) .none kV2 dc2 pm2 an2 cd2 ct2), sl2⟩) (c2 : PySem.W.codeIn K cd2 "_law_stand" = true) (k2 : PySem.W.keepIn K (.ref f2) = true)
    (a3 : PySem.W.nsIn K mainGlobals "end_in" = some (some (.ref f3))) (l3 : K.lookup f3 = some ⟨oc3, od3, .func (PySem.W.fnOf "end_in" "end_in" (defArgs st_end_in) (defBody st_end_in) (defScope st_end_in) .none kV3 dc3 pm3 an3 cd3 ct3), sl3⟩) (c3 : PySem.W.codeIn K cd3 "end_in" = true) (k3 : PySem.W.keepIn K (.ref f3) = true)
    (a4 : PySem.W.nsIn K mainGlobals "ends_of" = some (some (.ref f4))) (l4 : K.lookup f4 = some ⟨oc4, od4, .func (PySem.W.fnOf "ends_of" "ends_of" (defArgs st_ends_of) (defBody st_ends_of) (defScope st_ends_of) .none kV4 dc4 pm4 an4 cd4 ct4), sl4⟩) (c4 : PySem.W.codeIn K cd4 "ends_of" = true) (k4 : PySem.W.keepIn K (.ref f4) = true)
    (a5 : PySem.W.nsIn K mainGlobals "with_step" = some (some (.ref f5))) (l5 : K.lookup f5 = some ⟨oc5, od5, .func (PySem.W.fnOf "with_step" "with_step" (defArgs st_with_step) (defBody st_with_step) (defScope st_with_step) .none kV5 dc5 pm5 an5 cd5 ct5), sl5⟩) (c5 : PySem.W.codeIn K cd5 "with_step" = true) (k5 : PySem.W.keepIn K (.ref f5) = true)
    (a6 : PySem.W.nsIn K mainGlobals "done" = some (some (.ref f6))) (l6 : K.lookup f6 = some ⟨oc6, od6, .func (PySem.W.fnOf "done" "done" (defArgs st_done) (defBody st_done) (defScope st_done) .none kV6 dc6 pm6 an6 cd6 ct6), sl6⟩) (c6 : PySem.W.codeIn K cd6 "done" = true) (k6 : PySem.W.keepIn K (.ref f6) = true)
    (a7 : PySem.W.nsIn K mainGlobals "points_of" = some (some (.ref f7))) (l7 : K.lookup f7 = some ⟨oc7, od7, .func (PySem.W.fnOf "points_of" "points_of" (defArgs st_points_of) (defBody st_points_of) (defScope st_points_of) .none kV7 dc7 pm7 an7 cd7 ct7), sl7⟩) (c7 : PySem.W.codeIn K cd7 "points_of" = true) (k7 : PySem.W.keepIn K (.ref f7) = true)
    (a8 : PySem.W.nsIn K mainGlobals "count" = some (some (.ref f8))) (l8 : K.lookup f8 = some ⟨oc8, od8, .func (PySem.W.fnOf "count" "count" (defArgs st_count) (defBody st_count) (defScope st_count) .none kV8 dc8 pm8 an8 cd8 ct8), sl8⟩) (c8 : PySem.W.codeIn K cd8 "count" = true) (k8 : PySem.W.keepIn K (.ref f8) = true)
    (a9 : PySem.W.nsIn K mainGlobals "neighbours" = some (some (.ref f9))) (l9 : K.lookup f9 = some ⟨oc9, od9, .func (PySem.W.fnOf "neighbours" "neighbours" (defArgs st_neighbours) (defBody st_neighbours) (defScope st_neighbours) .none kV9 dc9 pm9 an9 cd9 ct9), sl9⟩) (c9 : PySem.W.codeIn K cd9 "neighbours" = true) (k9 : PySem.W.keepIn K (.ref f9) = true)
    (a10 : PySem.W.nsIn K mainGlobals "steps" = some (some (.ref f10))) (l10 : K.lookup f10 = some ⟨oc10, od10, .func (PySem.W.fnOf "steps" "steps" (defArgs st_steps) (defBody st_steps) (defScope st_steps) .none kV10 dc10 pm10 an10 cd10 ct10), sl10⟩) (c10 : PySem.W.codeIn K cd10 "steps" = true) (k10 : PySem.W.keepIn K (.ref f10) = true)
    (a11 : PySem.W.nsIn K mainGlobals "winner" = some (some (.ref f11))) (l11 : K.lookup f11 = some ⟨oc11, od11, .func (PySem.W.fnOf "winner" "winner" (defArgs st_winner) (defBody st_winner) (defScope st_winner) .none kV11 dc11 pm11 an11 cd11 ct11), sl11⟩) (c11 : PySem.W.codeIn K cd11 "winner" = true) (k11 : PySem.W.keepIn K (.ref f11) = true)
    (a12 : PySem.W.nsIn K mainGlobals "full_rows" = some (some (.ref f12))) (l12 : K.lookup f12 = some ⟨oc12, od12, .func (PySem.W.fnOf "full_rows" "full_rows" (defArgs st_full_rows) (defBody st_full_rows) (defScope st_full_rows) .none kV12 dc12 pm12 an12 cd12 ct12), sl12⟩) (c12 : PySem.W.codeIn K cd12 "full_rows" = true) (k12 : PySem.W.keepIn K (.ref f12) = true)
    (a13 : PySem.W.nsIn K mainGlobals "takings" = some (some (.ref f13))) (l13 : K.lookup f13 = some ⟨oc13, od13, .func (PySem.W.fnOf "takings" "takings" (defArgs st_takings) (defBody st_takings) (defScope st_takings) .none kV13 dc13 pm13 an13 cd13 ct13), sl13⟩) (c13 : PySem.W.codeIn K cd13 "takings" = true) (k13 : PySem.W.keepIn K (.ref f13) = true)
    (a14 : PySem.W.nsIn K mainGlobals "all_moves" = some (some (.ref f14))) (l14 : K.lookup f14 = some ⟨oc14, od14, .func (PySem.W.fnOf "all_moves" "all_moves" (defArgs st_all_moves) (defBody st_all_moves) (defScope st_all_moves) .none kV14 dc14 pm14 an14 cd14 ct14), sl14⟩) (c14 : PySem.W.codeIn K cd14 "all_moves" = true) (k14 : PySem.W.keepIn K (.ref f14) = true)
    (a15 : PySem.W.nsIn K mainGlobals "moves" = some (some (.ref f15))) (l15 : K.lookup f15 = some ⟨oc15, od15, .func (PySem.W.fnOf "moves" "moves" (defArgs st_moves) (defBody st_moves) (defScope st_moves) .none kV15 dc15 pm15 an15 cd15 ct15), sl15⟩) (c15 : PySem.W.codeIn K cd15 "moves" = true) (k15 : PySem.W.keepIn K (.ref f15) = true)
    (a16 : PySem.W.nsIn K mainGlobals "all_stands" = some (some (.ref f16))) (l16 : K.lookup f16 = some ⟨oc16, od16, .func (PySem.W.fnOf "all_stands" "all_stands" (defArgs st_all_stands) (defBody st_all_stands) (defScope st_all_stands) .none kV16 dc16 pm16 an16 cd16 ct16), sl16⟩) (c16 : PySem.W.codeIn K cd16 "all_stands" = true) (k16 : PySem.W.keepIn K (.ref f16) = true)
    (a17 : PySem.W.nsIn K mainGlobals "end_of" = some (some (.ref f17))) (l17 : K.lookup f17 = some ⟨oc17, od17, .func (PySem.W.fnOf "end_of" "end_of" (defArgs st_end_of) (defBody st_end_of) (defScope st_end_of) .none kV17 dc17 pm17 an17 cd17 ct17), sl17⟩) (c17 : PySem.W.codeIn K cd17 "end_of" = true) (k17 : PySem.W.keepIn K (.ref f17) = true)
    (a18 : PySem.W.nsIn K mainGlobals "_law_cell" = some (some (.ref f18))) (l18 : K.lookup f18 = some ⟨oc18, od18, .func (PySem.W.fnOf "_law_cell" "_law_cell" (defArgs st__law_cell) (defBody st__law_cell) (defScope st__law_cell) .none kV18 dc18 pm18 an18 cd18 ct18), sl18⟩) (c18 : PySem.W.codeIn K cd18 "_law_cell" = true) (k18 : PySem.W.keepIn K (.ref f18) = true)
    (a19 : PySem.W.nsIn K mainGlobals "_law_steps" = some (some (.ref f19))) (l19 : K.lookup f19 = some ⟨oc19, od19, .func (PySem.W.fnOf "_law_steps" "_law_steps" (defArgs st__law_steps) (defBody st__law_steps) (defScope st__law_steps) .none kV19 dc19 pm19 an19 cd19 ct19), sl19⟩) (c19 : PySem.W.codeIn K cd19 "_law_steps" = true) (k19 : PySem.W.keepIn K (.ref f19) = true)
    (a20 : PySem.W.nsIn K mainGlobals "_law_winner" = some (some (.ref f20))) (l20 : K.lookup f20 = some ⟨oc20, od20, .func (PySem.W.fnOf "_law_winner" "_law_winner" (defArgs st__law_winner) (defBody st__law_winner) (defScope st__law_winner) .none kV20 dc20 pm20 an20 cd20 ct20), sl20⟩) (c20 : PySem.W.codeIn K cd20 "_law_winner" = true) (k20 : PySem.W.keepIn K (.ref f20) = true)
    (a21 : PySem.W.nsIn K mainGlobals "_law_rows_of" = some (some (.ref f21))) (l21 : K.lookup f21 = some ⟨oc21, od21, .func (PySem.W.fnOf "_law_rows_of" "_law_rows_of" (defArgs st__law_rows_of) (defBody st__law_rows_of) (defScope st__law_rows_of) .none kV21 dc21 pm21 an21 cd21 ct21), sl21⟩) (c21 : PySem.W.codeIn K cd21 "_law_rows_of" = true) (k21 : PySem.W.keepIn K (.ref f21) = true)
    (a22 : PySem.W.nsIn K mainGlobals "_law_moves" = some (some (.ref f22))) (l22 : K.lookup f22 = some ⟨oc22, od22, .func (PySem.W.fnOf "_law_moves" "_law_moves" (defArgs st__law_moves) (defBody st__law_moves) (defScope st__law_moves) .none kV22 dc22 pm22 an22 cd22 ct22), sl22⟩) (c22 : PySem.W.codeIn K cd22 "_law_moves" = true) (k22 : PySem.W.keepIn K (.ref f22) = true)
    (a23 : PySem.W.nsIn K mainGlobals "_law_after" = some (some (.ref f23))) (l23 : K.lookup f23 = some ⟨oc23, od23, .func (PySem.W.fnOf "_law_after" "_law_after" (defArgs st__law_after) (defBody st__law_after) (defScope st__law_after) .none kV23 dc23 pm23 an23 cd23 ct23), sl23⟩) (c23 : PySem.W.codeIn K cd23 "_law_after" = true) (k23 : PySem.W.keepIn K (.ref f23) = true)
    (a24 : PySem.W.nsIn K mainGlobals "_law_same" = some (some (.ref f24))) (l24 : K.lookup f24 = some ⟨oc24, od24, .func (PySem.W.fnOf "_law_same" "_law_same" (defArgs st__law_same) (defBody st__law_same) (defScope st__law_same) .none kV24 dc24 pm24 an24 cd24 ct24), sl24⟩) (c24 : PySem.W.codeIn K cd24 "_law_same" = true) (k24 : PySem.W.keepIn K (.ref f24) = true)
    (a25 : PySem.W.nsIn K mainGlobals "_law_is_right" = some (some (.ref f25))) (l25 : K.lookup f25 = some ⟨oc25, od25, .func (PySem.W.fnOf "_law_is_right" "_law_is_right" (defArgs st__law_is_right) (defBody st__law_is_right) (defScope st__law_is_right) .none kV25 dc25 pm25 an25 cd25 ct25), sl25⟩) (c25 : PySem.W.codeIn K cd25 "_law_is_right" = true) (k25 : PySem.W.keepIn K (.ref f25) = true)
    (a26 : PySem.W.nsIn K mainGlobals "law" = some (some (.ref f26))) (l26 : K.lookup f26 = some ⟨oc26, od26, .func (PySem.W.fnOf "law" "law" (defArgs st_law) (defBody st_law) (defScope st_law) .none kV26 dc26 pm26 an26 cd26 ct26), sl26⟩) (c26 : PySem.W.codeIn K cd26 "law" = true) (k26 : PySem.W.keepIn K (.ref f26) = true)
    (z0 : PySem.W.nsIn K mainGlobals "all" = some none)
    (z1 : PySem.W.nsIn K mainGlobals "any" = some none)
    (z2 : PySem.W.nsIn K mainGlobals "bool" = some none)
    (z3 : PySem.W.nsIn K mainGlobals "dict" = some none)
    (z4 : PySem.W.nsIn K mainGlobals "enumerate" = some none)
    (z5 : PySem.W.nsIn K mainGlobals "int" = some none)
    (z6 : PySem.W.nsIn K mainGlobals "isinstance" = some none)
    (z7 : PySem.W.nsIn K mainGlobals "len" = some none)
    (z8 : PySem.W.nsIn K mainGlobals "list" = some none)
    (z9 : PySem.W.nsIn K mainGlobals "max" = some none)
    (z10 : PySem.W.nsIn K mainGlobals "min" = some none)
    (z11 : PySem.W.nsIn K mainGlobals "range" = some none)
    (z12 : PySem.W.nsIn K mainGlobals "set" = some none)
    (z13 : PySem.W.nsIn K mainGlobals "sorted" = some none)
    (z14 : PySem.W.nsIn K mainGlobals "str" = some none)
    (z15 : PySem.W.nsIn K mainGlobals "tuple" = some none)
    (z16 : PySem.W.nsIn K mainGlobals "zip" = some none) :
    Top w K mg := by
  have F0 := fun_mk (st := st__law_mix) l0 c0 k0
  have F1 := fun_mk (st := st__law_drawn_board) l1 c1 k1
  have F2 := fun_mk (st := st__law_stand) l2 c2 k2
  have F3 := fun_mk (st := st_end_in) l3 c3 k3
  have F4 := fun_mk (st := st_ends_of) l4 c4 k4
  have F5 := fun_mk (st := st_with_step) l5 c5 k5
  have F6 := fun_mk (st := st_done) l6 c6 k6
  have F7 := fun_mk (st := st_points_of) l7 c7 k7
  have F8 := fun_mk (st := st_count) l8 c8 k8
  have F9 := fun_mk (st := st_neighbours) l9 c9 k9
  have F10 := fun_mk (st := st_steps) l10 c10 k10
  have F11 := fun_mk (st := st_winner) l11 c11 k11
  have F12 := fun_mk (st := st_full_rows) l12 c12 k12
  have F13 := fun_mk (st := st_takings) l13 c13 k13
  have F14 := fun_mk (st := st_all_moves) l14 c14 k14
  have F15 := fun_mk (st := st_moves) l15 c15 k15
  have F16 := fun_mk (st := st_all_stands) l16 c16 k16
  have F17 := fun_mk (st := st_end_of) l17 c17 k17
  have F18 := fun_mk (st := st__law_cell) l18 c18 k18
  have F19 := fun_mk (st := st__law_steps) l19 c19 k19
  have F20 := fun_mk (st := st__law_winner) l20 c20 k20
  have F21 := fun_mk (st := st__law_rows_of) l21 c21 k21
  have F22 := fun_mk (st := st__law_moves) l22 c22 k22
  have F23 := fun_mk (st := st__law_after) l23 c23 k23
  have F24 := fun_mk (st := st__law_same) l24 c24 k24
  have F25 := fun_mk (st := st__law_is_right) l25 c25 k25
  have F26 := fun_mk (st := st_law) l26 c26 k26
  exact ⟨⟨_, _, F0, fun us hl => match us, hl with | [_, _, _], _ => rfl, PySem.W.mg_of X G a0⟩, ⟨_, _, F1, fun us hl => match us, hl with | [_, _], _ => rfl, PySem.W.mg_of X G a1⟩, ⟨_, _, F2, fun us hl => match us, hl with | [_, _, _], _ => rfl, PySem.W.mg_of X G a2⟩, ⟨_, _, F3, fun us hl => match us, hl with | [_, _], _ => rfl, PySem.W.mg_of X G a3⟩, ⟨_, _, F4, fun us hl => match us, hl with | [_], _ => rfl, PySem.W.mg_of X G a4⟩, ⟨_, _, F5, fun us hl => match us, hl with | [_, _, _, _], _ => rfl, PySem.W.mg_of X G a5⟩, ⟨_, _, F6, fun us hl => match us, hl with | [_, _], _ => rfl, PySem.W.mg_of X G a6⟩, ⟨_, _, F7, fun us hl => match us, hl with | [_, _], _ => rfl, PySem.W.mg_of X G a7⟩, ⟨_, _, F8, fun us hl => match us, hl with | [_, _], _ => rfl, PySem.W.mg_of X G a8⟩, ⟨_, _, F9, fun us hl => match us, hl with | [_, _], _ => rfl, PySem.W.mg_of X G a9⟩, ⟨_, _, F10, fun us hl => match us, hl with | [_, _], _ => rfl, PySem.W.mg_of X G a10⟩, ⟨_, _, F11, fun us hl => match us, hl with | [_, _], _ => rfl, PySem.W.mg_of X G a11⟩, ⟨_, _, F12, fun us hl => match us, hl with | [_, _, _], _ => rfl, PySem.W.mg_of X G a12⟩, ⟨_, _, F13, fun us hl => match us, hl with | [_, _, _, _], _ => rfl, PySem.W.mg_of X G a13⟩, ⟨_, _, F14, fun us hl => match us, hl with | [_, _], _ => rfl, PySem.W.mg_of X G a14⟩, ⟨_, _, F15, fun us hl => match us, hl with | [_, _], _ => rfl, PySem.W.mg_of X G a15⟩, ⟨_, _, F16, fun us hl => match us, hl with | [_, _], _ => rfl, PySem.W.mg_of X G a16⟩, ⟨_, _, F17, fun us hl => match us, hl with | [_, _], _ => rfl, PySem.W.mg_of X G a17⟩, ⟨_, _, F18, fun us hl => match us, hl with | [_, _], _ => rfl, PySem.W.mg_of X G a18⟩, ⟨_, _, F19, fun us hl => match us, hl with | [_, _], _ => rfl, PySem.W.mg_of X G a19⟩, ⟨_, _, F20, fun us hl => match us, hl with | [_, _], _ => rfl, PySem.W.mg_of X G a20⟩, ⟨_, _, F21, fun us hl => match us, hl with | [_, _, _], _ => rfl, PySem.W.mg_of X G a21⟩, ⟨_, _, F22, fun us hl => match us, hl with | [_, _], _ => rfl, PySem.W.mg_of X G a22⟩, ⟨_, _, F23, fun us hl => match us, hl with | [_, _], _ => rfl, PySem.W.mg_of X G a23⟩, ⟨_, _, F24, fun us hl => match us, hl with | [_, _], _ => rfl, PySem.W.mg_of X G a24⟩, ⟨_, _, F25, fun us hl => match us, hl with | [_, _, _], _ => rfl, PySem.W.mg_of X G a25⟩, ⟨_, _, F26, fun us hl => match us, hl with | [_], _ => rfl, PySem.W.mg_of X G a26⟩, PySem.W.mg_none_of X G z0, PySem.W.mg_none_of X G z1, PySem.W.mg_none_of X G z2, PySem.W.mg_none_of X G z3, PySem.W.mg_none_of X G z4, PySem.W.mg_none_of X G z5, PySem.W.mg_none_of X G z6, PySem.W.mg_none_of X G z7, PySem.W.mg_none_of X G z8, PySem.W.mg_none_of X G z9, PySem.W.mg_none_of X G z10, PySem.W.mg_none_of X G z11, PySem.W.mg_none_of X G z12, PySem.W.mg_none_of X G z13, PySem.W.mg_none_of X G z14, PySem.W.mg_none_of X G z15, PySem.W.mg_none_of X G z16⟩
theorem fin {w : World} {K : PySem.W.Frag} {h : Heap} {mg : Str → Option Value} {fa : Addr} (KX : K.In h) (hmg : mg "law" = some (.ref fa)) (T : Top w K mg) :
    ∃ fd : FuncData, (∀ (s : Shared) (u : Value), BindsTo s fd ⟨[u], []⟩ [("script", u)]) ∧ ∀ base : Heap, K.In base → base.Ns mainGlobals mg → FnOk PySem.Challenge.rw_millrows_k12_whole_ends.prog w K mg base (L2.CX PySem.Challenge.rw_millrows_k12_whole_ends.prog w) 10 fa fd ["script"] (spLaw K) :=
  law_top hmg T.d_law (fun base => ok_law T) law_true
end M12
open PySem PySem.W PyProof.Rows
set_option maxRecDepth 100000 in
set_option maxHeartbeats 0 in
theorem PySem.Challenge.cw_millrows_k12_whole_ends_holds : PySem.Challenge.rw_millrows_k12_whole_ends.Holds := by
  w_on; o_law; k_head; (case hw => w_witness2)
  k_fill
  refine L2.walk_of (l := PySem.Challenge.rw_millrows_k12_whole_ends) (n := 63) (k := 10) (x := "script") (CX := fun w => L2.CX PySem.Challenge.rw_millrows_k12_whole_ends.prog w) (sp := fun w => Pu.spLaw _) rfl (by decide) rfl ⟨rfl, by decide, by decide⟩ (fun w h Y => PySem.W.kIn_of Y) ?F (fun _ _ a ns hl _ hS => ⟨a, ns, rfl, hS, hl, fun _ => rfl⟩) (fun w H s e s' h => Pu.noCX h)
  case F =>
    intro w mg fa h KX G hmg
    refine' M12.fin KX hmg (M12.top_mk (w := w) KX G ?a0 ?l0 ?c0 ?k0 ?a1 ?l1 ?c1 ?k1 ?a2 ?l2 ?c2 ?k2 ?a3 ?l3 ?c3 ?k3 ?a4 ?l4 ?c4 ?k4 ?a5 ?l5 ?c5 ?k5 ?a6 ?l6 ?c6 ?k6 ?a7 ?l7 ?c7 ?k7 ?a8 ?l8 ?c8 ?k8 ?a9 ?l9 ?c9 ?k9 ?a10 ?l10 ?c10 ?k10 ?a11 ?l11 ?c11 ?k11 ?a12 ?l12 ?c12 ?k12 ?a13 ?l13 ?c13 ?k13 ?a14 ?l14 ?c14 ?k14 ?a15 ?l15 ?c15 ?k15 ?a16 ?l16 ?c16 ?k16 ?a17 ?l17 ?c17 ?k17 ?a18 ?l18 ?c18 ?k18 ?a19 ?l19 ?c19 ?k19 ?a20 ?l20 ?c20 ?k20 ?a21 ?l21 ?c21 ?k21 ?a22 ?l22 ?c22 ?k22 ?a23 ?l23 ?c23 ?k23 ?a24 ?l24 ?c24 ?k24 ?a25 ?l25 ?c25 ?k25 ?a26 ?l26 ?c26 ?k26 ?z0 ?z1 ?z2 ?z3 ?z4 ?z5 ?z6 ?z7 ?z8 ?z9 ?z10 ?z11 ?z12 ?z13 ?z14 ?z15 ?z16)
    (case a0 => k_is); (case l0 => k_is); (case c0 => k_is); (case k0 => k_is); (case a1 => k_is); (case l1 => k_is); (case c1 => k_is); (case k1 => k_is); (case a2 => k_is); (case l2 => k_is); (case c2 => k_is); (case k2 => k_is); (case a3 => k_is); (case l3 => k_is); (case c3 => k_is); (case k3 => k_is); (case a4 => k_is); (case l4 => k_is); (case c4 => k_is); (case k4 => k_is); (case a5 => k_is); (case l5 => k_is); (case c5 => k_is); (case k5 => k_is); (case a6 => k_is); (case l6 => k_is); (case c6 => k_is); (case k6 => k_is); (case a7 => k_is); (case l7 => k_is); (case c7 => k_is); (case k7 => k_is); (case a8 => k_is); (case l8 => k_is); (case c8 => k_is); (case k8 => k_is); (case a9 => k_is); (case l9 => k_is); (case c9 => k_is); (case k9 => k_is); (case a10 => k_is); (case l10 => k_is); (case c10 => k_is); (case k10 => k_is); (case a11 => k_is); (case l11 => k_is); (case c11 => k_is); (case k11 => k_is); (case a12 => k_is); (case l12 => k_is); (case c12 => k_is); (case k12 => k_is); (case a13 => k_is); (case l13 => k_is); (case c13 => k_is); (case k13 => k_is); (case a14 => k_is); (case l14 => k_is); (case c14 => k_is); (case k14 => k_is); (case a15 => k_is); (case l15 => k_is); (case c15 => k_is); (case k15 => k_is); (case a16 => k_is); (case l16 => k_is); (case c16 => k_is); (case k16 => k_is); (case a17 => k_is); (case l17 => k_is); (case c17 => k_is); (case k17 => k_is); (case a18 => k_is); (case l18 => k_is); (case c18 => k_is); (case k18 => k_is); (case a19 => k_is); (case l19 => k_is); (case c19 => k_is); (case k19 => k_is); (case a20 => k_is); (case l20 => k_is); (case c20 => k_is); (case k20 => k_is); (case a21 => k_is); (case l21 => k_is); (case c21 => k_is); (case k21 => k_is); (case a22 => k_is); (case l22 => k_is); (case c22 => k_is); (case k22 => k_is); (case a23 => k_is); (case l23 => k_is); (case c23 => k_is); (case k23 => k_is); (case a24 => k_is); (case l24 => k_is); (case c24 => k_is); (case k24 => k_is); (case a25 => k_is); (case l25 => k_is); (case c25 => k_is); (case k25 => k_is); (case a26 => k_is); (case l26 => k_is); (case c26 => k_is); (case k26 => k_is); (case z0 => k_is); (case z1 => k_is); (case z2 => k_is); (case z3 => k_is); (case z4 => k_is); (case z5 => k_is); (case z6 => k_is); (case z7 => k_is); (case z8 => k_is); (case z9 => k_is); (case z10 => k_is); (case z11 => k_is); (case z12 => k_is); (case z13 => k_is); (case z14 => k_is); (case z15 => k_is); (case z16 => k_is)
