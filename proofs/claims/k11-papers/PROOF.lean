import PyProof.Rows.All
import Wide.All
import OpenK.AllK
import Wide.FinOn
import HandS.ForMost
import HandS.ForExc
import HandS.Deep
import HandS.TupAny
import HandS.TupMul
import HandS.Zip
import HandS.Conv
import HandS.CallSlots
import HandS.Flow
import HandS.Style
import HandS.IsInst
import KE.SortData
import KE.KDictKeyed
import KE.GoesMore
import KE.GoesEnum
import PyProof.EnumMake
import HandS.SetFor
import HandS.Strs
import HandS.Text
import KE.KRevSl
import HandS.ExcIs
import HandS.TryOnly
import PySem.Challenge.RW_millrows_k11_papers_looked_at
set_option Elab.async false
set_option linter.all false
set_option maxRecDepth 100000
set_option maxHeartbeats 4000000
/-! PuA: data, results, slots; what a value stands for; the frozen part of the heap; readings by data -/
namespace Pu
open PySem L2

abbrev D := PyData
/-- a result: a value, an error of the class so named, or nothing told -/
inductive R (α : Type) where
  | ok (a : α)
  | ex (c : Str)
  | bad
def R.bind {α β : Type} (r : R α) (f : α → R β) : R β :=
  match r with
  | .ok a => f a
  | .ex c => .ex c
  | .bad => .bad
@[simp] theorem bind_ok {α β : Type} (a : α) (f : α → R β) : (R.ok a).bind f = f a := rfl
@[simp] theorem bind_ex {α β : Type} (c : Str) (f : α → R β) : (R.ex c).bind f = .ex c := rfl
@[simp] theorem bind_bad {α β : Type} (f : α → R β) : (R.bad).bind f = .bad := rfl

/-- what a name holds: nothing that is told; data that is never changed; a list of its own; a dict of its own, tuple keys, every value True -/
inductive Sl where
  | un
  | dat (d : D)
  | own (ds : List D)
  | dic (kvs : List (D × D))
  | exc
abbrev En := List Sl
inductive Fl where
  | nx (e : En)
  | rt (d : D)
  | bk (e : En)
  | ct (e : En)
  | ex (c : Str) (e : En)
  | bad

/-- the frozen frame's constants, the world; where the caught error stands -/
structure Kw where
  K : PySem.W.Frag
  w : World
  ea : Addr
instance : Coe Kw PySem.W.Frag := ⟨Kw.K⟩
@[reducible] def _root_.L2.Cx.kw (X : Cx) (ea : Addr) : Kw := ⟨X.K, X.w, ea⟩
/-- a dict whose keys are tuples: what its one object is -/
def entW (w : World) (x : NestedKey × Addr × Value) : DictEntry := ⟨x.1.hash w, .ref x.2.1, x.2.2⟩
/-- its rows, and the count of its changes -/
abbrev DX := List (NestedKey × Addr × Value) × Nat
def DicF (w : World) (a : Addr) (xs : DX) (h : Heap) : Prop :=
  xs.1.length ≤ sizeLine ∧ (a == sysModules) = false ∧ ∃ o es ep, h.get? a = some o ∧ o.ExactDict ∧ o.data = .dict es ep ∧ es.toList = xs.1.map (entW w) ∧ (xs.1.map (·.1)).Nodup ∧ ep = xs.2
def DicO (w : World) (a : Addr) (xs : DX) : HO := .ext (DicF w a xs)
/-! data as a key -/
mutual
def nk : D → Option NestedKey
  | .none => some .none
  | .bool b => some (.num (if b then 1 else 0))
  | .int i => some (.num i)
  | .str x => some (.text x)
  | .tuple ds => (nkAll ds).map NestedKey.tup
  | .list _ => none
  | .dict _ => none
def nkAll : List D → Option (List NestedKey)
  | [] => some []
  | d :: ds => (nk d).bind fun k => (nkAll ds).map fun ks => k :: ks
end

/-- the script: a list of ints that is read alone -/
def scrD (ns : List Int) : D := .dict [(.none, .list (ns.map PyData.int))]
/-! a dict of constants, by what its one object is -/
/-- a key as it is looked up -/
def keyV : D → Option (Option Key)
  | .none => some none
  | .int i => some (some (.inl i))
  | .str x => some (some (.inr x))
  | _ => none
def keyC : Value → Option (Option Key)
  | .none => some none
  | .int i _ => some (some (.inl i))
  | .str x _ => some (some (.inr x))
  | _ => none
def valC : Value → Option D
  | .none => some .none
  | .int i _ => some (.int i)
  | .str x _ => some (.str x)
  | _ => none
def hashP (P : Params) : Option Key → Int
  | none => reduceHash 0xFCA86420
  | some (.inl i) => hashInt i
  | some (.inr x) => PyData.keyHash P x
def entC (e : DictEntry) : Option (Option Key) × Int × Option D := (keyC e.key, e.hash, valC e.val)
def rowC (P : Params) (p : D × D) : Option (Option Key) × Int × Option D := (keyV p.1, ((keyV p.1).map (hashP P)).getD 0, some p.2)
def TabF (w : World) (a : Addr) (tab : List (D × D)) (h : Heap) : Prop := ∃ o es ep, h.get? a = some o ∧ o.ExactDict ∧ o.data = .dict es ep ∧ es.toList.map entC = tab.map (rowC w.params)
def TabO (w : World) (a : Addr) (tab : List (D × D)) : HO := .ext (TabF w a tab)
/-- such a dict as data: a mark ahead of its rows -/
def tabD (tab : List (D × D)) : D := .dict ((.none, .none) :: tab)
/-- a tuple, by its object -/
def SqF (H : Hp) (a : Addr) (xs : List V) : Prop := ∃ o : Obj, H a = some (.frz o (.tup xs)) ∧ o.dict = none
mutual
inductive Rp (K : Kw) (H : Hp) : V → D → Prop
  | non : Rp K H .non .none
  | bl (b : Bool) : Rp K H (.bl b) (.bool b)
  | int (i : Int) : Rp K H (.int i) (.int i)
  | str (x : Str) : Rp K H (.str x) (.str x)
  | lst {a : Addr} {xs : List V} {ds : List D} : H a = some (.lst xs) → RpAll K H xs ds → Rp K H (.ref a) (.list ds)
  | tup {a : Addr} {xs : List V} {ds : List D} : SqF H a xs → RpAll K H xs ds → Rp K H (.ref a) (.tuple ds)
  | dct {a : Addr} {xs : DX} {kvs : List (D × D)} : H a = some (DicO K.w a xs) → RpDct K H xs.1 kvs → Rp K H (.ref a) (.dict kvs)
  | scr {a : Addr} {ns : List Int} : SqL K H a (ns.map V.int) → Rp K H (.ref a) (scrD ns)
  | tab {a : Addr} {t : List (D × D)} : H a = some (TabO K.w a t) → Rp K H (.ref a) (tabD t)
inductive RpAll (K : Kw) (H : Hp) : List V → List D → Prop
  | nil : RpAll K H [] []
  | cons {v : V} {vs : List V} {d : D} {ds : List D} : Rp K H v d → RpAll K H vs ds → RpAll K H (v :: vs) (d :: ds)
inductive RpDct (K : Kw) (H : Hp) : List (NestedKey × Addr × Value) → List (D × D) → Prop
  | nil : RpDct K H [] []
  | cons {k : NestedKey} {b : Addr} {u : Value} {v : V} {d e : D} {xs : List (NestedKey × Addr × Value)} {kvs : List (D × D)} : nk d = some k → k.depth ≤ 8 → Rp K H (.ref b) d → RelV v u → Rp K H v e → RpDct K H xs kvs → RpDct K H ((k, b, u) :: xs) ((d, e) :: kvs)
end
theorem RpDct.none_no {K : Kw} {H : Hp} {xs : List (NestedKey × Addr × Value)} {z : D} {kvs : List (D × D)} (r : RpDct K H xs ((.none, z) :: kvs)) : False := by
  cases r with
  | cons _ _ hb _ _ _ => cases hb
theorem SqF.sq {K : PySem.W.Frag} {H : Hp} {a : Addr} {xs : List V} (h : SqF H a xs) : SqT K H a xs := by
  obtain ⟨o, h, _⟩ := h
  exact .inl (.inr ⟨o, h⟩)
theorem SqF.mono {H H' : Hp} {a : Addr} {xs : List V} (e : Same H H') (h : SqF H a xs) : SqF H' a xs := by
  obtain ⟨o, h, d⟩ := h
  exact ⟨o, e _ _ h, d⟩

theorem Same.rd {H H' : Hp} {a : Addr} {u : HO} (e : Same H H') (h : Rd H a u) : Rd H' a u := by
  rcases h with h | ⟨o, h⟩
  · exact .inl (e _ _ h)
  · exact .inr ⟨o, e _ _ h⟩
theorem Same.sqT {K : PySem.W.Frag} {H H' : Hp} {a : Addr} {xs : List V} (e : Same H H') (h : SqT K H a xs) : SqT K H' a xs := by
  rcases h with h | h
  · exact .inl (Same.rd e h)
  · exact .inr h
section
variable {K : Kw} {H H' : Hp}
mutual
theorem Rp.mono (e : Same H H') : ∀ {d : D} {v : V}, Rp K H v d → Rp K H' v d
  | _, _, .non => .non
  | _, _, .bl b => .bl b
  | _, _, .int i => .int i
  | _, _, .str x => .str x
  | _, _, .lst h r => .lst (e _ _ h) (RpAll.mono e r)
  | _, _, .tup h r => .tup (h.mono e) (RpAll.mono e r)
  | _, _, .dct h r => .dct (e _ _ h) (RpDct.mono e r)
  | _, _, .scr h => .scr (e.seq h)
  | _, _, .tab h => .tab (e _ _ h)
theorem RpAll.mono (e : Same H H') : ∀ {ds : List D} {vs : List V}, RpAll K H vs ds → RpAll K H' vs ds
  | _, _, .nil => .nil
  | _, _, .cons h r => .cons (Rp.mono e h) (RpAll.mono e r)
theorem RpDct.mono (e : Same H H') : ∀ {kvs : List (D × D)} {xs : List (NestedKey × Addr × Value)}, RpDct K H xs kvs → RpDct K H' xs kvs
  | _, _, .nil => .nil
  | _, _, .cons hk hd h rv h' r => .cons hk hd (Rp.mono e h) rv (Rp.mono e h') (RpDct.mono e r)
end
mutual
theorem Rp.dp : ∀ {d : D} {v : V}, Rp K H v d → d.canLay0 = true → Dp K H v d
  | _, _, .non, _ => .non
  | _, _, .bl b, _ => .bl b
  | _, _, .int i, _ => .int i
  | _, _, .str x, _ => .str x
  | _, _, .lst h r, c => .lst (.inl (.inl h)) (RpAll.dp r (by simpa [PyData.canLay0] using c))
  | _, _, .tup h r, c => .tup h.sq (RpAll.dp r (by simpa [PyData.canLay0] using c))
  | _, _, .dct h _, c => by simp [PyData.canLay0] at c
  | _, _, .scr h, c => by simp [scrD, PyData.canLay0] at c
  | _, _, .tab h, c => by simp [tabD, PyData.canLay0] at c
theorem RpAll.dp : ∀ {ds : List D} {vs : List V}, RpAll K H vs ds → PyData.canLayAll0 ds = true → DpAll K H vs ds
  | _, _, .nil, _ => .nil
  | _, _, .cons h r, c => by
    simp only [PyData.canLayAll0, Bool.and_eq_true] at c
    exact .cons (Rp.dp h c.1) (RpAll.dp r c.2)
end
theorem RpAll.length : ∀ {ds : List D} {vs : List V}, RpAll K H vs ds → vs.length = ds.length
  | _, _, .nil => rfl
  | _, _, .cons _ r => by rw [List.length_cons, List.length_cons, RpAll.length r]
theorem RpAll.get {ds : List D} {vs : List V} {i : Nat} {d : D} (r : RpAll K H vs ds) (e : ds[i]? = some d) : ∃ v, vs[i]? = some v ∧ Rp K H v d := by
  induction ds generalizing vs i with
  | nil => cases e
  | cons c ds ih =>
    cases r with
    | cons h t =>
      cases i with
      | zero => cases e; exact ⟨_, List.getElem?_cons_zero, h⟩
      | succ i =>
        rw [List.getElem?_cons_succ] at e
        obtain ⟨v, g, w⟩ := ih t e
        exact ⟨v, by rw [List.getElem?_cons_succ]; exact g, w⟩
theorem RpAll.get' {ds : List D} {vs : List V} {i : Nat} {v : V} (r : RpAll K H vs ds) (e : vs[i]? = some v) : ∃ d, ds[i]? = some d ∧ Rp K H v d := by
  have lt : i < ds.length := by rw [← r.length]; exact (List.getElem?_eq_some_iff.mp e).1
  obtain ⟨w, g, h⟩ := r.get (List.getElem?_eq_getElem lt)
  obtain rfl : v = w := Option.some.inj (e.symm.trans g)
  exact ⟨ds[i], List.getElem?_eq_getElem lt, h⟩
theorem RpAll.append : ∀ {ds es : List D} {vs us : List V}, RpAll K H vs ds → RpAll K H us es → RpAll K H (vs ++ us) (ds ++ es)
  | _, _, _, _, .nil, s => s
  | _, _, _, _, .cons r t, s => .cons r (RpAll.append t s)
theorem RpAll.take : ∀ {ds : List D} {vs : List V} (n : Nat), RpAll K H vs ds → RpAll K H (vs.take n) (ds.take n)
  | _, _, 0, _ => .nil
  | _, _, _ + 1, .nil => .nil
  | _, _, n + 1, .cons r t => .cons r (RpAll.take n t)
theorem RpAll.drop : ∀ {ds : List D} {vs : List V} (n : Nat), RpAll K H vs ds → RpAll K H (vs.drop n) (ds.drop n)
  | _, _, 0, r => r
  | _, _, _ + 1, .nil => .nil
  | _, _, n + 1, .cons _ t => RpAll.drop n t
theorem RpAll.reverse {ds : List D} {vs : List V} (r : RpAll K H vs ds) : RpAll K H vs.reverse ds.reverse := by
  induction ds generalizing vs with
  | nil => cases r; exact .nil
  | cons d ds ih =>
    cases r with
    | cons h t =>
      rw [List.reverse_cons, List.reverse_cons]
      exact (ih t).append (.cons h .nil)
theorem RpAll.set {v : V} {d : D} (r : Rp K H v d) : ∀ {ds : List D} {vs : List V} (i : Nat), RpAll K H vs ds → RpAll K H (vs.set i v) (ds.set i d)
  | _, _, _, .nil => .nil
  | _, _, 0, .cons _ t => .cons r t
  | _, _, i + 1, .cons q t => .cons q (RpAll.set r i t)
theorem RpAll.one {v : V} {d : D} (r : Rp K H v d) : RpAll K H [v] [d] := .cons r .nil
theorem RpAll.snoc {ds : List D} {vs : List V} {v : V} {d : D} (t : RpAll K H vs ds) (r : Rp K H v d) : RpAll K H (vs ++ [v]) (ds ++ [d]) := t.append (.one r)
theorem RpAll.rep {ds : List D} {vs : List V} (r : RpAll K H vs ds) : ∀ n : Nat, RpAll K H (List.replicate n vs).flatten (List.replicate n ds).flatten
  | 0 => .nil
  | n + 1 => by
    rw [List.replicate_succ, List.replicate_succ, List.flatten_cons, List.flatten_cons]
    exact r.append (RpAll.rep r n)
theorem RpAll.isEmpty {ds : List D} {vs : List V} (r : RpAll K H vs ds) : vs.isEmpty = ds.isEmpty := by cases r <;> rfl
theorem RpAll.ints : ∀ {ns : List Int} {vs : List V}, RpAll K H vs (ns.map PyData.int) → vs = ns.map V.int
  | [], _, .nil => rfl
  | n :: ns, _, .cons h t => by
    cases h
    rw [RpAll.ints (ns := ns) t]
    rfl
theorem RpAll.bools : ∀ {ns : List Bool} {vs : List V}, RpAll K H vs (ns.map PyData.bool) → vs = ns.map V.bl
  | [], _, .nil => rfl
  | n :: ns, _, .cons h t => by
    cases h
    rw [RpAll.bools (ns := ns) t]
    rfl
theorem RpAll.strs_ : ∀ {ns : List Str} {vs : List V}, RpAll K H vs (ns.map PyData.str) → vs = ns.map V.str
  | [], _, .nil => rfl
  | n :: ns, _, .cons h t => by
    cases h
    rw [RpAll.strs_ (ns := ns) t]
    rfl
theorem RpAll.ofInts : ∀ (ns : List Int), RpAll K H (ns.map V.int) (ns.map PyData.int)
  | [] => .nil
  | n :: ns => .cons (.int n) (RpAll.ofInts ns)
theorem RpAll.ofStrs : ∀ (ns : List Str), RpAll K H (ns.map V.str) (ns.map PyData.str)
  | [] => .nil
  | n :: ns => .cons (.str n) (RpAll.ofStrs ns)
end

/-! ### the frozen part of the heap -/
/-- what may be changed -/
def Mu : HO → Bool
  | .tup _ => false
  | _ => true
structure Grow (Hf H Hf' H' : Hp) : Prop where
  hh : Same H H'
  ff : Same Hf Hf'
  fh : Same Hf' H'
  nf : ∀ a o, H a = some o → Mu o = true → Hf a = none → Hf' a = none
theorem Grow.refl {Hf H : Hp} (h : Same Hf H) : Grow Hf H Hf H := ⟨Same.refl _, Same.refl _, h, fun _ _ _ _ n => n⟩
theorem Grow.trans {Hf H Hf1 H1 Hf2 H2 : Hp} (a : Grow Hf H Hf1 H1) (b : Grow Hf1 H1 Hf2 H2) : Grow Hf H Hf2 H2 :=
  ⟨a.hh.trans b.hh, a.ff.trans b.ff, b.fh, fun x o h m n => b.nf x o (a.hh x o h) m (a.nf x o h m n)⟩
theorem same_upd {H : Hp} {p : Addr} {o : HO} (h : H p = none) : Same H (upd H p o) := fun b x e => by
  rw [upd_ne (ne_of_none e h)]
  exact e
/-- what H does not know may be laid over -/
theorem Same.upd {H H' : Hp} {p : Addr} {o : HO} (e : Same H H') (h : H p = none) : Same H (upd H' p o) := fun a u ha => by
  rw [upd_ne (ne_of_none ha h)]
  exact e a u ha
/-- a new object, frozen -/
theorem Grow.new {Hf H : Hp} {p : Addr} {o : HO} (h : Same Hf H) (hp : H p = none) : Grow Hf H (upd Hf p o) (upd H p o) := by
  have hf : Hf p = none := h.free hp
  refine ⟨same_upd hp, same_upd hf, fun a u e => ?_, fun a u e _ n => ?_⟩
  · by_cases z : a = p
    · subst z; rw [upd_same] at e ⊢; exact e
    · rw [upd_ne z] at e ⊢; exact h a u e
  · rw [upd_ne (ne_of_none e hp)]; exact n
/-- a new object, not frozen -/
theorem Grow.lay {Hf H : Hp} {p : Addr} {o : HO} (h : Same Hf H) (hp : H p = none) : Grow Hf H Hf (upd H p o) := by
  have hf : Hf p = none := h.free hp
  exact ⟨same_upd hp, Same.refl _, Same.upd h hf, fun a u e _ n => n⟩
/-- an object that stands outside is frozen -/
theorem Grow.freeze {Hf H : Hp} {p : Addr} {o : HO} (h : Same Hf H) (hp : H p = some o) (hf : Hf p = none) : Same Hf (upd Hf p o) ∧ Same (upd Hf p o) H := by
  refine ⟨same_upd hf, fun a u e => ?_⟩
  by_cases z : a = p
  · subst z; rw [upd_same] at e; rw [hp]; exact e
  · rw [upd_ne z] at e; exact h a u e

/-! ### slots -/
def Sl.isOwn : Sl → Bool
  | .own _ => true
  | .dic _ => true
  | _ => false
def SlOk (K : Kw) (H0 Hf H : Hp) (v : Option V) : Sl → Prop
  | .un => True
  | .dat d => ∃ x, v = some x ∧ Rp K Hf x d
  | .own ds => ∃ a xs, v = some (.ref a) ∧ H a = some (.lst xs) ∧ H0 a = none ∧ Hf a = none ∧ RpAll K Hf xs ds
  | .dic kvs => ∃ a xs, v = some (.ref a) ∧ H a = some (DicO K.w a xs) ∧ H0 a = none ∧ Hf a = none ∧ RpDct K Hf xs.1 kvs
  | .exc => v = some (.ref K.ea)
theorem SlOk.addr {K : Kw} {H0 Hf H : Hp} {v : Option V} {s : Sl} (h : SlOk K H0 Hf H v s) (o : s.isOwn = true) : ∃ a u, v = some (.ref a) ∧ H a = some u ∧ H0 a = none ∧ Hf a = none := by
  cases s with
  | un => cases o
  | dat d => cases o
  | own ds => obtain ⟨a, xs, e, h1, h2, h3, _⟩ := h; exact ⟨a, _, e, h1, h2, h3⟩
  | dic ks => obtain ⟨a, xs, e, h1, h2, h3, _⟩ := h; exact ⟨a, _, e, h1, h2, h3⟩
  | exc => cases o
structure SR (K : Kw) (H0 Hf0 Hf H : Hp) (σ : L2.St) (e : En) : Prop where
  gr : Grow Hf0 H0 Hf H
  len : σ.length = e.length
  sl : ∀ (i : Nat) (s : Sl) (v : Option V), e[i]? = some s → σ[i]? = some v → SlOk K H0 Hf H v s
  sep : ∀ (i j : Nat) (s t : Sl) (a : Addr), i ≠ j → e[i]? = some s → e[j]? = some t → s.isOwn = true → t.isOwn = true → σ[i]? = some (some (.ref a)) → σ[j]? ≠ some (some (.ref a))
section
variable {K : Kw} {H0 Hf0 Hf H Hf' H' : Hp} {σ : L2.St} {e : En}
theorem SR.grow (S : SR K H0 Hf0 Hf H σ e) (g : Grow Hf H Hf' H') : SR K H0 Hf0 Hf' H' σ e := by
  refine ⟨S.gr.trans g, S.len, fun i s v h1 h2 => ?_, S.sep⟩
  have q := S.sl i s v h1 h2
  cases s with
  | un => trivial
  | dat d => obtain ⟨x, ev, r⟩ := q; exact ⟨x, ev, r.mono g.ff⟩
  | own ds => obtain ⟨a, xs, ev, h, h0, hf, r⟩ := q; exact ⟨a, xs, ev, g.hh _ _ h, h0, g.nf _ _ h rfl hf, r.mono g.ff⟩
  | dic ks => obtain ⟨a, xs, ev, h, h0, hf, r⟩ := q; exact ⟨a, xs, ev, g.hh _ _ h, h0, g.nf _ _ h rfl hf, r.mono g.ff⟩
  | exc => exact q
theorem SR.lt (S : SR K H0 Hf0 Hf H σ e) {i : Nat} {s : Sl} (h : e[i]? = some s) : ∃ v, σ[i]? = some v := by
  have hi : i < e.length := (List.getElem?_eq_some_iff.mp h).1
  exact ⟨_, List.getElem?_eq_getElem (by rw [S.len]; exact hi)⟩
/-- a slot is set to a value -/
theorem SR.put (S : SR K H0 Hf0 Hf H σ e) (i : Nat) (v : Option V) (s : Sl) (h : SlOk K H0 Hf H v s)
    (hs : s.isOwn = true → ∀ (a : Addr), v = some (.ref a) → ∀ (j : Nat) (t : Sl), j ≠ i → e[j]? = some t → t.isOwn = true → σ[j]? ≠ some (some (.ref a))) : SR K H0 Hf0 Hf H (σ.set i v) (e.set i s) := by
  refine ⟨S.gr, by rw [List.length_set, List.length_set]; exact S.len, fun j t u h1 h2 => ?_, fun j k t u a hjk h1 h2 o1 o2 q1 q2 => ?_⟩
  · by_cases z : i = j
    · subst z
      by_cases hi : i < e.length
      · rw [List.getElem?_set_self hi] at h1
        rw [List.getElem?_set_self (by rw [S.len]; exact hi)] at h2
        cases h1; cases h2; exact h
      · rw [List.getElem?_eq_none (by rw [List.length_set]; omega)] at h1; cases h1
    · rw [List.getElem?_set_ne z] at h1 h2
      exact S.sl j t u h1 h2
  · by_cases z1 : i = j
    · subst z1
      rw [List.getElem?_set_ne hjk] at h2 q2
      by_cases hi : i < e.length
      · rw [List.getElem?_set_self hi] at h1
        rw [List.getElem?_set_self (by rw [S.len]; exact hi)] at q1
        cases h1
        exact hs o1 a (Option.some.inj q1) k u (fun z => hjk z.symm) h2 o2 q2
      · rw [List.getElem?_eq_none (by rw [List.length_set]; omega)] at h1; cases h1
    · rw [List.getElem?_set_ne z1] at h1 q1
      by_cases z2 : i = k
      · subst z2
        by_cases hi : i < e.length
        · rw [List.getElem?_set_self hi] at h2
          rw [List.getElem?_set_self (by rw [S.len]; exact hi)] at q2
          cases h2
          exact hs o2 a (Option.some.inj q2) j t hjk h1 o1 q1
        · rw [List.getElem?_eq_none (by rw [List.length_set]; omega)] at h2; cases h2
      · rw [List.getElem?_set_ne z2] at h2 q2
        exact S.sep j k t u a hjk h1 h2 o1 o2 q1 q2
theorem SR.dat (S : SR K H0 Hf0 Hf H σ e) (i : Nat) {v : V} {d : D} (r : Rp K Hf v d) : SR K H0 Hf0 Hf H (σ.set i (some v)) (e.set i (.dat d)) :=
  S.put i (some v) (.dat d) ⟨v, rfl, r⟩ fun o => by cases o
def NoOwn (σ : L2.St) (e : En) (p : Addr) : Prop := ∀ (j : Nat) (t : Sl), e[j]? = some t → t.isOwn = true → σ[j]? ≠ some (some (V.ref p))
/-- an object that no slot of its own holds is changed or made -/
theorem SR.other (S : SR K H0 Hf0 Hf H σ e) {p : Addr} {o : HO} (h0 : H0 p = none) (hf : Hf p = none) (hs : NoOwn σ e p) : SR K H0 Hf0 Hf (upd H p o) σ e := by
  refine ⟨⟨Same.upd S.gr.hh h0, S.gr.ff, Same.upd S.gr.fh hf, S.gr.nf⟩, S.len, fun i s v h1 h2 => ?_, S.sep⟩
  have q := S.sl i s v h1 h2
  cases s with
  | un => trivial
  | dat d => exact q
  | own ds =>
    obtain ⟨a, xs, ev, h, h0', hf', r⟩ := q
    have : a ≠ p := fun z => hs i _ h1 rfl (by rw [h2, ev, z])
    exact ⟨a, xs, ev, by rw [upd_ne this]; exact h, h0', hf', r⟩
  | dic ks =>
    obtain ⟨a, xs, ev, h, h0', hf', r⟩ := q
    have : a ≠ p := fun z => hs i _ h1 rfl (by rw [h2, ev, z])
    exact ⟨a, xs, ev, by rw [upd_ne this]; exact h, h0', hf', r⟩
  | exc => exact q
/-- the place of a new object is no slot's own -/
theorem SR.fresh (S : SR K H0 Hf0 Hf H σ e) {p : Addr} (hp : H p = none) : NoOwn σ e p := fun j t h o q => by
  obtain ⟨a, u, ev, ha, _⟩ := (S.sl j t _ h q).addr o
  injection ev with ev; injection ev with ev
  subst ev
  rw [hp] at ha; cases ha
/-- a slot's own object is changed -/
theorem SR.mut (S : SR K H0 Hf0 Hf H σ e) {i : Nat} {s t : Sl} {a : Addr} {u : HO} (he : e[i]? = some s) (ho : s.isOwn = true) (hv : σ[i]? = some (some (.ref a))) (ht : t.isOwn = true) (hn : SlOk K H0 Hf (upd H a u) (some (.ref a)) t) :
    SR K H0 Hf0 Hf (upd H a u) σ (e.set i t) := by
  obtain ⟨a', u', ev, hA, h0, hf⟩ := (S.sl i s _ he hv).addr ho
  injection ev with ev; injection ev with ev
  subst ev
  have hi : i < e.length := (List.getElem?_eq_some_iff.mp he).1
  have other : ∀ (j : Nat) (w : Sl), j ≠ i → e[j]? = some w → w.isOwn = true → σ[j]? ≠ some (some (.ref a)) := fun j w hj h1 o q => S.sep i j s w a (fun z => hj z.symm) he h1 ho o hv q
  refine ⟨⟨Same.upd S.gr.hh h0, S.gr.ff, Same.upd S.gr.fh hf, S.gr.nf⟩, by rw [List.length_set]; exact S.len, fun j w v h1 h2 => ?_, fun j k w x b hjk h1 h2 o1 o2 q1 q2 => ?_⟩
  · by_cases z : i = j
    · subst z
      rw [List.getElem?_set_self hi] at h1
      cases h1
      rw [hv] at h2
      cases h2
      exact hn
    · rw [List.getElem?_set_ne z] at h1
      have q := S.sl j w v h1 h2
      cases w with
      | un => trivial
      | dat d => exact q
      | own ds =>
        obtain ⟨b, xs, ev, h, h0', hf', r⟩ := q
        have : b ≠ a := fun y => other j _ (fun y => z y.symm) h1 rfl (by rw [h2, ev, y])
        exact ⟨b, xs, ev, by rw [upd_ne this]; exact h, h0', hf', r⟩
      | dic ks =>
        obtain ⟨b, xs, ev, h, h0', hf', r⟩ := q
        have : b ≠ a := fun y => other j _ (fun y => z y.symm) h1 rfl (by rw [h2, ev, y])
        exact ⟨b, xs, ev, by rw [upd_ne this]; exact h, h0', hf', r⟩
      | exc => exact q
  · by_cases z1 : i = j
    · subst z1
      rw [List.getElem?_set_ne hjk] at h2
      rw [hv] at q1
      have eb : a = b := V.ref.inj (Option.some.inj (Option.some.inj q1))
      subst eb
      exact other k x (fun z => hjk z.symm) h2 o2 q2
    · rw [List.getElem?_set_ne z1] at h1
      by_cases z2 : i = k
      · subst z2
        rw [hv] at q2
        have eb : a = b := V.ref.inj (Option.some.inj (Option.some.inj q2))
        subst eb
        exact other j w hjk h1 o1 q1
      · rw [List.getElem?_set_ne z2] at h2
        exact S.sep j k w x b hjk h1 h2 o1 o2 q1 q2
/-- a new object goes to a slot -/
theorem SR.own (S : SR K H0 Hf0 Hf H σ e) (i : Nat) {p : Addr} {t : Sl} (hp : ∃ u, H p = some u) (hs : NoOwn σ e p) (hn : SlOk K H0 Hf H (some (.ref p)) t) :
    SR K H0 Hf0 Hf H (σ.set i (some (.ref p))) (e.set i t) :=
  S.put i _ t hn fun _ a ev j w _ h o q => by
    injection ev with ev; injection ev with ev
    subst ev
    exact hs j w h o q
end
end Pu
/-! PuB: readings of expressions, tests, statements by what they compute -/
namespace Pu
open PySem L2

theorem PE_weak {X : Cx} {e : Expr} {t t' : TE} (h : PE X e t) (k : ∀ σ H Q, t' σ H Q → t σ H Q) : PE X e t' :=
  ⟨fun pins s σ H Q I q => h.run pins s σ H Q I (k σ H Q q)⟩
theorem PT_weak {X : Cx} {e : Expr} {t t' : TT} (h : PT X e t) (k : ∀ σ H Q, t' σ H Q → t σ H Q) : PT X e t' :=
  ⟨fun pins s σ H Q I q => h.run pins s σ H Q I (k σ H Q q)⟩
theorem PW_weak {X : Cx} {e : Expr} {t t' : TT} (h : PW X e t) (k : ∀ σ H Q, t' σ H Q → t σ H Q) : PW X e t' :=
  ⟨fun wh pins s σ H Q I q => h.run wh pins s σ H Q I (k σ H Q q)⟩
theorem PTs_weak {X : Cx} {e : List Expr} {t t' : TT} (h : PTs X e t) (k : ∀ σ H Q, t' σ H Q → t σ H Q) : PTs X e t' :=
  ⟨fun pins s σ H Q I q => h.run pins s σ H Q I (k σ H Q q)⟩
theorem PA_weak {X : Cx} {e : List Expr} {t t' : TA} (h : PA X e t) (k : ∀ σ H Q, t' σ H Q → t σ H Q) : PA X e t' :=
  ⟨fun pos pins s σ H Q I q => h.run pos pins s σ H Q I (k σ H Q q)⟩
theorem PS_weak {X : Cx} {e : Stmt} {t t' : TS} (h : PS X e t) (k : ∀ D σ H, t' D σ H → t D σ H) : PS X e t' :=
  ⟨fun pins s σ H D I q => h.run pins s σ H D I (k D σ H q)⟩
theorem PSs_weak {X : Cx} {e : List Stmt} {t t' : TS} (h : PSs X e t) (k : ∀ D σ H, t' D σ H → t D σ H) : PSs X e t' :=
  ⟨fun pins s σ H D I q => h.run pins s σ H D I (k D σ H q)⟩
theorem PI_weak {X : Cx} {tg e : Expr} {t t' : TI} (h : PI X tg e t) (k : ∀ σ H Q, t' σ H Q → t σ H Q) : PI X tg e t' :=
  ⟨fun pins s σ H Q I q => h.run pins s σ H Q I (k σ H Q q)⟩
theorem PG_weak {X : Cx} {e : Expr} {t t' : TG} (h : PG X e t) (k : ∀ v σ H Q, t' v σ H Q → t v σ H Q) : PG X e t' :=
  ⟨fun pins s σ H v u Q I r q => h.run pins s σ H v u Q I r (k v σ H Q q)⟩

/-- what is wished of an error of the class so named -/
abbrev WE := Str → L2.St → Hp → Prop
def opt {α : Type} : Option α → R α
  | some a => .ok a
  | none => .bad
@[simp] theorem opt_some {α : Type} (a : α) : opt (some a) = .ok a := rfl
@[simp] theorem opt_none {α : Type} : opt (none : Option α) = .bad := rfl

/-- a value seen: frozen data, or a list or dict of frozen data -/
inductive VRp (K : Kw) (Hf H : Hp) : V → D → Prop
  | e {v : V} {d : D} : Rp K Hf v d → VRp K Hf H v d
  | l {a : Addr} {xs : List V} {ds : List D} : H a = some (.lst xs) → RpAll K Hf xs ds → VRp K Hf H (.ref a) (.list ds)
  | d {a : Addr} {xs : DX} {kvs : List (D × D)} : H a = some (DicO K.w a xs) → RpDct K Hf xs.1 kvs → VRp K Hf H (.ref a) (.dict kvs)
abbrev ERp (K : Kw) (Hf _H : Hp) (v : V) (d : D) : Prop := Rp K Hf v d
section
variable {K : Kw} {Hf H Hf' H' : Hp} {v : V} {d : D}
theorem VRp.mono (g : Grow Hf H Hf' H') (h : VRp K Hf H v d) : VRp K Hf' H' v d := by
  cases h with
  | e h => exact .e (h.mono g.ff)
  | l h r => exact .l (g.hh _ _ h) (r.mono g.ff)
  | d h r => exact .d (g.hh _ _ h) (r.mono g.ff)
theorem VRp.full (f : Same Hf H) (h : VRp K Hf H v d) : Rp K H v d := by
  cases h with
  | e h => exact h.mono f
  | l h r => exact .lst h (r.mono f)
  | d h r => exact .dct h (r.mono f)
theorem VRp.list {ds : List D} (f : Same Hf H) (h : VRp K Hf H v (.list ds)) : ∃ a xs, v = .ref a ∧ H a = some (.lst xs) ∧ RpAll K Hf xs ds := by
  cases h with
  | e h =>
    cases h with
    | lst h r => exact ⟨_, _, rfl, f _ _ h, r⟩
  | l h r => exact ⟨_, _, rfl, h, r⟩
theorem VRp.tup {ds : List D} (h : VRp K Hf H v (.tuple ds)) : Rp K Hf v (.tuple ds) := by
  cases h with
  | e h => exact h
theorem VRp.tuple {ds : List D} (f : Same Hf H) (h : VRp K Hf H v (.tuple ds)) : ∃ a xs, v = .ref a ∧ SqF H a xs ∧ RpAll K Hf xs ds := by
  cases h with
  | e h =>
    cases h with
    | tup h r => exact ⟨_, _, rfl, h.mono f, r⟩
theorem VRp.str {x : Str} (h : VRp K Hf H v (.str x)) : v = .str x := by
  cases h with
  | e h => cases h; rfl
theorem VRp.int {x : Int} (h : VRp K Hf H v (.int x)) : v = .int x := by
  cases h with
  | e h => cases h; rfl
theorem Rp.dict {K : Kw} {H : Hp} {v : V} {kvs : List (D × D)} (r : Rp K H v (.dict kvs)) (hs : ∀ z l, kvs ≠ (.none, z) :: l) : ∃ a xs, v = .ref a ∧ H a = some (DicO K.w a xs) ∧ RpDct K H xs.1 kvs := by
  have gen : ∀ {d : D}, Rp K H v d → d = .dict kvs → ∃ a xs, v = .ref a ∧ H a = some (DicO K.w a xs) ∧ RpDct K H xs.1 kvs := by
    intro d r e
    cases r with
    | dct h r => cases e; exact ⟨_, _, rfl, h, r⟩
    | scr h =>
      unfold scrD at e
      injection e with e
      exact absurd e.symm (hs _ _)
    | tab h =>
      unfold tabD at e
      injection e with e
      exact absurd e.symm (hs _ _)
    | _ => cases e
  exact gen r rfl
theorem VRp.dict {kvs : List (D × D)} (f : Same Hf H) (h : VRp K Hf H v (.dict kvs)) (hs : ∀ z l, kvs ≠ (.none, z) :: l) : ∃ a xs, v = .ref a ∧ H a = some (DicO K.w a xs) ∧ RpDct K Hf xs.1 kvs := by
  cases h with
  | e h => obtain ⟨a, xs, e, h, r⟩ := h.dict hs; exact ⟨a, xs, e, f _ _ h, r⟩
  | d h r => exact ⟨_, _, rfl, h, r⟩
end

section
variable (K : Kw) (Rel : Hp → Hp → V → D → Prop) (W : WE)
/-- what is asked of a result -/
def Po (Q : VK) (σ : L2.St) (Hf H : Hp) : R D → Prop
  | .ok d => ∀ v Hf' H', Grow Hf H Hf' H' → Rel Hf' H' v d → Q v H'
  | .ex c => ∀ Hf' H', Grow Hf H Hf' H' → W c σ H'
  | .bad => False
/-- an expression's reading: it computes F of the slots -/
def tX (F : En → R D) : TE := fun σ H Q => ∃ H0 Hf0 Hf e, SR K H0 Hf0 Hf H σ e ∧ Po Rel W Q σ Hf H (F e)
abbrev tE (F : En → R D) : TE := tX K (ERp K) W F
abbrev tV (F : En → R D) : TE := tX K (VRp K) W F
/-- a new list of frozen data, not frozen itself -/
def PoN (Q : VK) (σ : L2.St) (Hf H : Hp) : R (List D) → Prop
  | .ok ds => ∀ p xs Hf' H', Grow Hf H Hf' H' → H p = none → Hf' p = none → H' p = some (.lst xs) → RpAll K Hf' xs ds → Q (.ref p) H'
  | .ex c => ∀ Hf' H', Grow Hf H Hf' H' → W c σ H'
  | .bad => False
def tN (F : En → R (List D)) : TE := fun σ H Q => ∃ H0 Hf0 Hf e, SR K H0 Hf0 Hf H σ e ∧ PoN K W Q σ Hf H (F e)
/-- a test -/
def PoT (Q : Bool → Hp → Prop) (σ : L2.St) (Hf H : Hp) : R Bool → Prop
  | .ok b => ∀ Hf' H', Grow Hf H Hf' H' → Q b H'
  | .ex c => ∀ Hf' H', Grow Hf H Hf' H' → W c σ H'
  | .bad => False
def tT (F : En → R Bool) : TT := fun σ H Q => ∃ H0 Hf0 Hf e, SR K H0 Hf0 Hf H σ e ∧ PoT W Q σ Hf H (F e)
/-- arguments -/
def PoA (Rel : Hp → Hp → List V → List D → Prop) (Q : List V → Hp → Prop) (σ : L2.St) (Hf H : Hp) : R (List D) → Prop
  | .ok ds => ∀ vs Hf' H', Grow Hf H Hf' H' → Rel Hf' H' vs ds → Q vs H'
  | .ex c => ∀ Hf' H', Grow Hf H Hf' H' → W c σ H'
  | .bad => False
inductive VAll (K : Kw) (Hf H : Hp) : List V → List D → Prop
  | nil : VAll K Hf H [] []
  | cons {v : V} {vs : List V} {d : D} {ds : List D} : VRp K Hf H v d → VAll K Hf H vs ds → VAll K Hf H (v :: vs) (d :: ds)
def tA (F : En → R (List D)) : TA := fun σ H Q => ∃ H0 Hf0 Hf e, SR K H0 Hf0 Hf H σ e ∧ PoA W (fun Hf _ vs ds => RpAll K Hf vs ds) Q σ Hf H (F e)
def tAV (F : En → R (List D)) : TA := fun σ H Q => ∃ H0 Hf0 Hf e, SR K H0 Hf0 Hf H σ e ∧ PoA W (VAll K) Q σ Hf H (F e)
/-- what is asked behind a statement -/
def PoS (D : Ends) (H0 Hf0 Hf : Hp) : Fl → Prop
  | .nx e => ∀ σ Hf' H', SR K H0 Hf0 Hf' H' σ e → Same Hf Hf' → D.nx σ H'
  | .rt d => ∀ v Hf' H', Grow Hf0 H0 Hf' H' → Rp K Hf' v d → D.rt v H'
  | .bk e => ∀ σ Hf' H', SR K H0 Hf0 Hf' H' σ e → Same Hf Hf' → D.bk σ H'
  | .ct e => ∀ σ Hf' H', SR K H0 Hf0 Hf' H' σ e → Same Hf Hf' → D.ct σ H'
  | .ex c e => ∀ σ Hf' H', SR K H0 Hf0 Hf' H' σ e → Same Hf Hf' → W c σ H'
  | .bad => False
def tS (G : En → Fl) : TS := fun D σ H => ∃ H0 Hf0 Hf e, SR K H0 Hf0 Hf H σ e ∧ PoS K W D H0 Hf0 Hf (G e)
end

section
variable {K : Kw} {Rel : Hp → Hp → V → D → Prop} {W : WE} {σ : L2.St} {Hf H Hf' H' : Hp}
theorem PoS.same {D : Ends} {H0 Hf0 Hf1 : Hp} {r : Fl} (p : PoS K W D H0 Hf0 Hf r) (h : Same Hf Hf1) : PoS K W D H0 Hf0 Hf1 r := by
  cases r with
  | nx e => exact fun σ Hf' H' S s => p σ Hf' H' S (h.trans s)
  | rt d => exact p
  | bk e => exact fun σ Hf' H' S s => p σ Hf' H' S (h.trans s)
  | ct e => exact fun σ Hf' H' S s => p σ Hf' H' S (h.trans s)
  | ex c e => exact fun σ Hf' H' S s => p σ Hf' H' S (h.trans s)
  | bad => exact p
theorem VAll.mono (g : Grow Hf H Hf' H') : ∀ {vs : List V} {ds : List D}, VAll K Hf H vs ds → VAll K Hf' H' vs ds
  | _, _, .nil => .nil
  | _, _, .cons h t => .cons (h.mono g) (VAll.mono g t)
theorem Po.grow {Q : VK} {r : R D} (p : Po Rel W Q σ Hf H r) (g : Grow Hf H Hf' H') : Po Rel W Q σ Hf' H' r := by
  cases r with
  | ok d => exact fun v Hf2 H2 g2 q => p v Hf2 H2 (g.trans g2) q
  | ex c => exact fun Hf2 H2 g2 => p Hf2 H2 (g.trans g2)
  | bad => exact p
theorem PoN.grow {Q : VK} {r : R (List D)} (p : PoN K W Q σ Hf H r) (g : Grow Hf H Hf' H') : PoN K W Q σ Hf' H' r := by
  cases r with
  | ok d => exact fun v xs Hf2 H2 g2 hn => p v xs Hf2 H2 (g.trans g2) (g.hh.free hn)
  | ex c => exact fun Hf2 H2 g2 => p Hf2 H2 (g.trans g2)
  | bad => exact p
theorem PoT.grow {Q : Bool → Hp → Prop} {r : R Bool} (p : PoT W Q σ Hf H r) (g : Grow Hf H Hf' H') : PoT W Q σ Hf' H' r := by
  cases r with
  | ok d => exact fun Hf2 H2 g2 => p Hf2 H2 (g.trans g2)
  | ex c => exact fun Hf2 H2 g2 => p Hf2 H2 (g.trans g2)
  | bad => exact p
theorem PoA.grow {R2 : Hp → Hp → List V → List D → Prop} {Q : List V → Hp → Prop} {r : R (List D)} (p : PoA W R2 Q σ Hf H r) (g : Grow Hf H Hf' H') : PoA W R2 Q σ Hf' H' r := by
  cases r with
  | ok d => exact fun v Hf2 H2 g2 q => p v Hf2 H2 (g.trans g2) q
  | ex c => exact fun Hf2 H2 g2 => p Hf2 H2 (g.trans g2)
  | bad => exact p
/-- first this, then that -/
theorem Po.bind {Rel2 : Hp → Hp → V → D → Prop} {Q : VK} {r : R D} {f : D → R D} (p : Po Rel W Q σ Hf H (r.bind f)) : Po Rel2 W (fun v H1 => ∃ Hf1 d, Grow Hf H Hf1 H1 ∧ Rel2 Hf1 H1 v d ∧ Po Rel W Q σ Hf1 H1 (f d)) σ Hf H r := by
  cases r with
  | ok d => exact fun v Hf2 H2 g2 q => ⟨Hf2, d, g2, q, p.grow g2⟩
  | ex c => exact p
  | bad => exact p
theorem Po.bindT {Q : VK} {r : R Bool} {f : Bool → R D} (p : Po Rel W Q σ Hf H (r.bind f)) : PoT W (fun b H1 => ∃ Hf1, Grow Hf H Hf1 H1 ∧ Po Rel W Q σ Hf1 H1 (f b)) σ Hf H r := by
  cases r with
  | ok d => exact fun Hf2 H2 g2 => ⟨Hf2, g2, p.grow g2⟩
  | ex c => exact p
  | bad => exact p
theorem Po.bindA {R2 : Hp → Hp → List V → List D → Prop} {Q : VK} {r : R (List D)} {f : List D → R D} (p : Po Rel W Q σ Hf H (r.bind f)) : PoA W R2 (fun v H1 => ∃ Hf1 d, Grow Hf H Hf1 H1 ∧ R2 Hf1 H1 v d ∧ Po Rel W Q σ Hf1 H1 (f d)) σ Hf H r := by
  cases r with
  | ok d => exact fun v Hf2 H2 g2 q => ⟨Hf2, d, g2, q, p.grow g2⟩
  | ex c => exact p
  | bad => exact p
theorem PoN.bind {Rel2 : Hp → Hp → V → D → Prop} {Q : VK} {r : R D} {f : D → R (List D)} (p : PoN K W Q σ Hf H (r.bind f)) : Po Rel2 W (fun v H1 => ∃ Hf1 d, Grow Hf H Hf1 H1 ∧ Rel2 Hf1 H1 v d ∧ PoN K W Q σ Hf1 H1 (f d)) σ Hf H r := by
  cases r with
  | ok d => exact fun v Hf2 H2 g2 q => ⟨Hf2, d, g2, q, p.grow g2⟩
  | ex c => exact p
  | bad => exact p
theorem PoN.bindA {R2 : Hp → Hp → List V → List D → Prop} {Q : VK} {r : R (List D)} {f : List D → R (List D)} (p : PoN K W Q σ Hf H (r.bind f)) : PoA W R2 (fun v H1 => ∃ Hf1 d, Grow Hf H Hf1 H1 ∧ R2 Hf1 H1 v d ∧ PoN K W Q σ Hf1 H1 (f d)) σ Hf H r := by
  cases r with
  | ok d => exact fun v Hf2 H2 g2 q => ⟨Hf2, d, g2, q, p.grow g2⟩
  | ex c => exact p
  | bad => exact p
theorem PoT.bind {Rel2 : Hp → Hp → V → D → Prop} {Q : Bool → Hp → Prop} {r : R D} {f : D → R Bool} (p : PoT W Q σ Hf H (r.bind f)) : Po Rel2 W (fun v H1 => ∃ Hf1 d, Grow Hf H Hf1 H1 ∧ Rel2 Hf1 H1 v d ∧ PoT W Q σ Hf1 H1 (f d)) σ Hf H r := by
  cases r with
  | ok d => exact fun v Hf2 H2 g2 q => ⟨Hf2, d, g2, q, p.grow g2⟩
  | ex c => exact p
  | bad => exact p
theorem PoT.bindT {Q : Bool → Hp → Prop} {r : R Bool} {f : Bool → R Bool} (p : PoT W Q σ Hf H (r.bind f)) : PoT W (fun b H1 => ∃ Hf1, Grow Hf H Hf1 H1 ∧ PoT W Q σ Hf1 H1 (f b)) σ Hf H r := by
  cases r with
  | ok d => exact fun Hf2 H2 g2 => ⟨Hf2, g2, p.grow g2⟩
  | ex c => exact p
  | bad => exact p
theorem PoA.bind {R2 : Hp → Hp → List V → List D → Prop} {Rel2 : Hp → Hp → V → D → Prop} {Q : List V → Hp → Prop} {r : R D} {f : D → R (List D)} (p : PoA W R2 Q σ Hf H (r.bind f)) : Po Rel2 W (fun v H1 => ∃ Hf1 d, Grow Hf H Hf1 H1 ∧ Rel2 Hf1 H1 v d ∧ PoA W R2 Q σ Hf1 H1 (f d)) σ Hf H r := by
  cases r with
  | ok d => exact fun v Hf2 H2 g2 q => ⟨Hf2, d, g2, q, p.grow g2⟩
  | ex c => exact p
  | bad => exact p
theorem PoA.bindA {R2 R3 : Hp → Hp → List V → List D → Prop} {Q : List V → Hp → Prop} {r : R (List D)} {f : List D → R (List D)} (p : PoA W R2 Q σ Hf H (r.bind f)) : PoA W R3 (fun v H1 => ∃ Hf1 d, Grow Hf H Hf1 H1 ∧ R3 Hf1 H1 v d ∧ PoA W R2 Q σ Hf1 H1 (f d)) σ Hf H r := by
  cases r with
  | ok d => exact fun v Hf2 H2 g2 q => ⟨Hf2, d, g2, q, p.grow g2⟩
  | ex c => exact p
  | bad => exact p
theorem Po.mono {Q Q' : VK} {r : R D} (p : Po Rel W Q σ Hf H r) (k : ∀ v H1, Q v H1 → Q' v H1) : Po Rel W Q' σ Hf H r := by
  cases r with
  | ok d => exact fun v Hf2 H2 g2 q => k _ _ (p v Hf2 H2 g2 q)
  | ex c => exact p
  | bad => exact p
theorem PoT.mono {Q Q' : Bool → Hp → Prop} {r : R Bool} (p : PoT W Q σ Hf H r) (k : ∀ v H1, Q v H1 → Q' v H1) : PoT W Q' σ Hf H r := by
  cases r with
  | ok d => exact fun Hf2 H2 g2 => k _ _ (p Hf2 H2 g2)
  | ex c => exact p
  | bad => exact p
theorem PoA.mono {R2 : Hp → Hp → List V → List D → Prop} {Q Q' : List V → Hp → Prop} {r : R (List D)} (p : PoA W R2 Q σ Hf H r) (k : ∀ v H1, Q v H1 → Q' v H1) : PoA W R2 Q' σ Hf H r := by
  cases r with
  | ok d => exact fun v Hf2 H2 g2 q => k _ _ (p v Hf2 H2 g2 q)
  | ex c => exact p
  | bad => exact p
theorem PoN.mono {Q Q' : VK} {r : R (List D)} (p : PoN K W Q σ Hf H r) (k : ∀ v H1, Q v H1 → Q' v H1) : PoN K W Q' σ Hf H r := by
  cases r with
  | ok d => exact fun v xs Hf2 H2 g2 a b c q => k _ _ (p v xs Hf2 H2 g2 a b c q)
  | ex c => exact p
  | bad => exact p
/-- a plain value is told -/
theorem Po.of_opt {Q : VK} {o : Option D} (p : Po Rel W Q σ Hf H (opt o)) : ∃ d, o = some d ∧ ∀ v Hf' H', Grow Hf H Hf' H' → Rel Hf' H' v d → Q v H' := by
  cases o with
  | some d => exact ⟨d, rfl, p⟩
  | none => exact p.elim
theorem PoT.of_opt {Q : Bool → Hp → Prop} {o : Option Bool} (p : PoT W Q σ Hf H (opt o)) : ∃ d, o = some d ∧ ∀ Hf' H', Grow Hf H Hf' H' → Q d H' := by
  cases o with
  | some d => exact ⟨d, rfl, p⟩
  | none => exact p.elim
theorem PoN.of_opt {Q : VK} {o : Option (List D)} (p : PoN K W Q σ Hf H (opt o)) : ∃ ds, o = some ds ∧ ∀ v xs Hf' H', Grow Hf H Hf' H' → H v = none → Hf' v = none → H' v = some (.lst xs) → RpAll K Hf' xs ds → Q (.ref v) H' := by
  cases o with
  | some d => exact ⟨d, rfl, p⟩
  | none => exact p.elim
end
section
variable {X : Cx} {W : WE} {a : Expr} {F : En → R D}
/-- frozen data may be looked at -/
theorem e2v (h : PE X a (tE (X.kw ea) W F)) : PE X a (tV (X.kw ea) W F) := PE_weak h fun σ H Q ⟨H0, Hf0, Hf, e, S, p⟩ => ⟨H0, Hf0, Hf, e, S, by
  revert p
  cases F e with
  | ok d => exact fun p v Hf' H' g r => p v Hf' H' g (.e r)
  | ex c => exact fun p => p
  | bad => exact fun p => p⟩
def asL (F : En → R (List D)) : En → R D := fun e => (F e).bind fun ds => .ok (.list ds)
/-- a new list is frozen -/
theorem n2e {F : En → R (List D)} (h : PE X a (tN (X.kw ea) W F)) : PE X a (tE (X.kw ea) W (asL F)) := PE_weak h fun σ H Q ⟨H0, Hf0, Hf, e, S, p⟩ => ⟨H0, Hf0, Hf, e, S, by
  revert p
  unfold asL
  cases F e with
  | ok ds =>
    intro p q xs Hf' H' g hn hf hl r
    have z := Grow.freeze g.fh hl hf
    exact p (.ref q) (upd Hf' q (.lst xs)) H' ⟨g.hh, g.ff.trans z.1, z.2, fun b o hb m nb => by rw [upd_ne (ne_of_none hb hn)]; exact g.nf b o hb m nb⟩ (.lst upd_same (r.mono z.1))
  | ex c => exact fun p => p
  | bad => exact fun p => p⟩
end
end Pu
/-! PuB2: new tuples, known by their objects -/
namespace Pu
open PySem L2
/-- a new tuple of xs goes on -/
def TupN (H : Hp) (Q : VK) (xs : List V) : Prop := ∀ (p : Addr) (o : Obj), H p = none → o.dict = none → Q (.ref p) (upd H p (.frz o (.tup xs)))
section
variable {X : Cx} {pins : List (Addr × Obj)} {σ : L2.St} {H : Hp} {s : Shared}
theorem tup_new {Q : VK} {xs : List V} {us : List Value} {tk : Nat} (I : Inv X pins σ H s) (r : Vals xs us) (hz : xs.length ≤ sizeLine) (q : TupN H Q xs) :
    EP X pins σ Q (.ref s.heap.objs.size) { s with heap := s.heap.push { cls := .type "tuple", data := .seq us.toArray }, toks := tk } :=
  ⟨.ref s.heap.objs.size, _, I.laid (t' := tk) (o := .frz { cls := .type "tuple", data := .seq us.toArray } (.tup xs)) (fun b ob e => Heap.get?_push_of_some _ e) (Nat.le_refl _)
    ⟨Heap.get?_push_size _ rfl, hz, us, r, ⟨_, Heap.get?_push_size _ rfl, rfl, _, rfl⟩⟩, rfl, q _ _ (I.hok.fresh (Nat.le_refl _)) rfl⟩
def tTupF (t : TA) : TE := fun σ H Q => t σ H fun xs H1 => xs.length ≤ sizeLine ∧ TupN H1 Q xs
theorem pe_tupF {es : List Expr} {t : TA} {pos : Pos} {x1} (h : PA X es t) : PE X (.Tuple es x1 pos) (tTupF t) :=
  ⟨fun pins s σ H Q I hq => wpAny_Tuple_spliced (thn (h.run pos pins s σ H _ I hq) fun us s1 ⟨xs, H1, I1, r, z, q⟩ => ⟨by rw [← r.length]; exact z, tup_new (tk := s1.toks) I1 r z q⟩)⟩
/-- the values of a tuple that H knows -/
theorem tup_at {a : Addr} {xs : List V} (I : Inv X pins σ H s) (h : SqT X.K H a xs) : ∃ us : List Value, Vals xs us ∧ PyProof.Rows.IsTup s.heap a us.toArray ∧ us.length = xs.length ∧ us.length ≤ sizeLine :=
  let ⟨us, r, t, z⟩ := I.tuple h
  ⟨us, r, t, r.length.symm, Nat.le_trans (Nat.le_of_eq r.length.symm) z⟩
theorem call_tupleF : CallR X (.type "tuple") (fun xs H Q => ∃ p ys, xs = [.ref p] ∧ ((SqL X.K H p ys ∧ TupN H Q ys) ∨ (SqT X.K H p ys ∧ Q (.ref p) H))) :=
  fun pins s σ H _ _ Q I rs ⟨p, ys, ex, alt⟩ => by
    subst ex
    obtain ⟨_, rfl, rfl⟩ := vals1 rs
    exact alt.elim
      (fun ⟨hq, q⟩ =>
        let ⟨us, r, pl, z⟩ := I.list hq
        call_tuple_list pl.isList (fun h' kp => tup_new (s := { s with heap := h' }) (I.kept (t' := s.toks) kp) r z q) (by rw [List.size_toArray, ← r.length]; exact z))
      (fun ⟨hq, q⟩ =>
        let ⟨us, _, t, _⟩ := tup_at I hq
        call_tuple_same t ⟨.ref p, H, I, rfl, q⟩)
def rCatF (K : PySem.W.Frag) : R2 := fun x y H Q => ∃ a b xs ys, x = .ref a ∧ y = .ref b ∧ SqT K H a xs ∧ SqT K H b ys ∧ xs.length + ys.length ≤ sizeLine ∧
  (xs = [] → Q (.ref b) H) ∧ (xs ≠ [] → ys = [] → Q (.ref a) H) ∧ (xs ≠ [] → ys ≠ [] → TupN H Q (xs ++ ys))
theorem op_catF : OpR X (binaryOp .Add) (rCatF X.K) := fun pins s σ H _ _ v u Q I rx ry ⟨a, b, xs, ys, ex, ey, ha, hb, hz, q0, q1, q2⟩ => by
  subst ex ey
  obtain rfl : v = .ref a := rx
  obtain rfl : u = .ref b := ry
  obtain ⟨us, ru, ta, _, _⟩ := tup_at I ha
  obtain ⟨ws, rs, tb, _, _⟩ := tup_at I hb
  cases ru with
  | nil => exact cat_tup0 ta tb ⟨.ref b, H, I, rfl, q0 rfl⟩
  | cons r1 ru =>
    have all := Vals.append (.cons r1 ru) rs
    refine HT.cat_tup ta tb (List.cons_ne_nil _ _) (fun z => ?_) (fun z => ?_) ?_
    · subst z
      cases rs
      exact ⟨.ref a, H, I, rfl, q1 (List.cons_ne_nil _ _) rfl⟩
    · exact tup_new (tk := s.toks) I all (by rw [List.length_append]; exact hz) (q2 (List.cons_ne_nil _ _) fun e => by subst e; cases rs; exact z rfl)
    · rw [List.length_cons, ← ru.length, ← rs.length]
      exact hz
def rSlF (K : PySem.W.Frag) : V → Option Int → Option Int → Hp → VK → Prop := fun x lo hi H Q => ∃ a xs, x = .ref a ∧ SqT K H a xs ∧
  (HT.sIx xs.length 0 lo = 0 ∧ HT.sIx xs.length xs.length hi = xs.length → Q (.ref a) H) ∧ (¬ (HT.sIx xs.length 0 lo = 0 ∧ HT.sIx xs.length xs.length hi = xs.length) → TupN H Q (cutV xs lo hi))
theorem sl_tupF : SlR X (rSlF X.K) := fun pins s σ H _ v vl vu lo hi sl Q I rx hs pl pu ⟨a, xs, ex, hx, whole, part⟩ => by
  subst ex
  obtain rfl : v = .ref a := rx
  obtain ⟨us, ru, ta, el, zl⟩ := tup_at I hx
  have en : us.toArray.size = xs.length := by rw [List.size_toArray, el]
  refine ⟨_, _, PyProof.Rows.slot_tuple_getitem.lookup, ta.typeIs, ?_⟩
  rcases Classical.em (HT.sIx xs.length 0 lo = 0 ∧ HT.sIx xs.length xs.length hi = xs.length) with y | n
  · exact getItem_tuple_whole ta hs pl pu (by rw [en]; exact y) ⟨.ref a, H, I, rfl, whole y⟩
  · have cut := (ru.drop (HT.sIx xs.length 0 lo)).take (HT.sIx xs.length xs.length hi - HT.sIx xs.length 0 lo)
    have zc : (cutV xs lo hi).length ≤ sizeLine := Nat.le_trans (cutV_length xs lo hi) (el ▸ zl)
    have fin := tup_new (tk := s.toks) I cut zc (part n)
    rw [← en] at fin n
    exact HT.getItem_tuple_cut ta hs pl pu n fin (by rw [List.size_toArray]; exact zl)
end
end Pu
namespace L2
open PySem PySem.Spec PyProof.Rows
def rRepF (K : PySem.W.Frag) : R2 := fun x y H Q => ∃ (l : Addr) (k : Int) (xs : List V), x = .ref l ∧ y = .int k ∧ SqT K H l xs ∧ xs ≠ [] ∧ 2 ≤ k ∧ k ≤ 1000 ∧ xs.length ≤ 1000 ∧ Pu.TupN H Q (List.replicate k.toNat xs).flatten
/-- t * k of a tuple that is not empty, k from 2 on -/
theorem mul_tup {P : Program} {w : World} {A : Around} {E : Value → Shared → Prop} {s : Shared} {l : Addr} {u : Value} {us : List Value} {m : Nat} {t : Tok} {Q : Value → Shared → Prop} (ht : IsTup s.heap l (u :: us).toArray) (hm : 2 ≤ m) (hb : m * (u :: us).length ≤ 1000000)
    (h : Q (.ref s.heap.objs.size) { s with heap := s.heap.push { cls := .type "tuple", data := .seq (List.replicate m (u :: us)).flatten.toArray } }) : wpAny (model P w) A (binaryOp .Mult (.ref l) (.int (m : Int) t)) Q E s := by
  obtain ⟨⟨cl, dd, da, sl⟩, ho, ec, n, ed⟩ := ht
  obtain rfl : cl = .type "tuple" := ec
  obtain rfl : da = .seq (u :: us).toArray n := ed
  have big : (((u :: us).toArray.size : Nat) : Int) * (m : Int) ≤ 1000000 := by
    rw [List.size_toArray, ← Int.natCast_mul, Nat.mul_comm]
    exact Int.ofNat_le.mpr hb
  have m63 : (m : Int) ≤ 1000000 := by
    have : m * 1 ≤ m * (u :: us).length := Nat.mul_le_mul_left _ (Nat.succ_le_succ (Nat.zero_le _))
    omega
  have len : (List.foldl (fun x1 x2 => x1 ++ x2) #[] (List.replicate m (u :: us).toArray)) = (List.replicate m (u :: us)).flatten.toArray := size_rep _ m
  have small : (List.replicate m (u :: us)).flatten.length ≤ sizeLine := by
    rw [lm_len_rep_flat, sizeLine_eq]
    omega
  have body := tuple_mulW l (u :: us).toArray n dd sl (m : Int) t (by simp; omega) (by simp; omega) (by simp; omega) (by omega) (by unfold Builtin.Tuple.tupleTooMany; rw [sizeLine_eq]; exact decide_eq_false (by omega)) (by rw [Int.toNat_natCast, len, List.size_toArray]; exact small)
  rw [Int.toNat_natCast, len] at body
  have isT : s.TypeIs (.ref l) "tuple" := ⟨_, ho, rfl⟩
  refine wpAny_binaryOp_repeat_ref (by decide) isT (fun z => typeIs_int z _ t) noFill_tuple_mul F.fills_int_mul F.slot_int_rmul repeat_tuple F.slot_int_index.lookup ?_
  refine call_meets F.slot_int_rmul (typeIs_int s _ t) F.entry_int_rmul (F.args_int_rmul_2 _ _) (int_rmul_tuple _ t l _ n dd sl) ⟨ho, rfl, isT, ?_⟩
  exact call_meets F.slot_tuple_mul isT F.entry_tuple_mul (F.args_tuple_mul_2 _ _) body ⟨ho, h⟩
theorem op_repF {X : Cx} : OpR X (binaryOp .Mult) (rRepF X.K) := fun pins s σ H _ _ v u Q I rx ry ⟨l, k, xs, ex, ey, hT, hne, k2, kz, hz, q⟩ => by
  subst ex ey
  obtain rfl : v = .ref l := rx
  obtain ⟨t, rfl⟩ := ry
  obtain ⟨us, ru, tu, el, _⟩ := Pu.tup_at I hT
  obtain ⟨m, rfl⟩ : ∃ m : Nat, k = m := ⟨k.toNat, by omega⟩
  rw [Int.toNat_natCast] at q
  have room : m * xs.length ≤ 1000000 := Nat.mul_le_mul (show m ≤ 1000 by omega) hz
  have rr := ru.rep m
  have zr : (List.replicate m xs).flatten.length ≤ sizeLine := by
    rw [lm_len_rep_flat, sizeLine_eq]
    omega
  cases us with
  | nil => exact absurd (List.eq_nil_of_length_eq_zero (el.symm.trans List.length_nil)) hne
  | cons a us => exact mul_tup tu (by omega) (by rw [el]; exact room) (Pu.tup_new (tk := s.toks) I rr zr q)
end L2
namespace Pu
open PySem L2
section
variable {K : Kw} {Hf H : Hp} {xs : List V} {ds : List D} {p : Addr} {o : Obj}
/-- a new tuple stands for its data -/
theorem Rp.new (f : Same Hf H) (hp : H p = none) (ho : o.dict = none) (r : RpAll K Hf xs ds) : Grow Hf H (upd Hf p (.frz o (.tup xs))) (upd H p (.frz o (.tup xs))) ∧ Rp K (upd Hf p (.frz o (.tup xs))) (.ref p) (.tuple ds) :=
  ⟨Grow.new f hp, .tup ⟨o, upd_same, ho⟩ (r.mono (same_upd (f.free hp)))⟩
/-- what is wished of a new tuple -/
theorem TupN.of {Q : VK} (f : Same Hf H) (r : RpAll K Hf xs ds) (q : ∀ v Hf' H', Grow Hf H Hf' H' → Rp K Hf' v (.tuple ds) → Q v H') : TupN H Q xs := fun p o hp ho =>
  let ⟨g, r'⟩ := Rp.new f hp ho r
  q _ _ _ g r'
end
end Pu
/-! PuB3: data as keys of dicts -/
namespace Pu
open PySem L2
def isTup : D → Bool
  | .tuple _ => true
  | _ => false
/-- data as a key -/
def keyD (d : D) : Option NestedKey := if isTup d then (nk d).bind fun k => if k.depth ≤ 8 then some k else none else none
theorem keyD_of {d : D} {k : NestedKey} (h : keyD d = some k) : nk d = some k ∧ k.depth ≤ 8 ∧ ∃ ds, d = .tuple ds := by
  unfold keyD at h
  split at h
  · rename_i ht
    cases q : nk d with
    | none => rw [q] at h; cases h
    | some k' =>
      rw [q] at h
      have h : (if k'.depth ≤ 8 then some k' else none) = some k := h
      split at h
      · rename_i hd
        cases h
        refine ⟨rfl, hd, ?_⟩
        cases d with
        | tuple ds => exact ⟨ds, rfl⟩
        | _ => cases ht
      · cases h
  · cases h
def dget : List (D × D) → NestedKey → Option D
  | [], _ => none
  | (d, e) :: r, k => if nk d = some k then some e else dget r k
/-- d[k] = e; x is the key's data -/
def dput (kvs : List (D × D)) (k : NestedKey) (x e : D) : List (D × D) :=
  if (dget kvs k).isSome then kvs.map fun p => if nk p.1 = some k then (p.1, e) else p else kvs ++ [(x, e)]
section
variable {X : Cx} {pins : List (Addr × Obj)} {σ : L2.St} {H : Hp} {s : Shared}
mutual
theorem Rp.nested (I : L2.Inv X pins σ H s) : ∀ {d : D} {v : V} {u : Value} {k : NestedKey}, Rp (X.kw ea) H v d → RelV v u → nk d = some k → NestedIs s.heap k u
  | _, _, _, _, .non, r, h => by cases h; cases r; exact .none
  | _, _, _, _, .bl b, r, h => by cases h; cases r; exact .bool rfl
  | _, _, _, _, .int i, r, h => by cases h; obtain ⟨t, rfl⟩ := r; exact .int _ _
  | _, _, _, _, .str x, r, h => by cases h; obtain ⟨t, rfl⟩ := r; exact .text _ _
  | _, _, _, _, .lst _ _, r, h => by cases h
  | _, _, _, _, .tup hl ra, r, h => by
    cases r
    rename_i a xs ds
    have h : (nkAll ds).map NestedKey.tup = _ := h
    cases q : nkAll ds with
    | none => rw [q] at h; cases h
    | some ks =>
      rw [q] at h
      cases h
      obtain ⟨its, rv, ⟨o, ho, hc, n, hd⟩, _⟩ := I.tuple hl.sq
      exact .tup ho hc hd (by simpa using RpAll.nested I ra rv q)
  | _, _, _, _, .dct _ _, r, h => by cases h
  | _, _, _, _, .scr _, r, h => by cases h
  | _, _, _, _, .tab _, r, h => by cases h
theorem RpAll.nested (I : L2.Inv X pins σ H s) : ∀ {ds : List D} {vs : List V} {us : List Value} {ks : List NestedKey}, RpAll (X.kw ea) H vs ds → Vals vs us → nkAll ds = some ks → NestedAll s.heap ks us
  | _, _, _, _, .nil, .nil, h => by cases h; exact .nil
  | _, _, _, _, .cons (d := d) (ds := ds) h1 t1, .cons r t, h => by
    have h : ((nk d).bind fun k => (nkAll ds).map fun ks => k :: ks) = _ := h
    cases q : nk d with
    | none => rw [q] at h; cases h
    | some k =>
      rw [q] at h
      have h : ((nkAll ds).map fun ks => k :: ks) = _ := h
      cases q2 : nkAll ds with
      | none => rw [q2] at h; cases h
      | some ks => rw [q2] at h; cases h; exact .cons (Rp.nested I h1 r q) (RpAll.nested I t1 t q2)
end
theorem RpDct.is (I : L2.Inv X pins σ H s) : ∀ {xs : List (NestedKey × Addr × Value)} {kvs : List (D × D)}, RpDct (X.kw ea) H xs kvs → ∀ x ∈ xs, (nestedKind X.prog X.w).is s.heap x.1 x.2.1
  | _, _, .nil, x, h => by cases h
  | _, _, .cons hk hd hb _ _ t, x, h => by
    rcases List.mem_cons.mp h with rfl | h
    · exact ⟨Rp.nested I hb rfl hk, hd⟩
    · exact RpDct.is I t x h
/-- the dict, as the library has it -/
theorem dic_of (I : L2.Inv X pins σ H s) {a : Addr} {xs : DX} {kvs : List (D × D)} (h : H a = some (DicO X.w a xs)) (r : RpDct (X.kw ea) H xs.1 kvs) :
    xs.1.length ≤ sizeLine ∧ (a == sysModules) = false ∧ s.heap.DictOfH (nestedKind X.prog X.w) a xs.1 := by
  obtain ⟨⟨hz, hsm, o, es, ep, ho, hx, hd, he, hn, _⟩, _⟩ := (show ObjOk X.prog X.w H s.heap a (DicO X.w a xs) from I.hok a _ h)
  exact ⟨hz, hsm, o, es, ep, ho, hx, hd, he, RpDct.is I r, hn⟩
theorem dic_ok {P : Program} {w : World} {h : Heap} {a : Addr} {xs : List (NestedKey × Addr × Value)} {H : Hp} (hz : xs.length ≤ sizeLine) (hsm : (a == sysModules) = false) (hm : h.DictOfH (nestedKind P w) a xs) : ∃ ep, ObjOk P w H h a (DicO w a (xs, ep)) := by
  obtain ⟨o, es, ep, ho, hx, hd, he, _, hn⟩ := hm
  refine ⟨ep, ⟨hz, hsm, o, es, ep, ho, hx, hd, he, hn, rfl⟩, ⟨o, ho⟩, fun h1 h2 z k => ?_⟩
  obtain ⟨z1, z2, o1, es1, ep1, q1, q2⟩ := z
  exact ⟨z1, z2, o1, es1, ep1, k _ q1, q2⟩
end
section
variable {K : Kw} {H : Hp}
theorem atKey_get : ∀ {xs : List (NestedKey × Addr × Value)} {kvs : List (D × D)} (k : NestedKey), RpDct K H xs kvs →
    (atKey xs k = none ∧ dget kvs k = none) ∨ ∃ b u v e, atKey xs k = some (b, u) ∧ dget kvs k = some e ∧ RelV v u ∧ Rp K H v e
  | _, _, k, .nil => .inl ⟨rfl, rfl⟩
  | _, _, k, .cons (k := k') (b := b) (u := u) (v := v) (d := d) (e := e) (xs := xs) (kvs := kvs) hk hd hb rv he t => by
    by_cases hkk : k' = k
    · subst hkk
      exact .inr ⟨b, u, v, e, by simp [atKey], by simp [dget, hk], rv, he⟩
    · have e1 : atKey ((k', b, u) :: xs) k = atKey xs k := by simp [atKey, hkk]
      have e2 : dget ((d, e) :: kvs) k = dget kvs k := by simp [dget, hk, hkk]
      rw [e1, e2]
      exact atKey_get k t
theorem put_all {k : NestedKey} {u : Value} {v : V} {e : D} (rv : RelV v u) (re : Rp K H v e) : ∀ {xs : List (NestedKey × Addr × Value)} {kvs : List (D × D)}, RpDct K H xs kvs →
    RpDct K H (xs.map (PySem.putAt k u)) (kvs.map fun p => if nk p.1 = some k then (p.1, e) else p)
  | _, _, .nil => .nil
  | _, _, .cons (k := k') (d := d) hk hd hb rv' he t => by
    rw [List.map_cons, List.map_cons]
    by_cases hkk : k' = k
    · subst hkk
      simp only [PySem.putAt, if_true, hk]
      exact .cons hk hd hb rv re (put_all rv re t)
    · have hne : ¬ (some k' = some k) := fun z => hkk (Option.some.inj z)
      simp only [PySem.putAt, hkk, if_false, hk, hne]
      exact .cons hk hd hb rv' he (put_all rv re t)
theorem RpDct.append : ∀ {xs ys : List (NestedKey × Addr × Value)} {kvs ms : List (D × D)}, RpDct K H xs kvs → RpDct K H ys ms → RpDct K H (xs ++ ys) (kvs ++ ms)
  | _, _, _, _, .nil, s => s
  | _, _, _, _, .cons h1 h2 h3 h4 h5 t, s => .cons h1 h2 h3 h4 h5 (RpDct.append t s)
theorem RpDct.stored {xs : List (NestedKey × Addr × Value)} {kvs : List (D × D)} {k : NestedKey} {b : Addr} {u : Value} {v : V} {d e : D} (r : RpDct K H xs kvs) (hk : nk d = some k) (hd : k.depth ≤ 8) (rb : Rp K H (.ref b) d) (rv : RelV v u) (re : Rp K H v e) :
    RpDct K H (storedH xs k b u) (dput kvs k d e) := by
  unfold dput
  rcases atKey_get k r with ⟨h1, h2⟩ | ⟨b', u', v', e', h1, h2, _⟩
  · rw [storedH_new h1, h2]
    exact r.append (.cons hk hd rb rv re .nil)
  · rw [storedH_old h1, h2]
    exact put_all rv re r
theorem stored_len {xs : List (NestedKey × Addr × Value)} {k : NestedKey} {b : Addr} {u : Value} : (storedH xs k b u).length ≤ xs.length + 1 := by
  unfold storedH
  split
  · rw [List.length_map]; omega
  · rw [List.length_append]; exact Nat.le_refl _
end
section
variable {X : Cx}
/-- d[k] = v -/
def rSetD (K : Kw) : V → V → V → Hp → (Hp → Prop) → Prop := fun o i v H Q => ∃ (p b : Addr) (xs : DX) (kvs : List (D × D)) (d : D) (k : NestedKey), o = .ref p ∧ i = .ref b ∧ H p = some (DicO K.w p xs) ∧ RpDct K H xs.1 kvs ∧ Rp K H (.ref b) d ∧ nk d = some k ∧ k.depth ≤ 8 ∧ xs.1.length < sizeLine ∧
  ∀ u ep, RelV v u → Q (upd H p (DicO K.w p (storedH xs.1 k b u, ep)))
theorem set_dict {j : Nat} (hr : Room j X.A) : PSet X (rSetD (X.kw ea)) := by
  intro pins s σ H o i v ov iv u Q I ro ri rv h
  obtain ⟨p, b, xs, kvs, d, k, rfl, rfl, hp, r, rb, hk, hd, hz, q⟩ := h
  cases ro
  cases ri
  have hu := hr.un
  obtain ⟨hz', hsm, hm⟩ := dic_of I hp r
  have hroom : (nestedKind X.prog X.w).room X.A.in1 := by show X.A.units + 1 + 8 < cLine; omega
  refine wpAny_setItem_heap (hsz := hz') hroom ⟨Rp.nested I rb rfl hk, hd⟩ hm fun h' hm' sb => ?_
  have hmm := hm'
  obtain ⟨o', _, _, ho', _⟩ := hmm
  obtain ⟨ep, ok⟩ := dic_ok (H := upd H p (DicO X.w p ([], 0))) (Nat.le_trans stored_len hz) hsm hm'
  exact ⟨_, I.write (x := p) (e := p) (by rw [hp]; trivial) (.inl rfl) (fun c w hc e => (sb.2 c hc).trans e) ⟨o', ho'⟩ ok, q u ep rv⟩
def tDNew (K : Kw) : TE := fun _ H Q => ∀ p ep, H p = none → Q (.ref p) (upd H p (DicO K.w p ([], ep)))
theorem pe_dnew {pos : Pos} : PE X (.Dict [] [] pos) (tDNew (X.kw ea)) := ⟨fun pins s σ H Q I h => by
  obtain ⟨ep, ok⟩ := dic_ok (P := X.prog) (w := X.w) (xs := []) (H := H) (Nat.zero_le _) (beq_eq_false_iff_ne.mpr (Ne.symm (Nat.ne_of_lt I.big))) (Heap.DictOfH.new s.heap)
  exact wpAny_Dict_empty ⟨.ref s.heap.objs.size, _, I.laid (a := s.heap.objs.size) (o := DicO X.w s.heap.objs.size ([], ep)) (t' := s.toks) (fun _ _ q => Heap.get?_push_of_some _ q) (Nat.le_refl _) ok, rfl, h _ ep (I.hok.fresh (Nat.le_refl _))⟩⟩
end
end Pu
/-! PuC: names, constants, displays, operators, comparisons, truth -/
namespace Pu
open PySem L2
section
variable {X : Cx} {W : WE} {a b c : Expr} {F G Fc : En → R D} {pos : Pos}
/-! ### names and constants -/
def getE (e : En) (i : Nat) : R D := match e[i]? with
  | some (.dat d) => .ok d
  | _ => .bad
def getV (e : En) (i : Nat) : R D := match e[i]? with
  | some (.dat d) => .ok d
  | some (.own ds) => .ok (.list ds)
  | some (.dic kvs) => .ok (.dict kvs)
  | _ => .bad
def xvE (i : Nat) : En → R D := fun e => getE e i
def xvV (i : Nat) : En → R D := fun e => getV e i
theorem pxE (i : Nat) {x : Str} (h : PE X (.Name x pos) (tVar i)) : PE X (.Name x pos) (tE (X.kw ea) W (xvE i)) := PE_weak h fun σ H Q ⟨H0, Hf0, Hf, e, S, p⟩ => by
  unfold xvE getE at p
  cases q : e[i]? with
  | none => rw [q] at p; exact p.elim
  | some s =>
    rw [q] at p
    cases s with
    | dat d =>
      obtain ⟨v, hv⟩ := S.lt q
      obtain ⟨y, ey, r⟩ := S.sl i _ v q hv
      subst ey
      exact ⟨y, hv, p y Hf H (Grow.refl S.gr.fh) r⟩
    | un => exact p.elim
    | own ds => exact p.elim
    | dic ks => exact p.elim
    | exc => exact p.elim
theorem pxV (i : Nat) {x : Str} (h : PE X (.Name x pos) (tVar i)) : PE X (.Name x pos) (tV (X.kw ea) W (xvV i)) := PE_weak h fun σ H Q ⟨H0, Hf0, Hf, e, S, p⟩ => by
  unfold xvV getV at p
  cases q : e[i]? with
  | none => rw [q] at p; exact p.elim
  | some s =>
    rw [q] at p
    obtain ⟨v, hv⟩ := S.lt q
    have z := S.sl i _ v q hv
    cases s with
    | dat d =>
      obtain ⟨y, ey, r⟩ := z
      subst ey
      exact ⟨y, hv, p y Hf H (Grow.refl S.gr.fh) (.e r)⟩
    | un => exact p.elim
    | own ds =>
      obtain ⟨y, xs, ey, h1, h2, h3, r⟩ := z
      subst ey
      exact ⟨_, hv, p _ Hf H (Grow.refl S.gr.fh) (.l h1 r)⟩
    | dic ks =>
      obtain ⟨y, xs, ey, h1, h2, h3, r⟩ := z
      subst ey
      exact ⟨_, hv, p _ Hf H (Grow.refl S.gr.fh) (.d h1 r)⟩
    | exc => exact p.elim
def xc (d : D) : En → R D := fun _ => .ok d
theorem xC {v : V} {d : D} (h : PE X a (tC v)) (r : ∀ H, Rp (X.kw ea) H v d) : PE X a (tE (X.kw ea) W (xc d)) := PE_weak h fun σ H Q ⟨H0, Hf0, Hf, e, S, p⟩ => p v Hf H (Grow.refl S.gr.fh) (r _)
theorem xInt {i j : _} : PE X (.Constant (.int i) j pos) (tE (X.kw ea) W (xc (.int i))) := xC pe_int fun _ => .int i
theorem xBool {i j : _} : PE X (.Constant (.bool i) j pos) (tE (X.kw ea) W (xc (.bool i))) := xC pe_bl fun _ => .bl i
theorem xNone {j : _} : PE X (.Constant .none j pos) (tE (X.kw ea) W (xc .none)) := xC pe_non fun _ => .non
theorem xStr {i j : _} : PE X (.Constant (.str i) j pos) (tE (X.kw ea) W (xc (.str i))) := xC pe_str fun _ => .str i
/-- a module's own constant -/
theorem xGlob {x : Str} {v : V} {u : Value} {d : D} (hg : Gl X x) (hm : X.mg x = some u) (rv : RelV v u) (r : ∀ H, Rp (X.kw ea) H v d) (hd : (x == ("__debug__" : Str)) = false := by decide) : PE X (.Name x pos) (tE (X.kw ea) W (xc d)) := xC (pe_glob hg hm rv hd) r

/-! ### argument lists, displays -/
def lnil : En → R (List D) := fun _ => .ok []
def lcons (F : En → R D) (G : En → R (List D)) : En → R (List D) := fun e => (F e).bind fun d => (G e).bind fun ds => .ok (d :: ds)
theorem aNil : PA X [] (tA (X.kw ea) W lnil) := PA_weak pa_nil fun σ H Q ⟨H0, Hf0, Hf, e, S, p⟩ => p [] Hf H (Grow.refl S.gr.fh) .nil
theorem aCons {es : List Expr} {L : En → R (List D)} (ha : PE X a (tE (X.kw ea) W F)) (hr : PA X es (tA (X.kw ea) W L)) (hs : starEach (a :: es) X.env = (false, eval a X.env) :: starEach es X.env := by rfl) : PA X (a :: es) (tA (X.kw ea) W (lcons F L)) :=
  PA_weak (pa_cons ha hr hs) fun σ H Q ⟨H0, Hf0, Hf, e, S, p⟩ => ⟨H0, Hf0, Hf, e, S, p.bind.mono fun v H1 ⟨Hf1, d, g, r, p1⟩ => ⟨H0, Hf0, Hf1, e, S.grow g, p1.bindA.mono fun vs H2 ⟨Hf2, ds, g2, r2, p2⟩ =>
    p2 (v :: vs) Hf2 H2 (Grow.refl g2.fh) (.cons (r.mono g2.ff) r2)⟩⟩
theorem avNil : PA X [] (tAV (X.kw ea) W lnil) := PA_weak pa_nil fun σ H Q ⟨H0, Hf0, Hf, e, S, p⟩ => p [] Hf H (Grow.refl S.gr.fh) .nil
theorem avCons {es : List Expr} {L : En → R (List D)} (ha : PE X a (tV (X.kw ea) W F)) (hr : PA X es (tAV (X.kw ea) W L)) (hs : starEach (a :: es) X.env = (false, eval a X.env) :: starEach es X.env := by rfl) : PA X (a :: es) (tAV (X.kw ea) W (lcons F L)) :=
  PA_weak (pa_cons ha hr hs) fun σ H Q ⟨H0, Hf0, Hf, e, S, p⟩ => ⟨H0, Hf0, Hf, e, S, p.bind.mono fun v H1 ⟨Hf1, d, g, r, p1⟩ => ⟨H0, Hf0, Hf1, e, S.grow g, p1.bindA.mono fun vs H2 ⟨Hf2, ds, g2, r2, p2⟩ =>
    p2 (v :: vs) Hf2 H2 (Grow.refl g2.fh) (.cons (r.mono g2) r2)⟩⟩
/-- lists and tuples hold at most so many -/
def many : Nat := 1000000
theorem many_line {n : Nat} (h : n ≤ many) : n ≤ sizeLine := Nat.le_trans h (by decide)
theorem many_lt {n : Nat} (h : n < many) : n < sizeLine := Nat.lt_of_lt_of_le h (by decide)
def mkT (ds : List D) : R D := if ds.length ≤ many then .ok (.tuple ds) else .bad
def mkL (ds : List D) : R (List D) := if ds.length ≤ many then .ok ds else .bad
def xtup (L : En → R (List D)) : En → R D := fun e => (L e).bind mkT
def xlst (L : En → R (List D)) : En → R (List D) := fun e => (L e).bind mkL
theorem xTup {es : List Expr} {L : En → R (List D)} {k : Nat} (h : PA X es (tA (X.kw ea) W L)) : PE X (.Tuple es k pos) (tE (X.kw ea) W (xtup L)) :=
  PE_weak (pe_tupF h) fun σ H Q ⟨H0, Hf0, Hf, e, S, p⟩ => ⟨H0, Hf0, Hf, e, S, p.bindA.mono fun vs H1 ⟨Hf1, ds, g, r, p1⟩ => by
    unfold mkT at p1
    split at p1
    · rename_i hl
      rw [← r.length] at hl
      exact ⟨many_line hl, TupN.of g.fh r p1⟩
    · exact p1.elim⟩
theorem xLst {es : List Expr} {L : En → R (List D)} (h : PA X es (tA (X.kw ea) W L)) : PE X (.List es pos) (tN (X.kw ea) W (xlst L)) :=
  PE_weak (pe_lst h) fun σ H Q ⟨H0, Hf0, Hf, e, S, p⟩ => ⟨H0, Hf0, Hf, e, S, p.bindA.mono fun vs H1 ⟨Hf1, ds, g, r, p1⟩ => by
    unfold mkL at p1
    split at p1
    · rename_i hl
      rw [← r.length] at hl
      exact ⟨many_line hl, fun q hq => p1 q vs Hf1 _ (Grow.lay g.fh hq) hq (g.fh.free hq) upd_same r⟩
    · exact p1.elim⟩

/-! ### operators -/
def bin (f : D → D → Option D) (F G : En → R D) : En → R D := fun e => (F e).bind fun x => (G e).bind fun y => opt (f x y)
def un1 (f : D → Option D) (F : En → R D) : En → R D := fun e => (F e).bind fun x => opt (f x)
/-- a two-place operation on data, its operands seen by Rel -/
def rB (K : Kw) (Rel : Hp → Hp → V → D → Prop) (f : D → D → Option D) : R2 := fun x y H Q => ∃ Hf dx dy z, Same Hf H ∧ Rel Hf H x dx ∧ Rel Hf H y dy ∧ f dx dy = some z ∧ ∀ v Hf' H', Grow Hf H Hf' H' → Rp K Hf' v z → Q v H'
def rBN (K : Kw) (Rel : Hp → Hp → V → D → Prop) (f : D → D → Option (List D)) : R2 := fun x y H Q => ∃ Hf dx dy z, Same Hf H ∧ Rel Hf H x dx ∧ Rel Hf H y dy ∧ f dx dy = some z ∧ ∀ p xs Hf' H', Grow Hf H Hf' H' → H p = none → Hf' p = none → H' p = some (.lst xs) → RpAll K Hf' xs z → Q (.ref p) H'
def rU1 (K : Kw) (Rel : Hp → Hp → V → D → Prop) (f : D → Option D) : V → Hp → VK → Prop := fun x H Q => ∃ Hf dx z, Same Hf H ∧ Rel Hf H x dx ∧ f dx = some z ∧ ∀ v Hf' H', Grow Hf H Hf' H' → Rp K Hf' v z → Q v H'
/-- a relation that stays -/
def Stays (Rel : Hp → Hp → V → D → Prop) : Prop := ∀ Hf H Hf' H' v d, Grow Hf H Hf' H' → Rel Hf H v d → Rel Hf' H' v d
theorem stE {K : Kw} : Stays (ERp K) := fun _ _ _ _ _ _ g r => r.mono g.ff
theorem stV {K : Kw} : Stays (VRp K) := fun _ _ _ _ _ _ g r => r.mono g
theorem tX_bin {K : Kw} {Rel : Hp → Hp → V → D → Prop} (st : Stays Rel) {f : D → D → Option D} {σ : L2.St} {H : Hp} {Q : VK} (h : tE K W (bin f F G) σ H Q) : tOp (rB K Rel f) (tX K Rel W F) (tX K Rel W G) σ H Q := by
  obtain ⟨H0, Hf0, Hf, e, S, p⟩ := h
  refine ⟨H0, Hf0, Hf, e, S, p.bind.mono fun x H1 ⟨Hf1, dx, g1, rx, p1⟩ => ⟨H0, Hf0, Hf1, e, S.grow g1, p1.bind.mono fun y H2 ⟨Hf2, dy, g2, ry, p2⟩ => ?_⟩⟩
  obtain ⟨z, ez, q⟩ := p2.of_opt
  exact ⟨Hf2, dx, dy, z, g2.fh, st _ _ _ _ _ _ g2 rx, ry, ez, q⟩
theorem tX_un {K : Kw} {Rel : Hp → Hp → V → D → Prop} {f : D → Option D} {σ : L2.St} {H : Hp} {Q : VK} (h : tE K W (un1 f F) σ H Q) : tUn (rU1 K Rel f) (tX K Rel W F) σ H Q := by
  obtain ⟨H0, Hf0, Hf, e, S, p⟩ := h
  refine ⟨H0, Hf0, Hf, e, S, p.bind.mono fun x H1 ⟨Hf1, dx, g1, rx, p1⟩ => ?_⟩
  obtain ⟨z, ez, q⟩ := p1.of_opt
  exact ⟨Hf1, dx, z, g1.fh, rx, ez, q⟩
theorem xBin {op : Operator} {f : D → D → Option D} (ho : OpR X (binaryOp op) (rB (X.kw ea) (ERp (X.kw ea)) f)) (ha : PE X a (tE (X.kw ea) W F)) (hb : PE X b (tE (X.kw ea) W G)) : PE X (.BinOp a op b pos) (tE (X.kw ea) W (bin f F G)) :=
  PE_weak (pe_op ho ha hb) fun σ H Q h => tX_bin stE h
theorem xUn {op : UnaryOp} {f : D → Option D} (ho : UnR X (unaryOp op) (rU1 (X.kw ea) (ERp (X.kw ea)) f)) (ha : PE X a (tE (X.kw ea) W F)) : PE X (.UnaryOp op a pos) (tE (X.kw ea) W (un1 f F)) :=
  PE_weak (pe_un ho ha) fun σ H Q h => tX_un h
theorem xCmp {op : CmpOp} {f : D → D → Option D} (ho : OpR X (compareOp op) (rB (X.kw ea) (VRp (X.kw ea)) f)) (ha : PE X a (tV (X.kw ea) W F)) (hb : PE X b (tV (X.kw ea) W G)) (hm : behindInMarks op b = false) : PE X (.Compare a [op] [b] pos) (tE (X.kw ea) W (bin f F G)) :=
  PE_weak (pe_cmpR ho ha hb hm) fun σ H Q h => tX_bin stV h
/-- a op b op' c -/
def chn (f f' : D → D → Option D) (F G Fc : En → R D) : En → R D := fun e => (F e).bind fun x => (G e).bind fun y => (opt (f x y)).bind fun z => match z with
  | .bool true => (Fc e).bind fun w => opt (f' y w)
  | .bool false => .ok (.bool false)
  | _ => .bad
theorem xChn {op op' : CmpOp} {f f' : D → D → Option D} (ho : OpR X (compareOp op) (rB (X.kw ea) (VRp (X.kw ea)) f)) (ho' : OpR X (compareOp op') (rB (X.kw ea) (VRp (X.kw ea)) f')) (ha : PE X a (tV (X.kw ea) W F)) (hb : PE X b (tV (X.kw ea) W G)) (hc : PE X c (tV (X.kw ea) W Fc))
    (hm : lastMarks [op, op'] [b, c] = false := by with_unfolding_all rfl) : PE X (.Compare a [op, op'] [b, c] pos) (tE (X.kw ea) W (chn f f' F G Fc)) :=
  PE_weak (pe_chain ho ho' ha hb hc hm) fun σ H Q ⟨H0, Hf0, Hf, e, S, p⟩ => ⟨H0, Hf0, Hf, e, S, p.bind.mono fun x H1 ⟨Hf1, dx, g1, rx, p1⟩ => ⟨H0, Hf0, Hf1, e, S.grow g1, p1.bind.mono fun y H2 ⟨Hf2, dy, g2, ry, p2⟩ => by
    cases hz : f dx dy with
    | none => rw [hz] at p2; exact p2.elim
    | some z =>
      rw [hz] at p2
      refine ⟨Hf2, dx, dy, z, g2.fh, rx.mono g2, ry, hz, fun v Hf3 H3 g3 r3 => ?_⟩
      have S3 := ((S.grow g1).grow g2).grow g3
      cases z with
      | bool k =>
        cases r3
        cases k with
        | true =>
          refine ⟨true, rfl, ?_⟩
          rw [if_pos rfl]
          have p3 : Po (ERp (X.kw ea)) W Q σ Hf2 H2 ((Fc e).bind fun w => opt (f' dy w)) := p2
          refine ⟨H0, Hf0, Hf3, e, S3, (p3.grow g3).bind.mono fun w H4 ⟨Hf4, dw, g4, rw4, p4⟩ => ?_⟩
          obtain ⟨z', ez, q⟩ := p4.of_opt
          exact ⟨Hf4, dy, dw, z', g4.fh, (ry.mono g3).mono g4, rw4, ez, q⟩
        | false =>
          refine ⟨false, rfl, ?_⟩
          rw [if_neg Bool.false_ne_true]
          have p3 : ∀ v Hf' H', Grow Hf2 H2 Hf' H' → Rp (X.kw ea) Hf' v (.bool false) → Q v H' := p2
          exact p3 _ Hf3 H3 g3 (.bl false)
      | none => exact p2.elim
      | int i => exact p2.elim
      | str i => exact p2.elim
      | list i => exact p2.elim
      | tuple i => exact p2.elim
      | dict i => exact p2.elim⟩⟩

/-! ### truth -/
def truD : D → Option Bool
  | .none => some false
  | .bool b => some b
  | .int i => some (i != 0)
  | .str x => if x.length ≤ many then some ((x.length : Int) != 0) else none
  | .list ds => some (!ds.isEmpty)
  | .tuple ds => some (!ds.isEmpty)
  | .dict _ => none
theorem truV {K : Kw} {Hf H : Hp} {v : V} {d : D} {k : Bool} (f : Same Hf H) (r : VRp K Hf H v d) (h : truD d = some k) : TruV K v H k := by
  cases d with
  | none =>
    have r' := r.full f
    cases r'; cases h; rfl
  | bool b =>
    have r' := r.full f
    cases r'; cases h; rfl
  | int i =>
    have r' := r.full f
    cases r'; cases h; rfl
  | str x =>
    have r' := r.full f
    cases r'
    have h' : (if x.length ≤ many then some ((x.length : Int) != 0) else none) = some k := h
    split at h'
    · cases h'; rename_i hl; exact ⟨many_line hl, rfl⟩
    · cases h'
  | list ds =>
    obtain ⟨a, xs, rfl, hl, ra⟩ := r.list f
    cases h
    exact .inl ⟨xs, SqL.of hl, by rw [ra.isEmpty]⟩
  | tuple ds =>
    obtain ⟨a, xs, rfl, hl, ra⟩ := r.tuple f
    cases h
    exact .inr (.inl ⟨xs, hl.sq, by rw [ra.isEmpty]⟩)
  | dict ds => cases h
def xtru (F : En → R D) : En → R Bool := fun e => (F e).bind fun d => opt (truD d)
def xnot (F : En → R D) : En → R D := fun e => (xtru F e).bind fun k => .ok (.bool (!k))
theorem xNot (ha : PE X a (tV (X.kw ea) W F)) : PE X (.UnaryOp .Not a pos) (tE (X.kw ea) W (xnot F)) :=
  PE_weak (pe_notT ha) fun σ H Q ⟨H0, Hf0, Hf, e, S, p⟩ => ⟨H0, Hf0, Hf, e, S, by
    have p' : Po (ERp (X.kw ea)) W Q σ Hf H ((F e).bind fun d => (opt (truD d)).bind fun k => .ok (.bool (!k))) := by
      unfold xnot xtru at p
      revert p
      cases F e <;> exact fun p => p
    refine p'.bind.mono fun x H1 ⟨Hf1, dx, g1, rx, p1⟩ => ?_
    cases hk : truD dx with
    | none => rw [hk] at p1; exact p1.elim
    | some k =>
      rw [hk] at p1
      exact ⟨k, truV g1.fh rx hk, p1 (.bl (!k)) Hf1 H1 (Grow.refl g1.fh) (.bl _)⟩⟩
/-- x or y, x and y as values -/
def xorV (F G : En → R D) : En → R D := fun e => (F e).bind fun d => (opt (truD d)).bind fun k => if k = true then .ok d else G e
def xandV (F G : En → R D) : En → R D := fun e => (F e).bind fun d => (opt (truD d)).bind fun k => if k = true then G e else .ok d
theorem xOr {rest : List Expr} (ha : PE X a (tE (X.kw ea) W F)) (hb : PE X (.BoolOp .Or (b :: rest) pos) (tE (X.kw ea) W G)) : PE X (.BoolOp .Or (a :: b :: rest) pos) (tE (X.kw ea) W (xorV F G)) :=
  PE_weak (pe_orT ha hb) fun σ H Q ⟨H0, Hf0, Hf, e, S, p⟩ => ⟨H0, Hf0, Hf, e, S, by
    refine p.bind.mono fun x H1 ⟨Hf1, dx, g1, rx, p1⟩ => ?_
    cases hk : truD dx with
    | none => rw [hk] at p1; exact p1.elim
    | some k =>
      rw [hk] at p1
      refine ⟨k, truV g1.fh (.e rx) hk, ?_⟩
      cases k with
      | true => rw [if_pos rfl]; exact p1 x Hf1 H1 (Grow.refl g1.fh) rx
      | false => rw [if_neg Bool.false_ne_true]; exact ⟨H0, Hf0, Hf1, e, S.grow g1, p1⟩⟩
theorem xAnd {rest : List Expr} (ha : PE X a (tE (X.kw ea) W F)) (hb : PE X (.BoolOp .And (b :: rest) pos) (tE (X.kw ea) W G)) : PE X (.BoolOp .And (a :: b :: rest) pos) (tE (X.kw ea) W (xandV F G)) :=
  PE_weak (pe_andT ha hb) fun σ H Q ⟨H0, Hf0, Hf, e, S, p⟩ => ⟨H0, Hf0, Hf, e, S, by
    refine p.bind.mono fun x H1 ⟨Hf1, dx, g1, rx, p1⟩ => ?_
    cases hk : truD dx with
    | none => rw [hk] at p1; exact p1.elim
    | some k =>
      rw [hk] at p1
      refine ⟨k, truV g1.fh (.e rx) hk, ?_⟩
      cases k with
      | true => rw [if_pos rfl]; exact ⟨H0, Hf0, Hf1, e, S.grow g1, p1⟩
      | false => rw [if_neg Bool.false_ne_true]; exact p1 x Hf1 H1 (Grow.refl g1.fh) rx⟩
theorem xOne {op : BoolOp} (ha : PE X a (tE (X.kw ea) W F)) : PE X (.BoolOp op [a] pos) (tE (X.kw ea) W F) := pe_one ha
/-! ### tests -/
variable {T U : En → R Bool}
theorem tTru (ha : PE X a (tV (X.kw ea) W F)) (he : ∀ whole, isTrue a X.env whole = (do let v ← whole; standAt a.pos; holding [v] (truthy v)) := by intro _; rfl) : PT X a (tT (X.kw ea) W (xtru F)) :=
  PT_weak (pt_truth ha he) fun σ H Q ⟨H0, Hf0, Hf, e, S, p⟩ => ⟨H0, Hf0, Hf, e, S, p.bind.mono fun x H1 ⟨Hf1, dx, g1, rx, p1⟩ => by
    obtain ⟨k, hk, q⟩ := p1.of_opt
    exact ⟨k, truV g1.fh rx hk, q Hf1 H1 (Grow.refl g1.fh)⟩⟩
def xbl (F : En → R D) : En → R Bool := fun e => (F e).bind fun d => match d with
  | .bool b => .ok b
  | _ => .bad
/-- a comparison as a test -/
theorem tCmp {op : CmpOp} {f : D → D → Option D} (ho : OpR X (compareOp op) (rB (X.kw ea) (VRp (X.kw ea)) f)) (ha : PE X a (tV (X.kw ea) W F)) (hb : PE X b (tV (X.kw ea) W G)) (hm : behindInMarks op b = false) : PT X (.Compare a [op] [b] pos) (tT (X.kw ea) W (xbl (bin f F G))) :=
  PT_weak (pt_cmpR ho ha hb hm) fun σ H Q ⟨H0, Hf0, Hf, e, S, p⟩ => tX_bin stV ⟨H0, Hf0, Hf, e, S, p.bind.mono fun x H1 ⟨Hf1, dx, g1, rx, p1⟩ => by
    cases dx with
    | bool k => cases rx; exact ⟨k, rfl, p1 Hf1 H1 (Grow.refl g1.fh)⟩
    | none => exact p1.elim
    | int i => exact p1.elim
    | str i => exact p1.elim
    | list i => exact p1.elim
    | tuple i => exact p1.elim
    | dict i => exact p1.elim⟩
def tand (T U : En → R Bool) : En → R Bool := fun e => (T e).bind fun k => if k = true then U e else .ok false
def tor (T U : En → R Bool) : En → R Bool := fun e => (T e).bind fun k => if k = true then .ok true else U e
def tnot (T : En → R Bool) : En → R Bool := fun e => (T e).bind fun k => .ok (!k)
theorem tNot (ha : PT X a (tT (X.kw ea) W T)) : PT X (.UnaryOp .Not a pos) (tT (X.kw ea) W (tnot T)) :=
  PT_weak (pt_not ha) fun σ H Q ⟨H0, Hf0, Hf, e, S, p⟩ => ⟨H0, Hf0, Hf, e, S, p.bindT.mono fun k H1 ⟨Hf1, g1, p1⟩ => p1 Hf1 H1 (Grow.refl g1.fh)⟩
theorem tAnd1 (ha : PT X a (tT (X.kw ea) W T)) : PW X (.BoolOp .And [a] pos) (tT (X.kw ea) W T) := pw_and1 ha
theorem tOr1 (ha : PT X a (tT (X.kw ea) W T)) : PW X (.BoolOp .Or [a] pos) (tT (X.kw ea) W T) := pw_or1 ha
theorem tAnd {rest : List Expr} (ha : PT X a (tT (X.kw ea) W T)) (hb : PW X (.BoolOp .And (b :: rest) pos) (tT (X.kw ea) W U)) : PW X (.BoolOp .And (a :: b :: rest) pos) (tT (X.kw ea) W (tand T U)) :=
  PW_weak (pw_and ha hb) fun σ H Q ⟨H0, Hf0, Hf, e, S, p⟩ => ⟨H0, Hf0, Hf, e, S, p.bindT.mono fun k H1 ⟨Hf1, g1, p1⟩ => by
    cases k with
    | true => rw [if_pos rfl]; exact ⟨H0, Hf0, Hf1, e, S.grow g1, p1⟩
    | false => rw [if_neg Bool.false_ne_true]; exact p1 Hf1 H1 (Grow.refl g1.fh)⟩
theorem tOr {rest : List Expr} (ha : PT X a (tT (X.kw ea) W T)) (hb : PW X (.BoolOp .Or (b :: rest) pos) (tT (X.kw ea) W U)) : PW X (.BoolOp .Or (a :: b :: rest) pos) (tT (X.kw ea) W (tor T U)) :=
  PW_weak (pw_or ha hb) fun σ H Q ⟨H0, Hf0, Hf, e, S, p⟩ => ⟨H0, Hf0, Hf, e, S, p.bindT.mono fun k H1 ⟨Hf1, g1, p1⟩ => by
    cases k with
    | true => rw [if_pos rfl]; exact p1 Hf1 H1 (Grow.refl g1.fh)
    | false => rw [if_neg Bool.false_ne_true]; exact ⟨H0, Hf0, Hf1, e, S.grow g1, p1⟩⟩
theorem tW (h : PW X a (tT (X.kw ea) W T)) : PT X a (tT (X.kw ea) W T) := h.pt
/-- a if t else b -/
def xif (T : En → R Bool) (F G : En → R D) : En → R D := fun e => (T e).bind fun k => if k = true then F e else G e
theorem xIf (hc : PT X c (tT (X.kw ea) W T)) (ha : PE X a (tE (X.kw ea) W F)) (hb : PE X b (tE (X.kw ea) W G)) : PE X (.IfExp c a b pos) (tE (X.kw ea) W (xif T F G)) :=
  PE_weak (pe_ifExp hc ha hb) fun σ H Q ⟨H0, Hf0, Hf, e, S, p⟩ => ⟨H0, Hf0, Hf, e, S, p.bindT.mono fun k H1 ⟨Hf1, g1, p1⟩ => by
    cases k with
    | true => rw [if_pos rfl] at p1 ⊢; exact ⟨H0, Hf0, Hf1, e, S.grow g1, p1⟩
    | false => rw [if_neg Bool.false_ne_true] at p1 ⊢; exact ⟨H0, Hf0, Hf1, e, S.grow g1, p1⟩⟩
end
end Pu
/-! PuD: the operators and comparisons on data -/
namespace Pu
open PySem L2
/-! ### what they compute -/
def addD : D → D → Option D
  | .int i, .int j => some (.int (i + j))
  | .str x, .str y => if x.length + y.length ≤ many then some (.str (x ++ y)) else none
  | .tuple xs, .tuple ys => if xs.length + ys.length ≤ many then some (.tuple (xs ++ ys)) else none
  | .list xs, .list ys => if xs.length + ys.length ≤ many then some (.list (xs ++ ys)) else none
  | _, _ => none
def addN : D → D → Option (List D)
  | .list xs, .list ys => if xs.length + ys.length ≤ many then some (xs ++ ys) else none
  | _, _ => none
def subD : D → D → Option D
  | .int i, .int j => some (.int (i - j))
  | _, _ => none
def small64 (i : Int) : Bool := decide (-(2 ^ 64) < i) && decide (i < 2 ^ 64)
def mulD : D → D → Option D
  | .int i, .int j => if small64 i || small64 j then some (.int (i * j)) else none
  | .list xs, .int k => if (0 ≤ k && decide (k ≤ 1000)) && decide (xs.length ≤ 1000) then some (.list (List.replicate k.toNat xs).flatten) else none
  | .tuple xs, .int k => if (2 ≤ k && decide (k ≤ 1000)) && decide (xs.length ≤ 1000) && !xs.isEmpty then some (.tuple (List.replicate k.toNat xs).flatten) else none
  | .str x, .int k => if (2 ≤ k && decide (k ≤ 1000)) && decide (x.length ≤ 1000) && decide (0 < x.length) then some (.str ⟨(List.replicate k.toNat x.cps.toList).flatten.toArray⟩) else none
  | _, _ => none
def modD : D → D → Option D
  | .int i, .int j => if 0 < j then some (.int (i % j)) else none
  | _, _ => none
def fdivD : D → D → Option D
  | .int i, .int j => if 0 < j ∧ j < 1073741824 then some (.int (i / j)) else none
  | _, _ => none
def negD : D → Option D
  | .int i => some (.int (-i))
  | _ => none
def eqD (x y : D) : Option D := if SeqAt.shaped x && SeqAt.shaped y then some (.bool (PyData.eqv x y)) else none
def neD (x y : D) : Option D := if SeqAt.shaped x && SeqAt.shaped y then some (.bool (!PyData.eqv x y)) else none
def intsOf : List D → Option (List Int)
  | [] => some []
  | .int i :: r => (intsOf r).map (i :: ·)
  | _ => none
def ltD : D → D → Option D
  | .int i, .int j => some (.bool (decide (i < j)))
  | .tuple xs, .tuple ys => match intsOf xs, intsOf ys with
    | some ns, some ms => some (.bool (HT.lexLt ns ms))
    | _, _ => none
  | _, _ => none
def leD : D → D → Option D
  | .int i, .int j => some (.bool (decide (i ≤ j)))
  | _, _ => none
def gtD : D → D → Option D
  | .int i, .int j => some (.bool (decide (j < i)))
  | _, _ => none
def geD : D → D → Option D
  | .int i, .int j => some (.bool (decide (j ≤ i)))
  | _, _ => none
def isNoneD : D → Bool
  | .none => true
  | _ => false
def isD : D → D → Option D
  | x, .none => some (.bool (isNoneD x))
  | .bool a, .bool b => some (.bool (a == b))
  | _, _ => none
def isNotD : D → D → Option D
  | x, .none => some (.bool (!isNoneD x))
  | .bool a, .bool b => some (.bool (!(a == b)))
  | _, _ => none
def inTxt (x y : Str) : Bool := match x.cps.toList with
  | [c] => decide (c ∈ y.cps.toList)
  | _ => !(Builtin.Str.occurrences y x 0 y.length 1).isEmpty
def noScr : List (D × D) → Bool
  | (.none, _) :: _ => false
  | _ => true
theorem noScr_ne {kvs : List (D × D)} (h : noScr kvs = true) : ∀ z l, kvs ≠ (.none, z) :: l := fun z l e => by subst e; cases h
def inB (x : D) : D → Option Bool
  | .list ds => if SeqAt.shaped x && SeqAt.shaped (.list ds) then some (ds.any fun z => PyData.eqv z x) else none
  | .tuple ds => if SeqAt.shaped x && SeqAt.shaped (.tuple ds) then some (ds.any fun z => PyData.eqv z x) else none
  | .str y => match x with
    | .str z => some (inTxt z y)
    | _ => none
  | .dict kvs => if noScr kvs then (keyD x).map fun k => (dget kvs k).isSome else none
  | _ => none
def inD (x y : D) : Option D := (inB x y).map fun b => .bool b
def notInD (x y : D) : Option D := (inB x y).map fun b => .bool (!b)

theorem intsOf_eq : ∀ {ds : List D} {ns : List Int}, intsOf ds = some ns → ds = ns.map PyData.int
  | [], ns, h => by cases h; rfl
  | .int i :: r, ns, h => by
    unfold intsOf at h
    cases q : intsOf r with
    | none => rw [q] at h; cases h
    | some ms => rw [q] at h; cases h; rw [intsOf_eq q]; rfl
  | .none :: r, ns, h => by cases h
  | .bool _ :: r, ns, h => by cases h
  | .str _ :: r, ns, h => by cases h
  | .list _ :: r, ns, h => by cases h
  | .tuple _ :: r, ns, h => by cases h
  | .dict _ :: r, ns, h => by cases h
theorem intsOf_map : ∀ ns : List Int, intsOf (ns.map PyData.int) = some ns
  | [] => rfl
  | n :: ns => by
    show (intsOf (ns.map PyData.int)).map (n :: ·) = _
    rw [intsOf_map ns]
    rfl

section
variable {X : Cx}
/-! ### the rules -/
theorem op_addB : OpR X (binaryOp .Add) (rB (X.kw ea) (ERp (X.kw ea)) addD) := by
  intro pins s σ H x y v u Q I rx ry ⟨Hf, dx, dy, z, f, hx, hy, ez, q⟩
  cases hx with
  | int i =>
    cases hy with
    | int j => cases ez; exact op_add pins s σ H _ _ v u Q I rx ry ⟨i, j, rfl, rfl, q _ Hf H (Grow.refl f) (.int _)⟩
    | _ => cases ez
  | str i =>
    cases hy with
    | str j =>
      have ez' : (if i.length + j.length ≤ many then some (PyData.str (i ++ j)) else none) = some z := ez
      split at ez'
      · cases ez'
        rename_i hl
        exact op_add_str pins s σ H _ _ v u Q I rx ry ⟨i, j, rfl, rfl, many_line hl, q _ Hf H (Grow.refl f) (.str _)⟩
      · cases ez'
    | _ => cases ez
  | tup ha ra =>
    cases hy with
    | tup hb rb =>
      rename_i a xs ds b ys es
      have ez' : (if ds.length + es.length ≤ many then some (PyData.tuple (ds ++ es)) else none) = some z := ez
      split at ez'
      · cases ez'
        rename_i hl
        rw [← ra.length, ← rb.length] at hl
        refine op_catF pins s σ H _ _ v u Q I rx ry ⟨_, _, _, _, rfl, rfl, (ha.mono f).sq, (hb.mono f).sq, many_line hl, fun e => ?_, fun _ e => ?_, fun _ _ => ?_⟩
        · subst e
          cases ra
          exact q _ Hf H (Grow.refl f) (.tup hb rb)
        · subst e
          cases rb
          rw [List.append_nil] at q
          exact q _ Hf H (Grow.refl f) (.tup ha ra)
        · exact TupN.of f (ra.append rb) q
      · cases ez'
    | _ => cases ez
  | lst ha ra =>
    cases hy with
    | lst hb rb =>
      rename_i a xs ds b ys es
      have ez' : (if ds.length + es.length ≤ many then some (PyData.list (ds ++ es)) else none) = some z := ez
      split at ez'
      · cases ez'
        rename_i hl
        rw [← ra.length, ← rb.length] at hl
        exact op_cat pins s σ H _ _ v u Q I rx ry ⟨_, _, _, _, rfl, rfl, f _ _ ha, f _ _ hb, many_line hl, fun p hp => q _ _ _ (Grow.new f hp) (.lst upd_same ((ra.append rb).mono (same_upd (f.free hp))))⟩
      · cases ez'
    | _ => cases ez
  | _ => cases ez
theorem op_addL : OpR X (binaryOp .Add) (rBN (X.kw ea) (VRp (X.kw ea)) addN) := by
  intro pins s σ H x y v u Q I rx ry ⟨Hf, dx, dy, z, f, hx, hy, ez, q⟩
  cases dx with
  | list ds =>
    cases dy with
    | list es =>
      obtain ⟨a, xs, rfl, ha, ra⟩ := hx.list f
      obtain ⟨b, ys, rfl, hb, rb⟩ := hy.list f
      have ez' : (if ds.length + es.length ≤ many then some (ds ++ es) else none) = some z := ez
      split at ez'
      · cases ez'
        rename_i hl
        rw [← ra.length, ← rb.length] at hl
        exact op_cat pins s σ H _ _ v u Q I rx ry ⟨_, _, _, _, rfl, rfl, ha, hb, many_line hl, fun p hp => q p _ Hf _ (Grow.lay f hp) hp (f.free hp) upd_same (ra.append rb)⟩
      · cases ez'
    | _ => cases ez
  | _ => cases ez
theorem op_subB : OpR X (binaryOp .Sub) (rB (X.kw ea) (ERp (X.kw ea)) subD) := by
  intro pins s σ H x y v u Q I rx ry ⟨Hf, dx, dy, z, f, hx, hy, ez, q⟩
  cases hx with
  | int i =>
    cases hy with
    | int j => cases ez; exact op_sub pins s σ H _ _ v u Q I rx ry ⟨i, j, rfl, rfl, q _ Hf H (Grow.refl f) (.int _)⟩
    | _ => cases ez
  | _ => cases ez
theorem op_modB : OpR X (binaryOp .Mod) (rB (X.kw ea) (ERp (X.kw ea)) modD) := by
  intro pins s σ H x y v u Q I rx ry ⟨Hf, dx, dy, z, f, hx, hy, ez, q⟩
  cases hx with
  | int i =>
    cases hy with
    | int j =>
      have ez' : (if 0 < j then some (PyData.int (i % j)) else none) = some z := ez
      split at ez'
      · cases ez'
        rename_i hl
        exact op_mod pins s σ H _ _ v u Q I rx ry ⟨i, j, rfl, rfl, hl, q _ Hf H (Grow.refl f) (.int _)⟩
      · cases ez'
    | _ => cases ez
  | _ => cases ez
theorem op_fdivB : OpR X (binaryOp .FloorDiv) (rB (X.kw ea) (ERp (X.kw ea)) fdivD) := by
  intro pins s σ H x y v u Q I rx ry ⟨Hf, dx, dy, z, f, hx, hy, ez, q⟩
  cases hx with
  | int i =>
    cases hy with
    | int j =>
      have ez' : (if 0 < j ∧ j < 1073741824 then some (PyData.int (i / j)) else none) = some z := ez
      split at ez'
      · cases ez'
        rename_i hl
        exact op_fdiv pins s σ H _ _ v u Q I rx ry ⟨i, j, rfl, rfl, hl, q _ Hf H (Grow.refl f) (.int _)⟩
      · cases ez'
    | _ => cases ez
  | _ => cases ez
theorem small_of {i : Int} (h : small64 i = true) : -(2 ^ 64) < i ∧ i < 2 ^ 64 := by
  unfold small64 at h
  rw [Bool.and_eq_true] at h
  exact ⟨of_decide_eq_true h.1, of_decide_eq_true h.2⟩
theorem rep_arr (a : Array Nat) : ∀ n : Nat, (List.replicate n a).foldl (· ++ ·) #[] = (List.replicate n a.toList).flatten.toArray := by
  have go : ∀ (n : Nat) (b : Array Nat), (List.replicate n a).foldl (· ++ ·) b = b ++ (List.replicate n a.toList).flatten.toArray := by
    intro n
    induction n with
    | zero => intro b; simp
    | succ n ih =>
      intro b
      rw [List.replicate_succ, List.replicate_succ, List.foldl_cons, ih, List.flatten_cons]
      apply Array.toList_inj.mp
      simp
  intro n
  rw [go n #[]]
  simp
theorem op_mulB : OpR X (binaryOp .Mult) (rB (X.kw ea) (ERp (X.kw ea)) mulD) := by
  intro pins s σ H x y v u Q I rx ry ⟨Hf, dx, dy, z, f, hx, hy, ez, q⟩
  cases hx with
  | int i =>
    cases hy with
    | int j =>
      have ez' : (if small64 i || small64 j then some (PyData.int (i * j)) else none) = some z := ez
      split at ez'
      · cases ez'
        rename_i hl
        rw [Bool.or_eq_true] at hl
        exact op_mul pins s σ H _ _ v u Q I rx ry ⟨i, j, rfl, rfl, hl.elim (fun h => .inl (small_of h)) (fun h => .inr (small_of h)), q _ Hf H (Grow.refl f) (.int _)⟩
      · cases ez'
    | _ => cases ez
  | lst ha ra =>
    cases hy with
    | int k =>
      rename_i a xs ds
      have ez' : (if ((0 : Int) ≤ k && decide (k ≤ 1000)) && decide (ds.length ≤ 1000) then some (PyData.list (List.replicate k.toNat ds).flatten) else none) = some z := ez
      split at ez'
      · cases ez'
        rename_i hl
        simp only [Bool.and_eq_true, decide_eq_true_eq] at hl
        have hz : xs.length * k.toNat ≤ sizeLine := by
          rw [ra.length]
          exact Nat.le_trans (Nat.mul_le_mul hl.2 (show k.toNat ≤ 1000 by omega)) (by decide)
        exact op_rep pins s σ H _ _ v u Q I rx ry ⟨_, _, _, rfl, rfl, f _ _ ha, by omega, by omega, hz, fun p hp => q _ _ _ (Grow.new f hp) (.lst upd_same ((ra.rep _).mono (same_upd (f.free hp))))⟩
      · cases ez'
    | _ => cases ez
  | tup ha ra =>
    cases hy with
    | int k =>
      rename_i a xs ds
      have ez' : (if ((2 : Int) ≤ k && decide (k ≤ 1000)) && decide (ds.length ≤ 1000) && !ds.isEmpty then some (PyData.tuple (List.replicate k.toNat ds).flatten) else none) = some z := ez
      split at ez'
      · cases ez'
        rename_i hl
        simp only [Bool.and_eq_true, decide_eq_true_eq] at hl
        have hne : xs ≠ [] := fun e => by
          have h2 := hl.2
          rw [← ra.isEmpty, e] at h2
          cases h2
        exact op_repF pins s σ H _ _ v u Q I rx ry ⟨_, _, _, rfl, rfl, (ha.mono f).sq, hne, hl.1.1.1, hl.1.1.2, by rw [ra.length]; exact hl.1.2, TupN.of f (ra.rep _) q⟩
      · cases ez'
    | _ => cases ez
  | str x =>
    cases hy with
    | int k =>
      have ez' : (if ((2 : Int) ≤ k && decide (k ≤ 1000)) && decide (x.length ≤ 1000) && decide (0 < x.length) then some (PyData.str ⟨(List.replicate k.toNat x.cps.toList).flatten.toArray⟩) else none) = some z := ez
      split at ez'
      · cases ez'
        rename_i hl
        simp only [Bool.and_eq_true, decide_eq_true_eq] at hl
        obtain ⟨⟨⟨h2, h3⟩, h4⟩, h5⟩ := hl
        obtain ⟨t, rfl⟩ := rx
        obtain ⟨t', rfl⟩ := ry
        have hlen : x.length * k.toNat ≤ 1000000 := Nat.le_trans (Nat.mul_le_mul h4 (show k.toNat ≤ 1000 by omega)) (by decide)
        refine PySem.P.mul_str (by
            have a1 : ¬ k < -(2 ^ 63 : Int) := by omega
            have a2 : ¬ k ≥ 2 ^ 63 := by omega
            rw [decide_eq_false a1, decide_eq_false a2]; rfl) (fun _ _ hh => ?_) (fun _ _ => ?_) ?_
        · have : (2 ^ 63 - 1 : Int) / k ≥ (2 ^ 63 - 1 : Int) / 1000 := by
            apply Int.le_of_lt_add_one
            apply Int.ediv_lt_of_lt_mul (by decide)
            have hk : 0 < k := by omega
            have e1 := Int.lt_mul_ediv_self_add (x := (2 ^ 63 - 1 : Int)) hk
            have : k * ((2 ^ 63 - 1 : Int) / k) + k ≤ 1000 * ((2 ^ 63 - 1 : Int) / k) + 1000 := by
              have e2 : 0 ≤ (2 ^ 63 - 1 : Int) / k := Int.ediv_nonneg (by decide) (by omega)
              have e3 : k * ((2 ^ 63 - 1 : Int) / k) ≤ 1000 * ((2 ^ 63 - 1 : Int) / k) := Int.mul_le_mul_of_nonneg_right (by omega) e2
              omega
            omega
          have : (2 ^ 63 - 1 : Int) / 1000 ≥ 1000 := by decide
          omega
        · unfold Builtin.Str.tooLong
          exact decide_eq_false (by have := sizeLine_eq; omega)
        · rw [if_neg (by omega), if_neg (by
            rw [Bool.or_eq_true]
            intro hh
            rcases hh with hh | hh
            · have := eq_of_beq hh; omega
            · have := eq_of_beq hh; omega)]
          have ef : (List.replicate k.toNat x.cps).foldl (· ++ ·) #[] = (List.replicate k.toNat x.cps.toList).flatten.toArray := rep_arr x.cps k.toNat
          rw [ef]
          refine ⟨?_, .str _, H, I.tok _, ⟨_, rfl⟩, q _ Hf H (Grow.refl f) (.str _)⟩
          show (List.replicate k.toNat x.cps.toList).flatten.toArray.size ≤ sizeLine
          rw [List.size_toArray, List.length_flatten, List.map_replicate, List.sum_replicate_nat, Array.length_toList, Nat.mul_comm]
          exact Nat.le_trans hlen (by decide)
      · cases ez'
    | _ => cases ez
  | _ => cases ez
theorem un_negB : UnR X (unaryOp .USub) (rU1 (X.kw ea) (ERp (X.kw ea)) negD) := by
  intro pins s σ H x v Q I rx ⟨Hf, dx, z, f, hx, ez, q⟩
  cases hx with
  | int i => cases ez; exact un_neg pins s σ H _ v Q I rx ⟨i, rfl, q _ Hf H (Grow.refl f) (.int _)⟩
  | _ => cases ez
theorem op_eqB {k : Nat} (hr : Room k X.A) : OpR X (compareOp .Eq) (rB (X.kw ea) (VRp (X.kw ea)) eqD) := by
  intro pins s σ H x y v u Q I rx ry ⟨Hf, dx, dy, z, f, hx, hy, ez, q⟩
  unfold eqD at ez
  split at ez
  · cases ez
    rename_i hl
    rw [Bool.and_eq_true] at hl
    exact op_eqD hr.units pins s σ H _ _ v u Q I rx ry ⟨dx, dy, (hx.full f).dp (SeqAt.canLay_of_shaped hl.1), (hy.full f).dp (SeqAt.canLay_of_shaped hl.2), hl.1, hl.2, q _ Hf H (Grow.refl f) (.bl _)⟩
  · cases ez
theorem op_neB {k : Nat} (hr : Room k X.A) : OpR X (compareOp .NotEq) (rB (X.kw ea) (VRp (X.kw ea)) neD) := by
  intro pins s σ H x y v u Q I rx ry ⟨Hf, dx, dy, z, f, hx, hy, ez, q⟩
  unfold neD at ez
  split at ez
  · cases ez
    rename_i hl
    rw [Bool.and_eq_true] at hl
    exact op_neD hr.units pins s σ H _ _ v u Q I rx ry ⟨dx, dy, (hx.full f).dp (SeqAt.canLay_of_shaped hl.1), (hy.full f).dp (SeqAt.canLay_of_shaped hl.2), hl.1, hl.2, q _ Hf H (Grow.refl f) (.bl _)⟩
  · cases ez
theorem op_ltB {k : Nat} (hr : Room k X.A) : OpR X (compareOp .Lt) (rB (X.kw ea) (VRp (X.kw ea)) ltD) := by
  intro pins s σ H x y v u Q I rx ry ⟨Hf, dx, dy, z, f, hx, hy, ez, q⟩
  cases dx with
  | int i =>
    cases dy with
    | int j => cases ez; rw [hx.int] at rx; rw [hy.int] at ry; exact op_lt pins s σ H _ _ v u Q I rx ry ⟨i, j, rfl, rfl, q _ Hf H (Grow.refl f) (.bl _)⟩
    | _ => cases ez
  | tuple ds =>
    cases dy with
    | tuple es =>
      obtain ⟨a, xs, rfl, ha, ra⟩ := hx.tuple f
      obtain ⟨b, ys, rfl, hb, rb⟩ := hy.tuple f
      have ez' : (match intsOf ds, intsOf es with | some ns, some ms => some (PyData.bool (HT.lexLt ns ms)) | _, _ => none) = some z := ez
      cases e1 : intsOf ds with
      | none => rw [e1] at ez'; cases ez'
      | some ns =>
        cases e2 : intsOf es with
        | none => rw [e1, e2] at ez'; cases ez'
        | some ms =>
          rw [e1, e2] at ez'
          cases ez'
          rw [intsOf_eq e1] at ra
          rw [intsOf_eq e2] at rb
          rw [ra.ints] at ha
          rw [rb.ints] at hb
          exact op_ltT hr.units0 pins s σ H _ _ v u Q I rx ry ⟨a, b, ns, ms, rfl, rfl, ha.sq, hb.sq, q _ Hf H (Grow.refl f) (.bl _)⟩
    | _ => cases ez
  | _ => cases ez
theorem op_leB : OpR X (compareOp .LtE) (rB (X.kw ea) (VRp (X.kw ea)) leD) := by
  intro pins s σ H x y v u Q I rx ry ⟨Hf, dx, dy, z, f, hx, hy, ez, q⟩
  cases dx with
  | int i =>
    cases dy with
    | int j => cases ez; rw [hx.int] at rx; rw [hy.int] at ry; exact op_le pins s σ H _ _ v u Q I rx ry ⟨i, j, rfl, rfl, q _ Hf H (Grow.refl f) (.bl _)⟩
    | _ => cases ez
  | _ => cases ez
theorem op_gtB : OpR X (compareOp .Gt) (rB (X.kw ea) (VRp (X.kw ea)) gtD) := by
  intro pins s σ H x y v u Q I rx ry ⟨Hf, dx, dy, z, f, hx, hy, ez, q⟩
  cases dx with
  | int i =>
    cases dy with
    | int j => cases ez; rw [hx.int] at rx; rw [hy.int] at ry; exact op_gt pins s σ H _ _ v u Q I rx ry ⟨i, j, rfl, rfl, q _ Hf H (Grow.refl f) (.bl _)⟩
    | _ => cases ez
  | _ => cases ez
theorem op_geB : OpR X (compareOp .GtE) (rB (X.kw ea) (VRp (X.kw ea)) geD) := by
  intro pins s σ H x y v u Q I rx ry ⟨Hf, dx, dy, z, f, hx, hy, ez, q⟩
  cases dx with
  | int i =>
    cases dy with
    | int j => cases ez; rw [hx.int] at rx; rw [hy.int] at ry; exact op_ge pins s σ H _ _ v u Q I rx ry ⟨i, j, rfl, rfl, q _ Hf H (Grow.refl f) (.bl _)⟩
    | _ => cases ez
  | _ => cases ez
theorem isNone_iff {K : Kw} {H : Hp} {x : V} {d : D} (r : Rp K H x d) : decide (x = .non) = isNoneD d := by
  cases r <;> rfl
theorem op_isB : OpR X (compareOp .Is) (rB (X.kw ea) (VRp (X.kw ea)) isD) := by
  intro pins s σ H x y v u Q I rx ry ⟨Hf, dx, dy, z, f, hx, hy, ez, q⟩
  have hx' := hx.full f
  have hy' := hy.full f
  cases dy with
  | none =>
    cases hy'
    have ez' : some (PyData.bool (isNoneD dx)) = some z := by cases dx <;> exact ez
    cases ez'
    exact op_isN pins s σ H _ _ v u Q I rx ry ⟨rfl, by rw [isNone_iff hx']; exact q _ Hf H (Grow.refl f) (.bl _)⟩
  | bool b =>
    cases dx with
    | bool a => cases ez; cases hx'; cases hy'; exact op_isBl pins s σ H _ _ v u Q I rx ry ⟨a, b, rfl, rfl, by rw [← Bool.beq_eq_decide_eq]; exact q _ Hf H (Grow.refl f) (.bl _)⟩
    | _ => cases ez
  | _ => cases dx <;> cases ez
theorem op_isNotB : OpR X (compareOp .IsNot) (rB (X.kw ea) (VRp (X.kw ea)) isNotD) := by
  intro pins s σ H x y v u Q I rx ry ⟨Hf, dx, dy, z, f, hx, hy, ez, q⟩
  have hx' := hx.full f
  have hy' := hy.full f
  cases dy with
  | none =>
    cases hy'
    have ez' : some (PyData.bool (!isNoneD dx)) = some z := by cases dx <;> exact ez
    cases ez'
    exact op_notN pins s σ H _ _ v u Q I rx ry ⟨rfl, by rw [isNone_iff hx']; exact q _ Hf H (Grow.refl f) (.bl _)⟩
  | bool b =>
    cases dx with
    | bool a => cases ez; cases hx'; cases hy'; exact op_notBl pins s σ H _ _ v u Q I rx ry ⟨a, b, rfl, rfl, by rw [← Bool.beq_eq_decide_eq]; exact q _ Hf H (Grow.refl f) (.bl _)⟩
    | _ => cases ez
  | _ => cases dx <;> cases ez
theorem room_in (A : Around) {k : Nat} (hr : Room k A) : A.units + 65 < cLine := by have := hr.un; omega
theorem room_nk {P : Program} {w : World} {A : Around} {k : Nat} (hr : Room k A) : (nestedKind P w).room A.in1 := by have := hr.un; show A.units + 1 + 8 < cLine; omega
theorem op_inAny {op : CmpOp} (g : Bool → Bool) {k : Nat} (hr : Room k X.A)
    (hl : ∀ {M : Shared} {c x : Value} {xs : List D} {d : D} {as bs : List Addr} {Q : Value → Shared → Prop}, Reads M.heap c (.list xs) as → Reads M.heap x d bs → PyData.canLayAll0 xs = true → d.canLay0 = true → X.A.units + 1 + min (PyData.depthAll xs) d.depth < cLine →
      Q (.bool (g (xs.any fun y => PyData.eqv y d))) M → wpAny (model X.prog X.w) X.A (compareOp op x c) Q X.xe M)
    (ht : ∀ {M : Shared} {c x : Value} {xs : List D} {d : D} {as bs : List Addr} {Q : Value → Shared → Prop}, Reads M.heap c (.tuple xs) as → Reads M.heap x d bs → PyData.canLayAll0 xs = true → d.canLay0 = true → X.A.units + 1 + min (PyData.depthAll xs) d.depth < cLine →
      Q (.bool (g (xs.any fun y => PyData.eqv y d))) M → wpAny (model X.prog X.w) X.A (compareOp op x c) Q X.xe M)
    (hs : OpR X (compareOp op) (fun x y H Q => ∃ i j, x = .str i ∧ y = .str j ∧ Q (.bl (g (!(Builtin.Str.occurrences j i 0 j.length 1).isEmpty))) H))
    (hc : OpR X (compareOp op) (fun x y H Q => ∃ (c : Nat) (z : Str), x = .str ⟨#[c]⟩ ∧ y = .str z ∧ Q (.bl (g (decide (c ∈ z.cps.toList)))) H))
    (hd : ∀ {M : Shared} {c x : Addr} {xs : List (NestedKey × Addr × Value)} {k : NestedKey} {Q : Value → Shared → Prop}, (nestedKind X.prog X.w).is M.heap k x → (c == sysModules) = false → M.heap.DictOfH (nestedKind X.prog X.w) c xs → (∀ t, Q (.bool (g (atKey xs k).isSome)) { M with toks := t }) →
      wpAny (model X.prog X.w) X.A (compareOp op (.ref x) (.ref c)) Q X.xe M) :
    OpR X (compareOp op) (rB (X.kw ea) (VRp (X.kw ea)) fun x y => (inB x y).map fun b => .bool (g b)) := by
  intro pins s σ H x y v u Q I rx ry ⟨Hf, dx, dy, z, f, hx, hy, ez, q⟩
  have hx' := hx.full f
  have hy' := hy.full f
  cases dy with
  | list ds =>
    have ez' : ((if SeqAt.shaped dx && SeqAt.shaped (.list ds) then some (ds.any fun z => PyData.eqv z dx) else none).map fun b => PyData.bool (g b)) = some z := ez
    split at ez'
    · rename_i hh
      cases ez'
      rw [Bool.and_eq_true] at hh
      obtain ⟨as, r1⟩ := Dp.reads I dx x v (hx'.dp (SeqAt.canLay_of_shaped hh.1)) rx
      obtain ⟨bs, r2⟩ := Dp.reads I (.list ds) y u (hy'.dp (SeqAt.canLay_of_shaped hh.2)) ry
      exact hl r2 r1 (SeqAt.canLay_of_shaped hh.2) (SeqAt.canLay_of_shaped hh.1) (PyProof.Rows.room_in_shaped hh.1 (room_in _ hr)) ⟨.bl _, H, I, rfl, q _ Hf H (Grow.refl f) (.bl _)⟩
    · cases ez'
  | tuple ds =>
    have ez' : ((if SeqAt.shaped dx && SeqAt.shaped (.tuple ds) then some (ds.any fun z => PyData.eqv z dx) else none).map fun b => PyData.bool (g b)) = some z := ez
    split at ez'
    · rename_i hh
      cases ez'
      rw [Bool.and_eq_true] at hh
      obtain ⟨as, r1⟩ := Dp.reads I dx x v (hx'.dp (SeqAt.canLay_of_shaped hh.1)) rx
      obtain ⟨bs, r2⟩ := Dp.reads I (.tuple ds) y u (hy'.dp (SeqAt.canLay_of_shaped hh.2)) ry
      exact ht r2 r1 (SeqAt.canLay_of_shaped hh.2) (SeqAt.canLay_of_shaped hh.1) (PyProof.Rows.room_in_shaped hh.1 (room_in _ hr)) ⟨.bl _, H, I, rfl, q _ Hf H (Grow.refl f) (.bl _)⟩
    · cases ez'
  | str y' =>
    cases dx with
    | str x' =>
      have ez' : some (PyData.bool (g (inTxt x' y'))) = some z := ez
      cases ez'
      cases hx'
      cases hy'
      have q' := q _ Hf H (Grow.refl f) (.bl _)
      unfold inTxt at q'
      split at q'
      · rename_i c hcc
        have e : x' = ⟨#[c]⟩ := by
          cases x' with
          | mk cps => exact congrArg Str.mk (Array.toList_inj.mp hcc)
        exact hc pins s σ H _ _ v u Q I rx ry ⟨c, y', by rw [e], rfl, q'⟩
      · exact hs pins s σ H _ _ v u Q I rx ry ⟨x', y', rfl, rfl, q'⟩
    | _ => cases ez
  | dict kvs =>
    have ez' : ((if noScr kvs then (keyD dx).map fun k => (dget kvs k).isSome else none).map fun b => PyData.bool (g b)) = some z := ez
    split at ez'
    · rename_i hh
      obtain ⟨a, xs, rfl, ha, rk⟩ := hy.dict f (noScr_ne hh)
      cases ry
      cases hk : keyD dx with
      | none => rw [hk] at ez'; cases ez'
      | some k =>
        rw [hk] at ez'
        cases ez'
        obtain ⟨h1, h2, ds, rfl⟩ := keyD_of hk
        obtain ⟨b, ys, rfl, hb, rb⟩ := hx.tuple f
        cases rx
        obtain ⟨hz, hsm, hm⟩ := dic_of I ha (rk.mono f)
        refine hd ⟨Rp.nested I hx' rfl h1, h2⟩ hsm hm fun t => ?_
        have e1 : (atKey xs.1 k).isSome = (dget kvs k).isSome := by
          rcases atKey_get k rk with ⟨e1, e2⟩ | ⟨_, _, _, _, e1, e2, _⟩ <;> rw [e1, e2] <;> rfl
        rw [e1]
        exact ⟨.bl _, H, I.tok t, rfl, q _ Hf H (Grow.refl f) (.bl _)⟩
    · cases ez'
  | _ => cases ez
theorem op_inB {k : Nat} (hr : Room k X.A) : OpR X (compareOp .In) (rB (X.kw ea) (VRp (X.kw ea)) inD) :=
  op_inAny (fun b => b) hr (fun r1 r2 h1 h2 h3 q => SeqAt.in_list_reads r1 r2 h1 h2 h3 q) (fun r1 r2 h1 h2 h3 q => SeqAt.in_tuple_reads r1 r2 h1 h2 h3 q) op_in_str op_in_sign
    (fun h1 h2 h3 q => wpAny_in_heap (room_nk hr) h1 h2 h3 (q _))
theorem op_notInB {k : Nat} (hr : Room k X.A) : OpR X (compareOp .NotIn) (rB (X.kw ea) (VRp (X.kw ea)) notInD) :=
  op_inAny (fun b => !b) hr (fun r1 r2 h1 h2 h3 q => SeqAt.notIn_list_reads r1 r2 h1 h2 h3 q) (fun r1 r2 h1 h2 h3 q => SeqAt.notIn_tuple_reads r1 r2 h1 h2 h3 q) op_notin_str op_notIn_sign
    (fun h1 h2 h3 q => wpAny_bind (wpAny_contains_heap (room_nk hr) h1 h2 h3 (wpAny_pure (q _))))
end
end Pu
/-! PuE: subscripts, slices, calls of built-ins -/
namespace Pu
open PySem L2
theorem RpAll.atI_ {K : Kw} {H : Hp} {vs : List V} {ds : List D} {i : Int} {d : D} (r : RpAll K H vs ds) (h : atI ds i = some d) : ∃ v, atI vs i = some v ∧ Rp K H v d := by
  unfold atI at h ⊢
  rw [r.length]
  cases q : ixN ds.length i with
  | none => rw [q] at h; cases h
  | some j =>
    rw [q] at h
    exact r.get h
def scrOf : List (D × D) → Option (List Int)
  | [(.none, .list ds)] => intsOf ds
  | _ => none
theorem scrOf_eq {kvs : List (D × D)} {ns : List Int} (h : scrOf kvs = some ns) : (.dict kvs : D) = scrD ns := by
  match kvs, h with
  | [(.none, .list ds)], h =>
    have h' : intsOf ds = some ns := h
    rw [intsOf_eq h']
    rfl
theorem scrOf_map (ns : List Int) : scrOf [(.none, .list (ns.map PyData.int))] = some ns := intsOf_map ns
def ixD : D → D → Option D
  | .list ds, .int i => atI ds i
  | .tuple ds, .int i => atI ds i
  | .str x, .int i => if x.length ≤ many then (atI x.cps.toList i).map fun c => .str ⟨#[c]⟩ else none
  | .dict kvs, .int i => (scrOf kvs).bind fun ns => (atI ns i).map PyData.int
  | _, _ => none
def cutD {α : Type} (xs : List α) (lo hi : Option Int) : List α := (xs.drop (HT.sIx xs.length 0 lo)).take (HT.sIx xs.length xs.length hi - HT.sIx xs.length 0 lo)
theorem RpAll.cut {K : Kw} {H : Hp} {vs : List V} {ds : List D} (r : RpAll K H vs ds) (lo hi : Option Int) : RpAll K H (cutV vs lo hi) (cutD ds lo hi) := by
  unfold cutV cutD
  rw [r.length]
  exact (r.drop _).take _
theorem ints_map_at {ns : List Int} {i : Int} {n : Int} (h : atI ns i = some n) : atI (ns.map V.int) i = some (.int n) := by
  unfold atI at h ⊢
  rw [List.length_map]
  cases q : ixN ns.length i with
  | none => rw [q] at h; cases h
  | some j =>
    rw [q] at h
    show (ns.map V.int)[j]? = _
    rw [List.getElem?_map]
    have h' : ns[j]? = some n := h
    rw [h']
    rfl
/-- the script's data is the script's -/
theorem Rp.script {K : Kw} {H : Hp} {v : V} {ns : List Int} (r : Rp K H v (scrD ns)) : ∃ a, v = .ref a ∧ SqL K H a (ns.map V.int) := by
  have gen : ∀ {d : D}, Rp K H v d → d = scrD ns → ∃ a, v = .ref a ∧ SqL K H a (ns.map V.int) := by
    intro d r e
    cases r with
    | dct h r =>
      unfold scrD at e
      injection e with e
      subst e
      exact r.none_no.elim
    | scr hq =>
      rename_i a ms
      unfold scrD at e
      injection e with e
      injection e with e1 e2
      injection e1 with e1 e3
      injection e3 with e3
      have : ms = ns := by
        have z := congrArg intsOf e3
        rw [intsOf_map, intsOf_map] at z
        exact Option.some.inj z
      subst this
      exact ⟨a, rfl, hq⟩
    | tab h =>
      unfold tabD scrD at e
      injection e with e
      injection e with e1 e2
      injection e1 with e1 e3
      cases e3
    | _ => cases e
  exact gen r rfl
section
variable {X : Cx} {W : WE} {a b c : Expr} {F G Fc : En → R D} {pos : Pos}
theorem ix_B : IxR X (rB (X.kw ea) (VRp (X.kw ea)) ixD) := by
  intro value slice pins s σ H x y v u Q I rx ry ⟨Hf, dx, dy, z, f, hx, hy, ez, q⟩ hs
  refine ix_seq value slice pins s σ H x y v u Q I rx ry ?_ hs
  cases dx with
  | list ds =>
    cases dy with
    | int i =>
      obtain ⟨a, xs, rfl, ha, ra⟩ := hx.list f
      obtain ⟨w, hw, rw'⟩ := ra.atI_ ez
      exact .inl ⟨a, xs, i, w, rfl, hy.int, SqL.of ha, hw, q w Hf H (Grow.refl f) rw'⟩
    | _ => cases ez
  | tuple ds =>
    cases dy with
    | int i =>
      obtain ⟨a, xs, rfl, ha, ra⟩ := hx.tuple f
      obtain ⟨w, hw, rw'⟩ := ra.atI_ ez
      exact .inr (.inl ⟨a, xs, i, w, rfl, hy.int, ha.sq, hw, q w Hf H (Grow.refl f) rw'⟩)
    | _ => cases ez
  | str t =>
    cases dy with
    | int i =>
      have ez' : (if t.length ≤ many then (atI t.cps.toList i).map fun c => PyData.str ⟨#[c]⟩ else none) = some z := ez
      split at ez'
      · rename_i hl
        cases hc : atI t.cps.toList i with
        | none => rw [hc] at ez'; cases ez'
        | some c =>
          rw [hc] at ez'
          cases ez'
          exact .inr (.inr ⟨t, i, c, hx.str, hy.int, many_line hl, hc, q _ Hf H (Grow.refl f) (.str _)⟩)
      · cases ez'
    | _ => cases ez
  | dict kvs =>
    cases dy with
    | int i =>
      have ez' : ((scrOf kvs).bind fun ns => (atI ns i).map PyData.int) = some z := ez
      cases h1 : scrOf kvs with
      | none => rw [h1] at ez'; cases ez'
      | some ns =>
        rw [h1] at ez'
        have ez2 : ((atI ns i).map PyData.int) = some z := ez'
        cases h2 : atI ns i with
        | none => rw [h2] at ez2; cases ez2
        | some n =>
          rw [h2] at ez2
          cases ez2
          rw [scrOf_eq h1] at hx
          obtain ⟨a, rfl, hl⟩ := (hx.full f).script
          exact .inl ⟨a, _, i, .int n, rfl, hy.int, hl, ints_map_at h2, q _ Hf H (Grow.refl f) (.int n)⟩
    | _ => cases ez
  | _ => cases ez
theorem xIx (ha : PE X a (tV (X.kw ea) W F)) (hb : PE X b (tV (X.kw ea) W G)) (hs : PlainIx b) : PE X (.Subscript a b pos) (tE (X.kw ea) W (bin ixD F G)) :=
  PE_weak (pe_ix ix_B ha hb hs) fun σ H Q h => tX_bin stV h
/-! ### slices -/
def tO (K : Kw) (W : WE) (F : En → R (Option Int)) : TO := fun σ H Q => ∃ H0 Hf0 Hf e, SR K H0 Hf0 Hf H σ e ∧ match F e with
  | .ok o => ∀ Hf' H', Grow Hf H Hf' H' → Q o H'
  | .ex c => ∀ Hf' H', Grow Hf H Hf' H' → W c σ H'
  | .bad => False
def onone : En → R (Option Int) := fun _ => .ok none
def osome (F : En → R D) : En → R (Option Int) := fun e => (F e).bind fun d => match d with
  | .int i => .ok (some i)
  | _ => .bad
theorem PO_weak {e : Option Expr} {t t' : TO} (h : PO X e t) (k : ∀ σ H Q, t' σ H Q → t σ H Q) : PO X e t' :=
  ⟨fun pins s σ H Q I q => h.run pins s σ H Q I (k σ H Q q)⟩
theorem oNone : PO X none (tO (X.kw ea) W onone) := PO_weak po_none fun σ H Q ⟨H0, Hf0, Hf, e, S, p⟩ => p Hf H (Grow.refl S.gr.fh)
theorem oSome (h : PE X a (tE (X.kw ea) W F)) : PO X (some a) (tO (X.kw ea) W (osome F)) := PO_weak (po_some h) fun σ H Q ⟨H0, Hf0, Hf, e, S, p⟩ => ⟨H0, Hf0, Hf, e, S, by
  revert p
  unfold osome
  cases F e with
  | ok d =>
    intro p v Hf' H' g r
    cases d with
    | int i => cases r; exact ⟨i, rfl, p Hf' H' g⟩
    | _ => exact p.elim
  | ex c => exact fun p => p
  | bad => exact fun p => p⟩
def sliceD : D → Option Int → Option Int → Option D
  | .list ds, lo, hi => some (.list (cutD ds lo hi))
  | .tuple ds, lo, hi => some (.tuple (cutD ds lo hi))
  | .str x, lo, hi => if x.length ≤ many then some (.str (cutS x lo hi)) else none
  | _, _, _ => none
def xsl (F : En → R D) (L U : En → R (Option Int)) : En → R D := fun e => (F e).bind fun d => (L e).bind fun lo => (U e).bind fun hi => opt (sliceD d lo hi)
theorem cut_whole {α : Type} (xs : List α) (lo hi : Option Int) (h : HT.sIx xs.length 0 lo = 0 ∧ HT.sIx xs.length xs.length hi = xs.length) : cutD xs lo hi = xs := by
  unfold cutD
  rw [h.1, h.2]
  simp
theorem xSl {lo hi : Option Expr} {p2 : Pos} {L U : En → R (Option Int)} (ha : PE X a (tV (X.kw ea) W F)) (hl : PO X lo (tO (X.kw ea) W L)) (hu : PO X hi (tO (X.kw ea) W U)) : PE X (.Subscript a (.Slice lo hi none p2) pos) (tE (X.kw ea) W (xsl F L U)) :=
  PE_weak (pe_slice (SlR.or sl_list (SlR.or sl_tupF sl_str)) ha hl hu) fun σ H Q ⟨H0, Hf0, Hf, e, S, p⟩ => ⟨H0, Hf0, Hf, e, S, p.bind.mono fun x H1 ⟨Hf1, d, g1, r1, p1⟩ => ⟨H0, Hf0, Hf1, e, S.grow g1, by
    revert p1
    cases L e with
    | ok lo =>
      intro p1 Hf2 H2 g2
      refine ⟨H0, Hf0, Hf2, e, (S.grow g1).grow g2, ?_⟩
      have p2 := p1.grow g2
      revert p2
      show Po (ERp (X.kw ea)) W Q σ Hf2 H2 ((U e).bind fun hi => opt (sliceD d lo hi)) → _
      cases U e with
      | ok hi =>
        intro p2 Hf3 H3 g3
        obtain ⟨z, ez, q⟩ := (p2.grow g3).of_opt
        have r3 := (r1.mono g2).mono g3
        cases d with
        | list ds =>
          cases ez
          obtain ⟨a, xs, rfl, ha, ra⟩ := r3.list g3.fh
          exact .inl ⟨a, xs, rfl, SqL.of ha, fun p hp => q _ _ _ (Grow.new g3.fh hp) (.lst upd_same ((ra.cut lo hi).mono (same_upd (g3.fh.free hp))))⟩
        | tuple ds =>
          cases ez
          obtain ⟨a, xs, rfl, ha, ra⟩ := r3.tuple g3.fh
          refine .inr (.inl ⟨a, xs, rfl, ha.sq, fun hw => ?_, fun _ => TupN.of g3.fh (ra.cut lo hi) q⟩)
          rw [ra.length] at hw
          rw [cut_whole ds lo hi hw] at q
          exact q _ _ _ (Grow.refl g3.fh) r3.tup
        | str t =>
          have ez' : (if t.length ≤ many then some (PyData.str (cutS t lo hi)) else none) = some z := ez
          split at ez'
          · rename_i hl
            cases ez'
            exact .inr (.inr ⟨t, r3.str, many_line hl, q _ _ _ (Grow.refl g3.fh) (.str _)⟩)
          · cases ez'
        | _ => cases ez
      | ex c => exact fun p2 => p2
      | bad => exact fun p2 => p2
    | ex c => exact fun p1 => p1
    | bad => exact fun p1 => p1⟩⟩

/-! ### calls of built-ins -/
def rC1 (K : Kw) (Rel : Hp → Hp → V → D → Prop) (f : D → Option D) : List V → Hp → VK → Prop := fun xs H Q => ∃ x Hf dx z, xs = [x] ∧ Same Hf H ∧ Rel Hf H x dx ∧ f dx = some z ∧ ∀ v Hf' H', Grow Hf H Hf' H' → Rp K Hf' v z → Q v H'
def rC1N (K : Kw) (Rel : Hp → Hp → V → D → Prop) (f : D → Option (List D)) : List V → Hp → VK → Prop := fun xs H Q => ∃ x Hf dx z, xs = [x] ∧ Same Hf H ∧ Rel Hf H x dx ∧ f dx = some z ∧
  ∀ p xs Hf' H', Grow Hf H Hf' H' → H p = none → Hf' p = none → H' p = some (.lst xs) → RpAll K Hf' xs z → Q (.ref p) H'
def rC2 (K : Kw) (Rel : Hp → Hp → V → D → Prop) (f : D → D → Option D) : List V → Hp → VK → Prop := fun xs H Q => ∃ x y Hf dx dy z, xs = [x, y] ∧ Same Hf H ∧ Rel Hf H x dx ∧ Rel Hf H y dy ∧ f dx dy = some z ∧ ∀ v Hf' H', Grow Hf H Hf' H' → Rp K Hf' v z → Q v H'
def un1N (f : D → Option (List D)) (F : En → R D) : En → R (List D) := fun e => (F e).bind fun x => opt (f x)
theorem tX_c1 {K : Kw} {Rel : Hp → Hp → V → D → Prop} {f : D → Option D} {σ : L2.St} {H : Hp} {Q : VK} (h : tE K W (un1 f F) σ H Q) : tCB (rC1 K Rel f) (tCons (tX K Rel W F) tNil) σ H Q := by
  obtain ⟨H0, Hf0, Hf, e, S, p⟩ := h
  refine ⟨H0, Hf0, Hf, e, S, p.bind.mono fun x H1 ⟨Hf1, dx, g1, rx, p1⟩ => ?_⟩
  obtain ⟨z, ez, q⟩ := p1.of_opt
  exact ⟨x, Hf1, dx, z, rfl, g1.fh, rx, ez, q⟩
theorem tX_c1N {K : Kw} {Rel : Hp → Hp → V → D → Prop} {f : D → Option (List D)} {σ : L2.St} {H : Hp} {Q : VK} (h : tN K W (un1N f F) σ H Q) : tCB (rC1N K Rel f) (tCons (tX K Rel W F) tNil) σ H Q := by
  obtain ⟨H0, Hf0, Hf, e, S, p⟩ := h
  refine ⟨H0, Hf0, Hf, e, S, p.bind.mono fun x H1 ⟨Hf1, dx, g1, rx, p1⟩ => ?_⟩
  obtain ⟨z, ez, q⟩ := p1.of_opt
  exact ⟨x, Hf1, dx, z, rfl, g1.fh, rx, ez, q⟩
theorem tX_c2 {K : Kw} {Rel : Hp → Hp → V → D → Prop} (st : Stays Rel) {f : D → D → Option D} {σ : L2.St} {H : Hp} {Q : VK} (h : tE K W (bin f F G) σ H Q) : tCB (rC2 K Rel f) (tCons (tX K Rel W F) (tCons (tX K Rel W G) tNil)) σ H Q := by
  obtain ⟨H0, Hf0, Hf, e, S, p⟩ := h
  refine ⟨H0, Hf0, Hf, e, S, p.bind.mono fun x H1 ⟨Hf1, dx, g1, rx, p1⟩ => ⟨H0, Hf0, Hf1, e, S.grow g1, p1.bind.mono fun y H2 ⟨Hf2, dy, g2, ry, p2⟩ => ?_⟩⟩
  obtain ⟨z, ez, q⟩ := p2.of_opt
  exact ⟨x, y, Hf2, dx, dy, z, rfl, g2.fh, st _ _ _ _ _ _ g2 rx, ry, ez, q⟩
section
variable {x : Str} {p : Pos} {id : String} {T : String}
theorem xB1 {f : D → Option D} (hc : CallR X (.builtin id) (rC1 (X.kw ea) (VRp (X.kw ea)) f)) (hg : Gl X x) (hm : X.mg x = none) (hv : bootBuiltins x = some (.builtin id)) (ha : PE X a (tV (X.kw ea) W F)) (hn : x ≠ "__name__" := by decide) (hdb : (x == ("__debug__" : Str)) = false := by decide)
    (he : starEach [a] X.env = [(false, eval a X.env)] := by rfl) : PE X (.Call (.Name x p) [a] [] pos) (tE (X.kw ea) W (un1 f F)) :=
  PE_weak (pe_callB hc hg hm hv (pa_cons ha pa_nil he) hn hdb he) fun σ H Q h => tX_c1 h
theorem xT1 {f : D → Option D} (hc : CallR X (.type T) (rC1 (X.kw ea) (VRp (X.kw ea)) f)) (hg : Gl X x) (hm : X.mg x = none) (hv : bootBuiltins x = some (.type T)) (ha : PE X a (tV (X.kw ea) W F)) (hn : x ≠ "__name__" := by decide) (hdb : (x == ("__debug__" : Str)) = false := by decide)
    (he : starEach [a] X.env = [(false, eval a X.env)] := by rfl) : PE X (.Call (.Name x p) [a] [] pos) (tE (X.kw ea) W (un1 f F)) :=
  PE_weak (pe_callTy hc hg hm hv (pa_cons ha pa_nil he) hn hdb he) fun σ H Q h => tX_c1 h
theorem xB1N {f : D → Option (List D)} (hc : CallR X (.builtin id) (rC1N (X.kw ea) (VRp (X.kw ea)) f)) (hg : Gl X x) (hm : X.mg x = none) (hv : bootBuiltins x = some (.builtin id)) (ha : PE X a (tV (X.kw ea) W F)) (hn : x ≠ "__name__" := by decide) (hdb : (x == ("__debug__" : Str)) = false := by decide)
    (he : starEach [a] X.env = [(false, eval a X.env)] := by rfl) : PE X (.Call (.Name x p) [a] [] pos) (tN (X.kw ea) W (un1N f F)) :=
  PE_weak (pe_callB hc hg hm hv (pa_cons ha pa_nil he) hn hdb he) fun σ H Q h => tX_c1N h
theorem xT1N {f : D → Option (List D)} (hc : CallR X (.type T) (rC1N (X.kw ea) (VRp (X.kw ea)) f)) (hg : Gl X x) (hm : X.mg x = none) (hv : bootBuiltins x = some (.type T)) (ha : PE X a (tV (X.kw ea) W F)) (hn : x ≠ "__name__" := by decide) (hdb : (x == ("__debug__" : Str)) = false := by decide)
    (he : starEach [a] X.env = [(false, eval a X.env)] := by rfl) : PE X (.Call (.Name x p) [a] [] pos) (tN (X.kw ea) W (un1N f F)) :=
  PE_weak (pe_callTy hc hg hm hv (pa_cons ha pa_nil he) hn hdb he) fun σ H Q h => tX_c1N h
theorem xB2 {f : D → D → Option D} (hc : CallR X (.builtin id) (rC2 (X.kw ea) (VRp (X.kw ea)) f)) (hg : Gl X x) (hm : X.mg x = none) (hv : bootBuiltins x = some (.builtin id)) (ha : PE X a (tV (X.kw ea) W F)) (hb : PE X b (tV (X.kw ea) W G)) (hn : x ≠ "__name__" := by decide) (hdb : (x == ("__debug__" : Str)) = false := by decide)
    (he : starEach [a, b] X.env = [(false, eval a X.env), (false, eval b X.env)] := by rfl) (he2 : starEach [b] X.env = [(false, eval b X.env)] := by rfl) : PE X (.Call (.Name x p) [a, b] [] pos) (tE (X.kw ea) W (bin f F G)) :=
  PE_weak (pe_callB hc hg hm hv (pa_cons ha (pa_cons hb pa_nil he2) (he.trans (by rw [he2]))) hn hdb (he.trans (by rw [he2])) (by rw [he2]; rfl)) fun σ H Q h => tX_c2 stV h
end
/-! len, tuple, list, all, any, sum, min, max, int, str -/
def lenD : D → Option D
  | .list ds => some (.int ds.length)
  | .tuple ds => some (.int ds.length)
  | .str x => if x.length ≤ many then some (.int x.length) else none
  | .dict kvs => (scrOf kvs).map fun ns => .int ns.length
  | _ => none
theorem call_lenB : CallR X (.builtin "len") (rC1 (X.kw ea) (VRp (X.kw ea)) lenD) := by
  intro pins s σ H xs us Q I r ⟨x, Hf, dx, z, ex, f, hx, ez, q⟩
  subst ex
  refine call_len pins s σ H _ us Q I r ?_
  cases dx with
  | list ds =>
    cases ez
    obtain ⟨a, ys, rfl, ha, ra⟩ := hx.list f
    exact ⟨_, ys.length, rfl, .inl ⟨ys, SqL.of ha, rfl⟩, by rw [ra.length]; exact q _ Hf H (Grow.refl f) (.int _)⟩
  | tuple ds =>
    cases ez
    obtain ⟨a, ys, rfl, ha, ra⟩ := hx.tuple f
    exact ⟨_, ys.length, rfl, .inr ⟨ys, ha.sq, rfl⟩, by rw [ra.length]; exact q _ Hf H (Grow.refl f) (.int _)⟩
  | str t =>
    have ez' : (if t.length ≤ many then some (PyData.int t.length) else none) = some z := ez
    split at ez'
    · rename_i hl
      cases ez'
      rw [hx.str]
      exact ⟨_, t.length, rfl, ⟨many_line hl, rfl⟩, q _ Hf H (Grow.refl f) (.int _)⟩
    · cases ez'
  | dict kvs =>
    have ez' : ((scrOf kvs).map fun ns => PyData.int ns.length) = some z := ez
    cases h1 : scrOf kvs with
    | none => rw [h1] at ez'; cases ez'
    | some ns =>
      rw [h1] at ez'
      cases ez'
      rw [scrOf_eq h1] at hx
      obtain ⟨a, rfl, hl⟩ := (hx.full f).script
      exact ⟨_, ns.length, rfl, .inl ⟨_, hl, by rw [List.length_map]⟩, q _ Hf H (Grow.refl f) (.int _)⟩
  | _ => cases ez
def tupleD : D → Option D
  | .list ds => some (.tuple ds)
  | .tuple ds => some (.tuple ds)
  | _ => none
theorem call_tupleB : CallR X (.type "tuple") (rC1 (X.kw ea) (VRp (X.kw ea)) tupleD) := by
  intro pins s σ H xs us Q I r ⟨x, Hf, dx, z, ex, f, hx, ez, q⟩
  subst ex
  refine call_tupleF pins s σ H _ us Q I r ?_
  cases dx with
  | list ds =>
    cases ez
    obtain ⟨a, ys, rfl, ha, ra⟩ := hx.list f
    exact ⟨a, ys, rfl, .inl ⟨SqL.of ha, TupN.of f ra q⟩⟩
  | tuple ds =>
    cases ez
    have hx := hx.tup
    cases hx with
    | tup ha ra => exact ⟨_, _, rfl, .inr ⟨(ha.mono f).sq, q _ Hf H (Grow.refl f) (.tup ha ra)⟩⟩
  | _ => cases ez
def listN : D → Option (List D)
  | .list ds => some ds
  | .tuple ds => some ds
  | _ => none
theorem call_listB : CallR X (.type "list") (rC1N (X.kw ea) (VRp (X.kw ea)) listN) := by
  intro pins s σ H xs us Q I r ⟨x, Hf, dx, z, ex, f, hx, ez, q⟩
  subst ex
  refine call_list_of pins s σ H _ us Q I r ?_
  cases dx with
  | list ds =>
    cases ez
    obtain ⟨a, ys, rfl, ha, ra⟩ := hx.list f
    exact ⟨a, ys, rfl, .inl (SqL.of ha), fun p hp => q p _ Hf _ (Grow.lay f hp) hp (f.free hp) upd_same ra⟩
  | tuple ds =>
    cases ez
    obtain ⟨a, ys, rfl, ha, ra⟩ := hx.tuple f
    exact ⟨a, ys, rfl, .inr (ha.sq), fun p hp => q p _ Hf _ (Grow.lay f hp) hp (f.free hp) upd_same ra⟩
  | _ => cases ez
def boolsOf : List D → Option (List Bool)
  | [] => some []
  | .bool i :: r => (boolsOf r).map (i :: ·)
  | _ => none
theorem boolsOf_eq : ∀ {ds : List D} {ns : List Bool}, boolsOf ds = some ns → ds = ns.map PyData.bool
  | [], ns, h => by cases h; rfl
  | .bool i :: r, ns, h => by
    unfold boolsOf at h
    cases q : boolsOf r with
    | none => rw [q] at h; cases h
    | some ms => rw [q] at h; cases h; rw [boolsOf_eq q]; rfl
  | .none :: r, ns, h => by cases h
  | .int _ :: r, ns, h => by cases h
  | .str _ :: r, ns, h => by cases h
  | .list _ :: r, ns, h => by cases h
  | .tuple _ :: r, ns, h => by cases h
  | .dict _ :: r, ns, h => by cases h
theorem boolsOf_map : ∀ ns : List Bool, boolsOf (ns.map PyData.bool) = some ns
  | [] => rfl
  | n :: ns => by
    show (boolsOf (ns.map PyData.bool)).map (n :: ·) = _
    rw [boolsOf_map ns]
    rfl
def allD : D → Option D
  | .list ds => (boolsOf ds).map fun bs => .bool (bs.all id)
  | _ => none
def anyD : D → Option D
  | .list ds => (boolsOf ds).map fun bs => .bool (bs.any id)
  | _ => none
theorem call_allB (hc : X.calm = true) : CallR X (.builtin "all") (rC1 (X.kw ea) (VRp (X.kw ea)) allD) := by
  intro pins s σ H xs us Q I r ⟨x, Hf, dx, z, ex, f, hx, ez, q⟩
  subst ex
  refine cr_all hc pins s σ H _ us Q I r ?_
  cases dx with
  | list ds =>
    obtain ⟨a, ys, rfl, ha, ra⟩ := hx.list f
    have ez' : ((boolsOf ds).map fun bs => PyData.bool (bs.all id)) = some z := ez
    cases h1 : boolsOf ds with
    | none => rw [h1] at ez'; cases ez'
    | some bs =>
      rw [h1] at ez'
      cases ez'
      rw [boolsOf_eq h1] at ra
      rw [ra.bools] at ha
      exact ⟨a, bs, rfl, SqL.of ha, q _ Hf H (Grow.refl f) (.bl _)⟩
  | _ => cases ez
theorem call_anyB (hc : X.calm = true) : CallR X (.builtin "any") (rC1 (X.kw ea) (VRp (X.kw ea)) anyD) := by
  intro pins s σ H xs us Q I r ⟨x, Hf, dx, z, ex, f, hx, ez, q⟩
  subst ex
  refine cr_any hc pins s σ H _ us Q I r ?_
  cases dx with
  | list ds =>
    obtain ⟨a, ys, rfl, ha, ra⟩ := hx.list f
    have ez' : ((boolsOf ds).map fun bs => PyData.bool (bs.any id)) = some z := ez
    cases h1 : boolsOf ds with
    | none => rw [h1] at ez'; cases ez'
    | some bs =>
      rw [h1] at ez'
      cases ez'
      rw [boolsOf_eq h1] at ra
      rw [ra.bools] at ha
      exact ⟨a, bs, rfl, SqL.of ha, q _ Hf H (Grow.refl f) (.bl _)⟩
  | _ => cases ez
def sumD : D → Option D
  | .list ds => (intsOf ds).map fun ns => .int ns.sum
  | _ => none
theorem call_sumB (hc : X.calm = true) : CallR X (.builtin "sum") (rC1 (X.kw ea) (VRp (X.kw ea)) sumD) := by
  intro pins s σ H xs us Q I r ⟨x, Hf, dx, z, ex, f, hx, ez, q⟩
  subst ex
  refine cr_sum hc pins s σ H _ us Q I r ?_
  cases dx with
  | list ds =>
    obtain ⟨a, ys, rfl, ha, ra⟩ := hx.list f
    have ez' : ((intsOf ds).map fun bs => PyData.int bs.sum) = some z := ez
    cases h1 : intsOf ds with
    | none => rw [h1] at ez'; cases ez'
    | some bs =>
      rw [h1] at ez'
      cases ez'
      rw [intsOf_eq h1] at ra
      rw [ra.ints] at ha
      exact ⟨a, bs, rfl, SqL.of ha, q _ Hf H (Grow.refl f) (.int _)⟩
  | _ => cases ez
def maxL : List Int → Option Int
  | [] => none
  | n :: ns => some (ns.foldl max n)
def minL : List Int → Option Int
  | [] => none
  | n :: ns => some (ns.foldl min n)
theorem foldl_max (ns : List Int) : ∀ n : Int, (ns.foldl max n = n ∨ ns.foldl max n ∈ ns) ∧ n ≤ ns.foldl max n ∧ ∀ y ∈ ns, y ≤ ns.foldl max n := by
  induction ns with
  | nil => intro n; exact ⟨.inl rfl, Int.le_refl _, fun y h => by cases h⟩
  | cons m ns ih =>
    intro n
    obtain ⟨h1, h2, h3⟩ := ih (max n m)
    rw [List.foldl_cons]
    refine ⟨?_, by omega, fun y hy => ?_⟩
    · rcases h1 with h1 | h1
      · rw [h1]
        by_cases z : n ≤ m
        · right; rw [Int.max_eq_right z]; exact List.mem_cons_self
        · left; rw [Int.max_eq_left (by omega)]
      · right; exact List.mem_cons_of_mem _ h1
    · rcases List.mem_cons.mp hy with rfl | hy
      · omega
      · exact h3 y hy
theorem foldl_min (ns : List Int) : ∀ n : Int, (ns.foldl min n = n ∨ ns.foldl min n ∈ ns) ∧ ns.foldl min n ≤ n ∧ ∀ y ∈ ns, ns.foldl min n ≤ y := by
  induction ns with
  | nil => intro n; exact ⟨.inl rfl, Int.le_refl _, fun y h => by cases h⟩
  | cons m ns ih =>
    intro n
    obtain ⟨h1, h2, h3⟩ := ih (min n m)
    rw [List.foldl_cons]
    refine ⟨?_, by omega, fun y hy => ?_⟩
    · rcases h1 with h1 | h1
      · rw [h1]
        by_cases z : n ≤ m
        · left; rw [Int.min_eq_left z]
        · right; rw [Int.min_eq_right (by omega)]; exact List.mem_cons_self
      · right; exact List.mem_cons_of_mem _ h1
    · rcases List.mem_cons.mp hy with rfl | hy
      · omega
      · exact h3 y hy
def maxD : D → Option D
  | .list ds => (intsOf ds).bind fun ns => (maxL ns).map PyData.int
  | _ => none
def minD : D → Option D
  | .list ds => (intsOf ds).bind fun ns => (minL ns).map PyData.int
  | _ => none
theorem call_maxB (hc : X.calm = true) : CallR X (.builtin "max") (rC1 (X.kw ea) (VRp (X.kw ea)) maxD) := by
  intro pins s σ H xs us Q I r ⟨x, Hf, dx, z, ex, f, hx, ez, q⟩
  subst ex
  refine cr_max hc pins s σ H _ us Q I r ?_
  cases dx with
  | list ds =>
    obtain ⟨a, ys, rfl, ha, ra⟩ := hx.list f
    have ez' : ((intsOf ds).bind fun ns => (maxL ns).map PyData.int) = some z := ez
    cases h1 : intsOf ds with
    | none => rw [h1] at ez'; cases ez'
    | some bs =>
      rw [h1] at ez'
      rw [intsOf_eq h1] at ra
      rw [ra.ints] at ha
      cases bs with
      | nil => cases ez'
      | cons n ns =>
        cases ez'
        refine ⟨a, n :: ns, rfl, SqL.of ha, by simp, fun m hm hle => ?_⟩
        have e : m = ns.foldl max n := by
          obtain ⟨h1, h2, h3⟩ := foldl_max ns n
          have a1 : m ≤ ns.foldl max n := by
            rcases List.mem_cons.mp hm with rfl | hm
            · exact h2
            · exact h3 m hm
          have a2 : ns.foldl max n ≤ m := by
            rcases h1 with h1 | h1
            · rw [h1]; exact hle n List.mem_cons_self
            · exact hle _ (List.mem_cons_of_mem _ h1)
          omega
        rw [e]
        exact q _ Hf H (Grow.refl f) (.int _)
  | _ => cases ez
theorem call_minB (hc : X.calm = true) : CallR X (.builtin "min") (rC1 (X.kw ea) (VRp (X.kw ea)) minD) := by
  intro pins s σ H xs us Q I r ⟨x, Hf, dx, z, ex, f, hx, ez, q⟩
  subst ex
  refine cr_min hc pins s σ H _ us Q I r ?_
  cases dx with
  | list ds =>
    obtain ⟨a, ys, rfl, ha, ra⟩ := hx.list f
    have ez' : ((intsOf ds).bind fun ns => (minL ns).map PyData.int) = some z := ez
    cases h1 : intsOf ds with
    | none => rw [h1] at ez'; cases ez'
    | some bs =>
      rw [h1] at ez'
      rw [intsOf_eq h1] at ra
      rw [ra.ints] at ha
      cases bs with
      | nil => cases ez'
      | cons n ns =>
        cases ez'
        refine ⟨a, n :: ns, rfl, SqL.of ha, by simp, fun m hm hle => ?_⟩
        have e : m = ns.foldl min n := by
          obtain ⟨h1, h2, h3⟩ := foldl_min ns n
          have a1 : ns.foldl min n ≤ m := by
            rcases List.mem_cons.mp hm with rfl | hm
            · exact h2
            · exact h3 m hm
          have a2 : m ≤ ns.foldl min n := by
            rcases h1 with h1 | h1
            · rw [h1]; exact hle n List.mem_cons_self
            · exact hle _ (List.mem_cons_of_mem _ h1)
          omega
        rw [e]
        exact q _ Hf H (Grow.refl f) (.int _)
  | _ => cases ez
def max2D : D → D → Option D
  | .int i, .int j => some (.int (if j > i then j else i))
  | _, _ => none
def min2D : D → D → Option D
  | .int i, .int j => some (.int (if j < i then j else i))
  | _, _ => none
theorem call_max2B (hc : X.calm = true) : CallR X (.builtin "max") (rC2 (X.kw ea) (VRp (X.kw ea)) max2D) := by
  intro pins s σ H xs us Q I r ⟨x, y, Hf, dx, dy, z, ex, f, hx, hy, ez, q⟩
  subst ex
  refine call_max2 hc pins s σ H _ us Q I r ?_
  cases dx with
  | int i =>
    cases dy with
    | int j => cases ez; rw [hx.int, hy.int]; exact ⟨i, j, rfl, q _ Hf H (Grow.refl f) (.int _)⟩
    | _ => cases ez
  | _ => cases ez
theorem call_min2B (hc : X.calm = true) : CallR X (.builtin "min") (rC2 (X.kw ea) (VRp (X.kw ea)) min2D) := by
  intro pins s σ H xs us Q I r ⟨x, y, Hf, dx, dy, z, ex, f, hx, hy, ez, q⟩
  subst ex
  refine call_min2 hc pins s σ H _ us Q I r ?_
  cases dx with
  | int i =>
    cases dy with
    | int j => cases ez; rw [hx.int, hy.int]; exact ⟨i, j, rfl, q _ Hf H (Grow.refl f) (.int _)⟩
    | _ => cases ez
  | _ => cases ez
def intD : D → Option D
  | .int i => some (.int i)
  | .bool k => some (.int (if k then 1 else 0))
  | .str x => if x.length ≤ 640 then (PySem.intText? x).map PyData.int else none
  | _ => none
theorem call_intB : CallR X (.type "int") (rC1 (X.kw ea) (VRp (X.kw ea)) intD) := by
  intro pins s σ H xs us Q I r ⟨x, Hf, dx, z, ex, f, hx, ez, q⟩
  subst ex
  have hx' := hx.full f
  cases dx with
  | int i => cases ez; cases hx'; exact call_int1 pins s σ H _ us Q I r (.inl ⟨i, rfl, q _ Hf H (Grow.refl f) (.int _)⟩)
  | bool i => cases ez; cases hx'; exact call_int1 pins s σ H _ us Q I r (.inr ⟨i, rfl, q _ Hf H (Grow.refl f) (.int _)⟩)
  | str t =>
    cases hx'
    have ez' : (if t.length ≤ 640 then (PySem.intText? t).map PyData.int else none) = some z := ez
    split at ez'
    · rename_i hl
      cases h1 : PySem.intText? t with
      | none => rw [h1] at ez'; cases ez'
      | some n => rw [h1] at ez'; cases ez'; exact call_int_str pins s σ H _ us Q I r ⟨t, n, rfl, h1, hl, q _ Hf H (Grow.refl f) (.int _)⟩
    · cases ez'
  | _ => cases ez
def strD : D → Option D
  | .int i => if i.natAbs.log2 < 1920 then some (.str (toString i : String)) else none
  | _ => none
theorem call_strB : CallR X (.type "str") (rC1 (X.kw ea) (VRp (X.kw ea)) strD) := by
  intro pins s σ H xs us Q I r ⟨x, Hf, dx, z, ex, f, hx, ez, q⟩
  subst ex
  cases dx with
  | int i =>
    rw [hx.int] at r
    have ez' : (if i.natAbs.log2 < 1920 then some (PyData.str (toString i : String)) else none) = some z := ez
    split at ez'
    · rename_i hl
      cases ez'
      exact call_str_int pins s σ H _ us Q I r ⟨i, rfl, hl, q _ Hf H (Grow.refl f) (.str _)⟩
    · cases ez'
  | _ => cases ez
end
end Pu
/-! PuF: what is walked: lists, tuples, texts, ranges, enumerate, zip -/
namespace Pu
open PySem
/-- the heap with an enumerate over the new iterator o -/
def enumOn (h : Heap) (o : Obj) : Heap := (h.push o).push { cls := .type "enumerate", data := .fields #[.none, .bool false, .ref h.objs.size, rawInt 0, .none, .none] }
theorem enum_new {v : Value} {o : Obj} {Z : Heap → Prop} (B : Begins v o Z) :
    Meets (Builtin.«enumerate.__new__» ⟨[.type "enumerate", v], []⟩) (fun _ R s => Z s.heap ∧ R (.ok (.ret (.ref (s.heap.push o).objs.size))) { s with heap := enumOn s.heap o }) := .of_wp fun P w A R s ⟨hz, hr⟩ => by
  cases s with
  | mk h gs dr tk os =>
    have sub := sub_enumerate
    have go : ∀ {A' : Around} {E : Value → Shared → Prop} {Q : Value → Shared → Prop}, Q (.ref h.objs.size) ⟨h.push o, gs, dr, tk, os⟩ → wpAny (model P w) A' (pyIter v) Q E ⟨h, gs, dr, tk, os⟩ := fun q => B.iter P w _ _ ⟨h, gs, dr, tk, os⟩ _ hz q
    wp_walk
    apply wpAny_stack_any
    intro st
    apply wpAny_pure
    split
    · rename_i c _ _ _ _ _
      rcases Bool.eq_false_or_eq_true (c == Value.type "enumerate") with y | y <;> (rw [y]; wp_walk using go; exact ⟨_, rfl, hr⟩)
    · wp_walk using go
      exact ⟨_, rfl, hr⟩
theorem enum_on {v : Value} {o : Obj} {Z : Heap → Prop} {P : Program} {w : World} {A : Around} {E : Value → Shared → Prop} {s : Shared} {Q : Value → Shared → Prop} (B : Begins v o Z) (hz : Z s.heap) (hq : Q (.ref (s.heap.objs.size + 1)) { s with heap := enumOn s.heap o }) :
    wpAny (model P w) A (call (.type "enumerate") [v]) Q E s := by
  have n1 : (s.heap.push o).objs.size = s.heap.objs.size + 1 := Heap.size_push ..
  refine callType_new F.called_enumerate (by decide) (F.typeCall_enumerate_1 v) (F.newCall_enumerate_1 v) (fun x => F.args_object_init_2 x v) F.entry_enumerate_new (enum_new B) ⟨hz, ?_⟩
  exact ⟨⟨_, Heap.get?_push_size _ rfl, rfl⟩, n1 ▸ hq⟩
end Pu
namespace L2
open PySem PySem.Spec PyProof.Rows
section
variable {X : Cx} {pins : List (Addr × Obj)} {σ : St} {H : Hp} {s : Shared}
/-- a pair laid at the heap's end, while nothing but ch has changed -/
theorem pair_laid {ch : List Addr} {g : Heap} {tk : Nat} {x y : V} {u v : Value} (I : Inv X pins σ H s) (own : ∀ b ∈ ch, FpOk X pins H b) (k : ∀ b o, b ∉ ch → s.heap.get? b = some o → g.get? b = some o)
    (hT : g.get? s.heap.objs.size = some { cls := .type "tuple", data := .seq #[u, v] }) (rx : RelV x u) (ry : RelV y v) :
    Inv X pins σ (upd H s.heap.objs.size (.frz { cls := .type "tuple", data := .seq #[u, v] } (.tup [x, y]))) { s with heap := g, toks := tk } :=
  have two : [x, y].length ≤ sizeLine := show 2 ≤ sizeLine by decide
  I.turnedNew k own (Nat.le_refl _) ⟨hT, two, [u, v], .cons rx (.cons ry .nil), _, hT, rfl, _, rfl⟩
theorem free_old {ch : List Addr} {o : HO} (own : ∀ b ∈ ch, FpOk X pins H b) (lo : ∀ b ∈ ch, b < s.heap.objs.size) : ∀ b ∈ ch, upd H s.heap.objs.size o b = none :=
  fun b hb => (upd_ne (Nat.ne_of_lt (lo b hb))).trans (own b hb).1
theorem fresh_all {ch : List Addr} (I : Inv X pins σ H s) (hi : ∀ b ∈ ch, s.heap.objs.size ≤ b) : ∀ b ∈ ch, FpOk X pins H b := fun b hb => I.fpOk (hi b hb) (I.hok.fresh (hi b hb))
end
/-- what is walked from a by the iterator at j: a list or a tuple -/
structure Sour (P : Program) (w : World) (K : PySem.W.Frag) (a j : Addr) (sq : Hp → List V → Prop) (at_ : Nat → Heap → Prop) (is : Array Value → Heap → Prop) : Prop where
  read : ∀ {X : Cx} {pins : List (Addr × Obj)} {σ : St} {H : Hp} {s : Shared} {xs : List V}, X.K = K → Inv X pins σ H s → sq H xs → ∃ us : List Value, Vals xs us ∧ is us.toArray s.heap
  only : ∀ {X : Cx} {pins : List (Addr × Obj)} {σ : St} {H : Hp} {s : Shared} {xs ys : List V}, X.K = K → Inv X pins σ H s → sq H xs → sq H ys → xs = ys
  draw : ∀ {A : Around}, A.handled = none → a ≠ j → ∀ us : Array Value, Draws P w A j [j, a] us.size (fun i v => us[i]? = some v) (fun i h => at_ i h ∧ is us h)
  seqO : ∀ {us : Array Value} {h : Heap}, is us h → ∃ o T, h.get? a = some o ∧ o.cls = .type T ∧ (T = "list" ∨ T = "tuple")
  itO : ∀ {i : Nat} {h : Heap}, at_ i h → ∃ o T vs, h.get? j = some o ∧ o.cls = .type T ∧ (T = "list_iterator" ∨ T = "tuple_iterator") ∧ o.data = .fields vs
  keep : ∀ {i : Nat} {h h' : Heap}, at_ i h → (∀ o, h.get? j = some o → h'.get? j = some o) → at_ i h'
theorem sourL {P : Program} {w : World} {K : PySem.W.Frag} (a j : Addr) : Sour P w K a j (fun H => SqL K H a) (fun i h => h.IsListIter j a i) (fun us h => h.IsList a us) where
  read := fun e I h => by subst e; exact let ⟨us, r, p, _⟩ := I.list h; ⟨us, r, p.isList⟩
  only := fun e I h h' => by subst e; exact I.list_inj h h'
  draw := fun hh ne us => Draws.list hh j a ne us
  seqO := fun ⟨o, g, c, _⟩ => ⟨o, "list", g, c, .inl rfl⟩
  itO := fun ⟨o, g, c, d⟩ => ⟨o, _, _, g, c, .inl rfl, d⟩
  keep := fun x k => x.at k
theorem sourT {P : Program} {w : World} {K : PySem.W.Frag} (a j : Addr) : Sour P w K a j (fun H => SqT K H a) (fun i h => h.IsTupleIter j a i) (fun us h => h.IsTuple a us) where
  read := fun e I h => by subst e; exact let ⟨us, r, p, _⟩ := I.tuple h; ⟨us, r, p⟩
  only := fun e I h h' => by subst e; exact I.tuple_inj h h'
  draw := fun hh ne us => Draws.tuple hh j a ne us
  seqO := fun ⟨o, g, c, _⟩ => ⟨o, "tuple", g, c, .inr rfl⟩
  itO := fun ⟨o, g, c, d⟩ => ⟨o, _, _, g, c, .inr rfl, d⟩
  keep := fun x k => x.at k
section
variable {P : Program} {w : World} {K : PySem.W.Frag} {a j : Addr} {sq : Hp → List V → Prop} {at_ : Nat → Heap → Prop} {is : Array Value → Heap → Prop}
theorem Sour.ne (Z : Sour P w K a j sq at_ is) {i : Nat} {us : Array Value} {h : Heap} (x : at_ i h) (y : is us h) : a ≠ j := fun e => by
  obtain ⟨o, T, g, c, d⟩ := Z.seqO y
  obtain ⟨o', T', vs, g', c', d', _⟩ := Z.itO x
  rw [e, g', Option.some.injEq] at g
  rw [g, c, Value.type.injEq] at c'
  rw [← c'] at d'
  rcases d with d | d <;> (subst d; exact absurd d' (by decide))
theorem Sour.off (Z : Sour P w K a j sq at_ is) {us : Array Value} {h : Heap} (y : is us h) {e : Addr} {o : Obj} {T : String} (g : h.get? e = some o) (c : o.cls = .type T) (d : T ≠ "list" ∧ T ≠ "tuple") : e ≠ a := fun q => by
  obtain ⟨o', T', g', c', d'⟩ := Z.seqO y
  rw [← q, g, Option.some.injEq] at g'
  rw [← g', c, Value.type.injEq] at c'
  exact d'.elim (fun z => d.1 (c'.trans z)) fun z => d.2 (c'.trans z)
theorem Sour.lt (Z : Sour P w K a j sq at_ is) {i : Nat} {h : Heap} (x : at_ i h) : j < h.objs.size := let ⟨_, _, _, g, _⟩ := Z.itO x; Heap.lt_size g
/-- i and the item, in a new pair -/
def Ien (sq : Hp → List V → Prop) : It where
  go i H := ∃ (xs : List V) (x : V), sq H xs ∧ xs[i]? = some x
  yld i H v H' := ∃ T x o, v = .ref T ∧ H T = none ∧ o.dict = none ∧ H' = upd H T (.frz o (.tup [.int (i : Nat), x])) ∧ ∀ xs, sq H xs → xs[i]? = some x
  stop i H := ∃ xs : List V, sq H xs ∧ xs.length = i
theorem turn_en {elts : List Expr} {kk : Nat} {tpos : Pos} (Z : Sour P w K a j sq at_ is) (e : Addr) :
    Turn P w K (.Tuple elts kk tpos) (Ien sq) [e, j] e (fun i h => (∃ old, IsEnum h e j ((i : Nat) : Int) old) ∧ at_ i h ∧ e ≠ j) where
  mem := List.mem_cons_self
  obj := fun i h ⟨⟨old, he⟩, x, _⟩ b hb => by
    rcases List.mem_cons.mp hb with q | q
    · exact q ▸ ⟨_, he, fun _ z => nomatch z⟩
    · obtain ⟨o, _, vs, g, _, _, d⟩ := Z.itO x
      exact List.mem_singleton.mp q ▸ ⟨o, g, fun v z => nomatch d.symm.trans z⟩
  keep := fun i h h' ⟨⟨old, he⟩, x, ne⟩ k => ⟨⟨old, k e List.mem_cons_self _ he⟩, Z.keep x (k j (List.mem_cons_of_mem _ List.mem_cons_self)), ne⟩
  item := fun X eP ew eK calm i pins s σ H E I own ⟨⟨old, he⟩, x, ne⟩ ⟨xs, v, hs, hv⟩ => by
    subst eP ew
    obtain ⟨us, rv, hu⟩ := Z.read eK I hs
    obtain ⟨u, gu, ru⟩ := rv.get hv
    have lo : ∀ b ∈ [e, j], b < s.heap.objs.size := fun b hb => (List.mem_cons.mp hb).elim (fun q => q ▸ Heap.lt_size he) fun q => List.mem_singleton.mp q ▸ Z.lt x
    have off : e ∉ [j, a] := fun q => (List.mem_cons.mp q).elim ne fun q => Z.off hu he rfl ⟨by decide, by decide⟩ (List.mem_singleton.mp q)
    have lt : i < us.toArray.size := (List.getElem?_eq_some_iff.mp gu).1
    refine wpAny_pyNext_enum_itemD (Z.draw (A := X.A.in1) (I.ok.hd calm) (Z.ne x hu) us.toArray) he ⟨x, hu⟩ lt ne off fun y g1 tk hy out nx tup _ oth => ⟨_, rfl, wpAny_letOwnedTupleGo_enum out fun g2 en sb => ?_⟩
    obtain rfl : y = u := Option.some.inj ((show us[i]? = some y by simpa using hy).symm.trans gu)
    have same : ∀ b o, b ∉ [e, j] → s.heap.get? b = some o → g2.get? b = some o := fun b o nb g => (sb.2 b (fun q => nb (q ▸ List.mem_cons_self))).trans (oth b o (fun q => nb (q ▸ List.mem_cons_self)) (fun q => nb (q ▸ List.mem_cons_of_mem _ List.mem_cons_self)) g)
    have I2 := pair_laid (tk := tk + 1) (x := .int (i : Nat)) I own same ((sb.2 _ (Nat.ne_of_gt (Heap.lt_size he))).trans tup) ⟨_, rfl⟩ ru
    have up : ((i : Int) + 1) = ((i + 1 : Nat) : Int) := (Int.natCast_succ i).symm
    exact ⟨.ref s.heap.objs.size, _, I2, rfl, ⟨_, v, _, rfl, I.hok.fresh (Nat.le_refl _), rfl, rfl, fun ys hy => (Z.only eK I hs hy) ▸ hv⟩, ⟨⟨y, up ▸ en⟩, Z.keep nx.1 fun o q => (sb.2 j ne.symm).trans q, ne⟩, free_old own lo⟩
  done := fun X eP ew eK calm i pins s σ H E I own ⟨⟨old, he⟩, x, ne⟩ ⟨xs, hs, hl⟩ => by
    subst eP ew
    obtain ⟨us, rv, hu⟩ := Z.read eK I hs
    have el : us.toArray.size = i := by rw [List.size_toArray, ← rv.length, hl]
    obtain ⟨n0, n1, _, n3, n4, n5⟩ := own j (List.mem_cons_of_mem _ List.mem_cons_self)
    exact wpAny_pyNext_enum_endD (Z.draw (A := X.A.in1) (I.ok.hd calm) (Z.ne x hu) us.toArray) he ⟨el.symm ▸ x, hu⟩ fun g eb => ⟨rfl, I.turned (t' := s.toks) eb n0 n1 n3 n4 n5⟩
  self := fun A i s Q E ⟨⟨_, he⟩, _⟩ q => wpAny_pyIter_enum he q
end
section
variable {P : Program} {w : World} {K : PySem.W.Frag} {a b z TI TO i1 i2 : Addr} {sq sr : Hp → List V → Prop} {at_ bt : Nat → Heap → Prop} {is js : Array Value → Heap → Prop}
/-- the items of both, in a new pair -/
def Izi (sq sr : Hp → List V → Prop) : It where
  go i H := ∃ (xs ys : List V) (x y : V), sq H xs ∧ sr H ys ∧ xs[i]? = some x ∧ ys[i]? = some y
  yld i H v H' := ∃ T x y o, v = .ref T ∧ H T = none ∧ o.dict = none ∧ H' = upd H T (.frz o (.tup [x, y])) ∧ (∀ xs, sq H xs → xs[i]? = some x) ∧ ∀ ys, sr H ys → ys[i]? = some y
  stop i H := ∃ xs ys : List V, sq H xs ∧ sr H ys ∧ i = min xs.length ys.length
theorem turn_zi {elts : List Expr} {kk : Nat} {tpos : Pos} (Z : Sour P w K a i1 sq at_ is) (Y : Sour P w K b i2 sr bt js) (D : ZipSep2 z TI TO i1 i2 [i1, a] [i2, b]) :
    Turn P w K (.Tuple elts kk tpos) (Izi sq sr) [z, TI, TO, i1, i2] z (fun i h => IsZip h z TI TO .none ∧ IsTupOf2 h TI (.ref i1) (.ref i2) ∧ (∃ x y, IsTupOf2 h TO x y) ∧ at_ i h ∧ bt i h) where
  mem := List.mem_cons_self
  obj := fun i h ⟨hz, hI, ⟨_, _, hO⟩, x, y⟩ c hc => by
    obtain ⟨o1, _, _, g1, _, _, d1⟩ := Z.itO x
    obtain ⟨o2, _, _, g2, _, _, d2⟩ := Y.itO y
    simp only [List.mem_cons, List.not_mem_nil, or_false] at hc
    rcases hc with q | q | q | q | q <;> subst q
    · exact ⟨_, hz, fun _ e => nomatch e⟩
    · exact ⟨_, hI, fun _ e => nomatch e⟩
    · exact ⟨_, hO, fun _ e => nomatch e⟩
    · exact ⟨o1, g1, fun _ e => nomatch d1.symm.trans e⟩
    · exact ⟨o2, g2, fun _ e => nomatch d2.symm.trans e⟩
  keep := fun i h h' ⟨hz, hI, ⟨p, q, hO⟩, x, y⟩ k => ⟨k z (by simp) _ hz, k TI (by simp) _ hI, ⟨p, q, k TO (by simp) _ hO⟩, Z.keep x (k i1 (by simp)), Y.keep y (k i2 (by simp))⟩
  item := fun X eP ew eK calm i pins s σ H E I own ⟨hz, hI, ⟨p, q, hO⟩, x, y⟩ ⟨xs, ys, vx, vy, hs, hr, gx, gy⟩ => by
    subst eP ew
    obtain ⟨us, rv, hu⟩ := Z.read eK I hs
    obtain ⟨ws, rw', hw⟩ := Y.read eK I hr
    obtain ⟨u1, g1, r1⟩ := rv.get gx
    obtain ⟨u2, g2, r2⟩ := rw'.get gy
    have lo : ∀ c ∈ [z, TI, TO, i1, i2], c < s.heap.objs.size := fun c hc => by
      simp only [List.mem_cons, List.not_mem_nil, or_false] at hc
      rcases hc with q | q | q | q | q <;> subst q
      · exact Heap.lt_size hz
      · exact Heap.lt_size hI
      · exact Heap.lt_size hO
      · exact Z.lt x
      · exact Y.lt y
    refine wpAny_pyNext_zipD2_item D (Z.draw (A := X.A.in1) (I.ok.hd calm) (Z.ne x hu) us.toArray) (Y.draw (A := X.A.in1) (I.ok.hd calm) (Y.ne y hw) ws.toArray) hz hI hO ⟨x, hu⟩ ⟨y, hw⟩ (List.getElem?_eq_some_iff.mp g1).1 (List.getElem?_eq_some_iff.mp g2).1
      fun e1 e2 h1 tk p1 p2 zz oo nx ny tup _ oth => ⟨_, rfl, wpAny_letOwnedTupleGo_zip zz fun h2 zn sb => ?_⟩
    obtain rfl : e1 = u1 := Option.some.inj ((show us[i]? = some e1 by simpa using p1).symm.trans g1)
    obtain rfl : e2 = u2 := Option.some.inj ((show ws[i]? = some e2 by simpa using p2).symm.trans g2)
    have same : ∀ c o, c ∉ [z, TI, TO, i1, i2] → s.heap.get? c = some o → h2.get? c = some o := fun c o nc g => by
      simp only [List.mem_cons, List.not_mem_nil, or_false, not_or] at nc
      exact (sb.2 c nc.1).trans (oth c o nc.1 nc.2.2.1 nc.2.2.2.1 nc.2.2.2.2 g)
    have I2 := pair_laid (tk := tk) I own same ((sb.2 _ (Nat.ne_of_gt (Heap.lt_size hz))).trans tup) r1 r2
    exact ⟨.ref s.heap.objs.size, _, I2, rfl, ⟨_, vx, vy, _, rfl, I.hok.fresh (Nat.le_refl _), rfl, rfl, fun l hl => (Z.only eK I hs hl) ▸ gx, fun l hl => (Y.only eK I hr hl) ▸ gy⟩,
      ⟨zn, (sb.2 _ D.TIz).trans (oth _ _ D.TIz D.TITO D.TIi1 D.TIi2 hI), ⟨e1, e2, (sb.2 _ D.TOz).trans oo⟩, Z.keep nx.1 fun o q => (sb.2 _ D.zi1.symm).trans q, Y.keep ny.1 fun o q => (sb.2 _ D.zi2.symm).trans q⟩, free_old own lo⟩
  done := fun X eP ew eK calm i pins s σ H E I own ⟨hz, hI, ⟨p, q, hO⟩, x, y⟩ ⟨xs, ys, hs, hr, hl⟩ => by
    subst eP ew
    obtain ⟨us, rv, hu⟩ := Z.read eK I hs
    obtain ⟨ws, rw', hw⟩ := Y.read eK I hr
    have l1 : us.toArray.size = xs.length := by rw [List.size_toArray, rv.length]
    have l2 : ws.toArray.size = ys.length := by rw [List.size_toArray, rw'.length]
    refine wpAny_pyNext_zipD2_end D (Z.draw (A := X.A.in1) (I.ok.hd calm) (Z.ne x hu) us.toArray) (Y.draw (A := X.A.in1) (I.ok.hd calm) (Y.ne y hw) ws.toArray) hz hI hO ⟨x, hu⟩ ⟨y, hw⟩ (by omega) (by omega) (by omega) fun g tk oth => ⟨rfl, ?_⟩
    refine I.turnedL (ch := [z, TI, TO, i1, i2]) (fun c o nc => ?_) own
    simp only [List.mem_cons, List.not_mem_nil, or_false, not_or] at nc
    exact oth c o nc.1 nc.2.2.1 nc.2.2.2.1 nc.2.2.2.2
  self := fun A i s Q E ⟨hz, _⟩ q => wpAny_pyIter_zip hz q
end
abbrev IteL (K : PySem.W.Frag) (a : Addr) : It := Ien fun H => SqL K H a
abbrev IteT (K : PySem.W.Frag) (a : Addr) : It := Ien fun H => SqT K H a
abbrev ItzL (K : PySem.W.Frag) (a b : Addr) : It := Izi (fun H => SqL K H a) fun H => SqL K H b
abbrev ItzF (K : PySem.W.Frag) (a b : Addr) : It := Izi (fun H => SqT K H a) fun H => SqT K H b
section
variable {X : Cx} {pins : List (Addr × Obj)} {σ : St} {H : Hp} {s : Shared} {R : It → Hp → Prop} {elts : List Expr} {kk : Nat} {tpos : Pos} {E : Value → Shared → Prop}
/-- enumerate of a list or a tuple goes on -/
theorem en_go {a : Addr} {sq : Hp → List V → Prop} {at_ : Nat → Heap → Prop} {is : Array Value → Heap → Prop} {o : Obj} {us : Array Value} (I : Inv X pins σ H s) (Z : Sour X.prog X.w X.K a s.heap.objs.size sq at_ is) (B : Begins (.ref a) o (is us)) (at0 : ∀ h : Heap, h.get? s.heap.objs.size = some o → at_ 0 h) (hu : is us s.heap) (q : R (Ien sq) H) :
    wpAny (model X.prog X.w) X.A (call (.type "enumerate") [.ref a]) (fun v s1 => wpAny (model X.prog X.w) X.A (pyIter v) (PIE X pins σ (.Tuple elts kk tpos) R) E s1) E s := by
  have n1 : (s.heap.push o).objs.size = s.heap.objs.size + 1 := Heap.size_push ..
  have en : IsEnum (Pu.enumOn s.heap o) (s.heap.objs.size + 1) s.heap.objs.size ((0 : Nat) : Int) .none := n1 ▸ Heap.get?_push_size _ rfl
  have kp : ∀ b ob, s.heap.get? b = some ob → (Pu.enumOn s.heap o).get? b = some ob := fun b ob g => Heap.get?_push_of_some _ (Heap.get?_push_of_some _ g)
  refine Pu.enum_on B hu (wpAny_pyIter_enum en ?_)
  refine ⟨_, [s.heap.objs.size + 1, s.heap.objs.size], _, _, H, rfl, I.kept (t' := s.toks) kp, turn_en Z _, ⟨⟨_, en⟩, at0 _ (Heap.get?_push_of_some _ (Heap.get?_push_size _ B.free)), Nat.succ_ne_self _⟩, fresh_all I fun b hb => ?_, q⟩
  simp only [List.mem_cons, List.not_mem_nil, or_false] at hb
  rcases hb with e | e <;> (rw [e]; first | exact Nat.le_refl _ | exact Nat.le_add_right _ _)
/-- zip of two goes on -/
theorem zi_go {a b : Addr} {sq sr : Hp → List V → Prop} {at_ bt : Nat → Heap → Prop} {is js : Array Value → Heap → Prop} {o o2 : Obj} {us ws : Array Value} (I : Inv X pins σ H s) (Z : Sour X.prog X.w X.K a s.heap.objs.size sq at_ is) (Y : Sour X.prog X.w X.K b (s.heap.objs.size + 1) sr bt js)
    (B : Begins (.ref a) o (is us)) (B2 : Begins (.ref b) o2 (js ws)) (at0 : ∀ h : Heap, h.get? s.heap.objs.size = some o → at_ 0 h) (bt0 : ∀ h : Heap, h.get? (s.heap.objs.size + 1) = some o2 → bt 0 h) (hu : is us s.heap) (hw : js ws s.heap) (q : R (Izi sq sr) H) :
    wpAny (model X.prog X.w) X.A (call (.type "zip") [.ref a, .ref b]) (fun v s1 => wpAny (model X.prog X.w) X.A (pyIter v) (PIE X pins σ (.Tuple elts kk tpos) R) E s1) E s := by
  obtain ⟨oa, _, ga, _⟩ := Z.seqO hu
  obtain ⟨ob, _, gb, _⟩ := Y.seqO hw
  have D := zip_sep2 (N := s.heap.objs.size) (fp1 := [a]) (fp2 := [b]) (fun c hc => List.mem_singleton.mp hc ▸ Heap.lt_size ga) (fun c hc => List.mem_singleton.mp hc ▸ Heap.lt_size gb)
  refine zip_begins2 B B2 hu hw fun g hz hI hO g1 g2 _ kp => wpAny_pyIter_zip hz ?_
  refine ⟨_, [s.heap.objs.size + 4, s.heap.objs.size + 2, s.heap.objs.size + 3, s.heap.objs.size, s.heap.objs.size + 1], _, _, H, rfl, I.kept (t' := s.toks) kp, turn_zi Z Y D, ⟨hz, hI, ⟨_, _, hO⟩, at0 g g1, bt0 g g2⟩, fresh_all I fun c hc => ?_, q⟩
  simp only [List.mem_cons, List.not_mem_nil, or_false] at hc
  rcases hc with e | e | e | e | e <;> (rw [e]; first | exact Nat.le_refl _ | exact Nat.le_add_right _ _)
end
def iZipF (K : PySem.W.Frag) (ta : TA) : TI := fun σ H R => ta σ H fun vs H1 => ∃ a b xs ys, vs = [.ref a, .ref b] ∧ ((SqL K H1 a xs ∧ SqL K H1 b ys ∧ R (ItzL K a b) H1) ∨ (SqT K H1 a xs ∧ SqT K H1 b ys ∧ R (ItzF K a b) H1))
theorem pi_zipF {X : Cx} {e e2 : Expr} {ta : TA} {p pos tpos : Pos} {elts : List Expr} {kk : Nat} (hg : Gl X "zip") (hm : X.mg "zip" = none) (ha : PA X [e, e2] ta) (hs : starEach [e, e2] X.env = (false, eval e X.env) :: starEach [e2] X.env := by rfl)
    (hpl : (backTo pos (starEach [e2] X.env)).any (·.1) = false := by rfl) : PI X (.Tuple elts kk tpos) (.Call (.Name "zip" p) [e, e2] [] pos) (iZipF X.K ta) := ⟨fun pins s σ H R I h => by
  have args := ha.run pos pins s σ H _ I h
  refine Call_ (ld_blt I hg hm boot_zip (callWith_type1 (thn args fun us s1 ⟨vs, H1, I1, r1, a, b, xs, ys, ex, alt⟩ => ?_) hs hpl))
  subst ex
  obtain ⟨_, _, rfl, rfl, rfl⟩ := vals2 r1
  rcases alt with ⟨sa, sb, q⟩ | ⟨sa, sb, q⟩
  · obtain ⟨us, _, pa, _⟩ := I1.list sa
    obtain ⟨ws, _, pb, _⟩ := I1.list sb
    exact zi_go I1 (sourL a _) (sourL b _) (begins_list a _) (begins_list b _) (fun h g => ⟨_, g, rfl, rfl⟩) (fun h g => ⟨_, g, rfl, rfl⟩) pa.isList pb.isList q
  · obtain ⟨us, _, pa, _⟩ := I1.tuple sa
    obtain ⟨ws, _, pb, _⟩ := I1.tuple sb
    exact zi_go I1 (sourT a _) (sourT b _) (begins_tuple a _) (begins_tuple b _) (fun h g => ⟨_, g, rfl, rfl⟩) (fun h g => ⟨_, g, rfl, rfl⟩) pa pb q⟩
def iEnumA (K : PySem.W.Frag) (ta : TA) : TI := fun σ H R => ta σ H fun vs H1 => ∃ a xs, vs = [.ref a] ∧ ((SqL K H1 a xs ∧ R (IteL K a) H1) ∨ (SqT K H1 a xs ∧ R (IteT K a) H1))
theorem pi_enumA {X : Cx} {e : Expr} {ta : TA} {p pos tpos : Pos} {elts : List Expr} {kk : Nat} (hg : Gl X "enumerate") (hm : X.mg "enumerate" = none) (ha : PA X [e] ta)
    (hs : starEach [e] X.env = [(false, eval e X.env)] := by rfl) : PI X (.Tuple elts kk tpos) (.Call (.Name "enumerate" p) [e] [] pos) (iEnumA X.K ta) := ⟨fun pins s σ H R I h => by
  have args := ha.run pos pins s σ H _ I h
  refine Call_ (ld_blt I hg hm boot_enumerate (callWith_type1 (thn args fun us s1 ⟨vs, H1, I1, r1, a, xs, ex, alt⟩ => ?_) hs rfl))
  subst ex
  obtain ⟨_, rfl, rfl⟩ := vals1 r1
  rcases alt with ⟨sa, q⟩ | ⟨sa, q⟩
  · obtain ⟨us, _, pa, _⟩ := I1.list sa
    exact en_go I1 (sourL a _) (begins_list a _) (fun h g => ⟨_, g, rfl, rfl⟩) pa.isList q
  · obtain ⟨us, _, pa, _⟩ := I1.tuple sa
    exact en_go I1 (sourT a _) (begins_tuple a _) (fun h g => ⟨_, g, rfl, rfl⟩) pa q⟩
/-- a list, a tuple or a text -/
def iSeq (K : PySem.W.Frag) (tl : TE) : TI := fun σ H R => tl σ H fun x H1 => (∃ a xs, x = .ref a ∧ SqL K H1 a xs ∧ R (Itl K a) H1) ∨ (∃ a xs, x = .ref a ∧ SqT K H1 a xs ∧ R (Itt K a) H1) ∨ ∃ z, x = .str z ∧ R (Its z) H1
theorem pi_seq {X : Cx} {tg l : Expr} {tl : TE} (hl : PE X l tl) : PI X tg l (iSeq X.K tl) := ⟨fun pins s σ H R I h => thn (hl.run pins s σ H _ I h) fun v s1 ⟨x, H1, I1, r1, alt⟩ => by
  have one : ∀ (o : Obj) (T : String) (vs : Array Value), (o = { cls := .type T, data := .fields vs }) → ∃ o', (s1.heap.push o).get? s1.heap.objs.size = some o' ∧ o'.cls = .type T ∧ o'.data = .fields vs := fun o T vs e => by
    subst e
    exact ⟨_, Heap.get?_push_size _ rfl, rfl, rfl⟩
  rcases alt with ⟨a, xs, rfl, sa, q⟩ | ⟨a, xs, rfl, sa, q⟩ | ⟨z, rfl, q⟩
  · obtain rfl : v = .ref a := r1
    obtain ⟨us, _, pa, _⟩ := I1.list sa
    exact wpAny_pyIter_list pa.isList (pi_one (tk := s1.toks) I1 _ (turn_list a _) (one _ _ _ rfl) q)
  · obtain rfl : v = .ref a := r1
    obtain ⟨us, _, pa, _⟩ := I1.tuple sa
    exact wpAny_pyIter_tuple (items := us.toArray) pa (pi_one (tk := s1.toks) I1 _ (turn_tuple a _) (one _ _ _ rfl) q)
  · obtain ⟨t, rfl⟩ := r1
    rcases Bool.eq_false_or_eq_true (z.cps.all (· < 128)) with y | y
    · exact wpAny_pyIter_ascii y (pi_one (tk := s1.toks) I1 _ (turn_str _ z t _ (.inl rfl)) (one _ _ _ rfl) q)
    · exact wpAny_pyIter_wide y (pi_one (tk := s1.toks) I1 _ (turn_str _ z t _ (.inr rfl)) (one _ _ _ rfl) q)⟩
end L2
namespace Pu
open PySem L2
/-- an iterator that gives the data ds while Hs stands; the data are frozen in Hf -/
structure Wk (K : Kw) (Hs Hf : Hp) (J : It) (ds : List D) : Prop where
  go : ∀ i H, Same Hs H → i < ds.length → J.go i H
  st : ∀ H, Same Hs H → J.stop ds.length H
  yl : ∀ (i : Nat) (H Hf1 H' : Hp) (x : V) (d : D), Same Hs H → Same Hf Hf1 → Same Hf1 H → ds[i]? = some d → J.yld i H x H' → ∃ Hf2, Grow Hf1 H Hf2 H' ∧ Rp K Hf2 x d
def PoI (K : Kw) (W : WE) (fz : Bool) (Q : It → Hp → Prop) (σ : L2.St) (Hf H : Hp) : R (List D) → Prop
  | .ok ds => ∀ J Hf' H', Grow Hf H Hf' H' → Wk K (if fz then Hf' else H') Hf' J ds → Q J H'
  | .ex c => ∀ Hf' H', Grow Hf H Hf' H' → W c σ H'
  | .bad => False
/-- what a loop walks: frozen (fz), or seen -/
def tI (K : Kw) (W : WE) (fz : Bool) (F : En → R (List D)) : TI := fun σ H Q => ∃ H0 Hf0 Hf e, SR K H0 Hf0 Hf H σ e ∧ PoI K W fz Q σ Hf H (F e)
section
variable {K : Kw} {W : WE} {σ : L2.St} {Hf H Hf' H' : Hp} {fz : Bool}
theorem PoI.grow {Q : It → Hp → Prop} {r : R (List D)} (p : PoI K W fz Q σ Hf H r) (g : Grow Hf H Hf' H') : PoI K W fz Q σ Hf' H' r := by
  cases r with
  | ok d => exact fun J Hf2 H2 g2 q => p J Hf2 H2 (g.trans g2) q
  | ex c => exact fun Hf2 H2 g2 => p Hf2 H2 (g.trans g2)
  | bad => exact p
theorem PoI.bind {Rel2 : Hp → Hp → V → D → Prop} {Q : It → Hp → Prop} {r : R D} {f : D → R (List D)} (p : PoI K W fz Q σ Hf H (r.bind f)) : Po Rel2 W (fun v H1 => ∃ Hf1 d, Grow Hf H Hf1 H1 ∧ Rel2 Hf1 H1 v d ∧ PoI K W fz Q σ Hf1 H1 (f d)) σ Hf H r := by
  cases r with
  | ok d => exact fun v Hf2 H2 g2 q => ⟨Hf2, d, g2, q, p.grow g2⟩
  | ex c => exact p
  | bad => exact p
theorem PoI.of_opt {Q : It → Hp → Prop} {o : Option (List D)} (p : PoI K W fz Q σ Hf H (opt o)) : ∃ ds, o = some ds ∧ ∀ J Hf' H', Grow Hf H Hf' H' → Wk K (if fz then Hf' else H') Hf' J ds → Q J H' := by
  cases o with
  | some d => exact ⟨d, rfl, p⟩
  | none => exact p.elim
end
/-! ### the walks -/
section
variable {K : Kw} {Hf H Hs : Hp}
theorem Wk.list {a : Addr} {xs : List V} {ds : List D} (h : SqL K Hs a xs) (r : RpAll K Hf xs ds) : Wk K Hs Hf (Itl K a) ds where
  go := fun i H s hi => by
    obtain ⟨x, hx, _⟩ := r.get (List.getElem?_eq_getElem hi)
    exact ⟨xs, x, s.seq h, hx⟩
  st := fun H s => ⟨xs, s.seq h, by rw [r.length]; exact Nat.le_refl _⟩
  yl := fun i H Hf1 H' x d s f1 f2 hd hy => by
    obtain ⟨e, y⟩ := hy
    subst e
    obtain ⟨v, hv, rv⟩ := r.get hd
    have : v = x := Option.some.inj (hv.symm.trans (y xs (s.seq h)))
    subst this
    exact ⟨Hf1, Grow.refl f2, rv.mono f1⟩
end
end Pu
/-! PuG: rules for what is walked; comprehensions -/
namespace Pu
open PySem L2
section
variable {K : Kw} {Hf H Hs : Hp}
theorem Wk.tuple {a : Addr} {xs : List V} {ds : List D} (h : SqT K Hs a xs) (r : RpAll K Hf xs ds) : Wk K Hs Hf (Itt K a) ds where
  go := fun i H s hi => by
    obtain ⟨x, hx, _⟩ := r.get (List.getElem?_eq_getElem hi)
    exact ⟨xs, x, Same.sqT s h, hx⟩
  st := fun H s => ⟨xs, Same.sqT s h, by rw [r.length]; exact Nat.le_refl _⟩
  yl := fun i H Hf1 H' x d s f1 f2 hd hy => by
    obtain ⟨e, y⟩ := hy
    subst e
    obtain ⟨v, hv, rv⟩ := r.get hd
    have : v = x := Option.some.inj (hv.symm.trans (y xs (Same.sqT s h)))
    subst this
    exact ⟨Hf1, Grow.refl f2, rv.mono f1⟩
def signD (c : Nat) : D := .str ⟨#[c]⟩
theorem Wk.str (z : Str) : Wk K Hs Hf (Its z) (z.cps.toList.map signD) where
  go := fun i H s hi => by
    rw [List.length_map, Array.length_toList] at hi
    exact hi
  st := fun H s => by
    show z.cps.size ≤ (z.cps.toList.map signD).length
    rw [List.length_map, Array.length_toList]
    exact Nat.le_refl _
  yl := fun i H Hf1 H' x d s f1 f2 hd hy => by
    obtain ⟨e, c, hc, rfl⟩ := hy
    subst e
    rw [List.getElem?_map, Array.getElem?_toList, hc] at hd
    cases hd
    exact ⟨Hf1, Grow.refl f2, .str _⟩
def rangeL (lo : Int) (n : Nat) : List D := (List.range n).map fun k : Nat => PyData.int (lo + (k : Int))
theorem Wk.range (lo : Int) (n : Nat) : Wk K Hs Hf (Itr lo n) (rangeL lo n) where
  go := fun i H s hi => by
    unfold rangeL at hi
    rw [List.length_map, List.length_range] at hi
    exact hi
  st := fun H s => by
    show n ≤ (rangeL lo n).length
    unfold rangeL
    rw [List.length_map, List.length_range]
    exact Nat.le_refl _
  yl := fun i H Hf1 H' x d s f1 f2 hd hy => by
    obtain ⟨e, rfl⟩ := hy
    subst e
    unfold rangeL at hd
    rw [List.getElem?_map] at hd
    cases q : (List.range n)[i]? with
    | none => rw [q] at hd; cases hd
    | some k =>
      rw [q] at hd
      cases hd
      have : k = i := by
        obtain ⟨h1, h2⟩ := List.getElem?_eq_some_iff.mp q
        rw [List.getElem_range] at h2
        exact h2.symm
      subst this
      exact ⟨Hf1, Grow.refl f2, .int _⟩
def rangeC (lo c : Int) (n : Nat) : List D := (List.range n).map fun k : Nat => PyData.int (lo + (k : Int) * c)
theorem Wk.rangeC (lo c : Int) (n : Nat) : Wk K Hs Hf (Itc lo c n) (rangeC lo c n) where
  go := fun i H s hi => by
    unfold Pu.rangeC at hi
    rw [List.length_map, List.length_range] at hi
    exact hi
  st := fun H s => by
    show n ≤ (Pu.rangeC lo c n).length
    unfold Pu.rangeC
    rw [List.length_map, List.length_range]
    exact Nat.le_refl _
  yl := fun i H Hf1 H' x d s f1 f2 hd hy => by
    obtain ⟨e, rfl⟩ := hy
    subst e
    unfold Pu.rangeC at hd
    rw [List.getElem?_map] at hd
    cases q : (List.range n)[i]? with
    | none => rw [q] at hd; cases hd
    | some k =>
      rw [q] at hd
      cases hd
      have : k = i := by
        obtain ⟨h1, h2⟩ := List.getElem?_eq_some_iff.mp q
        rw [List.getElem_range] at h2
        exact h2.symm
      subst this
      exact ⟨Hf1, Grow.refl f2, .int _⟩
def pairD (x y : D) : D := .tuple [x, y]
def enumL (ds : List D) : List D := ds.mapIdx fun i d => pairD (.int i) d
theorem enumL_get {ds : List D} {i : Nat} {d : D} (h : (enumL ds)[i]? = some d) : ∃ e, ds[i]? = some e ∧ d = pairD (.int i) e := by
  unfold enumL at h
  rw [List.getElem?_mapIdx] at h
  cases q : ds[i]? with
  | none => rw [q] at h; cases h
  | some e => rw [q] at h; cases h; exact ⟨e, rfl, rfl⟩
theorem grow_pair {x y : V} {dx dy : D} {T : Addr} {o : Obj} (f : Same Hf H) (hT : H T = none) (ho : o.dict = none) (rx : Rp K Hf x dx) (ry : Rp K Hf y dy) : Grow Hf H (upd Hf T (.frz o (.tup [x, y]))) (upd H T (.frz o (.tup [x, y]))) ∧ Rp K (upd Hf T (.frz o (.tup [x, y]))) (.ref T) (pairD dx dy) :=
  Rp.new f hT ho (.cons rx (.cons ry .nil))
theorem Wk.enumL {a : Addr} {xs : List V} {ds : List D} (h : SqL K Hs a xs) (r : RpAll K Hf xs ds) : Wk K Hs Hf (IteL K a) (enumL ds) where
  go := fun i H s hi => by
    unfold Pu.enumL at hi
    rw [List.length_mapIdx] at hi
    obtain ⟨x, hx, _⟩ := r.get (List.getElem?_eq_getElem hi)
    exact ⟨xs, x, s.seq h, hx⟩
  st := fun H s => ⟨xs, s.seq h, by unfold Pu.enumL; rw [List.length_mapIdx, r.length]⟩
  yl := fun i H Hf1 H' x d s f1 f2 hd hy => by
    obtain ⟨T, y, ob, rfl, nT, ho, rfl, fy⟩ := hy
    obtain ⟨e, he, rfl⟩ := enumL_get hd
    obtain ⟨v, hv, rv⟩ := r.get he
    have : v = y := Option.some.inj (hv.symm.trans (fy xs (s.seq h)))
    subst this
    exact ⟨_, grow_pair f2 nT ho (.int _) (rv.mono f1)⟩
theorem Wk.enumT {a : Addr} {xs : List V} {ds : List D} (h : SqT K Hs a xs) (r : RpAll K Hf xs ds) : Wk K Hs Hf (IteT K a) (Pu.enumL ds) where
  go := fun i H s hi => by
    unfold Pu.enumL at hi
    rw [List.length_mapIdx] at hi
    obtain ⟨x, hx, _⟩ := r.get (List.getElem?_eq_getElem hi)
    exact ⟨xs, x, Same.sqT s h, hx⟩
  st := fun H s => ⟨xs, Same.sqT s h, by unfold Pu.enumL; rw [List.length_mapIdx, r.length]⟩
  yl := fun i H Hf1 H' x d s f1 f2 hd hy => by
    obtain ⟨T, y, ob, rfl, nT, ho, rfl, fy⟩ := hy
    obtain ⟨e, he, rfl⟩ := enumL_get hd
    obtain ⟨v, hv, rv⟩ := r.get he
    have : v = y := Option.some.inj (hv.symm.trans (fy xs (Same.sqT s h)))
    subst this
    exact ⟨_, grow_pair f2 nT ho (.int _) (rv.mono f1)⟩
def zipL (ds es : List D) : List D := List.zipWith pairD ds es
theorem zipL_get {ds es : List D} {i : Nat} {d : D} (h : (zipL ds es)[i]? = some d) : ∃ e f, ds[i]? = some e ∧ es[i]? = some f ∧ d = pairD e f := by
  unfold zipL at h
  rw [List.getElem?_zipWith] at h
  cases q : ds[i]? with
  | none => rw [q] at h; cases h
  | some e =>
    cases q2 : es[i]? with
    | none => rw [q, q2] at h; cases h
    | some f => rw [q, q2] at h; cases h; exact ⟨e, f, rfl, rfl, rfl⟩
theorem Wk.zipL {a b : Addr} {xs ys : List V} {ds es : List D} (h : SqL K Hs a xs) (h2 : SqL K Hs b ys) (r : RpAll K Hf xs ds) (r2 : RpAll K Hf ys es) : Wk K Hs Hf (ItzL K a b) (zipL ds es) where
  go := fun i H s hi => by
    unfold Pu.zipL at hi
    rw [List.length_zipWith] at hi
    obtain ⟨x, hx, _⟩ := r.get (List.getElem?_eq_getElem (show i < ds.length by omega))
    obtain ⟨y, hy, _⟩ := r2.get (List.getElem?_eq_getElem (show i < es.length by omega))
    exact ⟨xs, ys, x, y, s.seq h, s.seq h2, hx, hy⟩
  st := fun H s => ⟨xs, ys, s.seq h, s.seq h2, by unfold Pu.zipL; rw [List.length_zipWith, r.length, r2.length]⟩
  yl := fun i H Hf1 H' x d s f1 f2 hd hy => by
    obtain ⟨T, y, z, ob, rfl, nT, ho, rfl, fy, fz⟩ := hy
    obtain ⟨e, f, he, hf, rfl⟩ := zipL_get hd
    obtain ⟨v, hv, rv⟩ := r.get he
    obtain ⟨u, hu, ru⟩ := r2.get hf
    have : v = y := Option.some.inj (hv.symm.trans (fy xs (s.seq h)))
    subst this
    have : u = z := Option.some.inj (hu.symm.trans (fz ys (s.seq h2)))
    subst this
    exact ⟨_, grow_pair f2 nT ho (rv.mono f1) (ru.mono f1)⟩
theorem Wk.zipT {a b : Addr} {xs ys : List V} {ds es : List D} (h : SqT K Hs a xs) (h2 : SqT K Hs b ys) (r : RpAll K Hf xs ds) (r2 : RpAll K Hf ys es) : Wk K Hs Hf (ItzF K a b) (Pu.zipL ds es) where
  go := fun i H s hi => by
    unfold Pu.zipL at hi
    rw [List.length_zipWith] at hi
    obtain ⟨x, hx, _⟩ := r.get (List.getElem?_eq_getElem (show i < ds.length by omega))
    obtain ⟨y, hy, _⟩ := r2.get (List.getElem?_eq_getElem (show i < es.length by omega))
    exact ⟨xs, ys, x, y, Same.sqT s h, Same.sqT s h2, hx, hy⟩
  st := fun H s => ⟨xs, ys, Same.sqT s h, Same.sqT s h2, by unfold Pu.zipL; rw [List.length_zipWith, r.length, r2.length]⟩
  yl := fun i H Hf1 H' x d s f1 f2 hd hy => by
    obtain ⟨T, y, z, ob, rfl, nT, ho, rfl, fy, fz⟩ := hy
    obtain ⟨e, f, he, hf, rfl⟩ := zipL_get hd
    obtain ⟨v, hv, rv⟩ := r.get he
    obtain ⟨u, hu, ru⟩ := r2.get hf
    have : v = y := Option.some.inj (hv.symm.trans (fy xs (Same.sqT s h)))
    subst this
    have : u = z := Option.some.inj (hu.symm.trans (fz ys (Same.sqT s h2)))
    subst this
    exact ⟨_, grow_pair f2 nT ho (rv.mono f1) (ru.mono f1)⟩
end
section
variable {X : Cx} {W : WE} {a b c tg : Expr} {F G Fc : En → R D} {pos p : Pos}
def seqD : D → Option (List D)
  | .list ds => some ds
  | .tuple ds => some ds
  | .str z => some (z.cps.toList.map signD)
  | _ => none
def iseq (F : En → R D) : En → R (List D) := fun e => (F e).bind fun d => opt (seqD d)
/-- a frozen list, tuple or text -/
theorem iSeqF (h : PE X a (tE (X.kw ea) W F)) : PI X tg a (tI (X.kw ea) W true (iseq F)) :=
  PI_weak (pi_seq h) fun σ H Q ⟨H0, Hf0, Hf, e, S, p⟩ => ⟨H0, Hf0, Hf, e, S, p.bind.mono fun x H1 ⟨Hf1, d, g, r, p1⟩ => by
    obtain ⟨ds, ez, q⟩ := p1.of_opt
    cases r with
    | lst hl ra => cases ez; exact .inl ⟨_, _, rfl, SqL.of (g.fh _ _ hl), q _ Hf1 H1 (Grow.refl g.fh) (Wk.list (SqL.of hl) ra)⟩
    | tup hl ra => cases ez; exact .inr (.inl ⟨_, _, rfl, (hl.mono g.fh).sq, q _ Hf1 H1 (Grow.refl g.fh) (Wk.tuple hl.sq ra)⟩)
    | str z => cases ez; exact .inr (.inr ⟨z, rfl, q _ Hf1 H1 (Grow.refl g.fh) (Wk.str z)⟩)
    | _ => cases ez⟩
/-- .. seen -/
theorem iSeqV (h : PE X a (tV (X.kw ea) W F)) : PI X tg a (tI (X.kw ea) W false (iseq F)) :=
  PI_weak (pi_seq h) fun σ H Q ⟨H0, Hf0, Hf, e, S, p⟩ => ⟨H0, Hf0, Hf, e, S, p.bind.mono fun x H1 ⟨Hf1, d, g, r, p1⟩ => by
    obtain ⟨ds, ez, q⟩ := p1.of_opt
    cases d with
    | list es =>
      cases ez
      obtain ⟨b, xs, rfl, hl, ra⟩ := r.list g.fh
      exact .inl ⟨_, _, rfl, SqL.of hl, q _ Hf1 H1 (Grow.refl g.fh) (Wk.list (SqL.of hl) ra)⟩
    | tuple es =>
      cases ez
      obtain ⟨b, xs, rfl, hl, ra⟩ := r.tuple g.fh
      exact .inr (.inl ⟨_, _, rfl, hl.sq, q _ Hf1 H1 (Grow.refl g.fh) (Wk.tuple (hl.sq) ra)⟩)
    | str z =>
      cases ez
      rw [r.str]
      exact .inr (.inr ⟨z, rfl, q _ Hf1 H1 (Grow.refl g.fh) (Wk.str z)⟩)
    | _ => cases ez⟩
def in62 (i : Int) : Bool := decide (-(2 ^ 62) ≤ i) && decide (i < 2 ^ 62)
theorem in62_of {i : Int} (h : in62 i = true) : -(2 ^ 62) ≤ i ∧ i < 2 ^ 62 := by
  unfold in62 at h
  rw [Bool.and_eq_true] at h
  exact ⟨of_decide_eq_true h.1, of_decide_eq_true h.2⟩
def rng1 : D → Option (List D)
  | .int j => if in62 j then some (rangeL 0 j.toNat) else none
  | _ => none
def rng2 : D → D → Option (List D)
  | .int i, .int j => if in62 i && in62 j then some (rangeL i (j - i).toNat) else none
  | _, _ => none
def irng1 (F : En → R D) : En → R (List D) := fun e => (F e).bind fun d => opt (rng1 d)
def irng2 (F G : En → R D) : En → R (List D) := fun e => (F e).bind fun d => (G e).bind fun d' => opt (rng2 d d')
theorem iRange1 {fz : Bool} (hg : Gl X "range") (hm : X.mg "range" = none) (ha : PE X a (tE (X.kw ea) W F)) (hs : starEach [a] X.env = [(false, eval a X.env)] := by rfl) : PI X tg (.Call (.Name "range" p) [a] [] pos) (tI (X.kw ea) W fz (irng1 F)) :=
  PI_weak (pi_range1 hg hm (pa_cons ha pa_nil hs) hs) fun σ H Q ⟨H0, Hf0, Hf, e, S, p⟩ => ⟨H0, Hf0, Hf, e, S, p.bind.mono fun x H1 ⟨Hf1, d, g, r, p1⟩ => by
    obtain ⟨ds, ez, q⟩ := p1.of_opt
    cases r with
    | int j =>
      have ez' : (if in62 j then some (rangeL 0 j.toNat) else none) = some ds := ez
      split at ez'
      · rename_i hj
        cases ez'
        exact ⟨j, rfl, (in62_of hj).1, (in62_of hj).2, q _ Hf1 H1 (Grow.refl g.fh) (Wk.range 0 _)⟩
      · cases ez'
    | _ => cases ez⟩
theorem iRange2 {fz : Bool} (hg : Gl X "range") (hm : X.mg "range" = none) (ha : PE X a (tE (X.kw ea) W F)) (hb : PE X b (tE (X.kw ea) W G)) (hs : starEach [a, b] X.env = [(false, eval a X.env), (false, eval b X.env)] := by rfl) (hs2 : starEach [b] X.env = [(false, eval b X.env)] := by rfl) :
    PI X tg (.Call (.Name "range" p) [a, b] [] pos) (tI (X.kw ea) W fz (irng2 F G)) :=
  PI_weak (pi_range2 hg hm (pa_cons ha (pa_cons hb pa_nil hs2) (hs.trans (by rw [hs2]))) hs hs2) fun σ H Q ⟨H0, Hf0, Hf, e, S, p⟩ => ⟨H0, Hf0, Hf, e, S, p.bind.mono fun x H1 ⟨Hf1, d, g, r, p1⟩ => ⟨H0, Hf0, Hf1, e, S.grow g, p1.bind.mono fun y H2 ⟨Hf2, d', g2, r2, p2⟩ => by
    obtain ⟨ds, ez, q⟩ := p2.of_opt
    cases r with
    | int i =>
      cases r2 with
      | int j =>
        have ez' : (if in62 i && in62 j then some (rangeL i (j - i).toNat) else none) = some ds := ez
        split at ez'
        · rename_i hj
          cases ez'
          rw [Bool.and_eq_true] at hj
          exact ⟨i, j, rfl, ⟨(in62_of hj.1).1, (in62_of hj.1).2, (in62_of hj.2).1, (in62_of hj.2).2⟩, q _ Hf2 H2 (Grow.refl g2.fh) (Wk.range i _)⟩
        · cases ez'
      | _ => cases ez
    | _ => cases ez⟩⟩
def ienum (F : En → R D) : En → R (List D) := fun e => (F e).bind fun d => opt ((listN d).map enumL)
theorem iEnumF {elts : List Expr} {kk : Nat} {tpos : Pos} (hg : Gl X "enumerate") (hm : X.mg "enumerate" = none) (ha : PE X a (tE (X.kw ea) W F)) (hs : starEach [a] X.env = [(false, eval a X.env)] := by rfl) : PI X (.Tuple elts kk tpos) (.Call (.Name "enumerate" p) [a] [] pos) (tI (X.kw ea) W true (ienum F)) :=
  PI_weak (pi_enumA hg hm (pa_cons ha pa_nil hs) hs) fun σ H Q ⟨H0, Hf0, Hf, e, S, p⟩ => ⟨H0, Hf0, Hf, e, S, p.bind.mono fun x H1 ⟨Hf1, d, g, r, p1⟩ => by
    obtain ⟨ds, ez, q⟩ := p1.of_opt
    cases r with
    | lst hl ra => cases ez; exact ⟨_, _, rfl, .inl ⟨SqL.of (g.fh _ _ hl), q _ Hf1 H1 (Grow.refl g.fh) (Wk.enumL (SqL.of hl) ra)⟩⟩
    | tup hl ra => cases ez; exact ⟨_, _, rfl, .inr ⟨(hl.mono g.fh).sq, q _ Hf1 H1 (Grow.refl g.fh) (Wk.enumT hl.sq ra)⟩⟩
    | _ => cases ez⟩
theorem iEnumV {elts : List Expr} {kk : Nat} {tpos : Pos} (hg : Gl X "enumerate") (hm : X.mg "enumerate" = none) (ha : PE X a (tV (X.kw ea) W F)) (hs : starEach [a] X.env = [(false, eval a X.env)] := by rfl) : PI X (.Tuple elts kk tpos) (.Call (.Name "enumerate" p) [a] [] pos) (tI (X.kw ea) W false (ienum F)) :=
  PI_weak (pi_enumA hg hm (pa_cons ha pa_nil hs) hs) fun σ H Q ⟨H0, Hf0, Hf, e, S, p⟩ => ⟨H0, Hf0, Hf, e, S, p.bind.mono fun x H1 ⟨Hf1, d, g, r, p1⟩ => by
    obtain ⟨ds, ez, q⟩ := p1.of_opt
    cases d with
    | list es =>
      cases ez
      obtain ⟨b, xs, rfl, hl, ra⟩ := r.list g.fh
      exact ⟨_, _, rfl, .inl ⟨SqL.of hl, q _ Hf1 H1 (Grow.refl g.fh) (Wk.enumL (SqL.of hl) ra)⟩⟩
    | tuple es =>
      cases ez
      obtain ⟨b, xs, rfl, hl, ra⟩ := r.tuple g.fh
      exact ⟨_, _, rfl, .inr ⟨hl.sq, q _ Hf1 H1 (Grow.refl g.fh) (Wk.enumT (hl.sq) ra)⟩⟩
    | _ => cases ez⟩
def zipD : D → D → Option (List D)
  | .list ds, .list es => some (zipL ds es)
  | .tuple ds, .tuple es => some (zipL ds es)
  | _, _ => none
def izip (F G : En → R D) : En → R (List D) := fun e => (F e).bind fun d => (G e).bind fun d' => opt (zipD d d')
/-- zip(a, b), both lists or both tuples, seen -/
theorem iZipV {elts : List Expr} {kk : Nat} {tpos : Pos} (hg : Gl X "zip") (hm : X.mg "zip" = none) (ha : PE X a (tV (X.kw ea) W F)) (hb : PE X b (tV (X.kw ea) W G))
    (hs : starEach [a, b] X.env = (false, eval a X.env) :: starEach [b] X.env := by rfl) (hs2 : starEach [b] X.env = [(false, eval b X.env)] := by rfl) : PI X (.Tuple elts kk tpos) (.Call (.Name "zip" p) [a, b] [] pos) (tI (X.kw ea) W false (izip F G)) :=
  PI_weak (pi_zipF hg hm (pa_cons ha (pa_cons hb pa_nil hs2) hs) hs (by rw [hs2]; rfl)) fun σ H Q ⟨H0, Hf0, Hf, e, S, p⟩ => ⟨H0, Hf0, Hf, e, S, p.bind.mono fun x H1 ⟨Hf1, d, g, r, p1⟩ => ⟨H0, Hf0, Hf1, e, S.grow g, p1.bind.mono fun y H2 ⟨Hf2, d', g2, r2, p2⟩ => by
    obtain ⟨ds, ez, q⟩ := p2.of_opt
    have r' := r.mono g2
    cases d with
    | list es =>
      cases d' with
      | list es' =>
        cases ez
        obtain ⟨b, xs, rfl, hl, ra⟩ := r'.list g2.fh
        obtain ⟨b', xs', rfl, hl', ra'⟩ := r2.list g2.fh
        exact ⟨_, _, _, _, rfl, .inl ⟨SqL.of hl, SqL.of hl', q _ Hf2 H2 (Grow.refl g2.fh) (Wk.zipL (SqL.of hl) (SqL.of hl') ra ra')⟩⟩
      | _ => cases ez
    | tuple es =>
      cases d' with
      | tuple es' =>
        cases ez
        obtain ⟨b, xs, rfl, hl, ra⟩ := r'.tuple g2.fh
        obtain ⟨b', xs', rfl, hl', ra'⟩ := r2.tuple g2.fh
        exact ⟨_, _, _, _, rfl, .inr ⟨hl.sq, hl'.sq, q _ Hf2 H2 (Grow.refl g2.fh) (Wk.zipT hl.sq hl'.sq ra ra')⟩⟩
      | _ => cases ez
    | _ => cases ez⟩⟩
/-- what a frozen walk is seen as -/
theorem i2v {L : En → R (List D)} (h : PI X tg a (tI (X.kw ea) W true L)) : PI X tg a (tI (X.kw ea) W false L) := PI_weak h fun σ H Q ⟨H0, Hf0, Hf, e, S, p⟩ => ⟨H0, Hf0, Hf, e, S, by
  revert p
  cases L e with
  | ok ds => exact fun p J Hf' H' g w => p J Hf' H' g ⟨fun i H1 s hi => w.go i H1 (g.fh.trans s) hi, fun H1 s => w.st H1 (g.fh.trans s), fun i H1 Hf1 H2 x d s f1 f2 hd hy => w.yl i H1 Hf1 H2 x d (g.fh.trans s) f1 f2 hd hy⟩
  | ex c => exact fun p => p
  | bad => exact fun p => p⟩
end
end Pu
/-! PuH: targets, comprehensions -/
namespace Pu
open PySem L2
/-! ### targets -/
abbrev Tg := D → En → Option En
/-- a target: the slots is take the data -/
def tG (K : Kw) (is : List Nat) (f : Tg) : TG := fun v σ H Q => ∃ H0 Hf0 Hf e d e', SR K H0 Hf0 Hf H σ e ∧ Rp K Hf v d ∧ f d e = some e' ∧
  ∀ σ', σ'.length = σ.length → (∀ j, j ∉ is → σ'[j]? = σ[j]?) → SR K H0 Hf0 Hf H σ' e' → Q σ' H
def tGs (K : Kw) (is : List Nat) (f : List D → En → Option En) : TGs := fun vs σ H Q => ∃ H0 Hf0 Hf e ds e', SR K H0 Hf0 Hf H σ e ∧ RpAll K Hf vs ds ∧ f ds e = some e' ∧
  ∀ σ', σ'.length = σ.length → (∀ j, j ∉ is → σ'[j]? = σ[j]?) → SR K H0 Hf0 Hf H σ' e' → Q σ' H
def gn (i : Nat) : Tg := fun d e => some (e.set i (.dat d))
def gnil : List D → En → Option En
  | [], e => some e
  | _, _ => none
def gcons (f : Tg) (g : List D → En → Option En) : List D → En → Option En
  | d :: ds, e => (f d e).bind (g ds)
  | [], _ => none
def gtup (g : List D → En → Option En) : Tg := fun d e => match d with
  | .tuple ds => g ds e
  | _ => none
theorem PGs_weak {X : Cx} {e : List Expr} {t t' : TGs} (h : PGs X e t) (k : ∀ v σ H Q, t' v σ H Q → t v σ H Q) : PGs X e t' :=
  ⟨fun pins s σ H v u Q I r q => h.run pins s σ H v u Q I r (k v σ H Q q)⟩
section
variable {X : Cx} {pos : Pos}
theorem gName' {i : Nat} {x : Str} (h : PG X (.Name x pos) (gName i)) : PG X (.Name x pos) (tG (X.kw ea) [i] (gn i)) :=
  PG_weak h fun v σ H Q ⟨H0, Hf0, Hf, e, d, e', S, r, he, q⟩ => by
    cases he
    exact q _ (List.length_set ..) (fun j hj => List.getElem?_set_ne (fun z => hj (by simp [z]))) (S.dat i r)
theorem gNil' : PGs X [] (tGs (X.kw ea) [] gnil) := PGs_weak pgs_nil fun v σ H Q ⟨H0, Hf0, Hf, e, ds, e', S, r, he, q⟩ => by
  cases r with
  | nil => cases he; exact ⟨rfl, q _ rfl (fun _ _ => rfl) S⟩
  | cons _ _ => cases he
theorem gCons' {a : Expr} {as : List Expr} {is js : List Nat} {f : Tg} {g : List D → En → Option En} (h1 : PG X a (tG (X.kw ea) is f)) (h2 : PGs X as (tGs (X.kw ea) js g))
    (hs : PGs X (a :: as) (gCons (tG (X.kw ea) is f) (tGs (X.kw ea) js g))) : PGs X (a :: as) (tGs (X.kw ea) (is ++ js) (gcons f g)) :=
  PGs_weak hs fun v σ H Q ⟨H0, Hf0, Hf, e, ds, e', S, r, he, q⟩ => by
    cases r with
    | nil => cases he
    | @cons v vs d ds rv rs =>
      have he' : (f d e).bind (g ds) = some e' := he
      cases h : f d e with
      | none => rw [h] at he'; cases he'
      | some e1 =>
        rw [h] at he'
        refine ⟨v, vs, rfl, H0, Hf0, Hf, e, d, e1, S, rv, h, fun σ1 l1 o1 S1 => ⟨H0, Hf0, Hf, e1, ds, e', S1, rs, he', fun σ2 l2 o2 S2 => q σ2 (l2.trans l1) (fun j hj => ?_) S2⟩⟩
        rw [o2 j (fun z => hj (by simp [z])), o1 j (fun z => hj (by simp [z]))]
theorem gTup' {es : List Expr} {k n : Nat} {is : List Nat} {g : List D → En → Option En} (hl : ∀ ds e e', g ds e = some e' → ds.length = n) (h : PG X (.Tuple es k pos) (gTup (X.kw ea) n (tGs (X.kw ea) is g))) : PG X (.Tuple es k pos) (tG (X.kw ea) is (gtup g)) :=
  PG_weak h fun v σ H Q ⟨H0, Hf0, Hf, e, d, e', S, r, he, q⟩ => by
    cases r with
    | tup ht ra =>
      exact ⟨_, _, rfl, (ht.mono S.gr.fh).sq, by rw [ra.length]; exact hl _ _ _ he, H0, Hf0, Hf, e, _, e', S, ra, he, q⟩
    | _ => cases he
end
theorem gnil_len : ∀ ds e e', gnil ds e = some e' → ds.length = 0 := fun ds e e' h => by
  cases ds with
  | nil => rfl
  | cons d ds => cases h
theorem gcons_len {f : Tg} {g : List D → En → Option En} {n : Nat} (h : ∀ ds e e', g ds e = some e' → ds.length = n) : ∀ ds e e', gcons f g ds e = some e' → ds.length = n + 1 := fun ds e e' he => by
  cases ds with
  | nil => cases he
  | cons d ds =>
    have he' : (f d e).bind (g ds) = some e' := he
    cases hf : f d e with
    | none => rw [hf] at he'; cases he'
    | some e1 => rw [hf] at he'; rw [List.length_cons, h ds e1 e' he']
/-! ### comprehensions -/
def wipeE (e : En) : List Nat → En
  | [] => e
  | v :: vs => (wipeE e vs).set v .un
theorem SR.wipe {K : Kw} {H0 Hf0 Hf H : Hp} {σ : L2.St} {e : En} (S : SR K H0 Hf0 Hf H σ e) : ∀ vs : List Nat, SR K H0 Hf0 Hf H (L2.wipe σ vs) (wipeE e vs)
  | [] => S
  | v :: vs => (SR.wipe S vs).put v none .un trivial fun o => by cases o
def lcL (f : Tg) (T : En → R Bool) (E : En → R D) (e : En) : List D → R (List D)
  | [] => .ok []
  | d :: ds => (opt (f d e)).bind fun e1 => (T e1).bind fun b => if b = true then (E e1).bind fun x => (lcL f T E e ds).bind fun xs => .ok (x :: xs) else lcL f T E e ds
def noEx {α : Type} : R α → R α
  | .ok a => .ok a
  | _ => .bad
def xlc (vs : List Nat) (L : En → R (List D)) (f : Tg) (T : En → R Bool) (E : En → R D) : En → R (List D) := fun e => (L e).bind fun ds => if ds.length ≤ many then noEx (lcL f T E (wipeE e vs) ds) else .bad
def W0 : WE := fun _ _ _ => False
def tyes : En → R Bool := fun _ => .ok true
theorem lcL_len (f : Tg) (T : En → R Bool) (E : En → R D) (e : En) : ∀ (ds : List D) (xs : List D), lcL f T E e ds = .ok xs → xs.length ≤ ds.length
  | [], xs, h => by cases h; exact Nat.le_refl _
  | d :: ds, xs, h => by
    unfold lcL at h
    cases h1 : f d e with
    | none => rw [h1] at h; cases h
    | some e1 =>
      rw [h1] at h
      have h : ((T e1).bind fun b => if b = true then (E e1).bind fun x => (lcL f T E e ds).bind fun xs => .ok (x :: xs) else lcL f T E e ds) = .ok xs := h
      cases h2 : T e1 with
      | ex c => rw [h2] at h; cases h
      | bad => rw [h2] at h; cases h
      | ok b =>
        rw [h2] at h
        have h : (if b = true then (E e1).bind fun x => (lcL f T E e ds).bind fun xs => .ok (x :: xs) else lcL f T E e ds) = .ok xs := h
        cases b with
        | false =>
          rw [if_neg Bool.false_ne_true] at h
          exact Nat.le_succ_of_le (lcL_len f T E e ds xs h)
        | true =>
          rw [if_pos rfl] at h
          cases h3 : E e1 with
          | ex c => rw [h3] at h; cases h
          | bad => rw [h3] at h; cases h
          | ok x =>
            rw [h3] at h
            have h : ((lcL f T E e ds).bind fun xs => .ok (x :: xs)) = .ok xs := h
            cases h4 : lcL f T E e ds with
            | ex c => rw [h4] at h; cases h
            | bad => rw [h4] at h; cases h
            | ok ys =>
              rw [h4] at h
              cases h
              have := lcL_len f T E e ds ys h4
              rw [List.length_cons, List.length_cons]
              omega
theorem wipe_eq {σ σ2 : L2.St} {vs is : List Nat} (hl : σ2.length = (wipe σ vs).length) (ho : ∀ j, j ∉ is → σ2[j]? = (wipe σ vs)[j]?) (hs : ∀ i ∈ is, i ∈ vs) : wipe σ2 vs = wipe σ vs := by
  apply List.ext_getElem?
  intro j
  by_cases hj : j ∈ vs
  · have at_ : ∀ (τ : L2.St) (us : List Nat), j ∈ us → j < τ.length → (wipe τ us)[j]? = some none := by
      intro τ us
      induction us with
      | nil => intro h; cases h
      | cons u us ih =>
        intro h hlt
        unfold wipe
        by_cases z : u = j
        · subst z
          exact List.getElem?_set_self (by rw [wipe_length]; exact hlt)
        · rw [List.getElem?_set_ne z]
          rcases List.mem_cons.mp h with rfl | h
          · exact absurd rfl z
          · exact ih h hlt
    by_cases hlt : j < σ2.length
    · rw [at_ σ2 vs hj hlt, at_ σ vs hj (by rw [hl, wipe_length] at hlt; exact hlt)]
    · rw [List.getElem?_eq_none (by rw [wipe_length]; omega), List.getElem?_eq_none (by rw [← hl]; omega)]
  · rw [wipe_out hj]
    exact ho j (fun z => hj (hs j z))
section
variable {K : Kw} {W : WE} {vs is : List Nat} {L : En → R (List D)} {f : Tg} {T : En → R Bool} {E : En → R D}
theorem tLc_of (hs : ∀ i ∈ is, i ∈ vs) {σ : L2.St} {H : Hp} {Q : VK} (h : tN K W (xlc vs L f T E) σ H Q) : tLc (tI K W false L) (tG K is f) (tT K W0 T) (tE K W0 E) vs σ H Q := by
  obtain ⟨H0, Hf0, Hf, e, S, p⟩ := h
  refine ⟨H0, Hf0, Hf, e, S, ?_⟩
  unfold xlc at p
  revert p
  cases L e with
  | ex c => exact fun p => p
  | bad => exact fun p => p
  | ok ds =>
    intro p J Hf1 H1 g w D hD
    have p1 := p.grow g
    have p1 : PoN K W Q σ Hf1 H1 (if ds.length ≤ many then noEx (lcL f T E (wipeE e vs) ds) else .bad) := p1
    by_cases hm : ds.length ≤ many
    · rw [if_pos hm] at p1
      cases ht : lcL f T E (wipeE e vs) ds with
      | ex c => rw [ht] at p1; exact p1.elim
      | bad => rw [ht] at p1; exact p1.elim
      | ok total =>
        rw [ht] at p1
        have S1 := S.grow g
        refine ⟨fun i m H2 => m = ds.length - i ∧ i ≤ ds.length ∧ ∃ Hf2 acc out rest, Grow Hf1 H1 Hf2 H2 ∧ Hf2 D = none ∧ H2 D = some (.lst acc) ∧ RpAll K Hf2 acc out ∧ out.length ≤ i ∧ lcL f T E (wipeE e vs) (ds.drop i) = .ok rest ∧ out ++ rest = total,
          ⟨ds.length, rfl, Nat.zero_le _, Hf1, [], [], total, Grow.lay g.fh hD, g.fh.free hD, upd_same, .nil, Nat.le_refl _, ht, rfl⟩, ?_⟩
        rintro i m H2 ⟨rfl, hi, Hf2, acc, out, rest, g2, nD, hacc, ra, hlo, hrest, htot⟩
        by_cases hlt : i < ds.length
        · have hdr : ds.drop i = ds[i] :: ds.drop (i + 1) := List.drop_eq_getElem_cons hlt
          rw [hdr] at hrest
          unfold lcL at hrest
          refine .inr ⟨w.go i H2 g2.hh hlt, fun H3 => ∃ Hf3 acc out rest, Grow Hf1 H1 Hf3 H3 ∧ Hf3 D = none ∧ H3 D = some (.lst acc) ∧ RpAll K Hf3 acc out ∧ out.length ≤ i + 1 ∧ lcL f T E (wipeE e vs) (ds.drop (i + 1)) = .ok rest ∧ out ++ rest = total,
            fun H3 n3 => ⟨ds.length - (i + 1), by omega, rfl, hlt, n3⟩, fun x H3 hy => ?_⟩
          obtain ⟨Hf3, g3, rx⟩ := w.yl i H2 Hf2 H3 x ds[i] g2.hh g2.ff g2.fh (List.getElem?_eq_getElem hlt) hy
          cases h1 : f ds[i] (wipeE e vs) with
          | none => rw [h1] at hrest; cases hrest
          | some e1 =>
            rw [h1] at hrest
            have hrest : ((T e1).bind fun b => if b = true then (E e1).bind fun x => (lcL f T E (wipeE e vs) (ds.drop (i + 1))).bind fun xs => .ok (x :: xs) else lcL f T E (wipeE e vs) (ds.drop (i + 1))) = .ok rest := hrest
            have g13 := g2.trans g3
            have S3 := (S1.wipe vs).grow g13
            refine ⟨H0, Hf0, Hf3, wipeE e vs, ds[i], e1, S3, rx, h1, fun σ2 l2 o2 S4 => ⟨wipe_eq l2 o2 hs, H0, Hf0, Hf3, e1, S4, ?_⟩⟩
            cases h2 : T e1 with
            | ex c => rw [h2] at hrest; cases hrest
            | bad => rw [h2] at hrest; cases hrest
            | ok b =>
              rw [h2] at hrest
              have hrest : (if b = true then (E e1).bind fun x => (lcL f T E (wipeE e vs) (ds.drop (i + 1))).bind fun xs => .ok (x :: xs) else lcL f T E (wipeE e vs) (ds.drop (i + 1))) = .ok rest := hrest
              intro Hf4 H4 g4
              have g14 := g13.trans g4
              have hD4 : H4 D = some (.lst acc) := g4.hh _ _ (g3.hh _ _ hacc)
              have nD4 : Hf4 D = none := g4.nf _ _ (g3.hh _ _ hacc) rfl (g3.nf _ _ hacc rfl nD)
              have ra4 := (ra.mono g3.ff).mono g4.ff
              cases b with
              | false =>
                rw [if_neg Bool.false_ne_true] at hrest ⊢
                exact ⟨Hf4, acc, out, rest, g14, nD4, hD4, ra4, by omega, hrest, htot⟩
              | true =>
                rw [if_pos rfl] at hrest ⊢
                refine ⟨H0, Hf0, Hf4, e1, S4.grow g4, ?_⟩
                cases h3 : E e1 with
                | ex c => rw [h3] at hrest; cases hrest
                | bad => rw [h3] at hrest; cases hrest
                | ok y =>
                  rw [h3] at hrest
                  have hrest : ((lcL f T E (wipeE e vs) (ds.drop (i + 1))).bind fun xs => .ok (y :: xs)) = .ok rest := hrest
                  cases h4 : lcL f T E (wipeE e vs) (ds.drop (i + 1)) with
                  | ex c => rw [h4] at hrest; cases hrest
                  | bad => rw [h4] at hrest; cases hrest
                  | ok ys =>
                    rw [h4] at hrest
                    cases hrest
                    intro v Hf5 H5 g5 rv
                    have hD5 := g5.hh _ _ hD4
                    have nD5 := g5.nf _ _ hD4 rfl nD4
                    refine ⟨acc, hD5, many_lt (by rw [ra.length]; omega), Hf5, acc ++ [v], out ++ [y], ys, ⟨Same.upd (g14.trans g5).hh hD, (g14.trans g5).ff, Same.upd g5.fh nD5, (g14.trans g5).nf⟩, nD5, upd_same, (ra4.mono g5.ff).snoc rv, ?_, rfl, ?_⟩
                    · rw [List.length_append, List.length_singleton]; omega
                    · rw [List.append_assoc]; exact htot
        · have hi' : i = ds.length := by omega
          subst hi'
          rw [List.drop_length] at hrest
          cases hrest
          rw [List.append_nil] at htot
          subst htot
          exact .inl ⟨w.st H2 g2.hh, p1 D acc Hf2 H2 g2 hD nD hacc ra⟩
    · rw [if_neg hm] at p1
      exact p1.elim
end
section
variable {X : Cx} {W : WE} {pos : Pos}
theorem tsNil : PTs X [] (tT (X.kw ea) W tyes) := PTs_weak pts_nil fun σ H Q ⟨H0, Hf0, Hf, e, S, p⟩ => p Hf H (Grow.refl S.gr.fh)
theorem tsOne {c : Expr} {T : En → R Bool} (h : PT X c (tT (X.kw ea) W T)) : PTs X [c] (tT (X.kw ea) W T) := pts_one h
theorem xLc {elt tg iter : Expr} {ifs : List Expr} {scope : Scope} {own : List (Str × Nat)} {is : List Nat} {L : En → R (List D)} {f : Tg} {T : En → R Bool} {E : En → R D}
    (hc : X.calm = true) (hN : X.N.Nodup) (hi : PI X tg iter (tI (X.kw ea) W false L)) (ok : BlkOk X.N X.env.scope scope own) (his : ∀ i ∈ is, i ∈ own.map (·.2))
    (hg : ∀ (s : Shared) (H : Hp) (C : Addr) (cl : List (Str × Addr)) (fp : List Addr), PG (X.blk s H scope (compEnvC scope cl C X.env) fp) tg (tG (X.kw ea) is f)) (ht : ∀ (s : Shared) (H : Hp) (C : Addr) (cl : List (Str × Addr)) (fp : List Addr), PTs (X.blk s H scope (compEnvC scope cl C X.env) fp) ifs (tT (X.kw ea) W0 T))
    (he : ∀ (s : Shared) (H : Hp) (C : Addr) (cl : List (Str × Addr)) (fp : List Addr), PE (X.blk s H scope (compEnvC scope cl C X.env) fp) elt (tE (X.kw ea) W0 E)) (hs : ∀ x, foldedSetIterable iter X.env x = pure x := by intro _; rfl) :
    PE X (.ListComp elt [⟨tg, iter, ifs, 0⟩] scope pos) (tN (X.kw ea) W (xlc (own.map (·.2)) L f T E)) :=
  PE_weak (pe_lc hc hN hi ok hg ht he hs) fun σ H Q h => tLc_of his h
end
end Pu
/-! PuI: statements, defs and their calls -/
namespace Pu
open PySem L2
/-- errors by their classes' names -/
def wx (mg : Str → Option Value) (W : WE) : WX := fun cls d σ H => d = none ∧ ∃ c, mg c = some cls ∧ W c σ H
/-- where one stands -/
structure Cz (X : Cx) (k : Nat) (W : WE) : Prop where
  calm : X.calm = true
  nd : X.N.Nodup
  tk : Takes X (wx X.mg W)
  po : PassesOwn (model X.prog X.w) X.A X.env X.xe
  rm : Room k X.A
theorem takesF {X : Cx} {W : WX} (h : ∀ c d σ H, ¬ W c d σ H) : Takes X W := fun _ _ ⟨_, _, _, _, _, _, _, _, _, _, _, _, _, _, _, _, z⟩ => absurd z (h _ _ _ _)
theorem Cz.blk {X : Cx} {k : Nat} {W : WE} (z : Cz X k W) (s : Shared) (H : Hp) (scope : Scope) (cenv : Env) (fp : List Addr) : Cz (X.blk s H scope cenv fp) k W0 :=
  ⟨z.calm, z.nd, takesF fun c d σ H h => by obtain ⟨_, _, _, q⟩ := h; exact q, PassesOwn.never, z.rm⟩
/-! ### freezing all -/
def frz1 : Sl → Sl
  | .own ds => .dat (.list ds)
  | .dic kvs => .dat (.dict kvs)
  | s => s
def fz (e : En) : En := e.map frz1
theorem frz1_no : ∀ s : Sl, (frz1 s).isOwn = false
  | .un => rfl
  | .dat _ => rfl
  | .own _ => rfl
  | .dic _ => rfl
  | .exc => rfl
open Classical in
theorem SR.fz {K : Kw} {H0 Hf0 Hf H : Hp} {σ : L2.St} {e : En} (S : SR K H0 Hf0 Hf H σ e) : ∃ Hf', Same Hf Hf' ∧ SR K H0 Hf0 Hf' H σ (fz e) := by
  let P : Addr → Prop := fun a => Hf a = none ∧ ∃ (i : Nat) (s : Sl), e[i]? = some s ∧ s.isOwn = true ∧ σ[i]? = some (some (V.ref a))
  let Hf' : Hp := fun a => if P a then H a else Hf a
  have s1 : Same Hf Hf' := fun a o h => by
    show (if P a then H a else Hf a) = some o
    rw [if_neg (fun p => by rw [p.1] at h; cases h)]
    exact h
  have s2 : Same Hf' H := fun a o h => by
    have h : (if P a then H a else Hf a) = some o := h
    split at h
    · exact h
    · exact S.gr.fh a o h
  refine ⟨Hf', s1, ⟨S.gr.hh, S.gr.ff.trans s1, s2, fun a o h m n => ?_⟩, ?_, ?_, ?_⟩
  · show (if P a then H a else Hf a) = none
    have n' := S.gr.nf a o h m n
    rw [if_neg]
    · exact n'
    · rintro ⟨_, i, s, h1, h2, h3⟩
      obtain ⟨a', u, ev, _, h0, _⟩ := (S.sl i s _ h1 h3).addr h2
      injection ev with ev; injection ev with ev
      subst ev
      rw [h0] at h; cases h
  · rw [S.len]; unfold Pu.fz; rw [List.length_map]
  · intro i s v h1 h2
    unfold Pu.fz at h1
    rw [List.getElem?_map] at h1
    cases q : e[i]? with
    | none => rw [q] at h1; cases h1
    | some t =>
      rw [q] at h1
      cases h1
      have z := S.sl i t v q h2
      have at_ : ∀ a, t.isOwn = true → v = some (V.ref a) → Hf a = none → Hf' a = H a := fun a o ev n => by
        show (if P a then H a else Hf a) = H a
        rw [if_pos ⟨n, i, t, q, o, by rw [h2, ev]⟩]
      cases t with
      | un => trivial
      | dat d => obtain ⟨x, ex, r⟩ := z; exact ⟨x, ex, r.mono s1⟩
      | own ds =>
        obtain ⟨a, xs, ev, ha, h0, hf, r⟩ := z
        exact ⟨_, ev, .lst (by rw [at_ a rfl ev hf]; exact ha) (r.mono s1)⟩
      | dic ks =>
        obtain ⟨a, xs, ev, ha, h0, hf, r⟩ := z
        exact ⟨_, ev, .dct (by rw [at_ a rfl ev hf]; exact ha) (r.mono s1)⟩
      | exc => exact z
  · intro i j s t a hij h1 h2 o1
    unfold Pu.fz at h1
    rw [List.getElem?_map] at h1
    cases q : e[i]? with
    | none => rw [q] at h1; cases h1
    | some t' => rw [q] at h1; cases h1; rw [frz1_no] at o1; cases o1
def fzAt (i : Nat) (e : En) : En := match e[i]? with
  | some s => e.set i (frz1 s)
  | none => e
theorem set_get {α : Type} {l : List α} {i : Nat} {x : α} (h : l[i]? = some x) : l.set i x = l := by
  apply List.ext_getElem?
  intro j
  by_cases hj : i = j
  · subst hj
    rw [List.getElem?_set_self (List.getElem?_eq_some_iff.mp h).1, h]
  · rw [List.getElem?_set_ne hj]
theorem SR.fzAt {K : Kw} {H0 Hf0 Hf H : Hp} {σ : L2.St} {e : En} (S : SR K H0 Hf0 Hf H σ e) (i : Nat) : ∃ Hf', Same Hf Hf' ∧ SR K H0 Hf0 Hf' H σ (fzAt i e) := by
  unfold Pu.fzAt
  cases q : e[i]? with
  | none => exact ⟨Hf, Same.refl _, S⟩
  | some s =>
    obtain ⟨v, hv⟩ := S.lt q
    have z := S.sl i s v q hv
    have main : ∀ (a : Addr) (u : HO) (t : Sl), s.isOwn = true → v = some (.ref a) → H a = some u → H0 a = none → Hf a = none → t.isOwn = false → SlOk K H0 (upd Hf a u) H (some (.ref a)) t → ∃ Hf', Same Hf Hf' ∧ SR K H0 Hf0 Hf' H σ (e.set i t) := by
      intro a u t hs ev hA h0 hf ht hn
      have zz := Grow.freeze S.gr.fh hA hf
      refine ⟨upd Hf a u, zz.1, ?_⟩
      have other : ∀ (j : Nat) (w : Sl), j ≠ i → e[j]? = some w → w.isOwn = true → σ[j]? ≠ some (some (.ref a)) := fun j w hj h1 o p => S.sep i j s w a (fun y => hj y.symm) q h1 hs o (by rw [hv, ev]) p
      have g : SR K H0 Hf0 (upd Hf a u) H σ (e.set i .un) := by
        refine ⟨⟨S.gr.hh, S.gr.ff.trans zz.1, zz.2, fun b o hb m nb => ?_⟩, by rw [List.length_set]; exact S.len, fun j w x h1 h2 => ?_, fun j k w x b hjk h1 h2 o1 o2 q1 q2 => ?_⟩
        · rw [upd_ne (ne_of_none hb h0)]; exact S.gr.nf b o hb m nb
        · by_cases y : i = j
          · subst y
            rw [List.getElem?_set_self (List.getElem?_eq_some_iff.mp q).1] at h1
            cases h1
            trivial
          · rw [List.getElem?_set_ne y] at h1
            have zj := S.sl j w x h1 h2
            cases w with
            | un => trivial
            | dat d => obtain ⟨x', ex, r⟩ := zj; exact ⟨x', ex, r.mono zz.1⟩
            | own ds =>
              obtain ⟨b, xs, ev', hb, h0', hf', r⟩ := zj
              have : b ≠ a := fun y' => other j _ (fun y'' => y y''.symm) h1 rfl (by rw [h2, ev', y'])
              exact ⟨b, xs, ev', hb, h0', by rw [upd_ne this]; exact hf', r.mono zz.1⟩
            | dic ks =>
              obtain ⟨b, xs, ev', hb, h0', hf', r⟩ := zj
              have : b ≠ a := fun y' => other j _ (fun y'' => y y''.symm) h1 rfl (by rw [h2, ev', y'])
              exact ⟨b, xs, ev', hb, h0', by rw [upd_ne this]; exact hf', r.mono zz.1⟩
            | exc => exact zj
        · have nu : ∀ (j : Nat) (w : Sl), (e.set i .un)[j]? = some w → w.isOwn = true → e[j]? = some w := fun j w h o => by
            by_cases y : i = j
            · subst y
              rw [List.getElem?_set_self (List.getElem?_eq_some_iff.mp q).1] at h
              cases h; cases o
            · rw [List.getElem?_set_ne y] at h; exact h
          exact S.sep j k w x b hjk (nu j w h1 o1) (nu k x h2 o2) o1 o2 q1 q2
      have g2 := g.put i (some (.ref a)) t hn fun o => by rw [ht] at o; cases o
      have e1 : σ.set i (some (.ref a)) = σ := set_get (by rw [hv, ev])
      have e2 : (e.set i .un).set i t = e.set i t := List.set_set _
      rw [e1, e2] at g2
      exact g2
    cases s with
    | un => exact ⟨Hf, Same.refl _, by show SR K H0 Hf0 Hf H σ (e.set i .un); rw [set_get q]; exact S⟩
    | dat d => exact ⟨Hf, Same.refl _, by show SR K H0 Hf0 Hf H σ (e.set i (.dat d)); rw [set_get q]; exact S⟩
    | exc => exact ⟨Hf, Same.refl _, by show SR K H0 Hf0 Hf H σ (e.set i .exc); rw [set_get q]; exact S⟩
    | own ds =>
      obtain ⟨a, xs, ev, ha, h0, hf, r⟩ := z
      exact main a _ (.dat (.list ds)) rfl ev ha h0 hf rfl ⟨_, rfl, .lst upd_same (r.mono (same_upd hf))⟩
    | dic ks =>
      obtain ⟨a, xs, ev, ha, h0, hf, r⟩ := z
      exact main a _ (.dat (.dict ks)) rfl ev ha h0 hf rfl ⟨_, rfl, .dct upd_same (r.mono (same_upd hf))⟩

/-! ### statements -/
section
variable {X : Cx} {k : Nat} {W : WE} {a b c : Expr} {F G : En → R D} {T : En → R Bool} {A B : En → Fl} {pos : Pos}
def snil : En → Fl := fun e => .nx e
def sseq (A B : En → Fl) : En → Fl := fun e => match A e with
  | .nx e1 => B e1
  | r => r
theorem sNil : PSs X [] (tS (X.kw ea) W snil) := PSs_weak pss_nil fun D σ H ⟨H0, Hf0, Hf, e, S, p⟩ => p σ Hf H S (Same.refl _)
theorem sOne {st : Stmt} (h : PS X st (tS (X.kw ea) W A)) : PSs X [st] (tS (X.kw ea) W A) := pss_one h
theorem sCons {st : Stmt} {rest : List Stmt} (h1 : PS X st (tS (X.kw ea) W A)) (h2 : PSs X rest (tS (X.kw ea) W B)) : PSs X (st :: rest) (tS (X.kw ea) W (sseq A B)) :=
  PSs_weak (pss_cons h1 h2) fun D σ H ⟨H0, Hf0, Hf, e, S, p⟩ => ⟨H0, Hf0, Hf, e, S, by
    revert p
    unfold sseq
    cases A e with
    | nx e1 => exact fun p σ1 Hf1 H1 S1 s1 => ⟨H0, Hf0, Hf1, e1, S1, p.same s1⟩
    | rt d => exact fun p => p
    | bk e => exact fun p => p
    | ct e => exact fun p => p
    | ex c e => exact fun p => p
    | bad => exact fun p => p⟩
def sret (F : En → R D) : En → Fl := fun e => match F (fz e) with
  | .ok d => .rt d
  | .ex c => .ex c (fz e)
  | .bad => .bad
theorem sRet (h : PE X a (tE (X.kw ea) W F)) : PS X (.Return (some a) pos) (tS (X.kw ea) W (sret F)) := PS_weak (ps_ret h) fun D σ H ⟨H0, Hf0, Hf, e, S, p⟩ => by
  obtain ⟨Hf', s1, S'⟩ := S.fz
  refine ⟨H0, Hf0, Hf', fz e, S', ?_⟩
  revert p
  unfold sret
  cases F (fz e) with
  | ok d => exact fun p v Hf2 H2 g r => p v Hf2 H2 (S'.gr.trans g) r
  | ex c => exact fun p Hf2 H2 g => p σ Hf2 H2 (S'.grow g) (s1.trans g.ff)
  | bad => exact fun p => p
def sretN : En → Fl := fun _ => .rt .none
theorem sRetN : PS X (.Return none pos) (tS (X.kw ea) W sretN) := PS_weak ps_retN fun D σ H ⟨H0, Hf0, Hf, e, S, p⟩ => p .non Hf H S.gr .non
theorem sPass : PS X (.Pass pos) (tS (X.kw ea) W snil) := PS_weak ps_pass fun D σ H ⟨H0, Hf0, Hf, e, S, p⟩ => p σ Hf H S (Same.refl _)
def scont : En → Fl := fun e => .ct e
theorem sCont : PS X (.Continue pos) (tS (X.kw ea) W scont) := PS_weak ps_continue fun D σ H ⟨H0, Hf0, Hf, e, S, p⟩ => p σ Hf H S (Same.refl _)
/-- a statement that is never reached -/
def snever : En → Fl := fun _ => .bad
theorem sNever {st : Stmt} : PS X st (tS (X.kw ea) W snever) := PS_weak ps_never fun D σ H ⟨H0, Hf0, Hf, e, S, p⟩ => p
/-- the slot i is frozen ahead of a statement -/
def sfz (i : Nat) (A : En → Fl) : En → Fl := fun e => A (fzAt i e)
theorem sFz (i : Nat) {st : Stmt} (h : PS X st (tS (X.kw ea) W A)) : PS X st (tS (X.kw ea) W (sfz i A)) := PS_weak h fun D σ H ⟨H0, Hf0, Hf, e, S, p⟩ => by
  obtain ⟨Hf', s1, S'⟩ := S.fzAt i
  exact ⟨H0, Hf0, Hf', fzAt i e, S', p.same s1⟩
def liftE (r : R D) (e : En) (f : D → Fl) : Fl := match r with
  | .ok d => f d
  | .ex c => .ex c e
  | .bad => .bad
def sdrop (F : En → R D) : En → Fl := fun e => liftE (F e) e fun _ => .nx e
theorem sDrop (h : PE X a (tE (X.kw ea) W F)) (hs : swapsWith a none pos.line X.env = pure false := by rfl) : PS X (.Expr a pos) (tS (X.kw ea) W (sdrop F)) := PS_weak (ps_expr h hs) fun D σ H ⟨H0, Hf0, Hf, e, S, p⟩ => ⟨H0, Hf0, Hf, e, S, by
  revert p
  unfold sdrop liftE
  cases F e with
  | ok d => exact fun p v Hf2 H2 g r => p σ Hf2 H2 (S.grow g) g.ff
  | ex c => exact fun p Hf2 H2 g => p σ Hf2 H2 (S.grow g) g.ff
  | bad => exact fun p => p⟩
def sasg (i : Nat) (F : En → R D) : En → Fl := fun e => liftE (F e) e fun d => .nx (e.set i (.dat d))
def sasgT (f : Tg) (F : En → R D) : En → Fl := fun e => liftE (F e) e fun d => match f d e with
  | some e' => .nx e'
  | none => .bad
def sasgN (i : Nat) (F : En → R (List D)) : En → Fl := fun e => match F e with
  | .ok ds => .nx (e.set i (.own ds))
  | .ex c => .ex c e
  | .bad => .bad
theorem asg_of {i : Nat} {σ : L2.St} {H : Hp} {D : Ends} (h : tS (X.kw ea) W (sasg i F) D σ H) : tAsg (tE (X.kw ea) W F) (gName i) D σ H := by
  obtain ⟨H0, Hf0, Hf, e, S, p⟩ := h
  refine ⟨H0, Hf0, Hf, e, S, ?_⟩
  revert p
  unfold sasg liftE
  cases F e with
  | ok d => exact fun p v Hf2 H2 g r => p _ Hf2 H2 ((S.grow g).dat i r) g.ff
  | ex c => exact fun p Hf2 H2 g => p σ Hf2 H2 (S.grow g) g.ff
  | bad => exact fun p => p
theorem asgN_of {i : Nat} {L : En → R (List D)} {σ : L2.St} {H : Hp} {D : Ends} (h : tS (X.kw ea) W (sasgN i L) D σ H) : tAsg (tN (X.kw ea) W L) (gName i) D σ H := by
  obtain ⟨H0, Hf0, Hf, e, S, p⟩ := h
  refine ⟨H0, Hf0, Hf, e, S, ?_⟩
  revert p
  unfold sasgN
  cases L e with
  | ok ds =>
    intro p q xs Hf2 H2 g hn hf hl r
    refine p _ Hf2 H2 ((S.grow g).own i ⟨_, hl⟩ (S.fresh hn) ⟨q, xs, rfl, hl, ?_, hf, r⟩) g.ff
    exact S.gr.hh.free hn
  | ex c => exact fun p Hf2 H2 g => p σ Hf2 H2 (S.grow g) g.ff
  | bad => exact fun p => p
/-- x = e -/
theorem sAsg {i : Nat} {x : Str} {pos' : Pos} (hN : X.N.Nodup) (hi : X.N[i]? = some x) (hx : Loc X.env.scope x) (he : PE X a (tE (X.kw ea) W F)) (hs : swapsWith a (some (.Name x pos')) pos.line X.env = pure false := by rfl) (hf : X.fn x = true ∨ X.env.scope.names.lookup x = some .local := by first | exact .inl rfl | exact .inr rfl | assumption) :
    PS X (.Assign [.Name x pos'] a pos) (tS (X.kw ea) W (sasg i F)) := PS_weak (ps_set hN hi hx he hs hf) fun D σ H h => asg_of h
theorem sAsgN {i : Nat} {x : Str} {pos' : Pos} {L : En → R (List D)} (hN : X.N.Nodup) (hi : X.N[i]? = some x) (hx : Loc X.env.scope x) (he : PE X a (tN (X.kw ea) W L)) (hs : swapsWith a (some (.Name x pos')) pos.line X.env = pure false := by rfl) (hf : X.fn x = true ∨ X.env.scope.names.lookup x = some .local := by first | exact .inl rfl | exact .inr rfl | assumption) :
    PS X (.Assign [.Name x pos'] a pos) (tS (X.kw ea) W (sasgN i L)) := PS_weak (ps_set hN hi hx he hs hf) fun D σ H h => asgN_of h
/-- t1, t2 = e -/
theorem sAsgT {tg : Expr} {is : List Nat} {f : Tg} (he : PE X a (tE (X.kw ea) W F)) (hg : PG X tg (tG (X.kw ea) is f)) (hs : PS X (.Assign [tg] a pos) (tAsg (tE (X.kw ea) W F) (tG (X.kw ea) is f))) : PS X (.Assign [tg] a pos) (tS (X.kw ea) W (sasgT f F)) :=
  PS_weak hs fun D σ H ⟨H0, Hf0, Hf, e, S, p⟩ => ⟨H0, Hf0, Hf, e, S, by
    revert p
    unfold sasgT liftE
    cases F e with
    | ok d =>
      show PoS (X.kw ea) W D H0 Hf0 Hf (match f d e with | some e' => .nx e' | none => .bad) → _
      cases h : f d e with
      | none => exact fun p => p.elim
      | some e' => exact fun p v Hf2 H2 g r => ⟨H0, Hf0, Hf2, e, d, e', S.grow g, r, h, fun σ' _ _ S' => p σ' Hf2 H2 S' g.ff⟩
    | ex c => exact fun p Hf2 H2 g => p σ Hf2 H2 (S.grow g) g.ff
    | bad => exact fun p => p⟩
/-- x = [.. for ..] -/
theorem sLc {i : Nat} {y : Str} {py : Pos} {elt tg iter : Expr} {ifs : List Expr} {scope : Scope} {own : List (Str × Nat)} {is : List Nat} {spos : Pos} {L : En → R (List D)} {f : Tg} {E : En → R D}
    (hc : X.calm = true) (hN : X.N.Nodup) (hy : X.N[i]? = some y) (hyl : X.env.scope.names.lookup y = some .local) (hsw : swapsWith (.ListComp elt [⟨tg, iter, ifs, 0⟩] scope pos) (some (.Name y py)) spos.line X.env = pure true)
    (hi : PI X tg iter (tI (X.kw ea) W false L)) (ok : BlkOk X.N X.env.scope scope own) (his : ∀ i ∈ is, i ∈ own.map (·.2))
    (hg : ∀ (s : Shared) (H : Hp) (C : Addr) (cl : List (Str × Addr)) (fp : List Addr), PG (X.blk s H scope (compEnvC scope cl C X.env) fp) tg (tG (X.kw ea) is f)) (ht : ∀ (s : Shared) (H : Hp) (C : Addr) (cl : List (Str × Addr)) (fp : List Addr), PTs (X.blk s H scope (compEnvC scope cl C X.env) fp) ifs (tT (X.kw ea) W0 T))
    (he : ∀ (s : Shared) (H : Hp) (C : Addr) (cl : List (Str × Addr)) (fp : List Addr), PE (X.blk s H scope (compEnvC scope cl C X.env) fp) elt (tE (X.kw ea) W0 E)) (hs : ∀ x, foldedSetIterable iter X.env x = pure x := by intro _; rfl) :
    PS X (.Assign [.Name y py] (.ListComp elt [⟨tg, iter, ifs, 0⟩] scope pos) spos) (tS (X.kw ea) W (sasgN i (xlc (own.map (·.2)) L f T E))) :=
  PS_weak (ps_setLc hc hN hy hyl hsw hi ok hg ht he hs) fun D σ H h => tLc_of his (asgN_of (X := X) h)
theorem sLcF {i : Nat} {st : Stmt} {L : En → R (List D)} (h : PS X st (tS (X.kw ea) W (sasgN i L))) : PS X st (tS (X.kw ea) W (sasg i (asL L))) := PS_weak h fun D σ H ⟨H0, Hf0, Hf, e, S, p⟩ => ⟨H0, Hf0, Hf, e, S, by
  revert p
  unfold sasg sasgN asL liftE
  cases L e with
  | ok ds =>
    intro p σ1 Hf1 H1 S1 sm
    obtain ⟨Hf2, s2, S2⟩ := S1.fzAt i
    refine p σ1 Hf2 H1 ?_ (sm.trans s2)
    have q : (e.set i (Sl.own ds))[i]? = some (.own ds) ∨ e.length ≤ i := by
      by_cases hl : i < e.length
      · exact .inl (List.getElem?_set_self hl)
      · exact .inr (by omega)
    unfold fzAt at S2
    rcases q with q | q
    · rw [q] at S2
      have e2 : (e.set i (Sl.own ds)).set i (frz1 (.own ds)) = e.set i (.dat (.list ds)) := List.set_set _
      have S2 : SR (X.kw ea) H0 Hf0 Hf2 H1 σ1 ((e.set i (Sl.own ds)).set i (frz1 (.own ds))) := S2
      rw [e2] at S2
      exact S2
    · have n1 : (e.set i (Sl.own ds))[i]? = none := List.getElem?_eq_none (by rw [List.length_set]; exact q)
      rw [n1] at S2
      have S2 : SR (X.kw ea) H0 Hf0 Hf2 H1 σ1 (e.set i (Sl.own ds)) := S2
      rw [List.set_eq_of_length_le q] at S2
      show SR (X.kw ea) H0 Hf0 Hf2 H1 σ1 (e.set i (.dat (.list ds)))
      rw [List.set_eq_of_length_le q]
      exact S2
  | ex c => exact fun p => p
  | bad => exact fun p => p⟩
def sif (T : En → R Bool) (A B : En → Fl) : En → Fl := fun e => match T e with
  | .ok true => A e
  | .ok false => B e
  | .ex c => .ex c e
  | .bad => .bad
theorem sIf {as bs : List Stmt} (ht : PT X c (tT (X.kw ea) W T)) (ha : PSs X as (tS (X.kw ea) W A)) (hb : PSs X bs (tS (X.kw ea) W B)) : PS X (.If c as bs pos) (tS (X.kw ea) W (sif T A B)) :=
  PS_weak (ps_if ht ha hb) fun D σ H ⟨H0, Hf0, Hf, e, S, p⟩ => ⟨H0, Hf0, Hf, e, S, by
    revert p
    unfold sif
    cases T e with
    | ok k =>
      cases k with
      | true => exact fun p Hf2 H2 g => (show tS (X.kw ea) W A D σ H2 from ⟨H0, Hf0, Hf2, e, S.grow g, p.same g.ff⟩)
      | false => exact fun p Hf2 H2 g => (show tS (X.kw ea) W B D σ H2 from ⟨H0, Hf0, Hf2, e, S.grow g, p.same g.ff⟩)
    | ex c => exact fun p Hf2 H2 g => p σ Hf2 H2 (S.grow g) g.ff
    | bad => exact fun p => p⟩
/-! ### loops -/
def forL (f : Tg) (B : En → Fl) : List D → En → Fl
  | [], e => .nx e
  | d :: ds, e => match f d e with
    | none => .bad
    | some e1 => match B e1 with
      | .nx e2 => forL f B ds e2
      | .ct e2 => forL f B ds e2
      | .bk e2 => .nx e2
      | r => r
def sfor (L : En → R (List D)) (f : Tg) (B : En → Fl) : En → Fl := fun e => match L e with
  | .ok ds => forL f B ds e
  | .ex c => .ex c e
  | .bad => .bad
theorem sFor {tg iter : Expr} {body : List Stmt} {is : List Nat} {L : En → R (List D)} {f : Tg} (hp : PassesOwn (model X.prog X.w) X.A X.env X.xe) (hc : X.calm = true) (hi : PI X tg iter (tI (X.kw ea) W true L)) (hg : PG X tg (tG (X.kw ea) is f)) (hb : PSs X body (tS (X.kw ea) W B))
    (hs : ∀ x, foldedSetIterable iter X.env x = pure x := by intro _; rfl) : PS X (.For tg iter body [] pos) (tS (X.kw ea) W (sfor L f B)) :=
  PS_weak (ps_for hp hc hi hg hb hs) fun D σ H ⟨H0, Hf0, Hf, e, S, p⟩ => ⟨H0, Hf0, Hf, e, S, by
    revert p
    unfold sfor
    cases L e with
    | ok ds =>
      intro p J Hf1 H1 g w
      have w : Wk (X.kw ea) Hf1 Hf1 J ds := w
      refine ⟨fun i m σ2 H2 => m = ds.length - i ∧ i ≤ ds.length ∧ ∃ Hf2 e2, SR (X.kw ea) H0 Hf0 Hf2 H2 σ2 e2 ∧ Same Hf1 Hf2 ∧ PoS (X.kw ea) W D H0 Hf0 Hf2 (forL f B (ds.drop i) e2),
        ⟨ds.length, rfl, Nat.zero_le _, Hf1, e, S.grow g, Same.refl _, p.same g.ff⟩, ?_⟩
      rintro i m σ2 H2 ⟨rfl, hi, Hf2, e2, S2, s2, p2⟩
      by_cases hlt : i < ds.length
      · have hdr : ds.drop i = ds[i] :: ds.drop (i + 1) := List.drop_eq_getElem_cons hlt
        rw [hdr] at p2
        unfold forL at p2
        refine .inr ⟨w.go i H2 (s2.trans S2.gr.fh) hlt, fun σ3 H3 => ∃ Hf3 e3, SR (X.kw ea) H0 Hf0 Hf3 H3 σ3 e3 ∧ Same Hf1 Hf3 ∧ PoS (X.kw ea) W D H0 Hf0 Hf3 (forL f B (ds.drop (i + 1)) e3),
          fun σ3 H3 n3 => ⟨ds.length - (i + 1), by omega, rfl, hlt, n3⟩, fun x H3 hy => ?_⟩
        obtain ⟨Hf3, g3, rx⟩ := w.yl i H2 Hf2 H3 x ds[i] (s2.trans S2.gr.fh) s2 S2.gr.fh (List.getElem?_eq_getElem hlt) hy
        cases h1 : f ds[i] e2 with
        | none => rw [h1] at p2; exact p2.elim
        | some e3 =>
          rw [h1] at p2
          have S3 := S2.grow g3
          refine ⟨H0, Hf0, Hf3, e2, ds[i], e3, S3, rx, h1, fun σ4 _ _ S4 => ?_⟩
          refine ⟨H0, Hf0, Hf3, e3, S4, ?_⟩
          have p3 := p2.same g3.ff
          have s3 := s2.trans g3.ff
          revert p3
          show PoS (X.kw ea) W D H0 Hf0 Hf3 (match B e3 with | .nx e2 => forL f B (ds.drop (i + 1)) e2 | .ct e2 => forL f B (ds.drop (i + 1)) e2 | .bk e2 => .nx e2 | r => r) → _
          cases B e3 with
          | nx e4 => exact fun p3 σ5 Hf5 H5 S5 s5 => ⟨Hf5, e4, S5, s3.trans s5, p3.same s5⟩
          | ct e4 => exact fun p3 σ5 Hf5 H5 S5 s5 => ⟨Hf5, e4, S5, s3.trans s5, p3.same s5⟩
          | bk e4 => exact fun p3 => p3
          | rt d => exact fun p3 => p3
          | ex c e4 => exact fun p3 => p3
          | bad => exact fun p3 => p3
      · have hi' : i = ds.length := by omega
        subst hi'
        rw [List.drop_length] at p2
        exact .inl ⟨w.st H2 (s2.trans S2.gr.fh), p2 σ2 Hf2 H2 S2 (Same.refl _)⟩
    | ex c => exact fun p Hf2 H2 g => p σ Hf2 H2 (S.grow g) g.ff
    | bad => exact fun p => p⟩
end
end Pu
/-! PuJ: changed lists, while, defs and their calls -/
namespace L2
open PySem PySem.Spec PyProof.Rows
/-- l.extend(b), b a tuple -/
theorem ext_tup {l b : Addr} {us ws : List Value} {n : Nat} (room : us.length + ws.length ≤ sizeLine) : Meets (Builtin.«list.extend» ⟨[.ref l, .ref b], []⟩) (fun _ R s =>
    (s.heap.get? l = some { cls := .type "list", data := .seq us.toArray n } ∧ IsTup s.heap b ws.toArray) ∧ R (.ok (.ret .none)) { s with heap := s.heap.update l (Obj.mapSeq (· ++ ws.toArray)) }) := .of_wp fun P w A R s ⟨⟨hl, ⟨⟨cl, dd, da, sl⟩, hb, ec, m, ed⟩⟩, hr⟩ => by
  obtain rfl : cl = .type "tuple" := ec
  obtain rfl : da = .seq ws.toArray m := ed
  have fits : (us.toArray ++ ws.toArray).size ≤ sizeLine + 1 := by
    rw [Array.size_append, List.size_toArray, List.size_toArray]
    exact Nat.le_succ_of_le room
  have fit0 : us.toArray.size ≤ sizeLine := Nat.le_trans (Nat.le_add_right _ _) room
  have sum : us.toArray.size + ws.toArray.size ≤ sizeLine := room
  have short := notLongL sum
  have i1 := AutoSeq1.sub_tuple_list
  have i2 := AutoSeq1.sub_tuple_tuple
  have i3 := AutoSeq1.sub_list_list
  cases s with
  | mk h gs dr tk os =>
    wp_walk using AutoSeq1.wpAny_loadPart' hb, AutoSeq1.wpAny_loadPart' hl
    rw [short, Bool.and_false, if_neg Bool.false_ne_true]
    wp_walk using wpAny_updateSeq hl rfl (hz := fit0) (_hz' := fits)
    exact ⟨_, rfl, hr⟩
def rExtT (K : PySem.W.Frag) : V → List V → Hp → VK → Prop := fun x vs H Q => ∃ l b xs zs, x = .ref l ∧ vs = [.ref b] ∧ H l = some (.lst xs) ∧ SqT K H b zs ∧ xs.length + zs.length ≤ sizeLine ∧ Q .non (upd H l (.lst (xs ++ zs)))
theorem mt_extT {X : Cx} : MtM X "list.extend" (rExtT X.K) := fun pins s σ H _ _ v us Q I rx rv ⟨l, b, xs, zs, ex, ev, hl, hb, hz, q⟩ => by
  subst ex ev
  obtain rfl : v = .ref l := rx
  obtain ⟨_, rfl, rfl⟩ := vals1 rv
  obtain ⟨_, as, n, ra, _, ga⟩ := I.lstM hl
  obtain ⟨bs, rb, tb, _, _⟩ := Pu.tup_at I hb
  have room : as.length + bs.length ≤ sizeLine := by rw [← ra.length, ← rb.length]; exact hz
  have isL : s.TypeIs (.ref l) "list" := ⟨_, ga, rfl⟩
  exact call_meets F.slot_list_extend isL F.entry_list_extend (F.args_list_extend_2 _ _) (ext_tup (b := b) (n := n) room) ⟨⟨ga, tb⟩, .non, _, I.lset hl ga (by simp) (ra.append rb) (by rw [List.length_append]; exact hz), rfl, q⟩
theorem MtM.or {X : Cx} {id : String} {r r' : V → List V → Hp → VK → Prop} (h : MtM X id r) (h' : MtM X id r') : MtM X id (fun x xs H Q => r x xs H Q ∨ r' x xs H Q) := by
  intro pins s σ H x xs v us Q I rx rv q
  rcases q with q | q
  · exact h pins s σ H x xs v us Q I rx rv q
  · exact h' pins s σ H x xs v us Q I rx rv q
end L2
namespace Pu
open PySem L2
section
variable {X : Cx} {k : Nat} {W : WE} {a b c : Expr} {F G : En → R D} {T : En → R Bool} {A B : En → Fl} {pos : Pos}
/-- the name in slot i, whose own list stands at l -/
theorem own_at {K : Kw} {H0 Hf0 Hf H : Hp} {σ : L2.St} {e : En} {i : Nat} {ds : List D} (S : SR K H0 Hf0 Hf H σ e) (h : e[i]? = some (.own ds)) : ∃ l xs, σ[i]? = some (some (.ref l)) ∧ H l = some (.lst xs) ∧ H0 l = none ∧ Hf l = none ∧ RpAll K Hf xs ds := by
  obtain ⟨v, hv⟩ := S.lt h
  obtain ⟨l, xs, ev, h1, h2, h3, r⟩ := S.sl i _ v h hv
  subst ev
  exact ⟨l, xs, hv, h1, h2, h3, r⟩
def sapp (i : Nat) (F : En → R D) : En → Fl := fun e => match e[i]? with
  | some (.own ds) => liftE (F e) e fun d => if ds.length < many then .nx (e.set i (.own (ds ++ [d]))) else .bad
  | _ => .bad
/-- x.append(e) -/
theorem sApp {i : Nat} {x : Str} {px pa pc : Pos} (hx : PE X (.Name x px) (tVar i)) (he : PE X a (tE (X.kw ea) W F))
    (hs : PE X (.Call (.Attribute (.Name x px) "append" pa) [a] [] pc) (tBM (X.kw ea) "list" rAppend (tVar i) (tCons (tE (X.kw ea) W F) tNil)))
    (hw : swapsWith (.Call (.Attribute (.Name x px) "append" pa) [a] [] pc) none pos.line X.env = pure false := by rfl) : PS X (.Expr (.Call (.Attribute (.Name x px) "append" pa) [a] [] pc) pos) (tS (X.kw ea) W (sapp i F)) :=
  PS_weak (ps_expr hs hw) fun D σ H ⟨H0, Hf0, Hf, e, S, p⟩ => by
    unfold sapp at p
    cases q : e[i]? with
    | none => rw [q] at p; exact p.elim
    | some s =>
      rw [q] at p
      cases s with
      | own ds =>
        obtain ⟨l, xs, hv, h1, h2, h3, r⟩ := own_at S q
        refine ⟨.ref l, hv, .inl ⟨rfl, xs, SqL.of h1⟩, H0, Hf0, Hf, e, S, ?_⟩
        revert p
        show PoS (X.kw ea) W D H0 Hf0 Hf (liftE (F e) e fun d => if ds.length < many then .nx (e.set i (.own (ds ++ [d]))) else .bad) → _
        unfold liftE
        cases F e with
        | ok d =>
          show PoS (X.kw ea) W D H0 Hf0 Hf (if ds.length < many then .nx (e.set i (.own (ds ++ [d]))) else .bad) → _
          intro p v Hf1 H1 g rv
          by_cases hz : ds.length < many
          · rw [if_pos hz] at p
            refine ⟨l, xs, v, rfl, rfl, g.hh _ _ h1, many_lt (by rw [r.length]; exact hz), ?_⟩
            have nf := g.nf _ _ h1 rfl h3
            exact p σ Hf1 _ ((S.grow g).mut q rfl hv rfl ⟨l, _, rfl, upd_same, h2, nf, (r.mono g.ff).snoc rv⟩) g.ff
          · rw [if_neg hz] at p; exact p.elim
        | ex c => exact fun p Hf1 H1 g => p σ Hf1 H1 (S.grow g) g.ff
        | bad => exact fun p => p
      | _ => exact p.elim
def sext (i : Nat) (F : En → R D) : En → Fl := fun e => match e[i]? with
  | some (.own ds) => liftE (F e) e fun d => match listN d with
    | some es => if ds.length + es.length ≤ many then .nx (e.set i (.own (ds ++ es))) else .bad
    | none => .bad
  | _ => .bad
/-- x.extend(e) -/
theorem sExt {i : Nat} {x : Str} {px pa pc : Pos} (hx : PE X (.Name x px) (tVar i)) (he : PE X a (tE (X.kw ea) W F))
    (hs : PE X (.Call (.Attribute (.Name x px) "extend" pa) [a] [] pc) (tBM (X.kw ea) "list" (fun x xs H Q => rExtend x xs H Q ∨ rExtT (X.kw ea) x xs H Q) (tVar i) (tCons (tE (X.kw ea) W F) tNil)))
    (hw : swapsWith (.Call (.Attribute (.Name x px) "extend" pa) [a] [] pc) none pos.line X.env = pure false := by rfl) : PS X (.Expr (.Call (.Attribute (.Name x px) "extend" pa) [a] [] pc) pos) (tS (X.kw ea) W (sext i F)) :=
  PS_weak (ps_expr hs hw) fun D σ H ⟨H0, Hf0, Hf, e, S, p⟩ => by
    unfold sext at p
    cases q : e[i]? with
    | none => rw [q] at p; exact p.elim
    | some s =>
      rw [q] at p
      cases s with
      | own ds =>
        obtain ⟨l, xs, hv, h1, h2, h3, r⟩ := own_at S q
        refine ⟨.ref l, hv, .inl ⟨rfl, xs, SqL.of h1⟩, H0, Hf0, Hf, e, S, ?_⟩
        revert p
        show PoS (X.kw ea) W D H0 Hf0 Hf (liftE (F e) e fun d => match listN d with | some es => if ds.length + es.length ≤ many then .nx (e.set i (.own (ds ++ es))) else .bad | none => .bad) → _
        unfold liftE
        cases F e with
        | ok d =>
          show PoS (X.kw ea) W D H0 Hf0 Hf (match listN d with | some es => if ds.length + es.length ≤ many then .nx (e.set i (.own (ds ++ es))) else .bad | none => .bad) → _
          intro p v Hf1 H1 g rv
          cases hl : listN d with
          | none => rw [hl] at p; exact p.elim
          | some es =>
            rw [hl] at p
            have p : PoS (X.kw ea) W D H0 Hf0 Hf (if ds.length + es.length ≤ many then .nx (e.set i (.own (ds ++ es))) else .bad) := p
            by_cases hz : ds.length + es.length ≤ many
            · rw [if_pos hz] at p
              have nf := g.nf _ _ h1 rfl h3
              have fin : ∀ zs, RpAll (X.kw ea) Hf1 zs es → D.nx σ (upd H1 l (.lst (xs ++ zs))) := fun zs rz => p σ Hf1 _ ((S.grow g).mut q rfl hv rfl ⟨l, _, rfl, upd_same, h2, nf, (r.mono g.ff).append rz⟩) g.ff
              cases rv with
              | lst hb rb => cases hl; exact .inl ⟨l, _, xs, _, rfl, rfl, g.hh _ _ h1, g.fh _ _ hb, many_line (by rw [r.length, rb.length]; exact hz), fin _ rb⟩
              | tup hb rb => cases hl; exact .inr ⟨l, _, xs, _, rfl, rfl, g.hh _ _ h1, (hb.mono g.fh).sq, many_line (by rw [r.length, rb.length]; exact hz), fin _ rb⟩
              | _ => cases hl
            · rw [if_neg hz] at p; exact p.elim
        | ex c => exact fun p Hf1 H1 g => p σ Hf1 H1 (S.grow g) g.ff
        | bad => exact fun p => p
      | _ => exact p.elim
def putAt (i : Nat) (e : En) (ds : List D) (d : D) : D → Fl
  | .int n => match ixN ds.length n with
    | some m => .nx (e.set i (.own (ds.set m d)))
    | none => .bad
  | _ => .bad
def sput (i : Nat) (G F : En → R D) : En → Fl := fun e => liftE (F e) e fun d => match e[i]? with
  | some (.own ds) => liftE (G e) e (putAt i e ds d)
  | _ => .bad
/-- x[j] = e -/
theorem sPut {i : Nat} {x : Str} {px ps : Pos} {jx : Expr} (hs : PS X (.Assign [.Subscript (.Name x px) jx ps] a pos) (tAsg (tE (X.kw ea) W F) (gSub (tVar i) (tE (X.kw ea) W G) rSetL))) : PS X (.Assign [.Subscript (.Name x px) jx ps] a pos) (tS (X.kw ea) W (sput i G F)) :=
  PS_weak hs fun D σ H ⟨H0, Hf0, Hf, e, S, p⟩ => ⟨H0, Hf0, Hf, e, S, by
    revert p
    unfold sput
    cases F e with
    | ok d =>
      intro p v Hf1 H1 g rv
      have S1 := S.grow g
      have p : PoS (X.kw ea) W D H0 Hf0 Hf (match e[i]? with | some (.own ds) => liftE (G e) e (putAt i e ds d) | _ => .bad) := p
      have p1 := p.same g.ff
      cases q : e[i]? with
      | none => rw [q] at p1; exact p1.elim
      | some s =>
        rw [q] at p1
        cases s with
        | own ds =>
          obtain ⟨l, xs, hv, h1, h2, h3, r⟩ := own_at S1 q
          refine ⟨.ref l, hv, H0, Hf0, Hf1, e, S1, ?_⟩
          have p1 : PoS (X.kw ea) W D H0 Hf0 Hf1 (liftE (G e) e (putAt i e ds d)) := p1
          revert p1
          cases G e with
          | ok j =>
            intro p1 y Hf2 H2 g2 ry
            have p1 : PoS (X.kw ea) W D H0 Hf0 Hf1 (putAt i e ds d j) := p1
            cases ry with
            | int n =>
              have p1 : PoS (X.kw ea) W D H0 Hf0 Hf1 (match ixN ds.length n with | some m => .nx (e.set i (.own (ds.set m d))) | none => .bad) := p1
              cases hm : ixN ds.length n with
              | none => rw [hm] at p1; exact p1.elim
              | some m =>
                rw [hm] at p1
                refine ⟨l, xs, n, m, rfl, rfl, g2.hh _ _ h1, by rw [r.length]; exact hm, ?_⟩
                exact p1 σ Hf2 _ ((S1.grow g2).mut q rfl hv rfl ⟨l, _, rfl, upd_same, h2, g2.nf _ _ h1 rfl h3, (r.mono g2.ff).set (rv.mono g2.ff) m⟩) g2.ff
            | _ => exact p1.elim
          | ex c => exact fun p1 Hf2 H2 g2 => p1 σ Hf2 H2 (S1.grow g2) g2.ff
          | bad => exact fun p1 => p1
        | _ => exact p1.elim
    | ex c => exact fun p Hf1 H1 g => p σ Hf1 H1 (S.grow g) g.ff
    | bad => exact fun p => p⟩
def spopTo (i j : Nat) : En → Fl := fun e => match e[i]? with
  | some (.own ds) => match ds.getLast? with
    | some d => .nx ((e.set i (.own ds.dropLast)).set j (.dat d))
    | none => .bad
  | _ => .bad
/-! ### while -/
def whL (T : En → R Bool) (B : En → Fl) : Nat → En → Fl
  | 0, _ => .bad
  | n + 1, e => match T e with
    | .ok true => match B e with
      | .nx e2 => whL T B n e2
      | .ct e2 => whL T B n e2
      | .bk e2 => .nx e2
      | r => r
    | .ok false => .nx e
    | .ex c => .ex c e
    | .bad => .bad
def swhile (n : Nat) (T : En → R Bool) (B : En → Fl) : En → Fl := fun e => whL T B n e
theorem sWhile (n : Nat) {body : List Stmt} (hp : PassesOwn (model X.prog X.w) X.A X.env X.xe) (ht : PT X c (tT (X.kw ea) W T)) (hb : PSs X body (tS (X.kw ea) W B)) : PS X (.While c body [] pos) (tS (X.kw ea) W (swhile n T B)) :=
  PS_weak (ps_while hp ht hb) fun D σ H ⟨H0, Hf0, Hf, e, S, p⟩ => by
    refine ⟨fun m σ2 H2 => ∃ Hf2 e2, SR (X.kw ea) H0 Hf0 Hf2 H2 σ2 e2 ∧ PoS (X.kw ea) W D H0 Hf0 Hf2 (whL T B m e2), ⟨n, Hf, e, S, p⟩, ?_⟩
    rintro m σ2 H2 ⟨Hf2, e2, S2, p2⟩
    cases m with
    | zero => exact p2.elim
    | succ m =>
      refine ⟨H0, Hf0, Hf2, e2, S2, ?_⟩
      unfold whL at p2
      revert p2
      cases T e2 with
      | ok b =>
        cases b with
        | true =>
          intro p2 Hf3 H3 g3
          rw [if_pos rfl]
          have S3 := S2.grow g3
          refine ⟨fun σ4 H4 => ∃ Hf4 e4, SR (X.kw ea) H0 Hf0 Hf4 H4 σ4 e4 ∧ PoS (X.kw ea) W D H0 Hf0 Hf4 (whL T B m e4), fun σ4 H4 q => ⟨m, Nat.lt_succ_self _, q⟩, H0, Hf0, Hf3, e2, S3, ?_⟩
          have p3 := PoS.same p2 g3.ff
          revert p3
          show PoS (X.kw ea) W D H0 Hf0 Hf3 (match B e2 with | .nx e2 => whL T B m e2 | .ct e2 => whL T B m e2 | .bk e2 => .nx e2 | r => r) → _
          cases B e2 with
          | nx e4 => exact fun p3 σ5 Hf5 H5 S5 s5 => ⟨Hf5, e4, S5, p3.same s5⟩
          | ct e4 => exact fun p3 σ5 Hf5 H5 S5 s5 => ⟨Hf5, e4, S5, p3.same s5⟩
          | bk e4 => exact fun p3 => p3
          | rt d => exact fun p3 => p3
          | ex c e4 => exact fun p3 => p3
          | bad => exact fun p3 => p3
        | false =>
          intro p2 Hf3 H3 g3
          rw [if_neg Bool.false_ne_true]
          exact p2 σ2 Hf3 H3 (S2.grow g3) g3.ff
      | ex c => exact fun p2 Hf3 H3 g3 => p2 σ2 Hf3 H3 (S2.grow g3) g3.ff
      | bad => exact fun p2 => p2
/-! ### defs -/
/-- what a def promises: n arguments, what F computes -/
def spD (K : Kw) (mg : Str → Option Value) (n : Nat) (F : List D → R D) : Sp := fun vs H Q E => ∃ Hf ds, Same Hf H ∧ RpAll K Hf vs ds ∧ ds.length = n ∧ match F ds with
  | .ok d => ∀ v Hf' H', Grow Hf H Hf' H' → Rp K Hf' v d → Q v H'
  | .ex c => ∀ cv Hf' H', mg c = some cv → Grow Hf H Hf' H' → E cv none H'
  | .bad => False
theorem spD_len {K : Kw} {mg : Str → Option Value} {n : Nat} {F : List D → R D} : ∀ vs H Q E, spD K mg n F vs H Q E → vs.length = n := fun vs H Q E ⟨Hf, ds, _, r, h, _⟩ => r.length.trans h
def startE (m : Nat) (ds : List D) : En := ds.map Sl.dat ++ List.replicate (m - ds.length) .un
def runD (m : Nat) (B : En → Fl) (ds : List D) : R D := match B (startE m ds) with
  | .rt d => .ok d
  | .nx _ => .ok .none
  | .ex c _ => .ex c
  | _ => .bad
theorem SR.start {K : Kw} {Hf H : Hp} {N : List Str} {vs : List V} {ds : List D} (f : Same Hf H) (r : RpAll K Hf vs ds) : SR K H Hf Hf H (L2.start N vs) (startE N.length ds) := by
  have noown : ∀ (i : Nat) (s : Sl), (startE N.length ds)[i]? = some s → s.isOwn = false ∧ ((∃ d, ds[i]? = some d ∧ s = .dat d) ∨ s = .un) := by
    intro i s h
    unfold startE at h
    rw [List.getElem?_append] at h
    split at h
    · rw [List.getElem?_map] at h
      cases q : ds[i]? with
      | none => rw [q] at h; cases h
      | some d => rw [q] at h; cases h; exact ⟨rfl, .inl ⟨d, rfl, rfl⟩⟩
    · obtain ⟨_, h2⟩ := List.getElem?_eq_some_iff.mp h
      rw [List.getElem_replicate] at h2
      subst h2
      exact ⟨rfl, .inr rfl⟩
  refine ⟨Grow.refl f, ?_, fun i s v h1 h2 => ?_, fun i j s t a hij h1 h2 o1 => ?_⟩
  · unfold L2.start startE
    rw [List.length_append, List.length_append, List.length_map, List.length_map, List.length_replicate, List.length_replicate, r.length]
  · obtain ⟨_, h⟩ := noown i s h1
    rcases h with ⟨d, hd, rfl⟩ | rfl
    · obtain ⟨x, hx, rx⟩ := r.get hd
      unfold L2.start at h2
      have hi : i < vs.length := (List.getElem?_eq_some_iff.mp hx).1
      rw [List.getElem?_append_left (by rw [List.length_map]; exact hi), List.getElem?_map, hx] at h2
      cases h2
      exact ⟨x, rfl, rx⟩
    · trivial
  · obtain ⟨h, _⟩ := noown i s h1
    rw [h] at o1; cases o1
end
section
variable {P : Program} {w : World} {K : PySem.W.Frag} {mg : Str → Option Value} {base : Heap}
/-- the wish of a def's body -/
def wB (mg : Str → Option Value) (E : XK) : WE := fun c _ H => ∀ cv, mg c = some cv → E cv none H
/-- THE RULE for a def -/
theorem okD {x qual : Str} {st : Stmt} {f : Addr} {fd : FuncData} {N ps : List Str} {k : Nat} {B : En → Fl} (F : Fun K x qual st f fd) (S : FnScope N ps (defScope st))
    (body : ∀ (cdv : Value) (A : Around) (outer : List Env) (s : Shared) (H : Hp) (E : XK), Cz (cxOf (L2.CX P w) P w K mg base N qual (defScope st) f cdv A outer s H E) k (wB mg E) →
      PSs (cxOf (L2.CX P w) P w K mg base N qual (defScope st) f cdv A outer s H E) (defBody st) (tS ⟨K, w, 0⟩ (wB mg E) B)) :
    FnOk P w K mg base (L2.CX P w) (k + 1) f fd ps (spD ⟨K, w, 0⟩ mg ps.length (runD N.length B)) := by
  refine F.okX S spD_len fun cdv A outer s H vs Q E hr h => ?_
  refine ⟨_, body cdv A outer s H E ⟨rfl, S.nd, ?_, passes_of rfl, hr⟩, ?_⟩
  · refine Takes.imp (takes_of (X := cxOf (L2.CX P w) P w K mg base N qual (defScope st) f cdv A outer s H E) (E := E) rfl rfl rfl rfl) fun cls d σ H' q => ?_
    obtain ⟨rfl, c, hc, q⟩ := q
    exact q cls hc
  · obtain ⟨Hf, ds, sm, r, hn, q⟩ := h
    refine ⟨H, Hf, Hf, startE N.length ds, SR.start sm r, ?_⟩
    revert q
    unfold runD
    cases B (startE N.length ds) with
    | nx e => exact fun q σ Hf' H' S' _ => q .non Hf' H' S'.gr .non
    | rt d => exact fun q => q
    | bk e => exact fun q => q.elim
    | ct e => exact fun q => q.elim
    | ex c e => exact fun q σ Hf' H' S' _ cv hc => q cv Hf' H' hc S'.gr
    | bad => exact fun q => q
end
section
variable {X : Cx} {k j : Nat} {W : WE} {a : Expr} {es : List Expr} {L : En → R (List D)} {pos p : Pos} {x : Str} {f : Addr} {fd : FuncData} {ps : List Str} {Fn : List D → R D}
def xcall (n : Nat) (Fn : List D → R D) (L : En → R (List D)) : En → R D := fun e => (L e).bind fun ds => if ds.length = n then Fn ds else .bad
/-- f(e, ..) -/
theorem xCall (z : Cz X k W) (G : FnOk X.prog X.w (X.kw ea) X.mg X.base (L2.CX X.prog X.w) j f fd ps (spD (X.kw ea) X.mg ps.length Fn)) (hj : j ≤ k) (hg : Gl X x) (hm : X.mg x = some (.ref f)) (hk : PySem.W.keepIn (X.kw ea) (.ref f) = true) (hb : Binds (X.kw ea) fd ps []) (ha : PA X (a :: es) (tA (X.kw ea) W L))
    (hdb : (x == ("__debug__" : Str)) = false := by decide) (he : starEach (a :: es) X.env = (false, eval a X.env) :: starEach es X.env := by rfl) (hpl : (backTo pos (starEach es X.env)).any (·.1) = false := by rfl) : PE X (.Call (.Name x p) (a :: es) [] pos) (tE (X.kw ea) W (xcall ps.length Fn L)) :=
  PE_weak (pe_callSD (dvs := []) (ds := []) (E := fun σ cls d H => wx X.mg W cls d σ H) G (z.rm.mono hj) hg hm hk hb .nil (fun σ => passAt z.tk σ) ha hdb he hpl) fun σ H Q ⟨H0, Hf0, Hf, e, S, q⟩ => ⟨H0, Hf0, Hf, e, S, q.bindA.mono fun vs H1 ⟨Hf1, ds, g, r, q1⟩ => by
    rw [List.append_nil]
    by_cases hn : ds.length = ps.length
    · rw [if_pos hn] at q1
      refine ⟨Hf1, ds, g.fh, r, hn, ?_⟩
      revert q1
      cases Fn ds with
      | ok d => exact fun q1 => q1
      | ex c => exact fun q1 cv Hf' H' hc g' => ⟨rfl, c, hc, q1 Hf' H' g'⟩
      | bad => exact fun q1 => q1
    · rw [if_neg hn] at q1; exact q1.elim⟩
theorem xCall0 (z : Cz X k W) (G : FnOk X.prog X.w (X.kw ea) X.mg X.base (L2.CX X.prog X.w) j f fd ps (spD (X.kw ea) X.mg ps.length Fn)) (hj : j ≤ k) (hg : Gl X x) (hm : X.mg x = some (.ref f)) (hk : PySem.W.keepIn (X.kw ea) (.ref f) = true) (hb : Binds (X.kw ea) fd ps [])
    (hdb : (x == ("__debug__" : Str)) = false := by decide) : PE X (.Call (.Name x p) [] [] pos) (tE (X.kw ea) W (xcall ps.length Fn lnil)) := by
  refine ⟨fun pins s σ H Q I h => ?_⟩
  refine wpAny_Call_Name_kw (ld_glob I hg hm ?_ hdb)
  obtain ⟨H0, Hf0, Hf, e, S, q⟩ := h
  have q : Po (ERp (X.kw ea)) W Q σ Hf H (if ([] : List D).length = ps.length then Fn [] else .bad) := q
  by_cases hn : ([] : List D).length = ps.length
  · rw [if_pos hn] at q
    refine PySem.W.callWith_K0 I.kIn hk (run_fnSD (E := fun σ cls d H => wx X.mg W cls d σ H) (dvs := []) (ds := []) (us := []) (vs := []) G (z.rm.mono hj) hb .nil (passAt z.tk σ) I .nil ⟨Hf, [], S.gr.fh, .nil, hn, ?_⟩)
    revert q
    cases Fn [] with
    | ok d => exact fun q1 => q1
    | ex c => exact fun q1 cv Hf' H' hc g' => ⟨rfl, c, hc, q1 Hf' H' g'⟩
    | bad => exact fun q1 => q1
  · rw [if_neg hn] at q; exact q.elim
/-- flat data refers to nothing -/
def flatD : D → Bool
  | .none => true
  | .bool _ => true
  | .int _ => true
  | .str _ => true
  | _ => false
theorem Rp.flat {K : Kw} {H H' : Hp} {v : V} {d : D} (r : Rp K H v d) (h : flatD d = true) : Rp K H' v d := by
  cases r with
  | non => exact .non
  | bl b => exact .bl b
  | int i => exact .int i
  | str x => exact .str x
  | _ => cases h
def xcallV (n : Nat) (Fn : List D → R D) (L : En → R (List D)) : En → R D := fun e => (L e).bind fun ds => if ds.length = n then match Fn ds with
  | .ok d => if flatD d then .ok d else .bad
  | .ex c => .ex c
  | .bad => .bad else .bad
theorem VAll.full {K : Kw} {Hf H : Hp} (f : Same Hf H) : ∀ {vs : List V} {ds : List D}, VAll K Hf H vs ds → RpAll K H vs ds
  | _, _, .nil => .nil
  | _, _, .cons h t => .cons (h.full f) (VAll.full f t)
/-- f(e, ..) with lists of one's own lent; what comes is flat -/
theorem xCallV (z : Cz X k W) (G : FnOk X.prog X.w (X.kw ea) X.mg X.base (L2.CX X.prog X.w) j f fd ps (spD (X.kw ea) X.mg ps.length Fn)) (hj : j ≤ k) (hg : Gl X x) (hm : X.mg x = some (.ref f)) (hk : PySem.W.keepIn (X.kw ea) (.ref f) = true) (hb : Binds (X.kw ea) fd ps []) (ha : PA X (a :: es) (tAV (X.kw ea) W L))
    (hdb : (x == ("__debug__" : Str)) = false := by decide) (he : starEach (a :: es) X.env = (false, eval a X.env) :: starEach es X.env := by rfl) (hpl : (backTo pos (starEach es X.env)).any (·.1) = false := by rfl) : PE X (.Call (.Name x p) (a :: es) [] pos) (tE (X.kw ea) W (xcallV ps.length Fn L)) :=
  PE_weak (pe_callSD (dvs := []) (ds := []) (E := fun σ cls d H => wx X.mg W cls d σ H) G (z.rm.mono hj) hg hm hk hb .nil (fun σ => passAt z.tk σ) ha hdb he hpl) fun σ H Q ⟨H0, Hf0, Hf, e, S, q⟩ => ⟨H0, Hf0, Hf, e, S, q.bindA.mono fun vs H1 ⟨Hf1, ds, g, r, q1⟩ => by
    rw [List.append_nil]
    by_cases hn : ds.length = ps.length
    · rw [if_pos hn] at q1
      have r1 := r.full g.fh
      refine ⟨H1, ds, Same.refl _, r1, hn, ?_⟩
      have lift : ∀ {Hf' H' : Hp}, Grow H1 H1 Hf' H' → Grow Hf1 H1 Hf1 H' := fun gg => ⟨gg.hh, Same.refl _, g.fh.trans gg.hh, fun _ _ _ _ n => n⟩
      revert q1
      cases Fn ds with
      | ok d =>
        show Po (ERp (X.kw ea)) W Q σ Hf1 H1 (if flatD d then .ok d else .bad) → _
        intro q1 v Hf' H' g' rv
        by_cases hf : flatD d = true
        · rw [if_pos hf] at q1
          exact q1 v Hf1 H' (lift g') (rv.flat hf)
        · rw [if_neg hf] at q1; exact q1.elim
      | ex c => exact fun q1 cv Hf' H' hc g' => ⟨rfl, c, hc, q1 Hf1 H' (lift g')⟩
      | bad => exact fun q1 => q1
    · rw [if_neg hn] at q1; exact q1.elim⟩
end
end Pu
/-! PuK: sorted -/
namespace Pu
open PySem L2
def leS : D → D → Bool := PySem.W.dataLe false id
def isIntD : D → Bool
  | .int _ => true
  | _ => false
def isTupD : D → Bool
  | .tuple (x :: r) => (x :: r).all isIntD
  | _ => false
def sortable (ds : List D) : Bool := ds.all isIntD || ds.all isTupD
def sortD (ds : List D) : Option (List D) := if sortable ds && decide (ds.length ≤ many) then some (ds.mergeSort leS) else none
theorem alikeAll_ints : ∀ (xs ys : List D), xs.all isIntD = true → ys.all isIntD = true → PySem.W.alikeAll xs ys = true
  | [], _, _, _ => by unfold PySem.W.alikeAll; rfl
  | x :: xs, [], _, _ => by unfold PySem.W.alikeAll; rfl
  | x :: xs, y :: ys, h1, h2 => by
    rw [List.all_cons, Bool.and_eq_true] at h1 h2
    unfold PySem.W.alikeAll
    rw [alikeAll_ints xs ys h1.2 h2.2, Bool.and_true]
    cases x with
    | int i => cases y with
      | int j => unfold PySem.W.alike; rfl
      | _ => cases h2.1
    | _ => cases h1.1
theorem sortable_alike {ds : List D} (h : sortable ds = true) : PySem.W.AllAlike ds ∧ PySem.W.Sortable ds ∧ (∀ d ∈ ds, d.depth ≤ 1) ∧ ∀ d ∈ ds, d.canLay0 = true := by
  have layI : ∀ xs : List D, xs.all isIntD = true → PyData.canLayAll0 xs = true ∧ PyData.depthAll xs = 0 := by
    intro xs
    induction xs with
    | nil => intro _; exact ⟨by unfold PyData.canLayAll0; rfl, by unfold PyData.depthAll; rfl⟩
    | cons x xs ih =>
      intro h
      rw [List.all_cons, Bool.and_eq_true] at h
      cases x with
      | int i =>
        obtain ⟨a, b⟩ := ih h.2
        exact ⟨by simp [PyData.canLayAll0, PyData.canLay0, a], by simp [PyData.depthAll, PyData.depth, b]⟩
      | _ => cases h.1
  unfold sortable at h
  rw [Bool.or_eq_true] at h
  rcases h with h | h
  · rw [List.all_eq_true] at h
    refine ⟨fun d hd d' hd' => ?_, .inr fun d hd => ?_, fun d hd => ?_, fun d hd => ?_⟩
    · have a := h d hd
      have b := h d' hd'
      cases d with
      | int i => cases d' with
        | int j => unfold PySem.W.alike; rfl
        | _ => cases b
      | _ => cases a
    · have a := h d hd
      cases d with
      | int i => exact ⟨fun z => (by cases z), fun xs z => (by cases z)⟩
      | _ => cases a
    · have a := h d hd
      cases d with
      | int i => simp [PyData.depth]
      | _ => cases a
    · have a := h d hd
      cases d with
      | int i => simp [PyData.canLay0]
      | _ => cases a
  · rw [List.all_eq_true] at h
    have sh : ∀ d ∈ ds, ∃ x r, d = .tuple (x :: r) ∧ (x :: r).all isIntD = true := fun d hd => by
      have a := h d hd
      cases d with
      | tuple xs => cases xs with
        | nil => cases a
        | cons x r => exact ⟨x, r, rfl, a⟩
      | _ => cases a
    refine ⟨fun d hd d' hd' => ?_, .inl fun d hd => ?_, fun d hd => ?_, fun d hd => ?_⟩
    · obtain ⟨x, r, rfl, a⟩ := sh d hd
      obtain ⟨y, s, rfl, b⟩ := sh d' hd'
      unfold PySem.W.alike
      exact alikeAll_ints _ _ a b
    · obtain ⟨x, r, rfl, a⟩ := sh d hd
      exact ⟨x, r, rfl⟩
    · obtain ⟨x, r, rfl, a⟩ := sh d hd
      simp [PyData.depth, (layI _ a).2]
    · obtain ⟨x, r, rfl, a⟩ := sh d hd
      simp [PyData.canLay0, (layI _ a).1]
open PySem.W in
/-- values and what they stand for, paired -/
theorem each_of {K : Kw} {H : Hp} : ∀ {vs : List V} {us : List Value} {ds : List D}, Vals vs us → RpAll K H vs ds → EachIs (fun u (b : V × D) => RelV b.1 u) us (vs.zip ds)
  | _, _, _, .nil, .nil => .nil
  | _, _, _, .cons r t, .cons _ t' => .cons r (each_of t t')
open PySem.W in
theorem each_reads {X : Cx} {pins : List (Addr × Obj)} {σ : L2.St} {H : Hp} {s : Shared} (I : L2.Inv X pins σ H s) : ∀ {vs : List V} {us : List Value} {ds : List D}, Vals vs us → RpAll (X.kw ea) H vs ds → (∀ d ∈ ds, d.canLay0 = true) → EachIs (fun u (b : V × D) => ∃ as, Reads s.heap u b.2 as) us (vs.zip ds)
  | _, _, _, .nil, .nil, _ => .nil
  | _, _, _, .cons r t, .cons q t', h => .cons (Dp.reads I _ _ _ (q.dp (h _ List.mem_cons_self)) r) (each_reads I t t' fun d hd => h d (List.mem_cons_of_mem _ hd))
open PySem.W in
theorem of_each {K : Kw} {H : Hp} : ∀ {us : List Value} {bs : List (V × D)}, EachIs (fun u (b : V × D) => RelV b.1 u) us bs → (∀ b ∈ bs, Rp K H b.1 b.2) → Vals (bs.map (·.1)) us ∧ RpAll K H (bs.map (·.1)) (bs.map (·.2))
  | _, _, .nil, _ => ⟨.nil, .nil⟩
  | _, _, .cons r t, h => ⟨.cons r (of_each t fun b hb => h b (List.mem_cons_of_mem _ hb)).1, .cons (h _ List.mem_cons_self) (of_each t fun b hb => h b (List.mem_cons_of_mem _ hb)).2⟩
theorem zip_snd {K : Kw} {H : Hp} : ∀ {vs : List V} {ds : List D}, RpAll K H vs ds → (vs.zip ds).map (·.2) = ds
  | _, _, .nil => rfl
  | _, _, .cons _ t => by rw [List.zip_cons_cons, List.map_cons, zip_snd t]
theorem zip_rp {K : Kw} {H : Hp} : ∀ {vs : List V} {ds : List D}, RpAll K H vs ds → ∀ b ∈ vs.zip ds, Rp K H b.1 b.2
  | _, _, .nil, b, hb => by cases hb
  | _, _, .cons r t, b, hb => by
    rw [List.zip_cons_cons] at hb
    rcases List.mem_cons.mp hb with rfl | hb
    · exact r
    · exact zip_rp t b hb
section
variable {X : Cx}
open PySem.W PyProof.Rows in
/-- sorted(v): what collect gives of v is laid in a new list, and that is put in order -/
theorem sorted_by {P : Program} {w : World} {A : Around} {E : Value → Shared → Prop} {s : Shared} {v : Value} {Q : Value → Shared → Prop}
    (h : wpAny (model P w) A.in1 (collect v) (fun us s1 => us.length ≤ sizeLine ∧ ∃ κ : KeyKind, SortsAt P w A.in1.in1 { s1 with heap := sortingHeap (s1.heap.push (seqObj "list" us.toArray 0)) s1.heap.objs.size us } κ us ∧
      Q (.ref s1.heap.objs.size) { s1 with heap := sortedHeap (s1.heap.push (seqObj "list" us.toArray 0)) s1.heap.objs.size us (sortVals κ false us us).toArray }) E s) :
    wpAny (model P w) A (call (.builtin "sorted") [v]) Q E s := by
  apply Calls.call_function_entry kind_sorted plain_sorted entry_sorted (args_sorted1 v)
  show wpAny _ _ (checkCount "sorted" 1 1 _ >>= _) _ _ _
  apply wpAny_bind
  apply wpAny_pure
  apply wpAny_bind
  refine thn h fun us s1 ⟨hz, κ, srt, q⟩ => wpAny_bind (wpAny_newList ?_ hz)
  have at0 : (s1.heap.push (seqObj "list" us.toArray 0)).get? s1.heap.objs.size = some (seqObj "list" us.toArray 0) := Heap.get?_push_size _ rfl
  have isL : Shared.TypeIs { s1 with heap := s1.heap.push (seqObj "list" us.toArray 0) } (.ref s1.heap.objs.size) "list" := ⟨_, at0, rfl⟩
  have put := fun Z (y : Z (.done (.ret .none)) _) => list_sort_vals (s := { s1 with heap := s1.heap.push (seqObj "list" us.toArray 0) }) (P := Z) (E := E) at0 srt hz y
  exact wpAny_bind (wpAny_holding (wpAny_call_entry slot_list_sort isL entry_list_sort (put _ ⟨_, rfl, wpAny_pure ⟨_, rfl, q⟩⟩) (args_list_sort _)))
open PySem.W PyProof.Rows in
/-- sorted(..) of whatever collect gives -/
theorem sorted_src {pins : List (Addr × Obj)} {s : Shared} {σ : L2.St} {Hf H : Hp} {Q : VK} {k : Nat} {v : Value} {vs : List V} {ds : List D} (I : L2.Inv X pins σ H s) (hr : Room k X.A) (f : Same Hf H) (r : RpAll (X.kw ea) Hf vs ds) (hs : sortable ds = true) (hl : ds.length ≤ many)
    (hcol : ∀ (R : List Value → Shared → Prop) (E : Value → Shared → Prop), (∀ (h' : Heap) (tk : Nat) (acc : List Value), (∀ b o, s.heap.get? b = some o → h'.get? b = some o) → Vals vs acc → R acc { s with heap := h', toks := tk }) → wpAny (model X.prog X.w) X.A.in1 (collect v) R E s)
    (q : ∀ p xs Hf' H', Grow Hf H Hf' H' → H p = none → Hf' p = none → H' p = some (.lst xs) → RpAll (X.kw ea) Hf' xs (ds.mergeSort leS) → Q (.ref p) H') :
    wpAny (model X.prog X.w) X.A (call (.builtin "sorted") [v]) (EP X pins σ Q) X.xe s := by
  obtain ⟨hal, hso, hdp, hly⟩ := sortable_alike hs
  refine sorted_by (hcol _ _ fun g tk us kp rv => ?_)
  have I1 : L2.Inv X pins σ H { s with heap := g, toks := tk } := I.kept kp
  have hlen : us.length ≤ sizeLine := by rw [← rv.length, r.length]; exact many_line hl
  have snd : (vs.zip ds).map (fun b : V × D => b.2) = ds := zip_snd r
  have at0 : (g.push (seqObj "list" us.toArray 0)).get? g.objs.size = some (seqObj "list" us.toArray 0) := Heap.get?_push_size _ rfl
  have er : EachIs (fun u (b : V × D) => ∃ as, Reads (sortingHeap (g.push (seqObj "list" us.toArray 0)) g.objs.size us) u b.2 as) us (vs.zip ds) :=
    (each_reads I1 rv (r.mono f) hly).mono fun _ _ ⟨as, rr⟩ => ⟨as, PyProof.Rows.Reads.keeps (fun b o e => sortingHeap_old (Nat.ne_of_lt (Heap.lt_size e)) (Heap.get?_push_of_some _ e)) rr⟩
  have al : AllAlike ((vs.zip ds).map (fun b : V × D => b.2)) := by rw [snd]; exact hal
  have so : Sortable ((vs.zip ds).map (fun b : V × D => b.2)) := by rw [snd]; exact hso
  refine ⟨hlen, dataKind (sortingHeap (g.push (seqObj "list" us.toArray 0)) g.objs.size us) ((vs.zip ds).map (fun b : V × D => b.2)), SortsAt.data (s := { s with heap := sortingHeap (g.push (seqObj "list" us.toArray 0)) g.objs.size us, toks := tk }) (each_map (R := fun v d => ∃ as, Reads (sortingHeap (g.push (seqObj "list" us.toArray 0)) g.objs.size us) v d as) (fun b : V × D => b.2) er) al so (fun d hd => ?_), ?_⟩
  · rw [snd] at hd
    have deep := hdp d hd
    have un := hr.un
    show X.A.units + 1 + 1 + d.depth < cLine
    omega
  · have eo := sortVals_data false (each_of (K := (X.kw ea)) (H := Hf) rv r) er al
    have perm : ((vs.zip ds).mergeSort (dataLe false (fun b : V × D => b.2))).Perm (vs.zip ds) := List.mergeSort_perm _ _
    obtain ⟨ov, orp⟩ := of_each (K := (X.kw ea)) (H := Hf) eo fun b hb => zip_rp r b (perm.mem_iff.mp hb)
    have em : ((vs.zip ds).mergeSort (dataLe false (fun b : V × D => b.2))).map (fun b : V × D => b.2) = ds.mergeSort leS := by
      rw [List.map_mergeSort (r := dataLe false (fun b : V × D => b.2)) (s := leS) (f := fun b : V × D => b.2) (l := vs.zip ds) (fun a _ b _ => rfl), snd]
    rw [em] at orp
    obtain ⟨n, atN⟩ := sortedHeap_at (vs := us) (out := (sortVals (dataKind (sortingHeap (g.push (seqObj "list" us.toArray 0)) g.objs.size us) ((vs.zip ds).map (fun b : V × D => b.2))) false us us).toArray) at0
    have zl : (((vs.zip ds).mergeSort (dataLe false (fun b : V × D => b.2))).map (fun b : V × D => b.1)).length ≤ sizeLine := by
      rw [orp.length, List.length_mergeSort]
      exact many_line hl
    have free : H g.objs.size = none := I1.hok.fresh (Nat.le_refl _)
    have kept : ∀ b o, g.get? b = some o → (sortedHeap (g.push (seqObj "list" us.toArray 0)) g.objs.size us (sortVals (dataKind (sortingHeap (g.push (seqObj "list" us.toArray 0)) g.objs.size us) ((vs.zip ds).map (fun b : V × D => b.2))) false us us).toArray).get? b = some o := fun b o e =>
      (sortedHeap_old (Nat.ne_of_lt (Heap.lt_size e)) (size_push' .. ▸ Nat.lt_succ_of_lt (Heap.lt_size e))).trans (Heap.get?_push_of_some _ e)
    exact ⟨.ref g.objs.size, _, I1.laid (t' := tk) (o := .lst (((vs.zip ds).mergeSort (dataLe false (fun b : V × D => b.2))).map (fun b : V × D => b.1))) kept (Nat.le_refl _) ⟨zl, _, n, ov, atN⟩, rfl, q _ _ Hf _ (Grow.lay f free) free (f.free free) upd_same orp⟩
end
end Pu
/-! PuL0: set(..) of a list -/
namespace Pu
open PySem PySem.Spec PyProof.Rows
/-- a built-in class is called: what its new makes, its init fills -/
theorem call_class {P : Program} {w : World} {A : Around} {E : Value → Shared → Prop} {s : Shared} {T newId initId : String} {args : List Value} {Q Q1 : Value → Shared → Prop} (ft : TypeCalled T newId initId) (ok : checkTypeCall T ⟨args, []⟩ = pure ())
    (hn : ∀ A' : Around, codeAny (model P w) A' (.call (.builtin newId) ⟨.type T :: args, []⟩) (wants Q1 E) s)
    (hi : ∀ (A' : Around) (x : Value) (s1 : Shared), A'.handled = A.handled → A'.units ≤ A.units + 1 → Q1 x s1 → s1.TypeIs x T ∧ codeAny (model P w) A' (.call (.builtin initId) ⟨x :: args, []⟩) (wants (fun r s2 => r = .none ∧ Q x s2) E) s1) :
    wpAny (model P w) A (call (.type T) args) Q E s := by
  have f1 := ft.made
  have f2 := ft.sub
  have f3 := ft.notType
  have f4 := ft.canCreate
  have f5 := ft.init.lookup
  have f6 := ft.init.bind
  obtain ⟨c, tl, f0⟩ := ft.mro
  have quiet : (Code.builtin "type.__call__" ⟨Value.type T :: args, []⟩).quiet = true := Code.quiet_builtin _ (by decide +kernel)
  apply wpAny_call
  apply codeAny_of_tree
  show wpAny _ _ (callAny (.type T) _) _ _ _
  refine wpAny_pure ⟨quiet, ?_⟩
  apply codeAny_builtin F.entry_type_call
  rw [Around.under_plain (weight_type_call_type T args []) rfl]
  repeat (any_goals (first | assumption | wp_step))
  refine codeAny_mono (hn _) fun r s1 hr => ?_
  match r, hr with
  | .error e, hr => exact hr
  | .ok (.ret x), hr =>
    obtain ⟨ty, run⟩ := hi A.in1 x s1 (by simp) (Nat.le_refl _) hr
    have f6x := f6 x
    repeat (any_goals (first | assumption | wp_step))
    refine codeAny_mono run fun r2 s2 h2 => ?_
    match r2, h2 with
    | .error e, h2 => exact h2
    | .ok (.ret y), h2 =>
      obtain ⟨y0, q⟩ := h2
      subst y0
      repeat (any_goals (first | exact q | wp_step))
/-- a new set; a new iterator of the list at l -/
abbrev set0 (w : World) : Obj := { cls := .type "set", dict := none, data := .set #[] 0 (.fresh 0 0 (!w.params.followText "set-order")) }
abbrev lit0 (l : Addr) : Obj := { cls := .type "list_iterator", data := .fields #[.ref l, .int 0 0] }
abbrev setOn (w : World) (h : Heap) (l : Addr) : Heap := (h.push (set0 w)).push (lit0 l)
/-- set(l), l a list: the set's loop over a new iterator -/
theorem setOf_list {P : Program} {w : World} {A : Around} {E : Value → Shared → Prop} {s : Shared} {l : Addr} {us : Array Value} {Q : Value → Shared → Prop} (hl : s.heap.IsList l us)
    (loop : ∀ A' : Around, A'.handled = A.handled → A'.units ≤ A.units + 3 → codeAny (model P w) A' (.builtin "set.update.loop" ⟨[.ref s.heap.objs.size, .ref (s.heap.objs.size + 1)], []⟩) (fun r s2 => r = .ok (.ret .none) ∧ Q (.ref s.heap.objs.size) s2) { s with heap := setOn w s.heap l }) :
    wpAny (model P w) A (call (.type "set") [.ref l]) Q E s := by
  refine call_class (Q1 := fun x s1 => x = .ref s.heap.objs.size ∧ s1 = { s with heap := s.heap.push (set0 w) }) F.called_set (F.typeCall_set_1 _) (fun A' => L2.code_set_led1 _ ⟨rfl, rfl⟩) fun A' x s1 hA' uA' ⟨ex, e1⟩ => ?_
  subst ex e1
  have at0 : (s.heap.push (set0 w)).get? s.heap.objs.size = some (set0 w) := Heap.get?_push_size _ rfl
  have ty : Shared.TypeIs { s with heap := s.heap.push (set0 w) } (.ref s.heap.objs.size) "set" := ⟨_, at0, rfl⟩
  have hl1 : (s.heap.push (set0 w)).IsList l us := hl.push _
  refine ⟨ty, codeAny_call_builtin F.called_set.init.plain F.entry_set_init (check_set_init_1 ty ?_)⟩
  obtain ⟨⟨cl, dd, da, sl⟩, gl, ec, n, ed⟩ := id hl1
  obtain rfl : cl = .type "list" := ec
  obtain rfl : da = .seq us n := ed
  have n1 := F.sub_list_set
  have n2 := F.sub_list_frozenset
  have n3 : (Value.type "list" == Value.type "dict") = false := by decide
  unfold Builtin.«set.__init__» noKeywords Builtin.Frozenset.updateFrom
  generalize eP : pyIter = pI
  wp_walk
  subst eP
  apply wpAny_pyIter_list hl1
  apply wpAny_bind
  apply wpAny_runValue
  have sz : (s.heap.push (set0 w)).objs.size = s.heap.objs.size + 1 := Heap.size_push ..
  rw [sz]
  refine codeAny_mono (loop _ (by simp [hA']) (by have := uA'; show A'.units + 1 ≤ A.units + 3; omega)) fun r s2 ⟨er, q⟩ => ?_
  subst er
  exact wpAny_pure (wpAny_pure ⟨rfl, q⟩)
/-- set(l), l a list of ints -/
theorem set_ints {P : Program} {w : World} {A : Around} {E : Value → Shared → Prop} {s : Shared} {l : Addr} {us : Array Value} {ns : List Int} {Q : Value → Shared → Prop} (hh : A.handled = none) (hl : s.heap.IsList l us) (hi : IntsAre us.toList ns) (hb : ns.length + 1 < scanBound)
    (h : ∀ (h' : Heap) (tk c : Nat), L2.SetR w h' s.heap.objs.size (fun j => decide (j ∈ ns)) c → c ≤ ns.length → (∀ b o, s.heap.get? b = some o → h'.get? b = some o) → Q (.ref s.heap.objs.size) { s with heap := h', toks := tk }) :
    wpAny (model P w) A (call (.type "set") [.ref l]) Q E s := by
  have len : us.size = ns.length := (Array.length_toList (xs := us)).symm.trans hi.length
  have ll : l < s.heap.objs.size := let ⟨_, g, _⟩ := hl; Heap.lt_size g
  have sz : (s.heap.push (set0 w)).objs.size = s.heap.objs.size + 1 := Heap.size_push ..
  have ne : l ≠ s.heap.objs.size + 1 := Nat.ne_of_lt (Nat.lt_succ_of_lt ll)
  have at0 : (setOn w s.heap l).get? s.heap.objs.size = some (set0 w) := Heap.get?_push_of_some _ (Heap.get?_push_size _ rfl)
  have at1 : (setOn w s.heap l).get? (s.heap.objs.size + 1) = some (lit0 l) := sz ▸ Heap.get?_push_size _ rfl
  have kp : ∀ b o, s.heap.get? b = some o → (setOn w s.heap l).get? b = some o := fun b o g => Heap.get?_push_of_some _ (Heap.get?_push_of_some _ g)
  have item : ∀ (i : Nat) (v : Value), us[i]? = some v → ∃ k t, ns[i]? = some k ∧ v = .int k t := fun i v g => by
    have gi : us.toList[i]? = some v := by rw [Array.getElem?_toList]; exact g
    obtain ⟨t, e⟩ := IntsAre.int_at hi i v gi
    have lt : i < ns.length := by rw [← len]; exact (Array.getElem?_eq_some_iff.mp g).1
    exact ⟨ns[i], t, List.getElem?_eq_getElem lt, by rw [e, List.getD_eq_getElem?_getD, List.getElem?_eq_getElem lt]; rfl⟩
  refine setOf_list hl fun A' hA _ => ?_
  have W := (Walks.list (prog := P) (w := w) (A := A'.in1) (by simp [hA, hh]) (s.heap.objs.size + 1) l ne us).toS
  have own : s.heap.objs.size ∉ [s.heap.objs.size + 1, l] := fun m => (List.mem_cons.mp m).elim (fun e => Nat.succ_ne_self _ e.symm) fun m => Nat.ne_of_gt ll (List.mem_singleton.mp m)
  refine L2.set_update_ints W s.heap.objs.size own ns len hb item us.size 0 _ rfl (Nat.zero_le _) ⟨⟨_, at1, rfl, rfl⟩, hl.at fun o g => kp l o g⟩ ⟨0, Nat.le_refl 0, L2.setR_new_at at0⟩ fun s2 c mv hc R => ⟨rfl, ?_⟩
  have more := h s2.heap s2.toks c R (len ▸ hc) fun b o g => mv.heap b o (fun m => by
    have lt := Heap.lt_size g
    rcases List.mem_cons.mp m with e | m
    · exact Nat.ne_of_lt lt e
    · exact Nat.ne_of_lt (Nat.lt_succ_of_lt lt) (List.mem_singleton.mp m)) (kp b o g)
  have es : s2 = { s with heap := s2.heap, toks := s2.toks } := by
    cases s2
    have e1 := mv.gens
    have e2 := mv.drawn
    have e3 := mv.os
    cases e1
    cases e2
    cases e3
    rfl
  rw [es]
  exact more
end Pu
/-! PuL: sorted of lists, tuples, dicts, sets of ints; isinstance; dicts; counts -/
namespace Pu
open PySem L2
def kvKeys (kvs : List (D × D)) : List D := kvs.map (·.1)
def sortN : D → Option (List D)
  | .list ds => sortD ds
  | .tuple ds => sortD ds
  | .dict kvs => sortD (kvKeys kvs)
  | _ => none
theorem sortD_of {ds z : List D} (h : sortD ds = some z) : sortable ds = true ∧ ds.length ≤ many ∧ z = ds.mergeSort leS := by
  unfold sortD at h
  split at h
  · rename_i hh
    rw [Bool.and_eq_true] at hh
    cases h
    exact ⟨hh.1, of_decide_eq_true hh.2, rfl⟩
  · cases h
theorem sortable_no {kvs : List (D × D)} (h : sortable (kvKeys kvs) = true) : ∀ z l, kvs ≠ (.none, z) :: l := fun z l e => by
  subst e
  exact absurd h (by simp [kvKeys, sortable, isIntD, isTupD])
/-- the keys of a dict -/
theorem RpDct.keys {K : Kw} {H : Hp} : ∀ {xs : List (NestedKey × Addr × Value)} {kvs : List (D × D)}, RpDct K H xs kvs → RpAll K H ((xs.map fun x => x.2.1).map V.ref) (kvKeys kvs)
  | _, _, .nil => .nil
  | _, _, .cons _ _ h _ _ t => .cons h (RpDct.keys t)
theorem RpDct.length {K : Kw} {H : Hp} : ∀ {xs : List (NestedKey × Addr × Value)} {kvs : List (D × D)}, RpDct K H xs kvs → xs.length = kvs.length
  | _, _, .nil => rfl
  | _, _, .cons _ _ _ _ _ t => by rw [List.length_cons, List.length_cons, RpDct.length t]
/-- the keys that a dict's entries hold -/
theorem keys_of {w : World} {es : Array DictEntry} {ks : List (NestedKey × Addr × Value)} {acc : Array Value} (he : es.toList = ks.map (entW w)) (hl : acc.size = es.size) (hk : ∀ (j : Nat) (v : Value), acc[j]? = some v → ∃ en, es[j]? = some en ∧ v = en.key) : acc.toList = (ks.map fun x => x.2.1).map Value.ref := by
  have n0 : es.size = ks.length := by rw [← Array.length_toList, he, List.length_map]
  refine List.ext_getElem (by simp [hl, n0]) fun j h1 h2 => ?_
  have h1' : j < acc.size := h1
  have h3 : j < ks.length := by simpa using h2
  obtain ⟨en, g, e⟩ := hk j acc[j] (Array.getElem?_eq_getElem h1')
  rw [← Array.getElem?_toList, he, List.getElem?_map, List.getElem?_eq_getElem h3] at g
  obtain rfl : entW w ks[j] = en := Option.some.inj g
  rw [Array.getElem_toList, e, List.getElem_map, List.getElem_map]
  rfl
section
variable {X : Cx} {W : WE} {a b c : Expr} {F G : En → R D} {pos : Pos}
open PyProof.Rows in
theorem call_sortedB {k : Nat} (hc : X.calm = true) (hr : Room k X.A) : CallR X (.builtin "sorted") (rC1N (X.kw ea) (VRp (X.kw ea)) sortN) := by
  intro pins s σ H xs us Q I r ⟨x, Hf, dx, z, ex, f, hx, ez, q⟩
  subst ex
  obtain ⟨u, rfl, rx⟩ := r.one
  cases dx with
  | list ds =>
    obtain ⟨hs, hl, rfl⟩ := sortD_of ez
    obtain ⟨a, ys, rfl, ha, ra⟩ := hx.list f
    cases rx
    obtain ⟨its, rv, p, hz⟩ := I.list (SqL.of ha)
    exact sorted_src I hr f ra hs hl (fun R E h => let ⟨o, n, g, ec, _, ed⟩ := p; wpAny_collect_seq a (.inl rfl) g ec ed (fun g' kp => h g' s.toks its kp rv) (by rw [List.size_toArray, ← rv.length]; exact hz)) q
  | tuple ds =>
    obtain ⟨hs, hl, rfl⟩ := sortD_of ez
    obtain ⟨a, ys, rfl, ha, ra⟩ := hx.tuple f
    cases rx
    obtain ⟨its, rv, p, hz⟩ := I.tuple ha.sq
    exact sorted_src I hr f ra hs hl (fun R E h => let ⟨o, g, ec, n, ed⟩ := p; wpAny_collect_seq a (.inr rfl) g ec ed (fun g' kp => h g' s.toks its kp rv) (by rw [List.size_toArray, ← rv.length]; exact hz)) q
  | dict kvs =>
    obtain ⟨hs, hl, rfl⟩ := sortD_of ez
    obtain ⟨a, ks, rfl, ha, rk⟩ := hx.dict f (sortable_no hs)
    cases rx
    have ha' := ha
    obtain ⟨⟨z, hsm, o, es, ep, ho, hx', hdt, he, hn, _⟩, _⟩ := (show ObjOk X.prog X.w H s.heap a (DicO X.w a ks) from I.hok a _ ha')
    have l1 : es.size = ks.1.length := by rw [← Array.length_toList, he, List.length_map]
    refine sorted_src I hr f rk.keys hs hl (fun R E h => PySem.W.kdu_collect (kdl_raw hsm hx' hdt) (I.ok.hd hc) ho (by omega) fun h' tk acc kp it => h h' tk acc.toList kp ?_) q
    rw [keys_of he it.1 it.2]
    exact vals_refs _
  | _ => cases ez
end
end Pu
/-! PuM: sorted(set(ints)); isinstance; dicts of True; counts -/
namespace L2
open PySem PySem.Spec PyProof.Rows
def rSetI (K : PySem.W.Frag) (w : World) : List V → Hp → VK → Prop := fun xs H Q => ∃ (l : Addr) (ns : List Int), xs = [V.ref l] ∧ SqL K H l (ns.map V.int) ∧ ns.length < 60 ∧ ∀ (p : Addr) (c : Nat), H p = none → c ≤ ns.length → Q (.ref p) (upd H p (SetO w p (fun j => decide (j ∈ ns)) c))
theorem cr_setI {X : Cx} (hc : X.calm = true) : CallR X (.type "set") (rSetI X.K X.w) := fun pins s σ H _ _ Q I rs ⟨l, ns, ex, hl, h60, q⟩ => by
  subst ex
  obtain ⟨_, rfl, rfl⟩ := vals1 rs
  obtain ⟨us, ru, pl, _⟩ := I.list hl
  have hin : IntsAre us.toArray.toList ns := by simpa using RZ.intsAre_vals ru
  have small : ns.length + 1 < scanBound := by unfold scanBound; omega
  exact Pu.set_ints (I.ok.hd hc) pl.isList hin small fun g tk c R hc' kp => ⟨.ref s.heap.objs.size, _, I.laid (t' := tk) kp (Nat.le_refl _) (setO_new R), rfl, q _ c (I.hok.fresh (Nat.le_refl _)) hc'⟩
end L2
namespace Pu
open PySem L2
/-! ### sorted(set(..)) of ints -/
def dedup : List Int → List Int
  | [] => []
  | x :: r => if x ∈ r then dedup r else x :: dedup r
theorem dedup_mem : ∀ (ns : List Int) (k : Int), k ∈ dedup ns ↔ k ∈ ns
  | [], k => Iff.rfl
  | x :: r, k => by
    unfold dedup
    split
    · rename_i h
      rw [dedup_mem r k, List.mem_cons]
      exact ⟨fun z => .inr z, fun z => z.elim (fun e => by rw [e]; exact h) fun z => z⟩
    · rw [List.mem_cons, List.mem_cons, dedup_mem r k]
theorem dedup_nodup : ∀ ns : List Int, (dedup ns).Nodup
  | [] => List.Pairwise.nil
  | x :: r => by
    unfold dedup
    split
    · exact dedup_nodup r
    · rename_i h
      exact List.nodup_cons.mpr ⟨fun z => h ((dedup_mem r x).mp z), dedup_nodup r⟩
def ssort (ns : List Int) : List Int := (dedup ns).mergeSort fun a b => decide (a ≤ b)
theorem ssort_mem (ns : List Int) (k : Int) : k ∈ ssort ns ↔ k ∈ ns := by
  unfold ssort
  rw [List.mem_mergeSort, dedup_mem]
theorem ssort_lt (ns : List Int) : (ssort ns).Pairwise (· < ·) := by
  unfold ssort
  have h1 : ((dedup ns).mergeSort fun a b => decide (a ≤ b)).Pairwise fun a b => decide (a ≤ b) = true := List.pairwise_mergeSort (fun a b c => by simp only [decide_eq_true_eq]; omega) (fun a b => by simp only [Bool.or_eq_true, decide_eq_true_eq]; omega) _
  have h2 : ((dedup ns).mergeSort fun a b => decide (a ≤ b)).Nodup := (List.mergeSort_perm _ _).nodup_iff.mpr (dedup_nodup ns)
  have h3 : ((dedup ns).mergeSort fun a b => decide (a ≤ b)).Pairwise fun a b => a ≠ b := h2
  refine (h1.and h3).imp fun {a b} h => ?_
  have := of_decide_eq_true h.1
  have := h.2
  omega
theorem lt_unique : ∀ (a b : List Int), a.Pairwise (· < ·) → b.Pairwise (· < ·) → (∀ k, k ∈ a ↔ k ∈ b) → a = b
  | [], [], _, _, _ => rfl
  | [], y :: b, _, _, h => by have := (h y).mpr List.mem_cons_self; cases this
  | x :: a, [], _, _, h => by have := (h x).mp List.mem_cons_self; cases this
  | x :: a, y :: b, h1, h2, h => by
    rw [List.pairwise_cons] at h1 h2
    have e : x = y := by
      have hx := (h x).mp List.mem_cons_self
      have hy := (h y).mpr List.mem_cons_self
      rcases List.mem_cons.mp hx with e | hx
      · exact e
      · rcases List.mem_cons.mp hy with e | hy
        · exact e.symm
        · have a1 := h2.1 x hx
          have a2 := h1.1 y hy
          omega
    subst e
    congr 1
    refine lt_unique a b h1.2 h2.2 fun k => ⟨fun hk => ?_, fun hk => ?_⟩
    · rcases List.mem_cons.mp ((h k).mp (List.mem_cons_of_mem _ hk)) with e | hk'
      · have := h1.1 k hk; omega
      · exact hk'
    · rcases List.mem_cons.mp ((h k).mpr (List.mem_cons_of_mem _ hk)) with e | hk'
      · have := h2.1 k hk; omega
      · exact hk'
def sortSetN : D → Option (List D)
  | .list ds => (intsOf ds).bind fun ns => if ns.length < 60 then some ((ssort ns).map PyData.int) else none
  | _ => none
section
variable {X : Cx} {W : WE} {a b c : Expr} {F G : En → R D} {pos p p2 q : Pos}
theorem xSortSet (hc : X.calm = true) (hg : Gl X "sorted") (hm : X.mg "sorted" = none) (hv : bootBuiltins "sorted" = some (.builtin "sorted")) (hg2 : Gl X "set") (hm2 : X.mg "set" = none) (hv2 : bootBuiltins "set" = some (.type "set")) (ha : PE X a (tV (X.kw ea) W F))
    (he : starEach [a] X.env = [(false, eval a X.env)] := by rfl) (he2 : starEach [Expr.Call (.Name "set" p2) [a] [] q] X.env = [(false, eval (Expr.Call (.Name "set" p2) [a] [] q) X.env)] := by rfl) :
    PE X (.Call (.Name "sorted" p) [.Call (.Name "set" p2) [a] [] q] [] pos) (tN (X.kw ea) W (un1N sortSetN F)) :=
  PE_weak (pe_callB (cr_sortedSet hc) hg hm hv (pa_cons (pe_callTy (cr_setI hc) hg2 hm2 hv2 (pa_cons ha pa_nil he) (by decide) (by decide) he) pa_nil he2) (by decide) (by decide) he2) fun σ H Q ⟨H0, Hf0, Hf, e, S, pp⟩ => ⟨H0, Hf0, Hf, e, S, pp.bind.mono fun x H1 ⟨Hf1, d, g, r, p1⟩ => by
    obtain ⟨z, ez, qq⟩ := p1.of_opt
    cases d with
    | list ds =>
      obtain ⟨l, ys, rfl, hl, ra⟩ := r.list g.fh
      have ez' : ((intsOf ds).bind fun ns => if ns.length < 60 then some ((ssort ns).map PyData.int) else none) = some z := ez
      cases h1 : intsOf ds with
      | none => rw [h1] at ez'; cases ez'
      | some ns =>
        rw [h1] at ez'
        have ez2 : (if ns.length < 60 then some ((ssort ns).map PyData.int) else none) = some z := ez'
        by_cases hn : ns.length < 60
        · rw [if_pos hn] at ez2
          cases ez2
          rw [intsOf_eq h1] at ra
          rw [ra.ints] at hl
          refine ⟨l, ns, rfl, SqL.of hl, hn, fun s c hs hc' => ⟨s, _, c, rfl, upd_same, by omega, fun ms t hlt hmem _ ht => ?_⟩⟩
          have em : ms = ssort ns := lt_unique _ _ hlt (ssort_lt ns) fun k => by rw [hmem k, ssort_mem]; exact ⟨fun h => of_decide_eq_true h, fun h => decide_eq_true h⟩
          subst em
          have g2 := Grow.lay (o := SetO X.w s (fun j => decide (j ∈ ns)) c) g.fh hs
          have g3 := Grow.lay (o := HO.lst ((ssort ns).map V.int)) g2.fh ht
          exact qq t _ Hf1 _ (g2.trans g3) (g2.hh.free ht) (g.fh.free (g2.hh.free ht)) upd_same (RpAll.ofInts _)
        · rw [if_neg hn] at ez2; cases ez2
    | _ => cases ez⟩
/-! ### isinstance -/
def tyD : D → Option String
  | .none => some "NoneType"
  | .bool _ => some "bool"
  | .int _ => some "int"
  | .str _ => some "str"
  | .list _ => some "list"
  | .tuple _ => some "tuple"
  | .dict _ => none
theorem tyD_of {K : Kw} {Hf H : Hp} {v : V} {d : D} {T : String} (f : Same Hf H) (r : VRp K Hf H v d) (h : tyD d = some T) : TyX K H v (.type T) := by
  have r' := r.full f
  cases r' with
  | non => cases h; exact .base .non
  | bl b => cases h; exact .base (.bl b)
  | int i => cases h; exact .base (.int i)
  | str x => cases h; exact .base (.str x)
  | lst hl _ => cases h; exact .base (.lst hl)
  | tup hl _ => cases h; obtain ⟨o, hl, _⟩ := hl; exact .fTuple hl
  | dct _ _ => cases h
  | scr _ => cases h
  | tab _ => cases h
/-- isinstance(x, T), T a built-in type -/
def isiD (T : String) (d : D) : Option D := (tyD d).bind fun t => (kitB t T).map PyData.bool
theorem xIsi {T : String} {x : Str} {pt : Pos} (hg : Gl X "isinstance") (hm : X.mg "isinstance" = none) (hv : bootBuiltins "isinstance" = some (.builtin "isinstance")) (hgt : Gl X x) (hmt : X.mg x = none) (hvt : bootBuiltins x = some (.type T)) (ha : PE X a (tV (X.kw ea) W F))
    (hn : x ≠ "__name__" := by decide) (hd : (x == ("__debug__" : Str)) = false := by decide) (he2 : starEach [a, .Name x pt] X.env = (false, eval a X.env) :: starEach [.Name x pt] X.env := by rfl) (he3 : starEach [Expr.Name x pt] X.env = [(false, eval (Expr.Name x pt) X.env)] := by rfl) :
    PE X (.Call (.Name "isinstance" p) [a, .Name x pt] [] pos) (tE (X.kw ea) W (un1 (isiD T) F)) :=
  PE_weak (pe_callB call_isi hg hm hv (pa_cons ha (pa_cons (pe_bltn (v := .ty T) hgt hmt hvt rfl hn hd) pa_nil he3) he2) (by decide) (by decide) he2 (by rw [he3]; rfl)) fun σ H Q ⟨H0, Hf0, Hf, e, S, pp⟩ => ⟨H0, Hf0, Hf, e, S, pp.bind.mono fun v H1 ⟨Hf1, d, g, r, p1⟩ => by
    obtain ⟨z, ez, qq⟩ := p1.of_opt
    unfold isiD at ez
    cases h1 : tyD d with
    | none => rw [h1] at ez; cases ez
    | some t =>
      rw [h1] at ez
      have ez' : (kitB t T).map PyData.bool = some z := ez
      cases h2 : kitB t T with
      | none => rw [h2] at ez'; cases ez'
      | some b =>
        rw [h2] at ez'
        cases ez'
        exact ⟨v, .ty T, .type t, .type T, b, rfl, .ty T, tyD_of g.fh r h1, kit_ty h2, qq _ Hf1 H1 (Grow.refl g.fh) (.bl b)⟩⟩
/-- isinstance(x, (T, U)) -/
def isi2D (T U : String) (d : D) : Option D := (tyD d).bind fun t => (kitB t T).bind fun b => (kitB t U).map fun b' => PyData.bool (b || b')
theorem xIsi2 {T U : String} {x y : Str} {px py pt : Pos} {kk : Nat} (hg : Gl X "isinstance") (hm : X.mg "isinstance" = none) (hv : bootBuiltins "isinstance" = some (.builtin "isinstance")) (hgt : Gl X x) (hmt : X.mg x = none) (hvt : bootBuiltins x = some (.type T)) (hgu : Gl X y) (hmu : X.mg y = none) (hvu : bootBuiltins y = some (.type U)) (ha : PE X a (tV (X.kw ea) W F))
    (hn : x ≠ "__name__" := by decide) (hd : (x == ("__debug__" : Str)) = false := by decide) (hn' : y ≠ "__name__" := by decide) (hd' : (y == ("__debug__" : Str)) = false := by decide)
    (he2 : starEach [a, .Tuple [.Name x px, .Name y py] kk pt] X.env = (false, eval a X.env) :: starEach [.Tuple [.Name x px, .Name y py] kk pt] X.env := by rfl) (he3 : starEach [Expr.Tuple [.Name x px, .Name y py] kk pt] X.env = [(false, eval (Expr.Tuple [.Name x px, .Name y py] kk pt) X.env)] := by rfl)
    (he4 : starEach [Expr.Name x px, .Name y py] X.env = (false, eval (Expr.Name x px) X.env) :: starEach [.Name y py] X.env := by rfl) (he5 : starEach [Expr.Name y py] X.env = [(false, eval (Expr.Name y py) X.env)] := by rfl) :
    PE X (.Call (.Name "isinstance" p) [a, .Tuple [.Name x px, .Name y py] kk pt] [] pos) (tE (X.kw ea) W (un1 (isi2D T U) F)) :=
  PE_weak (pe_callB call_isiT hg hm hv (pa_cons ha (pa_cons (pe_tup (pa_cons (pe_bltn (v := .ty T) hgt hmt hvt rfl hn hd) (pa_cons (pe_bltn (v := .ty U) hgu hmu hvu rfl hn' hd') pa_nil he5) he4)) pa_nil he3) he2) (by decide) (by decide) he2 (by rw [he3]; rfl)) fun σ H Q ⟨H0, Hf0, Hf, e, S, pp⟩ => ⟨H0, Hf0, Hf, e, S, pp.bind.mono fun v H1 ⟨Hf1, d, g, r, p1⟩ => by
    obtain ⟨z, ez, qq⟩ := p1.of_opt
    unfold isi2D at ez
    cases h1 : tyD d with
    | none => rw [h1] at ez; cases ez
    | some t =>
      rw [h1] at ez
      have ez' : ((kitB t T).bind fun b => (kitB t U).map fun b' => PyData.bool (b || b')) = some z := ez
      cases h2 : kitB t T with
      | none => rw [h2] at ez'; cases ez'
      | some b =>
        rw [h2] at ez'
        have ez2 : ((kitB t U).map fun b' => PyData.bool (b || b')) = some z := ez'
        cases h3 : kitB t U with
        | none => rw [h3] at ez2; cases ez2
        | some b' =>
          rw [h3] at ez2
          cases ez2
          refine ⟨by show 2 ≤ sizeLine; decide, fun tp htp => ?_⟩
          have g2 := Grow.lay (o := HO.tup [.ty T, .ty U]) g.fh htp
          refine ⟨v, tp, [.ty T, .ty U], .type t, [.type T, .type U], b || b', rfl, upd_same, .cons (.ty T) (.cons (.ty U) .nil), tyD_of g2.fh (r.mono g2) h1, ?_, qq _ Hf1 _ g2 (.bl _)⟩
          refine kitAny_cons (kit_ty h2) (fun hb => ?_) (fun hb => by rw [hb]; rfl)
          rw [hb]
          exact kitAny_cons (kit_ty h3) (fun hb' => by rw [hb']; exact kitAny_nil) (fun hb' => by rw [hb']; rfl)⟩
end
end Pu
/-! PuN: counts; dicts with tuple keys; t[::-1] -/
namespace Pu
open PySem L2
/-! ### methods of one argument, the receiver's type known by its data -/
section
variable {X : Cx} {W : WE} {a b c o : Expr} {F G : En → R D} {pos p apos cpos : Pos} {name : Str}
/-- an object without a dict of its own -/
def Bare (s : Shared) (v : Value) : Prop := ∀ a, v = .ref a → ∃ o, s.heap.get? a = some o ∧ o.dict = none
theorem Bare.at {s : Shared} {a : Addr} {o : Obj} (g : s.heap.get? a = some o) (h : o.dict = none) : Bare s (.ref a) := fun b e => by
  obtain rfl : a = b := Value.ref.inj e
  exact ⟨o, g, h⟩
theorem ty_of {pins : List (Addr × Obj)} {s : Shared} {σ : L2.St} {Hf H : Hp} {x : V} {v : Value} {d : D} {T : String} (I : L2.Inv X pins σ H s) (r : RelV x v) (f : Same Hf H) (h : VRp (X.kw ea) Hf H x d) (ht : tyD d = some T) : s.TypeIs v T ∧ Bare s v := by
  cases h.full f with
  | non => cases ht; cases (show v = Value.none from r); exact ⟨rfl, fun _ e => nomatch e⟩
  | bl k => cases ht; cases (show v = Value.bool k from r); exact ⟨rfl, fun _ e => nomatch e⟩
  | int i => cases ht; obtain ⟨t, rfl⟩ := r; exact ⟨typeIs_int s i t, fun _ e => nomatch e⟩
  | str z => cases ht; obtain ⟨t, rfl⟩ := r; exact ⟨typeIs_str s z t, fun _ e => nomatch e⟩
  | lst hl _ =>
    cases ht
    cases r
    obtain ⟨_, _, ⟨o, n, g, c, hd, ed⟩, _⟩ := I.list (SqL.of hl)
    exact ⟨⟨o, g, c⟩, .at g hd⟩
  | tup hl _ =>
    cases ht
    cases r
    obtain ⟨ob, hl, hd⟩ := hl
    obtain ⟨e1, _, _, _, o2, e2, c2, _⟩ := (show ObjOk X.prog X.w H s.heap _ (.frz ob (.tup _)) from I.hok _ _ hl)
    exact ⟨⟨o2, e2, c2⟩, .at e1 hd⟩
  | dct _ _ => cases ht
  | scr _ => cases ht
  | tab _ => cases ht
/-- what the method m does with data -/
structure Mt1 (X : Cx) (name : Str) (f : D → D → Option D) (T id : String) : Prop where
  pa : PlainAttrs T
  slot : Slot T name id
  ty : typeOf (.builtin id) = pure (.type "method_descriptor")
  run : ∀ (ea : Addr) (pins : List (Addr × Obj)) (s : Shared) (σ : L2.St) (Hf H : Hp) (x y : V) (v u : Value) (dx dy z : D) (Q : VK), L2.Inv X pins σ H s → RelV x v → RelV y u → Same Hf H → VRp (X.kw ea) Hf H x dx → VRp (X.kw ea) Hf H y dy → tyD dx = some T → f dx dy = some z →
    (∀ v' Hf' H', Grow Hf H Hf' H' → Rp (X.kw ea) Hf' v' z → Q v' H') → wpAny (model X.prog X.w) X.A (call (.builtin id) [v, u]) (EP X pins σ Q) X.xe s
def xmt (ts : List String) (f : D → D → Option D) (F G : En → R D) : En → R D := fun e => (F e).bind fun x => match tyD x with
  | some T => if T ∈ ts then (G e).bind fun y => opt (f x y) else .bad
  | none => .bad
theorem xMt {ts : List String} {f : D → D → Option D} (hm : ∀ T ∈ ts, ∃ id, Mt1 X name f T id) (ho : PE X o (tV (X.kw ea) W F)) (ha : PE X a (tV (X.kw ea) W G))
    (hbase : attributeBase o name X.env (eval o X.env) = eval o X.env := by rfl)
    (hfew : ((backTo cpos (starEach [a] X.env)).all (fun x => !x.1) && (backToKw cpos (keywordEach [] X.env)).all (fun x => x.1.isSome) && decide ([a].length + ([] : List Keyword).length + (if ([] : List Keyword).isEmpty then 0 else 1) < 30)) = true := by rfl)
    (hline : (apos.endLine == cpos.line) = true := by rfl) (hs : starEach [a] X.env = [(false, eval a X.env)] := by rfl) :
    PE X (.Call (.Attribute o name apos) [a] [] cpos) (tE (X.kw ea) W (xmt ts f F G)) := by
  refine ⟨fun pins s σ H Q I ⟨H0, Hf0, Hf, e, S, q⟩ => ?_⟩
  refine wpAny_Call_method_late hbase hfew hline rfl (thn (ho.run pins s σ H _ I ⟨H0, Hf0, Hf, e, S, q.bind⟩) fun v s1 ⟨x, H1, I1, r1, Hf1, dx, g1, rx, q1⟩ => ?_)
  cases ht : tyD dx with
  | none => rw [ht] at q1; exact q1.elim
  | some T =>
    rw [ht] at q1
    have q1 : Po (ERp (X.kw ea)) W Q σ Hf1 H1 (if T ∈ ts then (G e).bind fun y => opt (f dx y) else .bad) := q1
    by_cases hT : T ∈ ts
    · rw [if_pos hT] at q1
      obtain ⟨id, M⟩ := hm T hT
      obtain ⟨h1, h2⟩ := ty_of I1 r1 g1.fh rx ht
      refine ⟨T, id, M.pa, M.slot, M.ty, h1, h2, ?_⟩
      have hA := (pa_cons ha (pa_nil (X := X)) hs).run cpos pins s1 σ H1 (fun vs H2 => ∃ y, vs = [y] ∧ ∃ Hf2 dy, Grow Hf1 H1 Hf2 H2 ∧ VRp (X.kw ea) Hf2 H2 y dy ∧ Po (ERp (X.kw ea)) W Q σ Hf2 H2 (opt (f dx dy))) I1 ⟨H0, Hf0, Hf1, e, S.grow g1, q1.bind.mono fun y H2 z => ⟨y, rfl, z⟩⟩
      rw [hs] at hA ⊢
      refine Calls.callWith_builtin rfl (Calls.evalArgs_plain ?_)
      refine thn hA fun us s2 ⟨vs, H2, I2, r2, y, ey, Hf2, dy, g2, ry, p2⟩ => ?_
      subst ey
      obtain ⟨u, rfl, ru⟩ := r2.one
      obtain ⟨z, ez, q3⟩ := p2.of_opt
      exact M.run ea pins s2 σ Hf2 H2 x y v u dx dy z Q I2 r1 ru g2.fh (rx.mono g2) ry ht ez q3
    · rw [if_neg hT] at q1; exact q1.elim
def countD : D → D → Option D
  | .list ds, y => if SeqAt.shaped y && SeqAt.shaped (.list ds) then some (.int (ds.countP fun z => PyData.eqv z y : Nat)) else none
  | .tuple ds, y => if SeqAt.shaped y && SeqAt.shaped (.tuple ds) then some (.int (ds.countP fun z => PyData.eqv z y : Nat)) else none
  | _, _ => none
theorem mt_countL {k : Nat} (hr : Room k X.A) : Mt1 X "count" countD "list" "list.count" where
  pa := PySem.F.plainAttrs_list
  slot := PySem.F.slot_list_count
  ty := PySem.F.type_list_count
  run := by
    intro ea pins s σ Hf H x y v u dx dy z Q I rx ry f hx hy ht ez q
    have hu := hr.un
    cases dx with
    | list ds =>
      obtain ⟨a, xs, rfl, ha, ra⟩ := hx.list f
      cases rx
      have ez' : (if SeqAt.shaped dy && SeqAt.shaped (.list ds) then some (PyData.int (ds.countP fun z => PyData.eqv z dy : Nat)) else none) = some z := ez
      split at ez'
      · rename_i hh
        cases ez'
        rw [Bool.and_eq_true] at hh
        obtain ⟨bs, r1⟩ := Dp.reads I dy y u ((hy.full f).dp (SeqAt.canLay_of_shaped hh.1)) ry
        have hxs : PyData.canLayAll0 ds = true := SeqAt.canLay_of_shaped hh.2
        obtain ⟨its, rv, ⟨⟨cls, dd, data, sls⟩, n, ho, hc, hdn, hdt⟩, hlen⟩ := I.list (SqL.of ha)
        simp only at hc hdt
        subst hc hdt
        obtain ⟨as, h4⟩ := Dp.readsAll I ds _ its ((ra.mono f).dp hxs) rv
        refine call_meets PySem.F.slot_list_count ⟨_, ho, rfl⟩ PySem.F.entry_list_count (PySem.F.args_list_count_2 _ _) (SeqAt.list_countAt a its.toArray n dd sls u _) ⟨ho, SeqAt.items_eqAt (vs := its.toArray) (show ReadsAll s.heap its.toArray.toList ds as from h4) r1 hxs (SeqAt.canLay_of_shaped hh.1) (PyProof.Rows.room_in_shaped hh.1 (by omega)), ?_⟩
        have ec : its.toArray.toList.countP (fun y => PyData.eqv (SeqAt.readOf s.heap y) dy) = ds.countP fun z => PyData.eqv z dy := by
          conv => rhs; rw [← SeqAt.readsAll_map ds its as hxs h4, List.countP_map]
          rfl
        rw [ec]
        exact ⟨.int _, H, I.tok _, ⟨_, rfl⟩, q _ Hf H (Grow.refl f) (.int _)⟩
      · cases ez'
    | _ => exact absurd ht (by simp [tyD])
theorem mt_countT {k : Nat} (hr : Room k X.A) : Mt1 X "count" countD "tuple" "tuple.count" where
  pa := PySem.F.plainAttrs_tuple
  slot := PySem.F.slot_tuple_count
  ty := PySem.F.type_tuple_count
  run := by
    intro ea pins s σ Hf H x y v u dx dy z Q I rx ry f hx hy ht ez q
    have hu := hr.un
    cases dx with
    | tuple ds =>
      obtain ⟨a, xs, rfl, ha, ra⟩ := hx.tuple f
      cases rx
      have ez' : (if SeqAt.shaped dy && SeqAt.shaped (.tuple ds) then some (PyData.int (ds.countP fun z => PyData.eqv z dy : Nat)) else none) = some z := ez
      split at ez'
      · rename_i hh
        cases ez'
        rw [Bool.and_eq_true] at hh
        obtain ⟨bs, r1⟩ := Dp.reads I dy y u ((hy.full f).dp (SeqAt.canLay_of_shaped hh.1)) ry
        have hxs : PyData.canLayAll0 ds = true := SeqAt.canLay_of_shaped hh.2
        obtain ⟨its, rv, ⟨⟨cls, dd, data, sls⟩, ho, hc, n, hdt⟩, hlen⟩ := I.tuple ha.sq
        simp only at hc hdt
        subst hc hdt
        obtain ⟨as, h4⟩ := Dp.readsAll I ds _ its ((ra.mono f).dp hxs) rv
        refine call_meets PySem.F.slot_tuple_count ⟨_, ho, rfl⟩ PySem.F.entry_tuple_count (PySem.F.args_tuple_count_2 _ _) (SeqAt.tuple_countAt a its.toArray n dd sls u _) ⟨ho, SeqAt.items_eqAt (vs := its.toArray) (show ReadsAll s.heap its.toArray.toList ds as from h4) r1 hxs (SeqAt.canLay_of_shaped hh.1) (PyProof.Rows.room_in_shaped hh.1 (by omega)), ?_⟩
        have ec : its.toArray.toList.countP (fun y => PyData.eqv (SeqAt.readOf s.heap y) dy) = ds.countP fun z => PyData.eqv z dy := by
          conv => rhs; rw [← SeqAt.readsAll_map ds its as hxs h4, List.countP_map]
          rfl
        rw [ec]
        exact ⟨.int _, H, I.tok _, ⟨_, rfl⟩, q _ Hf H (Grow.refl f) (.int _)⟩
      · cases ez'
    | _ => exact absurd ht (by simp [tyD])
def xcount (F G : En → R D) : En → R D := xmt ["list", "tuple"] countD F G
theorem xCount {k : Nat} (hr : Room k X.A) (ho : PE X o (tV (X.kw ea) W F)) (ha : PE X a (tV (X.kw ea) W G))
    (hbase : attributeBase o "count" X.env (eval o X.env) = eval o X.env := by rfl)
    (hfew : ((backTo cpos (starEach [a] X.env)).all (fun x => !x.1) && (backToKw cpos (keywordEach [] X.env)).all (fun x => x.1.isSome) && decide ([a].length + ([] : List Keyword).length + (if ([] : List Keyword).isEmpty then 0 else 1) < 30)) = true := by rfl)
    (hline : (apos.endLine == cpos.line) = true := by rfl) (hs : starEach [a] X.env = [(false, eval a X.env)] := by rfl) :
    PE X (.Call (.Attribute o "count" apos) [a] [] cpos) (tE (X.kw ea) W (xcount F G)) :=
  xMt (fun T hT => by
    rcases List.mem_cons.mp hT with rfl | hT
    · exact ⟨_, mt_countL hr⟩
    · rw [List.mem_singleton.mp hT]; exact ⟨_, mt_countT hr⟩) ho ha hbase hfew hline hs
end
end Pu
/-! PuO: dicts of one's own; t[::-1] -/
namespace Pu
open PySem PySem.Spec PyProof.Rows
section
variable {P : Program} {w : World} {A : Around} {E : Value → Shared → Prop} {s : Shared} {t sl : Addr} {us : Array Value} {vk : Value}
/-- the places of [::-1] -/
theorem rev_places (n : Nat) : Builtin.Slice.sliceAdjust none none (-1) (n : Int) = ((n : Int) - 1, -1) ∧ Builtin.Slice.slicePlaces ((n : Int) - 1) (-1) (-1) = n := by
  constructor
  · simp [Builtin.Slice.sliceAdjust]
  · cases n with
    | zero => decide
    | succ m =>
      have e : ((m + 1 : Nat) : Int) - 1 = m := by omega
      rw [e]
      have q : ((m : Int) - -1 - 1) / -(-1) + 1 = (m : Int) + 1 := by rw [show (m : Int) - -1 - 1 = m by omega, show (-(-1 : Int)) = 1 by rfl, Int.ediv_one]
      have lt : (-1 : Int) < m := by omega
      simp only [Builtin.Slice.slicePlaces]
      split
      · rename_i y; exact absurd y (by decide)
      · omega
theorem rev_applied {n : Nat} {Q : Int × Int × Nat → Shared → Prop} (hs : s.heap.IsSliceOf sl .none .none vk) (pk : IsPart vk (some (-1))) (h : Q ((n : Int) - 1, -1, n) s) : wpAny (model P w) A (Builtin.Slice.sliceApplied (.ref sl) (pure (n : Int))) Q E s := by
  obtain ⟨o, g, _, d⟩ := hs
  have fin : wpAny (model P w) A (pure ((Builtin.Slice.sliceAdjust none none (-1) (n : Int)).1, (-1 : Int), Builtin.Slice.slicePlaces (Builtin.Slice.sliceAdjust none none (-1) (n : Int)).1 (Builtin.Slice.sliceAdjust none none (-1) (n : Int)).2 (-1))) Q E s := by
    rw [(rev_places n).1]
    apply wpAny_pure
    show Q ((n : Int) - 1, -1, Builtin.Slice.slicePlaces ((n : Int) - 1) (-1) (-1)) s
    rw [(rev_places n).2]
    exact h
  have three := wpAny_pure (M := model P w) (A := A) (E := E) (s := s) (Q := fun (r : Value × Value × Value) z => r = (.none, .none, vk) ∧ z = s) ⟨rfl, rfl⟩
  unfold Builtin.Slice.sliceApplied
  apply wpAny_bind
  refine L2.thn (Q := fun (r : Value × Value × Value) z => r = (.none, .none, vk) ∧ z = s) (wpAny_bind (wpAny_field g d rfl (wpAny_bind (wpAny_field g d rfl (wpAny_bind (wpAny_field g d rfl three)))))) fun r z ⟨er, ez⟩ => ?_
  subst er ez
  apply wpAny_bind
  apply HT.slicePart_ pk
  show wpAny _ _ (ite (((-1 : Int) == 0) = true) _ _) _ _ _
  rw [if_neg (by decide)]
  exact wpAny_bind (slicePart_none (wpAny_bind (slicePart_none (wpAny_bind (wpAny_pure fin)))))
theorem rev_pick (us : Array Value) : ((List.range us.size).filterMap fun (m : Nat) => us[((us.size : Int) - 1 + (m : Int) * -1).toNat]?).toArray = us.toList.reverse.toArray := by
  have e : ∀ m : Nat, us[((us.size : Int) - 1 + (m : Int) * -1).toNat]? = us[us.size - 1 - m]? := fun m => congrArg (us[·]?) (by omega)
  simp only [e]
  have f : (List.range us.size).filterMap (fun m => us[us.size - 1 - m]?) = ((List.range us.size).map fun m => us.size - 1 - m).filterMap fun m => us[m]? := List.filterMap_map.symm
  rw [f, PySem.W.krv_range, List.filterMap_reverse, PySem.W.krv_all]
/-- t[::-1], t a tuple -/
theorem rev_item {Q : Value → Shared → Prop} (ht : IsTup s.heap t us) (hs : s.heap.IsSliceOf sl .none .none vk) (pk : IsPart vk (some (-1))) (hz : us.size ≤ sizeLine)
    (h : Q (.ref s.heap.objs.size) { s with heap := s.heap.push { cls := .type "tuple", data := .seq us.toList.reverse.toArray } }) : wpAny (model P w) A (getItem (.ref t) (.ref sl)) Q E s := by
  have ok : sizeOk (.seq us.toList.reverse.toArray) := by
    show us.toList.reverse.toArray.size ≤ sizeLine
    simpa using hz
  have isS : s.TypeIs (.ref sl) "slice" := let ⟨o, g, c, _⟩ := hs; ⟨o, g, c⟩
  have other : ((((us.size : Nat) : Int) - 1) == 0 && (-1 : Int) == 1 && us.size == us.size) = false := by simp
  have body : ∀ (A' : Around) (E' : Value → Shared → Prop) (Z : Fin → Shared → Prop), Z (.done (.ret (.ref s.heap.objs.size))) { s with heap := s.heap.push { cls := .type "tuple", data := .seq us.toList.reverse.toArray } } → wpAny (model P w) A' (Builtin.«tuple.__getitem__» ⟨[.ref t, .ref sl], []⟩) Z E' s := fun A' E' Z z => by
    show wpAny _ _ (Builtin.Tuple.tupleItemsOf (.ref t) >>= fun xs => _) _ _ _
    apply wpAny_bind
    apply tupleItemsOf_ ht
    apply wpAny_bind
    apply wpAny_typeOf isS
    rw [if_pos (by decide)]
    apply wpAny_bind
    apply rev_applied hs pk
    show wpAny _ _ (if ((((us.size : Nat) : Int) - 1) == 0 && (-1 : Int) == 1 && us.size == us.size) = true then _ else _) _ _ s
    rw [other, if_neg Bool.false_ne_true, rev_pick]
    first
      | exact wpAny_bind (wpAny_newObj_type (wpAny_pure z) ok)
      | exact wpAny_bind (wpAny_newObj_type (wpAny_bind (wpAny_pure (wpAny_pure z))) ok)
      | exact wpAny_bind (wpAny_bind (wpAny_newObj_type (wpAny_pure (wpAny_pure z)) ok))
      | exact wpAny_bind (wpAny_bind (wpAny_newObj_type (wpAny_pure z) ok))
  exact getItem_slot ht.typeIs (by decide) slot_tuple_getitem (wpAny_call_entry slot_tuple_getitem ht.typeIs entry_tuple_getitem (body _ _ _ ⟨_, rfl, h⟩) (args_tuple_getitem _ _))
end
end Pu
namespace Pu
open PySem L2
section
variable {X : Cx} {W : WE} {a b c : Expr} {F G : En → R D} {pos p2 ps px : Pos}
/-- t[::-1] of a tuple -/
def revD : D → Option D
  | .tuple ds => some (.tuple ds.reverse)
  | _ => none
open PySem.Spec PyProof.Rows in
theorem xRev {pu pc : Pos} {j : Nat} (ha : PE X a (tV (X.kw ea) W F)) : PE X (.Subscript a (.Slice none none (some (.UnaryOp .USub (.Constant (.int 1) j pc) pu)) p2) pos) (tE (X.kw ea) W (un1 revD F)) := by
  refine ⟨fun pins s σ H Q I ⟨H0, Hf0, Hf, e, S, q⟩ => ?_⟩
  refine Subscript_ (thn (ha.run pins s σ H _ I ⟨H0, Hf0, Hf, e, S, q.bind⟩) fun v s1 ⟨x, H1, I1, r1, Hf1, d, g1, rx, q1⟩ => ?_)
  obtain ⟨z, ez, q2⟩ := q1.of_opt
  cases d with
  | tuple ds =>
    cases ez
    obtain ⟨t, xs, rfl, ht, rt⟩ := rx.tuple g1.fh
    cases r1
    refine wpAny_Slice ?_
    rw [evalPart_none]
    refine wpAny_pure (wpAny_pure ?_)
    have hk : PE X (.UnaryOp .USub (.Constant (.int 1) j pc) pu) (tUn (fun x H Q => ∃ i, x = .int i ∧ Q (.int (-i)) H) (tC (.int 1))) := pe_un un_neg pe_int
    refine thn ((po_some hk).run pins s1 σ H1 (fun o H' => o = some (-1) ∧ H' = H1) I1 ⟨1, rfl, -1, rfl, rfl, rfl⟩) fun vk s3 ⟨o, H3, I3, pk, eo, eH⟩ => ?_
    subst eo eH
    have I4 : L2.Inv X pins σ H3 { s3 with heap := s3.heap.push { cls := .type "slice", data := .fields #[.none, .none, vk] } } := I3.kept (t' := s3.toks) fun b ob q => Heap.get?_push_of_some _ q
    obtain ⟨its, rv, p, hz⟩ := I4.tuple ht.sq
    show wpAny (model X.prog X.w) X.A (subscriptTail a (.Slice none none (some (.UnaryOp .USub (.Constant (.int 1) j pc) pu)) p2) (.ref t) (.ref s3.heap.objs.size)) (EP X pins σ Q) X.xe { s3 with heap := s3.heap.push { cls := .type "slice", data := .fields #[.none, .none, vk] } }
    refine tail_any (ops := [.ref t, .ref s3.heap.objs.size]) p.typeIs PyProof.Rows.slot_tuple_getitem.lookup ?_ (by with_unfolding_all rfl)
    refine rev_item p (Heap.IsSliceOf.new ..) pk (by rw [List.size_toArray, ← rv.length]; exact hz) ?_
    have hrev : Vals xs.reverse its.reverse := rv.reverse
    exact tup_new (us := its.reverse) (tk := s3.toks) I4 hrev (by rw [List.length_reverse]; exact hz) (TupN.of g1.fh rt.reverse q2)
  | _ => cases ez
/-! ### dicts of one's own -/
def sdnew (i : Nat) : En → Fl := fun e => .nx (e.set i (.dic []))
theorem sDNew {i : Nat} {x : Str} {pos' : Pos} (hN : X.N.Nodup) (hi : X.N[i]? = some x) (hx : Loc X.env.scope x) (hs : swapsWith (.Dict [] [] p2) (some (.Name x pos')) pos.line X.env = pure false := by rfl) (hf : X.fn x = true ∨ X.env.scope.names.lookup x = some .local := by first | exact .inl rfl | exact .inr rfl | assumption) :
    PS X (.Assign [.Name x pos'] (.Dict [] [] p2) pos) (tS (X.kw ea) W (sdnew i)) := PS_weak (ps_set hN hi hx (pe_dnew (ea := ea)) hs hf) fun D σ H ⟨H0, Hf0, Hf, e, S, p⟩ q ep hq => by
  have g := Grow.lay (o := DicO X.w q ([], ep)) S.gr.fh hq
  exact p _ Hf _ ((S.grow g).own i ⟨_, upd_same⟩ (S.fresh hq) ⟨q, ([], ep), rfl, upd_same, S.gr.hh.free hq, S.gr.fh.free hq, .nil⟩) (Same.refl _)
def dputAt (i : Nat) (e : En) (kvs : List (D × D)) (v x : D) : Fl := match keyD x with
  | some k => if kvs.length < many then .nx (e.set i (.dic (dput kvs k x v))) else .bad
  | none => .bad
def sdput (i : Nat) (G F : En → R D) : En → Fl := fun e => liftE (F e) e fun v => match e[i]? with
  | some (.dic kvs) => liftE (G e) e (dputAt i e kvs v)
  | _ => .bad
/-- x[k] = e -/
theorem sDPut {i : Nat} {x : Str} {jx : Expr} (hs : PS X (.Assign [.Subscript (.Name x px) jx ps] a pos) (tAsg (tE (X.kw ea) W F) (gSub (tVar i) (tE (X.kw ea) W G) (rSetD (X.kw ea))))) : PS X (.Assign [.Subscript (.Name x px) jx ps] a pos) (tS (X.kw ea) W (sdput i G F)) :=
  PS_weak hs fun D σ H ⟨H0, Hf0, Hf, e, S, p⟩ => ⟨H0, Hf0, Hf, e, S, by
    revert p
    unfold sdput
    cases F e with
    | ok d =>
      intro p v Hf1 H1 g rv
      have S1 := S.grow g
      have p : PoS (X.kw ea) W D H0 Hf0 Hf (match e[i]? with | some (.dic kvs) => liftE (G e) e (dputAt i e kvs d) | _ => .bad) := p
      have p1 := p.same g.ff
      cases q : e[i]? with
      | none => rw [q] at p1; exact p1.elim
      | some s =>
        rw [q] at p1
        cases s with
        | dic kvs =>
          obtain ⟨u, hu⟩ := S1.lt q
          obtain ⟨l, xs, ev, h1, h2, h3, r⟩ := S1.sl i _ u q hu
          subst ev
          refine ⟨.ref l, hu, H0, Hf0, Hf1, e, S1, ?_⟩
          have p1 : PoS (X.kw ea) W D H0 Hf0 Hf1 (liftE (G e) e (dputAt i e kvs d)) := p1
          revert p1
          cases G e with
          | ok j =>
            intro p1 y Hf2 H2 g2 ry
            have p1 : PoS (X.kw ea) W D H0 Hf0 Hf1 (dputAt i e kvs d j) := p1
            unfold dputAt at p1
            cases hk : keyD j with
            | none => rw [hk] at p1; exact p1.elim
            | some k =>
              rw [hk] at p1
              have p1 : PoS (X.kw ea) W D H0 Hf0 Hf1 (if kvs.length < many then .nx (e.set i (.dic (dput kvs k j d))) else .bad) := p1
              by_cases hz : kvs.length < many
              · rw [if_pos hz] at p1
                obtain ⟨k1, k2, ds, rfl⟩ := keyD_of hk
                have ry' := ry
                cases ry' with
                | tup ht _ =>
                  refine ⟨l, _, xs, kvs, _, k, rfl, rfl, g2.hh _ _ h1, (r.mono g2.ff).mono g2.fh, ry.mono g2.fh, k1, k2, many_lt (by rw [r.length]; exact hz), fun u ep ru => ?_⟩
                  exact p1 σ Hf2 _ ((S1.grow g2).mut q rfl hu rfl ⟨l, _, rfl, upd_same, h2, g2.nf _ _ h1 rfl h3, (r.mono g2.ff).stored k1 k2 ry ru (rv.mono g2.ff)⟩) g2.ff
              · rw [if_neg hz] at p1; exact p1.elim
          | ex c => exact fun p1 Hf2 H2 g2 => p1 σ Hf2 H2 (S1.grow g2) g2.ff
          | bad => exact fun p1 => p1
        | _ => exact p1.elim
    | ex c => exact fun p Hf1 H1 g => p σ Hf1 H1 (S.grow g) g.ff
    | bad => exact fun p => p⟩
end
end Pu
/-! PuP: the words that a printed text uses -/
namespace Pu
open PySem L2
theorem bt_len : bootBuiltins "len" = some (.builtin "len") := by decide +kernel
theorem bt_all : bootBuiltins "all" = some (.builtin "all") := by decide +kernel
theorem bt_any : bootBuiltins "any" = some (.builtin "any") := by decide +kernel
theorem bt_sum : bootBuiltins "sum" = some (.builtin "sum") := by decide +kernel
theorem bt_max : bootBuiltins "max" = some (.builtin "max") := by decide +kernel
theorem bt_min : bootBuiltins "min" = some (.builtin "min") := by decide +kernel
theorem bt_sorted : bootBuiltins "sorted" = some (.builtin "sorted") := by decide +kernel
theorem bt_isinstance : bootBuiltins "isinstance" = some (.builtin "isinstance") := by decide +kernel
theorem bt_tuple : bootBuiltins "tuple" = some (.type "tuple") := by decide +kernel
theorem bt_list : bootBuiltins "list" = some (.type "list") := by decide +kernel
theorem bt_int : bootBuiltins "int" = some (.type "int") := by decide +kernel
theorem bt_str : bootBuiltins "str" = some (.type "str") := by decide +kernel
theorem bt_bool : bootBuiltins "bool" = some (.type "bool") := by decide +kernel
theorem bt_set : bootBuiltins "set" = some (.type "set") := by decide +kernel
theorem bt_dict : bootBuiltins "dict" = some (.type "dict") := by decide +kernel
section
variable {X : Cx} {k : Nat} {W : WE} {a b c : Expr} {F G : En → R D} {pos p p2 q pt px py : Pos}
theorem xLen (m : X.mg "len" = none) (ha : PE X a (tV (X.kw ea) W F)) (hg : Gl X "len" := by rfl) (he : starEach [a] X.env = [(false, eval a X.env)] := by rfl) : PE X (.Call (.Name "len" p) [a] [] pos) (tE (X.kw ea) W (un1 lenD F)) := xB1 call_lenB hg m bt_len ha (by decide) (by decide) he
theorem xAll (z : Cz X k W) (m : X.mg "all" = none) (ha : PE X a (tV (X.kw ea) W F)) (hg : Gl X "all" := by rfl) (he : starEach [a] X.env = [(false, eval a X.env)] := by rfl) : PE X (.Call (.Name "all" p) [a] [] pos) (tE (X.kw ea) W (un1 allD F)) := xB1 (call_allB z.calm) hg m bt_all ha (by decide) (by decide) he
theorem xAny (z : Cz X k W) (m : X.mg "any" = none) (ha : PE X a (tV (X.kw ea) W F)) (hg : Gl X "any" := by rfl) (he : starEach [a] X.env = [(false, eval a X.env)] := by rfl) : PE X (.Call (.Name "any" p) [a] [] pos) (tE (X.kw ea) W (un1 anyD F)) := xB1 (call_anyB z.calm) hg m bt_any ha (by decide) (by decide) he
theorem xSum (z : Cz X k W) (m : X.mg "sum" = none) (ha : PE X a (tV (X.kw ea) W F)) (hg : Gl X "sum" := by rfl) (he : starEach [a] X.env = [(false, eval a X.env)] := by rfl) : PE X (.Call (.Name "sum" p) [a] [] pos) (tE (X.kw ea) W (un1 sumD F)) := xB1 (call_sumB z.calm) hg m bt_sum ha (by decide) (by decide) he
theorem xMax (z : Cz X k W) (m : X.mg "max" = none) (ha : PE X a (tV (X.kw ea) W F)) (hg : Gl X "max" := by rfl) (he : starEach [a] X.env = [(false, eval a X.env)] := by rfl) : PE X (.Call (.Name "max" p) [a] [] pos) (tE (X.kw ea) W (un1 maxD F)) := xB1 (call_maxB z.calm) hg m bt_max ha (by decide) (by decide) he
theorem xMin (z : Cz X k W) (m : X.mg "min" = none) (ha : PE X a (tV (X.kw ea) W F)) (hg : Gl X "min" := by rfl) (he : starEach [a] X.env = [(false, eval a X.env)] := by rfl) : PE X (.Call (.Name "min" p) [a] [] pos) (tE (X.kw ea) W (un1 minD F)) := xB1 (call_minB z.calm) hg m bt_min ha (by decide) (by decide) he
theorem xMax2 (z : Cz X k W) (m : X.mg "max" = none) (ha : PE X a (tV (X.kw ea) W F)) (hb : PE X b (tV (X.kw ea) W G)) (hg : Gl X "max" := by rfl) (he : starEach [a, b] X.env = [(false, eval a X.env), (false, eval b X.env)] := by rfl) (he2 : starEach [b] X.env = [(false, eval b X.env)] := by rfl) : PE X (.Call (.Name "max" p) [a, b] [] pos) (tE (X.kw ea) W (bin max2D F G)) := xB2 (call_max2B z.calm) hg m bt_max ha hb (by decide) (by decide) he he2
theorem xMin2 (z : Cz X k W) (m : X.mg "min" = none) (ha : PE X a (tV (X.kw ea) W F)) (hb : PE X b (tV (X.kw ea) W G)) (hg : Gl X "min" := by rfl) (he : starEach [a, b] X.env = [(false, eval a X.env), (false, eval b X.env)] := by rfl) (he2 : starEach [b] X.env = [(false, eval b X.env)] := by rfl) : PE X (.Call (.Name "min" p) [a, b] [] pos) (tE (X.kw ea) W (bin min2D F G)) := xB2 (call_min2B z.calm) hg m bt_min ha hb (by decide) (by decide) he he2
theorem xTuple (m : X.mg "tuple" = none) (ha : PE X a (tV (X.kw ea) W F)) (hg : Gl X "tuple" := by rfl) (he : starEach [a] X.env = [(false, eval a X.env)] := by rfl) : PE X (.Call (.Name "tuple" p) [a] [] pos) (tE (X.kw ea) W (un1 tupleD F)) := xT1 call_tupleB hg m bt_tuple ha (by decide) (by decide) he
theorem xInt1 (m : X.mg "int" = none) (ha : PE X a (tV (X.kw ea) W F)) (hg : Gl X "int" := by rfl) (he : starEach [a] X.env = [(false, eval a X.env)] := by rfl) : PE X (.Call (.Name "int" p) [a] [] pos) (tE (X.kw ea) W (un1 intD F)) := xT1 call_intB hg m bt_int ha (by decide) (by decide) he
theorem xStr1 (m : X.mg "str" = none) (ha : PE X a (tV (X.kw ea) W F)) (hg : Gl X "str" := by rfl) (he : starEach [a] X.env = [(false, eval a X.env)] := by rfl) : PE X (.Call (.Name "str" p) [a] [] pos) (tE (X.kw ea) W (un1 strD F)) := xT1 call_strB hg m bt_str ha (by decide) (by decide) he
theorem xList (m : X.mg "list" = none) (ha : PE X a (tV (X.kw ea) W F)) (hg : Gl X "list" := by rfl) (he : starEach [a] X.env = [(false, eval a X.env)] := by rfl) : PE X (.Call (.Name "list" p) [a] [] pos) (tN (X.kw ea) W (un1N listN F)) := xT1N call_listB hg m bt_list ha (by decide) (by decide) he
theorem xSorted (z : Cz X k W) (m : X.mg "sorted" = none) (ha : PE X a (tV (X.kw ea) W F)) (hg : Gl X "sorted" := by rfl) (he : starEach [a] X.env = [(false, eval a X.env)] := by rfl) : PE X (.Call (.Name "sorted" p) [a] [] pos) (tN (X.kw ea) W (un1N sortN F)) := xB1N (call_sortedB z.calm z.rm) hg m bt_sorted ha (by decide) (by decide) he
theorem xSSet (z : Cz X k W) (m : X.mg "sorted" = none) (m2 : X.mg "set" = none) (ha : PE X a (tV (X.kw ea) W F)) (hg : Gl X "sorted" := by rfl) (hg2 : Gl X "set" := by rfl) (he : starEach [a] X.env = [(false, eval a X.env)] := by rfl) (he2 : starEach [Expr.Call (.Name "set" p2) [a] [] q] X.env = [(false, eval (Expr.Call (.Name "set" p2) [a] [] q) X.env)] := by rfl) :
    PE X (.Call (.Name "sorted" p) [.Call (.Name "set" p2) [a] [] q] [] pos) (tN (X.kw ea) W (un1N sortSetN F)) := xSortSet z.calm hg m bt_sorted hg2 m2 bt_set ha he he2
/-- a + b, lists -/
def binN (f : D → D → Option (List D)) (F G : En → R D) : En → R (List D) := fun e => (F e).bind fun x => (G e).bind fun y => opt (f x y)
theorem xAddN (ha : PE X a (tV (X.kw ea) W F)) (hb : PE X b (tV (X.kw ea) W G)) : PE X (.BinOp a .Add b pos) (tN (X.kw ea) W (binN addN F G)) :=
  PE_weak (pe_op op_addL ha hb) fun σ H Q ⟨H0, Hf0, Hf, e, S, p⟩ => ⟨H0, Hf0, Hf, e, S, p.bind.mono fun x H1 ⟨Hf1, dx, g1, rx, p1⟩ => ⟨H0, Hf0, Hf1, e, S.grow g1, p1.bind.mono fun y H2 ⟨Hf2, dy, g2, ry, p2⟩ => by
    obtain ⟨z, ez, q⟩ := p2.of_opt
    exact ⟨Hf2, dx, dy, z, g2.fh, rx.mono g2, ry, ez, q⟩⟩⟩
theorem xGlobI {x : Str} {i : Int} (h : ∃ t, X.mg x = some (.int i t)) (hg : Gl X x := by rfl) (hd : (x == ("__debug__" : Str)) = false := by decide) : PE X (.Name x pos) (tE (X.kw ea) W (xc (.int i))) := by
  obtain ⟨t, h⟩ := h
  exact xGlob (v := .int i) hg h ⟨t, rfl⟩ (fun _ => .int i) hd
/-! ### a, b = x, y -/
def spar2 (i j : Nat) (L : En → R (List D)) : En → Fl := fun e => match L e with
  | .ok [x, y] => .nx ((e.set i (.dat x)).set j (.dat y))
  | .ok _ => .bad
  | .ex c => .ex c e
  | .bad => .bad
theorem sPar2 {i j : Nat} {x y : Str} {L : En → R (List D)} {kt k2 : Nat} {pt2 : Pos} (z : Cz X k W) (hi : X.N[i]? = some x) (hj : X.N[j]? = some y) (hij : i ≠ j) (hx : X.env.scope.names.lookup x = some .local) (hy : X.env.scope.names.lookup y = some .local) (ha : PA X [a, b] (tA (X.kw ea) W L))
    (hw : swappedStores [.Tuple [.Name x px, .Name y py] kt pt] (.Tuple [a, b] k2 pt2) X.env = pure (some [x, y])) (hs : swapsWithSole [.Tuple [.Name x px, .Name y py] kt pt] (.Tuple [a, b] k2 pt2) pos.line X.env = pure false := by rfl) :
    PS X (.Assign [.Tuple [.Name x px, .Name y py] kt pt] (.Tuple [a, b] k2 pt2) pos) (tS (X.kw ea) W (spar2 i j L)) :=
  PS_weak (ps_par z.calm z.nd hi hj hij hx hy ha hw hs) fun D σ H ⟨H0, Hf0, Hf, e, S, p⟩ => ⟨H0, Hf0, Hf, e, S, by
    revert p
    unfold spar2
    cases L e with
    | ok ds =>
      intro p vs Hf1 H1 g r
      cases r with
      | nil => exact p.elim
      | cons r1 r =>
        cases r with
        | nil => exact p.elim
        | cons r2 r =>
          cases r with
          | nil => exact ⟨_, _, rfl, p _ Hf1 H1 (((S.grow g).dat i r1).dat j r2) g.ff⟩
          | cons _ _ => exact p.elim
    | ex c => exact fun p Hf1 H1 g => p σ Hf1 H1 (S.grow g) g.ff
    | bad => exact fun p => p⟩
def spar3 (i j l : Nat) (L : En → R (List D)) : En → Fl := fun e => match L e with
  | .ok [x, y, z] => .nx (((e.set i (.dat x)).set j (.dat y)).set l (.dat z))
  | .ok _ => .bad
  | .ex c => .ex c e
  | .bad => .bad
theorem sPar3 {i j l : Nat} {x y v : Str} {L : En → R (List D)} {kt k2 : Nat} {pt2 pv : Pos} (z : Cz X k W) (hi : X.N[i]? = some x) (hj : X.N[j]? = some y) (hl : X.N[l]? = some v) (hij : i ≠ j) (hil : i ≠ l) (hjl : j ≠ l) (hx : X.env.scope.names.lookup x = some .local) (hy : X.env.scope.names.lookup y = some .local) (hv : X.env.scope.names.lookup v = some .local) (ha : PA X [a, b, c] (tA (X.kw ea) W L))
    (hw : swappedStores [.Tuple [.Name x px, .Name y py, .Name v pv] kt pt] (.Tuple [a, b, c] k2 pt2) X.env = pure (some [x, y, v])) (hs : swapsWithSole [.Tuple [.Name x px, .Name y py, .Name v pv] kt pt] (.Tuple [a, b, c] k2 pt2) pos.line X.env = pure false := by rfl) :
    PS X (.Assign [.Tuple [.Name x px, .Name y py, .Name v pv] kt pt] (.Tuple [a, b, c] k2 pt2) pos) (tS (X.kw ea) W (spar3 i j l L)) :=
  PS_weak (ps_par3 z.calm z.nd hi hj hl hij hil hjl hx hy hv ha hw hs) fun D σ H ⟨H0, Hf0, Hf, e, S, p⟩ => ⟨H0, Hf0, Hf, e, S, by
    revert p
    unfold spar3
    cases L e with
    | ok ds =>
      intro p vs Hf1 H1 g r
      cases r with
      | nil => exact p.elim
      | cons r1 r =>
        cases r with
        | nil => exact p.elim
        | cons r2 r =>
          cases r with
          | nil => exact p.elim
          | cons r3 r =>
            cases r with
            | nil => exact ⟨_, _, _, rfl, p _ Hf1 H1 ((((S.grow g).dat i r1).dat j r2).dat l r3) g.ff⟩
            | cons _ _ => exact p.elim
    | ex c => exact fun p Hf1 H1 g => p σ Hf1 H1 (S.grow g) g.ff
    | bad => exact fun p => p⟩
end
/-! ### changes and targets -/
section
variable {X : Cx} {k : Nat} {W : WE} {a b c jx : Expr} {F G : En → R D} {pos px pa pc ps : Pos} {i : Nat} {x : Str}
theorem sAppend (i : Nat) (hx : PE X (.Name x px) (tVar i)) (he : PE X a (tE (X.kw ea) W F)) (hb : attributeBase (.Name x px) "append" X.env (eval (.Name x px) X.env) = eval (.Name x px) X.env := by rfl)
    (hf : ((backTo pc (starEach [a] X.env)).all (fun x => !x.1) && (backToKw pc (keywordEach [] X.env)).all (fun x => x.1.isSome) && decide ([a].length + ([] : List Keyword).length + (if ([] : List Keyword).isEmpty then 0 else 1) < 30)) = true := by rfl)
    (hl : (pa.endLine == pc.line) = true := by rfl) (hs : starEach [a] X.env = (false, eval a X.env) :: starEach [] X.env := by rfl) (hp : (backTo pc (starEach [] X.env)).any (·.1) = false := by rfl)
    (hw : swapsWith (.Call (.Attribute (.Name x px) "append" pa) [a] [] pc) none pos.line X.env = pure false := by rfl) : PS X (.Expr (.Call (.Attribute (.Name x px) "append" pa) [a] [] pc) pos) (tS (X.kw ea) W (sapp i F)) :=
  sApp hx he (pe_bm PySem.F.plainAttrs_list PySem.F.slot_list_append PySem.F.type_list_append mt_append hx (pa_cons he pa_nil hs) hb hf hl hs hp) hw
theorem sExtend (i : Nat) (hx : PE X (.Name x px) (tVar i)) (he : PE X a (tE (X.kw ea) W F)) (hb : attributeBase (.Name x px) "extend" X.env (eval (.Name x px) X.env) = eval (.Name x px) X.env := by rfl)
    (hf : ((backTo pc (starEach [a] X.env)).all (fun x => !x.1) && (backToKw pc (keywordEach [] X.env)).all (fun x => x.1.isSome) && decide ([a].length + ([] : List Keyword).length + (if ([] : List Keyword).isEmpty then 0 else 1) < 30)) = true := by rfl)
    (hl : (pa.endLine == pc.line) = true := by rfl) (hs : starEach [a] X.env = (false, eval a X.env) :: starEach [] X.env := by rfl) (hp : (backTo pc (starEach [] X.env)).any (·.1) = false := by rfl)
    (hw : swapsWith (.Call (.Attribute (.Name x px) "extend" pa) [a] [] pc) none pos.line X.env = pure false := by rfl) : PS X (.Expr (.Call (.Attribute (.Name x px) "extend" pa) [a] [] pc) pos) (tS (X.kw ea) W (sext i F)) :=
  sExt hx he (pe_bm PySem.F.plainAttrs_list PySem.F.slot_list_extend PySem.F.type_list_extend (MtM.or mt_extend mt_extT) hx (pa_cons he pa_nil hs) hb hf hl hs hp) hw
theorem sSet (i : Nat) (ha : PE X a (tE (X.kw ea) W F)) (hx : PE X (.Name x px) (tVar i)) (hj : PE X jx (tE (X.kw ea) W G))
    (hb : ∀ v, assign (.Subscript (.Name x px) jx ps) X.env v = (do
      let c ← holding [v] (eval (.Name x px) X.env)
      let d ← holding [v, c] (eval jx X.env)
      standAt ps
      holding [v, c, d] (setItem c d v)
      release [v, c, d] []) := by intro _; rfl)
    (hs : swapsWithSole [.Subscript (.Name x px) jx ps] a pos.line X.env = pure false := by rfl) (hw : swappedStores [.Subscript (.Name x px) jx ps] a X.env = pure none := by rfl)
    (h1 : (assignEach [.Subscript (.Name x px) jx ps] X.env).map (·.2) = [assign (.Subscript (.Name x px) jx ps) X.env] := by rfl) : PS X (.Assign [.Subscript (.Name x px) jx ps] a pos) (tS (X.kw ea) W (sput i G F)) :=
  sPut (ps_asg ha (pg_sub hx hj set_list hb) hs hw h1)
theorem sDSet (i : Nat) (z : Cz X k W) (ha : PE X a (tE (X.kw ea) W F)) (hx : PE X (.Name x px) (tVar i)) (hj : PE X jx (tE (X.kw ea) W G))
    (hb : ∀ v, assign (.Subscript (.Name x px) jx ps) X.env v = (do
      let c ← holding [v] (eval (.Name x px) X.env)
      let d ← holding [v, c] (eval jx X.env)
      standAt ps
      holding [v, c, d] (setItem c d v)
      release [v, c, d] []) := by intro _; rfl)
    (hs : swapsWithSole [.Subscript (.Name x px) jx ps] a pos.line X.env = pure false := by rfl) (hw : swappedStores [.Subscript (.Name x px) jx ps] a X.env = pure none := by rfl)
    (h1 : (assignEach [.Subscript (.Name x px) jx ps] X.env).map (·.2) = [assign (.Subscript (.Name x px) jx ps) X.env] := by rfl) : PS X (.Assign [.Subscript (.Name x px) jx ps] a pos) (tS (X.kw ea) W (sdput i G F)) :=
  sDPut (ps_asg ha (pg_sub hx hj (set_dict z.rm) hb) hs hw h1)
theorem gN (i : Nat) (z : Cz X k W) (hi : X.N[i]? = some x := by rfl) (hx : Loc X.env.scope x := by first | exact .inl rfl | exact .inr rfl) (hf : X.fn x = true ∨ X.env.scope.names.lookup x = some .local := by first | exact .inl rfl | exact .inr rfl) : PG X (.Name x pos) (tG (X.kw ea) [i] (gn i)) := gName' (pg_name z.nd hi hx hf)
theorem gC {as : List Expr} {is js : List Nat} {f : Tg} {g : List D → En → Option En} (h1 : PG X a (tG (X.kw ea) is f)) (h2 : PGs X as (tGs (X.kw ea) js g)) (hs : (assignEach (a :: as) X.env).map (·.2) = assign a X.env :: (assignEach as X.env).map (·.2) := by rfl) :
    PGs X (a :: as) (tGs (X.kw ea) (is ++ js) (gcons f g)) := gCons' h1 h2 (pgs_cons h1 h2 hs)
theorem gT {es : List Expr} {kk n : Nat} {is : List Nat} {g : List D → En → Option En} (z : Cz X k W) (hl : ∀ ds e e', g ds e = some e' → ds.length = n) (h : PGs X es (tGs (X.kw ea) is g)) (hn : (assignEach es X.env).length = n := by rfl) (hst : (assignEach es X.env).findIdx? (·.1) = none := by rfl) :
    PG X (.Tuple es kk pos) (tG (X.kw ea) is (gtup g)) := gTup' hl (pg_tup z.calm h hn hst)
theorem sUnp {tg : Expr} {is : List Nat} {f : Tg} (he : PE X a (tE (X.kw ea) W F)) (hg : PG X tg (tG (X.kw ea) is f)) (hs : swapsWithSole [tg] a pos.line X.env = pure false := by rfl) (hw : swappedStores [tg] a X.env = pure none := by rfl) (h1 : (assignEach [tg] X.env).map (·.2) = [assign tg X.env] := by rfl) :
    PS X (.Assign [tg] a pos) (tS (X.kw ea) W (sasgT f F)) := sAsgT he hg (ps_asg he hg hs hw h1)
theorem sLet (i : Nat) (z : Cz X k W) (he : PE X a (tE (X.kw ea) W F)) (hi : X.N[i]? = some x := by rfl) (hx : Loc X.env.scope x := by first | exact .inl rfl | exact .inr rfl) (hs : swapsWith a (some (.Name x px)) pos.line X.env = pure false := by rfl) (hf : X.fn x = true ∨ X.env.scope.names.lookup x = some .local := by first | exact .inl rfl | exact .inr rfl) :
    PS X (.Assign [.Name x px] a pos) (tS (X.kw ea) W (sasg i F)) := sAsg z.nd hi hx he hs hf
theorem sLetN (i : Nat) {L : En → R (List D)} (z : Cz X k W) (he : PE X a (tN (X.kw ea) W L)) (hi : X.N[i]? = some x := by rfl) (hx : Loc X.env.scope x := by first | exact .inl rfl | exact .inr rfl) (hs : swapsWith a (some (.Name x px)) pos.line X.env = pure false := by rfl) (hf : X.fn x = true ∨ X.env.scope.names.lookup x = some .local := by first | exact .inl rfl | exact .inr rfl) :
    PS X (.Assign [.Name x px] a pos) (tS (X.kw ea) W (sasgN i L)) := sAsgN z.nd hi hx he hs hf
theorem sLetD (i : Nat) (z : Cz X k W) (hi : X.N[i]? = some x := by rfl) (hx : Loc X.env.scope x := by first | exact .inl rfl | exact .inr rfl) (hs : swapsWith (.Dict [] [] pa) (some (.Name x px)) pos.line X.env = pure false := by rfl) (hf : X.fn x = true ∨ X.env.scope.names.lookup x = some .local := by first | exact .inl rfl | exact .inr rfl) :
    PS X (.Assign [.Name x px] (.Dict [] [] pa) pos) (tS (X.kw ea) W (sdnew i)) := sDNew z.nd hi hx hs hf
end
/-! ### defs by name -/
/-- the def x stands at the top as st -/
def Def (K : PySem.W.Frag) (mg : Str → Option Value) (x : Str) (st : Stmt) (ps : List Str) : Prop := ∃ f fd, Fun K x x st f fd ∧ (∀ us : List Value, us.length = ps.length → bindArgs fd ⟨us, []⟩ = pure (ps.zip us)) ∧ mg x = some (.ref f)
/-- the def x computes Fn -/
def OkF (P : Program) (w : World) (K : PySem.W.Frag) (mg : Str → Option Value) (base : Heap) (x : Str) (ps : List Str) (j : Nat) (Fn : List D → R D) : Prop :=
  ∃ f fd, FnOk P w K mg base (L2.CX P w) j f fd ps (spD ⟨K, w, 0⟩ mg ps.length Fn) ∧ PySem.W.keepIn K (.ref f) = true ∧ Binds K fd ps [] ∧ mg x = some (.ref f) ∧ ∃ oc od osl, K.lookup f = some ⟨oc, od, .func fd, osl⟩
theorem fun_look {K : PySem.W.Frag} {x q : Str} {st : Stmt} {f : Addr} {fd : FuncData} (F : Fun K x q st f fd) : ∃ oc od osl, K.lookup f = some ⟨oc, od, .func fd, osl⟩ := by
  obtain ⟨oc, od, kV, doc, pm, an, cdv, ct, osl, _, lk, _⟩ := F.ex
  exact ⟨oc, od, osl, lk⟩
section
variable {P : Program} {w : World} {K : PySem.W.Frag} {mg : Str → Option Value} {base : Heap}
theorem okO {x : Str} {st : Stmt} {N ps : List Str} {k : Nat} {B : En → Fl} (F : Def K mg x st ps) (S : FnScope N ps (defScope st))
    (body : ∀ (f : Addr) (cdv : Value) (A : Around) (outer : List Env) (s : Shared) (H : Hp) (E : XK), Cz (cxOf (L2.CX P w) P w K mg base N x (defScope st) f cdv A outer s H E) k (wB mg E) →
      PSs (cxOf (L2.CX P w) P w K mg base N x (defScope st) f cdv A outer s H E) (defBody st) (tS ⟨K, w, 0⟩ (wB mg E) B)) : OkF P w K mg base x ps (k + 1) (runD N.length B) := by
  obtain ⟨f, fd, F, b, m⟩ := F
  exact ⟨f, fd, okD F S (body f), F.kp, .all b, m, fun_look F⟩
/-- nothing is asked of a def that is not reached -/
theorem okBad {x : Str} {st : Stmt} {ps : List Str} {j : Nat} (F : Def K mg x st ps) : OkF P w K mg base x ps j (fun _ => .bad) := by
  obtain ⟨f, fd, F, b, m⟩ := F
  have no : ∀ vs H Q E, ¬ spD ⟨K, w, 0⟩ mg ps.length (fun _ => .bad) vs H Q E := fun vs H Q E h => by
    obtain ⟨_, _, _, _, _, h⟩ := h
    exact h
  exact ⟨f, fd, ⟨fun vs H Q E h => absurd h (no vs H Q E), fun A outer s H args us vs Q E _ _ _ _ h => absurd h (no vs H Q E)⟩, F.kp, .all b, m, fun_look F⟩
end
section
variable {X : Cx} {k j : Nat} {W : WE} {a : Expr} {es : List Expr} {L : En → R (List D)} {pos p : Pos} {x : Str} {ps : List Str} {Fn : List D → R D}
theorem xC1 (z : Cz X k W) (G : OkF X.prog X.w X.K X.mg X.base x ps j Fn) (hj : j ≤ k) (ha : PA X (a :: es) (tA (X.kw 0) W L)) (hg : Gl X x := by rfl)
    (hdb : (x == ("__debug__" : Str)) = false := by decide) (he : starEach (a :: es) X.env = (false, eval a X.env) :: starEach es X.env := by rfl) (hpl : (backTo pos (starEach es X.env)).any (·.1) = false := by rfl) : PE X (.Call (.Name x p) (a :: es) [] pos) (tE (X.kw 0) W (xcall ps.length Fn L)) := by
  obtain ⟨f, fd, G, kp, b, m, _⟩ := G
  exact xCall z G hj hg m kp b ha hdb he hpl
theorem xCV (z : Cz X k W) (G : OkF X.prog X.w X.K X.mg X.base x ps j Fn) (hj : j ≤ k) (ha : PA X (a :: es) (tAV (X.kw 0) W L)) (hg : Gl X x := by rfl)
    (hdb : (x == ("__debug__" : Str)) = false := by decide) (he : starEach (a :: es) X.env = (false, eval a X.env) :: starEach es X.env := by rfl) (hpl : (backTo pos (starEach es X.env)).any (·.1) = false := by rfl) : PE X (.Call (.Name x p) (a :: es) [] pos) (tE (X.kw 0) W (xcallV ps.length Fn L)) := by
  obtain ⟨f, fd, G, kp, b, m, _⟩ := G
  exact xCallV z G hj hg m kp b ha hdb he hpl
theorem xC0 (z : Cz X k W) (G : OkF X.prog X.w X.K X.mg X.base x ps j Fn) (hj : j ≤ k) (hg : Gl X x := by rfl) (hdb : (x == ("__debug__" : Str)) = false := by decide) : PE X (.Call (.Name x p) [] [] pos) (tE (X.kw 0) W (xcall ps.length Fn lnil)) := by
  obtain ⟨f, fd, G, kp, b, m, _⟩ := G
  exact xCall0 z G hj hg m kp b hdb
end
/-! ### the law -/
def spLaw (K : PySem.W.Frag) : Sp := fun vs H Q _ => ∃ (a : Addr) (ns : List Int), vs = [.ref a] ∧ SqL K H a (ns.map V.int) ∧ ns.length ≤ 63 ∧ ∀ H', Q (.bl true) H'
theorem spLaw_imp {Fn : List D → R D} (h : ∀ ns : List Int, ns.length ≤ 63 → Fn [scrD ns] = .ok (.bool true)) {K : PySem.W.Frag} {w : World} {mg : Str → Option Value} : ∀ vs H Q E, spLaw K vs H Q E → spD ⟨K, w, 0⟩ mg 1 Fn vs H Q E := fun vs H Q E ⟨a, ns, e, hS, hl, q⟩ => by
  subst e
  refine ⟨H, [scrD ns], Same.refl _, .cons (.scr hS) .nil, rfl, ?_⟩
  rw [h ns hl]
  intro v Hf' H' _ r
  cases r
  exact q H'
theorem noCX {P : Program} {w : World} {outer : List Env} {H : Hp} {s s' : Shared} {u : Value} (h : L2.CX P w outer H s (fun _ _ _ => False) u s') : False := by
  obtain ⟨_, _, _, _, _, _, _, _, _, _, _, _, q⟩ := h
  exact q
theorem law_top {P : Program} {w : World} {K : PySem.W.Frag} {mg : Str → Option Value} {fa : Addr} {k : Nat} {st : Stmt} {Fn : List D → R D} (hmg : mg "law" = some (.ref fa)) (T : Def K mg "law" st ["script"])
    (h : ∀ base : Heap, OkF P w K mg base "law" ["script"] k Fn) (imp : ∀ ns : List Int, ns.length ≤ 63 → Fn [scrD ns] = .ok (.bool true)) :
    ∃ fd : FuncData, (∀ (s : Shared) (u : Value), BindsTo s fd ⟨[u], []⟩ [("script", u)]) ∧ ∀ base : Heap, K.In base → base.Ns mainGlobals mg → FnOk P w K mg base (L2.CX P w) k fa fd ["script"] (spLaw K) := by
  obtain ⟨f, fd, F, b, m⟩ := T
  obtain ⟨oc, od, osl, lk⟩ := fun_look F
  refine ⟨fd, fun s u => .of_eq (b [u] rfl), fun base _ _ => ?_⟩
  obtain ⟨f', fd', G, kp, b', m', oc', od', osl', lk'⟩ := h base
  have e1 : f' = f := by rw [m] at m'; injection m' with m'; injection m' with m'; exact m'.symm
  subst e1
  have e2 : f' = fa := by rw [m] at hmg; injection hmg with hmg; injection hmg
  subst e2
  rw [lk] at lk'
  injection lk' with lk'
  injection lk' with _ _ h3 _
  injection h3 with h3
  subst h3
  exact G.imp (spLaw_imp imp)
end Pu
/-! PuQ: more rules: zip, frozen -/
namespace Pu
open PySem L2
section
variable {X : Cx} {W : WE} {a b c tg : Expr} {F G Fc : En → R D} {pos p : Pos}
/-- zip(a, b), both frozen lists or both tuples -/
theorem iZipZ {elts : List Expr} {kk : Nat} {tpos : Pos} (hg : Gl X "zip") (hm : X.mg "zip" = none) (ha : PE X a (tE (X.kw ea) W F)) (hb : PE X b (tE (X.kw ea) W G))
    (hs : starEach [a, b] X.env = (false, eval a X.env) :: starEach [b] X.env := by rfl) (hs2 : starEach [b] X.env = [(false, eval b X.env)] := by rfl) : PI X (.Tuple elts kk tpos) (.Call (.Name "zip" p) [a, b] [] pos) (tI (X.kw ea) W true (izip F G)) :=
  PI_weak (pi_zipF hg hm (pa_cons ha (pa_cons hb pa_nil hs2) hs) hs (by rw [hs2]; rfl)) fun σ H Q ⟨H0, Hf0, Hf, e, S, p⟩ => ⟨H0, Hf0, Hf, e, S, p.bind.mono fun x H1 ⟨Hf1, d, g, r, p1⟩ => ⟨H0, Hf0, Hf1, e, S.grow g, p1.bind.mono fun y H2 ⟨Hf2, d', g2, r2, p2⟩ => by
    obtain ⟨ds, ez, q⟩ := p2.of_opt
    have r' := Rp.mono g2.ff r
    cases r' with
    | lst hl ra =>
      cases r2 with
      | lst hl' ra' =>
        cases ez
        exact ⟨_, _, _, _, rfl, .inl ⟨SqL.of (g2.fh _ _ hl), SqL.of (g2.fh _ _ hl'), q _ Hf2 H2 (Grow.refl g2.fh) (Wk.zipL (SqL.of hl) (SqL.of hl') ra ra')⟩⟩
      | _ => cases ez
    | tup hl ra =>
      cases r2 with
      | tup hl' ra' =>
        cases ez
        exact ⟨_, _, _, _, rfl, .inr ⟨(hl.mono g2.fh).sq, (hl'.mono g2.fh).sq, q _ Hf2 H2 (Grow.refl g2.fh) (Wk.zipT hl.sq hl'.sq ra ra')⟩⟩
      | _ => cases ez
    | _ => cases ez⟩⟩
end
end Pu
/-! PuR: raise, try, the caught error -/
namespace Pu
open PySem L2
/-- the error class x stands at C -/
structure ExD (K : PySem.W.Frag) (mg : Str → Option Value) (x : Str) (C : Addr) : Prop where
  g : mg x = some (.ref C)
  q : PySem.W.excIn K C [.type "ValueError", .type "Exception", .type "BaseException", .type "object"] "ValueError.__new__" = true
  k : PySem.W.keepIn K (.ref C) = true
  b : PySem.W.subIn K (.ref C) (.type "BaseException") = some true
  t : PySem.W.typeIn K (.ref C) = some (.type "type")
/-- errors of class x are caught by 'except y' -/
def Hit (K : PySem.W.Frag) (mg : Str → Option Value) (y x : Str) : Prop := ∃ C D, mg x = some (.ref C) ∧ mg y = some (.ref D) ∧ PySem.W.exmOne K (.ref C) (.ref D) = some true ∧ ExcC K C
/-- isinstance(e, y), e of class x -/
def Kit (K : PySem.W.Frag) (mg : Str → Option Value) (x y : Str) (b : Bool) : Prop := ∃ C D, mg x = some (.ref C) ∧ mg y = some (.ref D) ∧ PySem.W.kitOne K (.ref C) (.ref D) = some b
def KitT (K : PySem.W.Frag) (mg : Str → Option Value) (x : Str) (T : String) (b : Bool) : Prop := ∃ C, mg x = some (.ref C) ∧ PySem.W.kitOne K (.ref C) (.type T) = some b
theorem kit_own {K : PySem.W.Frag} {C D : Addr} {b : Bool} (h1 : PySem.W.isClsIn K C = true) (h2 : PySem.W.typeIn K (.ref C) = some (.type "type")) (h3 : PySem.W.subIn K (.ref D) (.ref C) = some b) (h4 : PySem.W.subIn K (.ref C) (.ref C) = some true) : PySem.W.kitOne K (.ref D) (.ref C) = some b := by
  unfold PySem.W.kitOne
  by_cases e : D = C
  · subst e
    rw [h3] at h4
    rw [h4, if_pos (beq_self_eq_true _)]
  · rw [if_neg (fun z => e (Value.ref.inj (beq_iff_eq.mp z)))]
    show (if ((PySem.W.clsIn K C).isSome && PySem.W.typeIn K (.ref C) == some (.type "type")) = true then PySem.W.subIn K (.ref D) (.ref C) else none) = _
    have h1 : (PySem.W.clsIn K C).isSome = true := h1
    rw [h1, h2, if_pos (by rfl)]
    exact h3
theorem kit_blt {K : PySem.W.Frag} {D : Addr} {T : String} {b : Bool} (h1 : PySem.W.kitMeta T = true) (h3 : PySem.W.subIn K (.ref D) (.type T) = some b) : PySem.W.kitOne K (.ref D) (.type T) = some b := by
  unfold PySem.W.kitOne
  rw [if_neg (by intro z; exact nomatch (beq_iff_eq.mp z))]
  show (if PySem.W.kitMeta T = true then PySem.W.subIn K (.ref D) (.type T) else none) = _
  rw [if_pos h1]
  exact h3
def srai (c : Str) : En → Fl := fun e => .ex c e
section
variable {X : Cx} {k : Nat} {W : WE} {x m : Str} {j : Nat} {p p2 pos pos' : Pos}
theorem sRaise (z : Cz X k W) (E : ∃ C, ExD X.K X.mg x C) (hg : Gl X x := by rfl) (hdb : (x == ("__debug__" : Str)) = false := by decide) :
    PS X (.Raise (some (.Call (.Name x p) [.Constant (.str m) j p2] [] pos)) none pos') (tS (X.kw ea) W (srai x)) := by
  obtain ⟨C, E⟩ := E
  exact PS_weak (ps_raise z.calm z.tk (pmk_own PySem.F.excBase_ValueError E.q E.g E.k (raises_own E.b E.t) hg hdb)) fun D σ H ⟨H0, Hf0, Hf, e, S, p⟩ => ⟨rfl, x, E.g, p σ Hf H S (Same.refl _)⟩
end
/-! ### from one place of the error to another -/
section
variable {K : PySem.W.Frag} {w : World} {a b : Addr} {H : Hp}
mutual
theorem Rp.at : ∀ {d : D} {v : V}, Rp ⟨K, w, a⟩ H v d → Rp ⟨K, w, b⟩ H v d
  | _, _, .non => .non
  | _, _, .bl b => .bl b
  | _, _, .int i => .int i
  | _, _, .str x => .str x
  | _, _, .lst h r => .lst h (RpAll.at r)
  | _, _, .tup h r => .tup h (RpAll.at r)
  | _, _, .dct h r => .dct h (RpDct.at r)
  | _, _, .scr h => .scr h
  | _, _, .tab h => .tab h
theorem RpAll.at : ∀ {ds : List D} {vs : List V}, RpAll ⟨K, w, a⟩ H vs ds → RpAll ⟨K, w, b⟩ H vs ds
  | _, _, .nil => .nil
  | _, _, .cons h r => .cons (Rp.at h) (RpAll.at r)
theorem RpDct.at : ∀ {kvs : List (D × D)} {xs : List (NestedKey × Addr × Value)}, RpDct ⟨K, w, a⟩ H xs kvs → RpDct ⟨K, w, b⟩ H xs kvs
  | _, _, .nil => .nil
  | _, _, .cons hk hd h rv h' r => .cons hk hd (Rp.at h) rv (Rp.at h') (RpDct.at r)
end
end
def unX1 : Sl → Sl
  | .exc => .un
  | s => s
def unX (e : En) : En := e.map unX1
theorem SR.at {K : PySem.W.Frag} {w : World} {a b : Addr} {H0 Hf0 Hf H : Hp} {σ : L2.St} {e : En} (S : SR ⟨K, w, a⟩ H0 Hf0 Hf H σ e) : SR ⟨K, w, b⟩ H0 Hf0 Hf H σ (unX e) := by
  have get : ∀ {i : Nat} {s : Sl}, (unX e)[i]? = some s → ∃ t, e[i]? = some t ∧ s = unX1 t := fun {i s} h => by
    unfold unX at h
    rw [List.getElem?_map] at h
    cases q : e[i]? with
    | none => rw [q] at h; cases h
    | some t => rw [q] at h; cases h; exact ⟨t, rfl, rfl⟩
  have own : ∀ {t : Sl}, (unX1 t).isOwn = true → t.isOwn = true := fun {t} h => by cases t <;> first | exact h | cases h
  refine ⟨S.gr, by unfold unX; rw [List.length_map]; exact S.len, fun i s v h1 h2 => ?_, fun i j s t c hij h1 h2 o1 o2 => ?_⟩
  · obtain ⟨t, q, rfl⟩ := get h1
    have z := S.sl i t v q h2
    cases t with
    | un => trivial
    | dat d => obtain ⟨x, ex, r⟩ := z; exact ⟨x, ex, r.at⟩
    | own ds => obtain ⟨c, xs, ev, ha, h0, hf, r⟩ := z; exact ⟨c, xs, ev, ha, h0, hf, r.at⟩
    | dic ks => obtain ⟨c, xs, ev, ha, h0, hf, r⟩ := z; exact ⟨c, xs, ev, ha, h0, hf, r.at⟩
    | exc => trivial
  · obtain ⟨s', q1, rfl⟩ := get h1
    obtain ⟨t', q2, rfl⟩ := get h2
    exact S.sep i j s' t' c hij q1 q2 (own o1) (own o2)
/-! ### try -/
/-- the suite for the class c -/
def gsel : List (Str × (En → Fl)) → Str → En → Fl
  | [], _ => fun _ => .bad
  | p :: r, c => if c = p.1 then p.2 else gsel r c
def endX (i : Nat) : Fl → Fl
  | .nx e => .nx (unX (e.set i .un))
  | .bk e => .bk (unX (e.set i .un))
  | .ct e => .ct (unX (e.set i .un))
  | .rt d => .rt d
  | .ex _ _ => .bad
  | .bad => .bad
def stryA (i : Nat) (l : List (Str × (En → Fl))) (A : En → Fl) : En → Fl := fun e => match A e with
  | .ex c e1 => endX i (gsel l c ((unX e1).set i .exc))
  | r => r
def noE : Fl → Fl
  | .ex _ _ => .bad
  | r => r
def stry (l : List (Str × (En → Fl))) (A : En → Fl) : En → Fl := fun e => match A e with
  | .ex c e1 => noE (gsel l c e1)
  | r => r
/-- the suites -/
def Hs (X : Cx) (y : Str) (as : Bool) (suite : List Stmt) (l : List (Str × (En → Fl))) : Prop := ∀ p ∈ l, ∃ C D, X.mg p.1 = some (.ref C) ∧ X.mg y = some (.ref D) ∧ PySem.W.exmOne X.K (.ref C) (.ref D) = some true ∧
  ∀ (a : Addr) (oe : Obj) (pn : List (Addr × Obj)), Zc (.ref C) none oe → (∃ vs, oe.data = .fields vs) → PSs (X.suite a ((a, oe) :: pn)) suite (tS (X.kw (if as then a else 0)) W0 p.2)
theorem hsNil {X : Cx} {y : Str} {as : Bool} {suite : List Stmt} : Hs X y as suite [] := fun _ h => nomatch h
/-- where the caught error stands -/
structure Cs (X : Cx) (c : Str) (a : Addr) (oe : Obj) (pn : List (Addr × Obj)) : Prop where
  nd : X.N.Nodup
  ex : ∃ C, X.mg c = some (.ref C) ∧ Zc (.ref C) none oe ∧ (∃ vs, oe.data = .fields vs) ∧ ExcC X.K C
theorem hsCons {X : Cx} {k : Nat} {W : WE} {y c : Str} {as : Bool} {suite : List Stmt} {A : En → Fl} {l : List (Str × (En → Fl))} (z : Cz X k W) (h : Hit X.K X.mg y c)
    (hs : ∀ (a : Addr) (oe : Obj) (pn : List (Addr × Obj)), Cs X c a oe pn → PSs (X.suite a ((a, oe) :: pn)) suite (tS (X.kw (if as then a else 0)) W0 A)) (r : Hs X y as suite l) : Hs X y as suite ((c, A) :: l) := fun p hp => by
  rcases List.mem_cons.mp hp with rfl | hp
  · obtain ⟨C, D, h1, h2, h3, h4⟩ := h
    exact ⟨C, D, h1, h2, h3, fun a oe pn zc hf => hs a oe pn ⟨z.nd, C, h1, zc, hf, h4⟩⟩
  · exact r p hp
theorem gsel_get : ∀ (l : List (Str × (En → Fl))) (c : Str), (∃ A, (c, A) ∈ l ∧ gsel l c = A) ∨ gsel l c = fun _ => .bad
  | [], _ => .inr rfl
  | p :: r, c => by
    by_cases h : c = p.1
    · left
      refine ⟨p.2, by rw [h]; exact List.mem_cons_self, ?_⟩
      unfold gsel
      rw [if_pos h]
    · have e : gsel (p :: r) c = gsel r c := by
        conv => lhs; unfold gsel
        rw [if_neg h]
      rw [e]
      rcases gsel_get r c with ⟨A, h1, h2⟩ | h1
      · exact .inl ⟨A, List.mem_cons_of_mem _ h1, h2⟩
      · exact .inr h1
def weOf (mg : Str → Option Value) (W : WX) : WE := fun c σ H => ∀ cls, mg c = some cls → W cls none σ H
theorem Cz.tr {X : Cx} {k : Nat} {W : WE} (z : Cz X k W) {pn : List (Addr × Obj)} {xe : Value → Shared → Prop} {W' : WX} (tk : Takes (X.tr pn xe) W') (po : PassesOwn (model X.prog X.w) X.A X.env xe) : Cz (X.tr pn xe) k (weOf X.mg W') :=
  ⟨z.calm, z.nd, tk.imp fun cls d σ H h => by
    obtain ⟨rfl, c, hc, q⟩ := h
    exact q cls hc, po, z.rm⟩
theorem PSs_ex {X : Cx} {ss : List Stmt} {ι : Type} {t : ι → TS} (h : ∀ i, PSs X ss (t i)) : PSs X ss (fun D σ H => ∃ i, t i D σ H) := ⟨fun pins s σ H D I ⟨i, q⟩ => (h i).run pins s σ H D I q⟩
section
variable {X : Cx} {k : Nat} {W : WE} {y n : Str} {i : Nat} {body suite : List Stmt} {b₀ : Stmt} {np pos pos' : Pos} {A : En → Fl} {l : List (Str × (En → Fl))}
theorem sTryA (i : Nat) (z : Cz X k W) (hh : Hs X y true (b₀ :: suite) l) (hb : ∀ (W' : WE) (pn : List (Addr × Obj)) (xe : Value → Shared → Prop), Cz (X.tr pn xe) k W' → PSs (X.tr pn xe) body (tS (X.kw 0) W' A))
    (cM : ∃ D, X.mg y = some (.ref D)) (hs : X.stack = X.env :: X.outer := by rfl) (hf : X.env.frame = some X.env.locals := by rfl) (hi : X.N[i]? = some n := by rfl) (hln : X.env.kindOf n = some .local := by rfl) (hg : Gl X y := by rfl) (hdb : (y == ("__debug__" : Str)) = false := by decide) :
    PS X (.Try body [.ExceptHandler (some (.Name y np)) (some n) (b₀ :: suite) pos'] [] [] pos) (tS (X.kw 0) W (stryA i l A)) := by
  obtain ⟨D, hD⟩ := cM
  let J := { q : (Str × (En → Fl)) × Addr // q.1 ∈ l ∧ X.mg q.1.1 = some (.ref q.2) }
  let ts : Addr → Value → Option Addr → TS := fun a cls d Dn σ H => ∃ q : { q : (Str × (En → Fl)) // q ∈ l ∧ X.mg q.1 = some cls ∧ d = none }, tS (X.kw a) W0 q.1.2 Dn σ H
  refine PS_weak (ps_try_as (i := i) (c := .ref D) (ts := ts) (Wout := wx X.mg W) (tb := fun W' => tS (X.kw 0) (weOf X.mg W') A) hs hf z.nd hi hln ⟨hg, hdb, .inl hD⟩ z.tk (fun W' pn xe tk po => hb _ pn xe (z.tr tk po)) fun a oe cls d pn zc hfl => PSs_ex fun q => ?_) fun Dn σ H h => ?_
  · obtain ⟨⟨c, B⟩, hq, hm, rfl⟩ := q
    obtain ⟨C, D', h1, h2, h3, h4⟩ := hh (c, B) hq
    have hm : X.mg c = some cls := hm
    have h1 : X.mg c = some (.ref C) := h1
    rw [h1] at hm
    cases hm
    exact h4 a oe pn zc hfl
  · obtain ⟨H0, Hf0, Hf, e, S, p⟩ := h
    refine ⟨H0, Hf0, Hf, e, S, ?_⟩
    unfold stryA at p
    revert p
    cases A e with
    | nx e1 => exact fun p => p
    | rt d => exact fun p => p
    | bk e1 => exact fun p => p
    | ct e1 => exact fun p => p
    | bad => exact fun p => p
    | ex c e1 =>
      show PoS (X.kw 0) W Dn H0 Hf0 Hf (endX i (gsel l c ((unX e1).set i .exc))) → _
      rcases gsel_get l c with ⟨B, hmem, eq⟩ | eq
      · rw [eq]
        intro p σ1 Hf1 H1 S1 s1 cls hcls
        obtain ⟨C, D', h1, h2, h3, h4⟩ := hh (c, B) hmem
        have h1 : X.mg c = some (.ref C) := h1
        have ec : cls = .ref C := Option.some.inj (hcls.symm.trans h1)
        have eD : D' = D := by
          rw [hD] at h2
          injection h2 with h2; injection h2 with h2; exact h2.symm
        subst ec eD
        refine ⟨true, h3, fun _ a na => ⟨⟨(c, B), hmem, h1, rfl⟩, H0, Hf0, Hf1, (unX e1).set i .exc, ?_, ?_⟩, fun q => nomatch q⟩
        · exact (S1.at (b := a)).put i (some (.ref a)) .exc rfl fun o => nomatch o
        · have p1 := PoS.same p s1
          revert p1
          show PoS (X.kw 0) W Dn H0 Hf0 Hf1 (endX i (B ((unX e1).set i .exc))) → PoS (X.kw a) W0 _ H0 Hf0 Hf1 (B ((unX e1).set i .exc))
          cases B ((unX e1).set i .exc) with
          | nx e2 => exact fun p1 σ2 Hf2 H2 S2 s2 => p1 (σ2.set i none) Hf2 H2 ((S2.put i none .un trivial fun o => nomatch o).at) s2
          | bk e2 => exact fun p1 σ2 Hf2 H2 S2 s2 => p1 (σ2.set i none) Hf2 H2 ((S2.put i none .un trivial fun o => nomatch o).at) s2
          | ct e2 => exact fun p1 σ2 Hf2 H2 S2 s2 => p1 (σ2.set i none) Hf2 H2 ((S2.put i none .un trivial fun o => nomatch o).at) s2
          | rt d => exact fun p1 v Hf2 H2 g r => p1 v Hf2 H2 g r.at
          | ex c e2 => exact fun p1 => p1.elim
          | bad => exact fun p1 => p1
      · rw [eq]
        exact fun p => p.elim
theorem sTry (z : Cz X k W) (hh : Hs X y false (b₀ :: suite) l) (hb : ∀ (W' : WE) (pn : List (Addr × Obj)) (xe : Value → Shared → Prop), Cz (X.tr pn xe) k W' → PSs (X.tr pn xe) body (tS (X.kw 0) W' A))
    (cM : ∃ D, X.mg y = some (.ref D)) (hs : X.stack = X.env :: X.outer := by rfl) (hf : X.env.frame = some X.env.locals := by rfl) (hg : Gl X y := by rfl) (hdb : (y == ("__debug__" : Str)) = false := by decide) :
    PS X (.Try body [.ExceptHandler (some (.Name y np)) none (b₀ :: suite) pos'] [] [] pos) (tS (X.kw 0) W (stry l A)) := by
  obtain ⟨D, hD⟩ := cM
  let ts : Addr → Value → Option Addr → TS := fun a cls d Dn σ H => ∃ q : { q : (Str × (En → Fl)) // q ∈ l ∧ X.mg q.1 = some cls ∧ d = none }, tS (X.kw 0) W0 q.1.2 Dn σ H
  refine PS_weak (ps_try_only (c := .ref D) (ts := ts) (Wout := wx X.mg W) (tb := fun W' => tS (X.kw 0) (weOf X.mg W') A) hs hf ⟨hg, hdb, .inl hD⟩ z.tk (fun W' pn xe tk po => hb _ pn xe (z.tr tk po)) fun a oe cls d pn zc hfl => PSs_ex fun q => ?_) fun Dn σ H h => ?_
  · obtain ⟨⟨c, B⟩, hq, hm, rfl⟩ := q
    obtain ⟨C, D', h1, h2, h3, h4⟩ := hh (c, B) hq
    have hm : X.mg c = some cls := hm
    have h1 : X.mg c = some (.ref C) := h1
    rw [h1] at hm
    cases hm
    exact h4 a oe pn zc hfl
  · obtain ⟨H0, Hf0, Hf, e, S, p⟩ := h
    refine ⟨H0, Hf0, Hf, e, S, ?_⟩
    unfold stry at p
    revert p
    cases A e with
    | nx e1 => exact fun p => p
    | rt d => exact fun p => p
    | bk e1 => exact fun p => p
    | ct e1 => exact fun p => p
    | bad => exact fun p => p
    | ex c e1 =>
      show PoS (X.kw 0) W Dn H0 Hf0 Hf (noE (gsel l c e1)) → _
      rcases gsel_get l c with ⟨B, hmem, eq⟩ | eq
      · rw [eq]
        intro p σ1 Hf1 H1 S1 s1 cls hcls
        obtain ⟨C, D', h1, h2, h3, h4⟩ := hh (c, B) hmem
        have h1 : X.mg c = some (.ref C) := h1
        have ec : cls = .ref C := Option.some.inj (hcls.symm.trans h1)
        have eD : D' = D := by
          rw [hD] at h2
          injection h2 with h2; injection h2 with h2; exact h2.symm
        subst ec eD
        refine ⟨true, h3, fun _ a na => ⟨⟨(c, B), hmem, h1, rfl⟩, H0, Hf0, Hf1, e1, S1, ?_⟩, fun q => nomatch q⟩
        have p1 := PoS.same p s1
        revert p1
        show PoS (X.kw 0) W Dn H0 Hf0 Hf1 (noE (B e1)) → PoS (X.kw 0) W0 Dn H0 Hf0 Hf1 (B e1)
        cases B e1 with
        | nx e2 => exact fun p1 => p1
        | bk e2 => exact fun p1 => p1
        | ct e2 => exact fun p1 => p1
        | rt d => exact fun p1 => p1
        | ex c e2 => exact fun p1 => p1.elim
        | bad => exact fun p1 => p1
      · rw [eq]
        exact fun p => p.elim
end
/-! ### in a suite -/
def xisx (i : Nat) (b : Bool) : En → R D := fun e => match e[i]? with
  | some .exc => .ok (.bool b)
  | _ => .bad
section
variable {X : Cx} {W : WE} {c x y : Str} {i : Nat} {a : Addr} {oe : Obj} {pn : List (Addr × Obj)} {b : Bool} {p px py pos : Pos} {T : String}
theorem isx_of {te : TA} (hcs : Cs X c a oe pn) {ts : TE} {v : V} {cv : Value} (hv : ∀ u, RelV v u → u = cv) (hkit : ∀ C, X.mg c = some (.ref C) → PySem.W.kitOne X.K (.ref C) cv = some b) {e2 : Expr} (h2 : PE (X.suite a ((a, oe) :: pn)) e2 (tC v))
    (hx : PE (X.suite a ((a, oe) :: pn)) (.Name x px) (tVar i)) (hg : Gl X "isinstance") (hm : X.mg "isinstance" = none) (he2 : starEach [.Name x px, e2] X.env = (false, eval (.Name x px) X.env) :: starEach [e2] X.env) (he3 : starEach [e2] X.env = [(false, eval e2 X.env)]) :
    PE (X.suite a ((a, oe) :: pn)) (.Call (.Name "isinstance" p) [.Name x px, e2] [] pos) (tE (X.kw a) W (xisx i b)) := by
  obtain ⟨nd, C, hc, zc, hf, ec⟩ := hcs
  refine PE_weak (pe_callB (X := X.suite a ((a, oe) :: pn)) (call_isE ec zc hf) hg hm bt_isinstance (pa_cons hx (pa_cons h2 pa_nil he3) he2) (by decide) (by decide) he2 (by rw [he3]; rfl)) fun σ H Q ⟨H0, Hf0, Hf, e, S, pp⟩ => ?_
  unfold xisx at pp
  cases q : e[i]? with
  | none => rw [q] at pp; exact pp.elim
  | some s =>
    rw [q] at pp
    cases s with
    | exc =>
      obtain ⟨u, hu⟩ := S.lt q
      have hz : u = some (.ref a) := S.sl i .exc u q hu
      subst hz
      exact ⟨_, hu, v, cv, b, rfl, hv, hkit C hc, pp _ Hf H (Grow.refl S.gr.fh) (.bl b)⟩
    | un => exact pp.elim
    | dat d => exact pp.elim
    | own ds => exact pp.elim
    | dic ks => exact pp.elim
theorem xIsO (hcs : Cs X c a oe pn) (hkit : Kit X.K X.mg c y b) (hx : PE (X.suite a ((a, oe) :: pn)) (.Name x px) (tVar i)) (hm : X.mg "isinstance" = none) (hg : Gl X "isinstance" := by rfl) (hgy : Gl X y := by rfl) (hdb : (y == ("__debug__" : Str)) = false := by decide)
    (he2 : starEach [.Name x px, .Name y py] X.env = (false, eval (.Name x px) X.env) :: starEach [.Name y py] X.env := by rfl) (he3 : starEach [Expr.Name y py] X.env = [(false, eval (.Name y py) X.env)] := by rfl) :
    PE (X.suite a ((a, oe) :: pn)) (.Call (.Name "isinstance" p) [.Name x px, .Name y py] [] pos) (tE (X.kw a) W (xisx i b)) := by
  obtain ⟨C, D, h1, h2, h3⟩ := hkit
  exact isx_of (te := fun _ _ _ => True) (ts := fun _ _ _ => True) hcs (v := .ref D) (cv := .ref D) (fun u h => h) (fun C' hC => by rw [h1] at hC; injection hC with hC; injection hC with hC; subst hC; exact h3) (pe_glob (X := X.suite a ((a, oe) :: pn)) hgy h2 rfl hdb) hx hg hm he2 he3
theorem xIsB (hcs : Cs X c a oe pn) (hkit : KitT X.K X.mg c T b) (hv : bootBuiltins y = some (.type T)) (hmy : X.mg y = none) (hx : PE (X.suite a ((a, oe) :: pn)) (.Name x px) (tVar i)) (hm : X.mg "isinstance" = none) (hg : Gl X "isinstance" := by rfl) (hgy : Gl X y := by rfl) (hn : y ≠ "__name__" := by decide) (hdb : (y == ("__debug__" : Str)) = false := by decide)
    (he2 : starEach [.Name x px, .Name y py] X.env = (false, eval (.Name x px) X.env) :: starEach [.Name y py] X.env := by rfl) (he3 : starEach [Expr.Name y py] X.env = [(false, eval (.Name y py) X.env)] := by rfl) :
    PE (X.suite a ((a, oe) :: pn)) (.Call (.Name "isinstance" p) [.Name x px, .Name y py] [] pos) (tE (X.kw a) W (xisx i b)) := by
  obtain ⟨C, h1, h3⟩ := hkit
  exact isx_of (te := fun _ _ _ => True) (ts := fun _ _ _ => True) hcs (v := .ty T) (cv := .type T) (fun u h => h) (fun C' hC => by rw [h1] at hC; injection hC with hC; injection hC with hC; subst hC; exact h3) (pe_bltn (X := X.suite a ((a, oe) :: pn)) (v := .ty T) hgy hmy hv rfl hn hdb) hx hg hm he2 he3
end
section
variable {X : Cx} {W : WE} {a : Expr} {F : En → R D} {pos px : Pos} {x : Str}
theorem sLetS (i : Nat) (nd : X.N.Nodup) (he : PE X a (tE (X.kw ea) W F)) (hi : X.N[i]? = some x := by rfl) (hx : Loc X.env.scope x := by first | exact .inl rfl | exact .inr rfl) (hs : swapsWith a (some (.Name x px)) pos.line X.env = pure false := by rfl) (hf : X.fn x = true ∨ X.env.scope.names.lookup x = some .local := by first | exact .inl rfl | exact .inr rfl) :
    PS X (.Assign [.Name x px] a pos) (tS (X.kw ea) W (sasg i F)) := sAsg nd hi hx he hs hf
end
theorem bt_ValueError : bootBuiltins "ValueError" = some (.type "ValueError") := by decide +kernel
end Pu
/-! Ev: how the words compute -/
namespace Pu
open PySem L2
/-! ### results and flows -/
def Fl.andThen (r : Fl) (B : En → Fl) : Fl := match r with
  | .nx e => B e
  | r => r
@[simp] theorem then_nx (e : En) (B : En → Fl) : (Fl.nx e).andThen B = B e := rfl
@[simp] theorem then_rt (d : D) (B : En → Fl) : (Fl.rt d).andThen B = .rt d := rfl
@[simp] theorem then_bk (e : En) (B : En → Fl) : (Fl.bk e).andThen B = .bk e := rfl
@[simp] theorem then_ct (e : En) (B : En → Fl) : (Fl.ct e).andThen B = .ct e := rfl
@[simp] theorem then_ex (c : Str) (e : En) (B : En → Fl) : (Fl.ex c e).andThen B = .ex c e := rfl
@[simp] theorem sseq_ev (A B : En → Fl) (e : En) : sseq A B e = (A e).andThen B := by
  unfold sseq Fl.andThen
  cases A e <;> rfl
@[simp] theorem snil_ev (e : En) : snil e = .nx e := rfl
@[simp] theorem scont_ev (e : En) : scont e = .ct e := rfl
@[simp] theorem liftE_ok (d : D) (e : En) (f : D → Fl) : liftE (.ok d) e f = f d := rfl
@[simp] theorem liftE_ex (c : Str) (e : En) (f : D → Fl) : liftE (.ex c) e f = .ex c e := rfl
@[simp] theorem sasg_ev (i : Nat) (F : En → R D) (e : En) : sasg i F e = liftE (F e) e fun d => .nx (e.set i (.dat d)) := rfl
def liftL (r : R (List D)) (e : En) (f : List D → Fl) : Fl := match r with
  | .ok d => f d
  | .ex c => .ex c e
  | .bad => .bad
@[simp] theorem liftL_ok (d : List D) (e : En) (f : List D → Fl) : liftL (.ok d) e f = f d := rfl
@[simp] theorem sasgN_ev (i : Nat) (F : En → R (List D)) (e : En) : sasgN i F e = liftL (F e) e fun d => .nx (e.set i (.own d)) := by
  unfold sasgN liftL
  cases F e <;> rfl
def optF (o : Option En) : Fl := match o with
  | some e' => .nx e'
  | none => .bad
@[simp] theorem optF_some (e : En) : optF (some e) = .nx e := rfl
@[simp] theorem sasgT_ev (f : Tg) (F : En → R D) (e : En) : sasgT f F e = liftE (F e) e fun d => optF (f d e) := rfl
def retF (r : R D) (e : En) : Fl := match r with
  | .ok d => .rt d
  | .ex c => .ex c e
  | .bad => .bad
@[simp] theorem retF_ok (d : D) (e : En) : retF (.ok d) e = .rt d := rfl
@[simp] theorem retF_ex (c : Str) (e : En) : retF (.ex c) e = .ex c e := rfl
@[simp] theorem sret_ev (F : En → R D) (e : En) : sret F e = retF (F (fz e)) (fz e) := by
  unfold sret retF
  cases F (fz e) <;> rfl
@[simp] theorem fz_nil : fz [] = [] := rfl
@[simp] theorem fz_cons (s : Sl) (e : En) : fz (s :: e) = frz1 s :: fz e := rfl
@[simp] theorem frz1_dat (d : D) : frz1 (.dat d) = .dat d := rfl
@[simp] theorem frz1_un : frz1 .un = .un := rfl
@[simp] theorem frz1_own (ds : List D) : frz1 (.own ds) = .dat (.list ds) := rfl
@[simp] theorem frz1_dic (ds : List (D × D)) : frz1 (.dic ds) = .dat (.dict ds) := rfl
@[simp] theorem sif_t {T : En → R Bool} {A B : En → Fl} {e : En} (h : T e = .ok true) : sif T A B e = A e := by unfold sif; rw [h]
@[simp] theorem sif_f {T : En → R Bool} {A B : En → Fl} {e : En} (h : T e = .ok false) : sif T A B e = B e := by unfold sif; rw [h]
theorem sif_b {T : En → R Bool} {A B : En → Fl} {e : En} {b : Bool} (h : T e = .ok b) : sif T A B e = if b = true then A e else B e := by unfold sif; rw [h]; cases b <;> rfl
/-! ### names, operations -/
@[simp] theorem xvE_ev (i : Nat) (e : En) : xvE i e = getE e i := rfl
@[simp] theorem xvV_ev (i : Nat) (e : En) : xvV i e = getV e i := rfl
@[simp] theorem getE_z (d : D) (e : En) : getE (.dat d :: e) 0 = .ok d := rfl
@[simp] theorem getE_s (s : Sl) (e : En) (i : Nat) : getE (s :: e) (i + 1) = getE e i := rfl
@[simp] theorem getV_z (d : D) (e : En) : getV (.dat d :: e) 0 = .ok d := rfl
@[simp] theorem getV_o (d : List D) (e : En) : getV (.own d :: e) 0 = .ok (.list d) := rfl
@[simp] theorem getV_d (d : List (D × D)) (e : En) : getV (.dic d :: e) 0 = .ok (.dict d) := rfl
@[simp] theorem getV_s (s : Sl) (e : En) (i : Nat) : getV (s :: e) (i + 1) = getV e i := rfl
@[simp] theorem xc_ev (d : D) (e : En) : xc d e = .ok d := rfl
@[simp] theorem bin_ev (f : D → D → Option D) (F G : En → R D) (e : En) : bin f F G e = (F e).bind fun x => (G e).bind fun y => opt (f x y) := rfl
@[simp] theorem un1_ev (f : D → Option D) (F : En → R D) (e : En) : un1 f F e = (F e).bind fun x => opt (f x) := rfl
@[simp] theorem un1N_ev (f : D → Option (List D)) (F : En → R D) (e : En) : un1N f F e = (F e).bind fun x => opt (f x) := rfl
@[simp] theorem binN_ev (f : D → D → Option (List D)) (F G : En → R D) (e : En) : binN f F G e = (F e).bind fun x => (G e).bind fun y => opt (f x y) := rfl
@[simp] theorem asL_ev (F : En → R (List D)) (e : En) : asL F e = (F e).bind fun ds => .ok (.list ds) := rfl
@[simp] theorem lnil_ev (e : En) : lnil e = .ok [] := rfl
@[simp] theorem lcons_ev (F : En → R D) (L : En → R (List D)) (e : En) : lcons F L e = (F e).bind fun d => (L e).bind fun ds => .ok (d :: ds) := rfl
@[simp] theorem xtup_ev (L : En → R (List D)) (e : En) : xtup L e = (L e).bind mkT := rfl
@[simp] theorem xlst_ev (L : En → R (List D)) (e : En) : xlst L e = (L e).bind mkL := rfl
@[simp] theorem mkT_ev {ds : List D} (h : ds.length ≤ 1000000) : mkT ds = .ok (.tuple ds) := by unfold mkT many; rw [if_pos h]
@[simp] theorem mkL_ev {ds : List D} (h : ds.length ≤ 1000000) : mkL ds = .ok ds := by unfold mkL many; rw [if_pos h]
@[simp] theorem xtru_ev (F : En → R D) (e : En) : xtru F e = (F e).bind fun d => opt (truD d) := rfl
@[simp] theorem xnot_ev (F : En → R D) (e : En) : xnot F e = (xtru F e).bind fun k => .ok (.bool (!k)) := rfl
def blD : D → R Bool
  | .bool b => .ok b
  | _ => .bad
@[simp] theorem blD_b (b : Bool) : blD (.bool b) = .ok b := rfl
@[simp] theorem xbl_ev (F : En → R D) (e : En) : xbl F e = (F e).bind blD := rfl
@[simp] theorem tand_ev (T U : En → R Bool) (e : En) : tand T U e = (T e).bind fun k => if k = true then U e else .ok false := rfl
@[simp] theorem tor_ev (T U : En → R Bool) (e : En) : tor T U e = (T e).bind fun k => if k = true then .ok true else U e := rfl
@[simp] theorem tnot_ev (T : En → R Bool) (e : En) : tnot T e = (T e).bind fun k => .ok (!k) := rfl
@[simp] theorem tyes_ev (e : En) : tyes e = .ok true := rfl
@[simp] theorem xif_ev (T : En → R Bool) (F G : En → R D) (e : En) : xif T F G e = (T e).bind fun k => if k = true then F e else G e := rfl
@[simp] theorem xandV_ev (F G : En → R D) (e : En) : xandV F G e = (F e).bind fun d => (opt (truD d)).bind fun k => if k = true then G e else .ok d := rfl
@[simp] theorem xorV_ev (F G : En → R D) (e : En) : xorV F G e = (F e).bind fun d => (opt (truD d)).bind fun k => if k = true then .ok d else G e := rfl
@[simp] theorem onone_ev (e : En) : onone e = .ok none := rfl
def intO : D → R (Option Int)
  | .int i => .ok (some i)
  | _ => .bad
@[simp] theorem intO_i (i : Int) : intO (.int i) = .ok (some i) := rfl
@[simp] theorem osome_ev (F : En → R D) (e : En) : osome F e = (F e).bind intO := rfl
@[simp] theorem xsl_ev (F : En → R D) (L U : En → R (Option Int)) (e : En) : xsl F L U e = (F e).bind fun d => (L e).bind fun lo => (U e).bind fun hi => opt (sliceD d lo hi) := rfl
@[simp] theorem xcall_ev {n : Nat} {Fn : List D → R D} {L : En → R (List D)} {e : En} : xcall n Fn L e = (L e).bind fun ds => if ds.length = n then Fn ds else .bad := rfl
@[simp] theorem iseq_ev (F : En → R D) (e : En) : iseq F e = (F e).bind fun d => opt (seqD d) := rfl
@[simp] theorem ienum_ev (F : En → R D) (e : En) : ienum F e = (F e).bind fun d => opt ((listN d).map enumL) := rfl
@[simp] theorem izip_ev (F G : En → R D) (e : En) : izip F G e = (F e).bind fun d => (G e).bind fun d' => opt (zipD d d') := rfl
@[simp] theorem irng1_ev (F : En → R D) (e : En) : irng1 F e = (F e).bind fun d => opt (rng1 d) := rfl
@[simp] theorem irng2_ev (F G : En → R D) (e : En) : irng2 F G e = (F e).bind fun d => (G e).bind fun d' => opt (rng2 d d') := rfl
@[simp] theorem gn_ev (i : Nat) (d : D) (e : En) : gn i d e = some (e.set i (.dat d)) := rfl
@[simp] theorem gnil_ev (e : En) : gnil [] e = some e := rfl
@[simp] theorem gcons_ev (f : Tg) (g : List D → En → Option En) (d : D) (ds : List D) (e : En) : gcons f g (d :: ds) e = (f d e).bind (g ds) := rfl
@[simp] theorem gtup_ev (g : List D → En → Option En) (ds : List D) (e : En) : gtup g (.tuple ds) e = g ds e := rfl
@[simp] theorem gtup_pair (g : List D → En → Option En) (x y : D) (e : En) : gtup g (pairD x y) e = g [x, y] e := rfl
@[simp] theorem add_ii (i j : Int) : addD (.int i) (.int j) = some (.int (i + j)) := rfl
@[simp] theorem sub_ii (i j : Int) : subD (.int i) (.int j) = some (.int (i - j)) := rfl
@[simp] theorem neg_i (i : Int) : negD (.int i) = some (.int (-i)) := rfl
theorem mul_ii {i j : Int} (h : small64 i = true ∨ small64 j = true) : mulD (.int i) (.int j) = some (.int (i * j)) := by
  show (if small64 i || small64 j then some (PyData.int (i * j)) else none) = _
  rw [if_pos (by rw [Bool.or_eq_true]; exact h)]
theorem small_le {i : Int} (h0 : -1000000000000000000 ≤ i) (h : i ≤ 1000000000000000000) : small64 i = true := by
  unfold small64
  rw [Bool.and_eq_true]
  exact ⟨decide_eq_true (by omega), decide_eq_true (by omega)⟩
theorem mod_ii {i j : Int} (h : 0 < j) : modD (.int i) (.int j) = some (.int (i % j)) := by
  show (if 0 < j then some (PyData.int (i % j)) else none) = _
  rw [if_pos h]
theorem fdiv_ii {i j : Int} (h : 0 < j) (h2 : j < 1073741824) : fdivD (.int i) (.int j) = some (.int (i / j)) := by
  show (if 0 < j ∧ j < 1073741824 then some (PyData.int (i / j)) else none) = _
  rw [if_pos ⟨h, h2⟩]
@[simp] theorem lt_ii (i j : Int) : ltD (.int i) (.int j) = some (.bool (decide (i < j))) := rfl
@[simp] theorem le_ii (i j : Int) : leD (.int i) (.int j) = some (.bool (decide (i ≤ j))) := rfl
@[simp] theorem gt_ii (i j : Int) : gtD (.int i) (.int j) = some (.bool (decide (j < i))) := rfl
@[simp] theorem ge_ii (i j : Int) : geD (.int i) (.int j) = some (.bool (decide (j ≤ i))) := rfl
@[simp] theorem max2_ii (i j : Int) : max2D (.int i) (.int j) = some (.int (max i j)) := by
  show some (PyData.int (if j > i then j else i)) = _
  congr 2
  omega
@[simp] theorem min2_ii (i j : Int) : min2D (.int i) (.int j) = some (.int (min i j)) := by
  show some (PyData.int (if j < i then j else i)) = _
  congr 2
  omega
@[simp] theorem is_none (x : D) : isD x .none = some (.bool (isNoneD x)) := by cases x <;> rfl
@[simp] theorem isNot_none (x : D) : isNotD x .none = some (.bool (!isNoneD x)) := by cases x <;> rfl
@[simp] theorem is_bb (a b : Bool) : isD (.bool a) (.bool b) = some (.bool (a == b)) := rfl
@[simp] theorem isNot_bb (a b : Bool) : isNotD (.bool a) (.bool b) = some (.bool (!(a == b))) := rfl
@[simp] theorem isNone_n : isNoneD .none = true := rfl
@[simp] theorem isNone_i (i : Int) : isNoneD (.int i) = false := rfl
@[simp] theorem isNone_t (ds : List D) : isNoneD (.tuple ds) = false := rfl
@[simp] theorem isNone_l (ds : List D) : isNoneD (.list ds) = false := rfl
@[simp] theorem isNone_s (x : Str) : isNoneD (.str x) = false := rfl
@[simp] theorem isNone_b (x : Bool) : isNoneD (.bool x) = false := rfl
@[simp] theorem len_l (ds : List D) : lenD (.list ds) = some (.int ds.length) := rfl
@[simp] theorem len_t (ds : List D) : lenD (.tuple ds) = some (.int ds.length) := rfl
@[simp] theorem tuple_l (ds : List D) : tupleD (.list ds) = some (.tuple ds) := rfl
@[simp] theorem tuple_t (ds : List D) : tupleD (.tuple ds) = some (.tuple ds) := rfl
@[simp] theorem list_l (ds : List D) : listN (.list ds) = some ds := rfl
@[simp] theorem list_t (ds : List D) : listN (.tuple ds) = some ds := rfl
@[simp] theorem seq_l (ds : List D) : seqD (.list ds) = some ds := rfl
@[simp] theorem seq_t (ds : List D) : seqD (.tuple ds) = some ds := rfl
@[simp] theorem tru_b (b : Bool) : truD (.bool b) = some b := rfl
@[simp] theorem tru_i (i : Int) : truD (.int i) = some (i != 0) := rfl
@[simp] theorem tru_n : truD .none = some false := rfl
@[simp] theorem tru_l (ds : List D) : truD (.list ds) = some (!ds.isEmpty) := rfl
@[simp] theorem tru_t (ds : List D) : truD (.tuple ds) = some (!ds.isEmpty) := rfl
@[simp] theorem int_b (b : Bool) : intD (.bool b) = some (.int (if b then 1 else 0)) := rfl
@[simp] theorem int_i (i : Int) : intD (.int i) = some (.int i) := rfl
theorem atI_n {α : Type} (xs : List α) (i : Nat) : atI xs (i : Int) = xs[i]? := by
  unfold atI ixN
  by_cases h : i < xs.length
  · simp [h]
  · rw [if_pos (by omega), if_neg (by omega), List.getElem?_eq_none (by omega)]; rfl
@[simp] theorem ix_l (ds : List D) (i : Int) : ixD (.list ds) (.int i) = atI ds i := rfl
@[simp] theorem ix_t (ds : List D) (i : Int) : ixD (.tuple ds) (.int i) = atI ds i := rfl
@[simp] theorem atI_0 {α : Type} (x : α) (xs : List α) : atI (x :: xs) 0 = some x := atI_n (x :: xs) 0
@[simp] theorem atI_1 {α : Type} (x y : α) (xs : List α) : atI (x :: y :: xs) 1 = some y := atI_n (x :: y :: xs) 1
@[simp] theorem atI_2 {α : Type} (x y z : α) (xs : List α) : atI (x :: y :: z :: xs) 2 = some z := atI_n (x :: y :: z :: xs) 2
@[simp] theorem rev_t (ds : List D) : revD (.tuple ds) = some (.tuple ds.reverse) := rfl
/-- a def's call -/
theorem runD_rt {m : Nat} {B : En → Fl} {ds : List D} {d : D} (h : B (startE m ds) = .rt d) : runD m B ds = .ok d := by unfold runD; rw [h]
theorem runD_nx {m : Nat} {B : En → Fl} {ds : List D} {e : En} (h : B (startE m ds) = .nx e) : runD m B ds = .ok .none := by unfold runD; rw [h]
theorem runD_ex {m : Nat} {B : En → Fl} {ds : List D} {c : Str} {e : En} (h : B (startE m ds) = .ex c e) : runD m B ds = .ex c := by unfold runD; rw [h]
/-! ### comprehensions -/
theorem lcL_map {α : Type} {enc : α → D} {f : Tg} {T : En → R Bool} {E : En → R D} {e : En} {t : α → Bool} {g : α → D} : ∀ (xs : List α), (∀ x ∈ xs, ∃ e1, f (enc x) e = some e1 ∧ T e1 = .ok (t x) ∧ (t x = true → E e1 = .ok (g x))) →
    lcL f T E e (xs.map enc) = .ok ((xs.filter t).map g)
  | [], _ => rfl
  | x :: xs, h => by
    obtain ⟨e1, h1, h2, h3⟩ := h x List.mem_cons_self
    have ih := lcL_map (enc := enc) (f := f) (T := T) (E := E) (e := e) (t := t) (g := g) xs fun y hy => h y (List.mem_cons_of_mem _ hy)
    rw [List.map_cons]
    unfold lcL
    rw [h1, ih, opt_some, bind_ok, h2, bind_ok]
    cases ht : t x with
    | true => rw [if_pos rfl, h3 ht, List.filter_cons_of_pos (by rw [ht])]; rfl
    | false => rw [if_neg Bool.false_ne_true, List.filter_cons_of_neg (by rw [ht]; exact Bool.false_ne_true)]
theorem xlc_map {α : Type} {enc : α → D} {vs : List Nat} {L : En → R (List D)} {f : Tg} {T : En → R Bool} {E : En → R D} {e : En} {xs : List α} (t : α → Bool) (g : α → D) (hL : L e = .ok (xs.map enc)) (hl : xs.length ≤ 1000000)
    (h : ∀ x ∈ xs, ∃ e1, f (enc x) (wipeE e vs) = some e1 ∧ T e1 = .ok (t x) ∧ (t x = true → E e1 = .ok (g x))) : xlc vs L f T E e = .ok ((xs.filter t).map g) := by
  unfold xlc
  rw [hL, bind_ok, if_pos (by rw [List.length_map]; exact hl), lcL_map xs h]
  rfl
/-- without a test -/
theorem xlc_all {α : Type} {enc : α → D} {vs : List Nat} {L : En → R (List D)} {f : Tg} {T : En → R Bool} {E : En → R D} {e : En} {xs : List α} (g : α → D) (hL : L e = .ok (xs.map enc)) (hl : xs.length ≤ 1000000)
    (h : ∀ x ∈ xs, ∃ e1, f (enc x) (wipeE e vs) = some e1 ∧ T e1 = .ok true ∧ E e1 = .ok (g x)) : xlc vs L f T E e = .ok (xs.map g) := by
  have := xlc_map (enc := enc) (vs := vs) (L := L) (f := f) (T := T) (E := E) (e := e) (xs := xs) (fun _ => true) g hL hl fun x hx => by
    obtain ⟨e1, h1, h2, h3⟩ := h x hx
    exact ⟨e1, h1, h2, fun _ => h3⟩
  rw [this, List.filter_eq_self.mpr (fun _ _ => rfl)]
/-! ### loops -/
theorem forL_inv {α : Type} {enc : α → D} {f : Tg} {B : En → Fl} (P : List α → En → Prop) : ∀ (xs pre : List α) (e : En), P pre e →
    (∀ p x r e, pre ++ xs = p ++ x :: r → P p e → ∃ e1 e2, f (enc x) e = some e1 ∧ (B e1 = .nx e2 ∨ B e1 = .ct e2) ∧ P (p ++ [x]) e2) → ∃ e', forL f B (xs.map enc) e = .nx e' ∧ P (pre ++ xs) e'
  | [], pre, e, h, _ => ⟨e, rfl, by rw [List.append_nil]; exact h⟩
  | x :: xs, pre, e, h, st => by
    obtain ⟨e1, e2, h1, h2, h3⟩ := st pre x xs e rfl h
    have ea : pre ++ x :: xs = (pre ++ [x]) ++ xs := by rw [List.append_assoc]; rfl
    obtain ⟨e', h4, h5⟩ := forL_inv (enc := enc) (f := f) (B := B) P xs (pre ++ [x]) e2 h3 fun p y r e0 q => st p y r e0 (ea.trans q)
    refine ⟨e', ?_, by rw [ea]; exact h5⟩
    rw [List.map_cons]
    unfold forL
    rw [h1]
    rcases h2 with h2 | h2
    · show (match B e1 with | .nx e2 => _ | .ct e2 => _ | .bk e2 => _ | r => r) = _
      rw [h2]; exact h4
    · show (match B e1 with | .nx e2 => _ | .ct e2 => _ | .bk e2 => _ | r => r) = _
      rw [h2]; exact h4
/-- a loop with an invariant that hangs on nothing -/
theorem forL_stay {α : Type} {enc : α → D} {f : Tg} {B : En → Fl} (P : En → Prop) (xs : List α) (e : En) (h : P e) (st : ∀ x e, x ∈ xs → P e → ∃ e1 e2, f (enc x) e = some e1 ∧ (B e1 = .nx e2 ∨ B e1 = .ct e2) ∧ P e2) : ∃ e', forL f B (xs.map enc) e = .nx e' ∧ P e' :=
  forL_inv (fun _ e => P e) xs [] e h fun p x r e0 q h0 => st x e0 (by rw [List.nil_append] at q; rw [q]; simp) h0
/-- a loop that folds -/
theorem forL_fold {α σ : Type} {enc : α → D} {f : Tg} {B : En → Fl} (P : σ → En → Prop) (g : σ → α → σ) (xs : List α) (s : σ) (e : En) (h : P s e) (st : ∀ s x e, x ∈ xs → P s e → ∃ e1 e2, f (enc x) e = some e1 ∧ (B e1 = .nx e2 ∨ B e1 = .ct e2) ∧ P (g s x) e2) :
    ∃ e', forL f B (xs.map enc) e = .nx e' ∧ P (xs.foldl g s) e' := by
  have := forL_inv (enc := enc) (f := f) (B := B) (fun p e => P (p.foldl g s) e) xs [] e h fun p x r e0 q h0 => by
    obtain ⟨e1, e2, h1, h2, h3⟩ := st (p.foldl g s) x e0 (by rw [List.nil_append] at q; rw [q]; simp) h0
    exact ⟨e1, e2, h1, h2, by rw [List.foldl_append]; exact h3⟩
  rwa [List.nil_append] at this
theorem sfor_nx {L : En → R (List D)} {f : Tg} {B : En → Fl} {e e' : En} {ds : List D} (hL : L e = .ok ds) (h : forL f B ds e = .nx e') : sfor L f B e = .nx e' := by
  unfold sfor
  rw [hL]
  exact h
/-! ### range -/
theorem in62_le {i : Int} (h0 : -1000000000000000000 ≤ i) (h : i ≤ 1000000000000000000) : in62 i = true := by
  unfold in62
  rw [Bool.and_eq_true]
  exact ⟨decide_eq_true (by omega), decide_eq_true (by omega)⟩
/-- range(n) -/
def upto (n : Nat) : List Int := (List.range n).map fun k : Nat => (k : Int)
theorem rng1_ev {j : Int} (h0 : -1000000000000000000 ≤ j) (h : j ≤ 1000000000000000000) : rng1 (.int j) = some ((upto j.toNat).map PyData.int) := by
  show (if in62 j then some (rangeL 0 j.toNat) else none) = _
  rw [if_pos (in62_le h0 h)]
  unfold rangeL upto
  rw [List.map_map]
  congr 1
  apply List.map_congr_left
  intro k _
  show PyData.int (0 + (k : Int)) = PyData.int (k : Int)
  rw [Int.zero_add]
def uptoFrom (lo : Int) (n : Nat) : List Int := (List.range n).map fun k : Nat => lo + (k : Int)
theorem rng2_ev {i j : Int} (hi0 : -1000000000000000000 ≤ i) (hi : i ≤ 1000000000000000000) (h0 : -1000000000000000000 ≤ j) (h : j ≤ 1000000000000000000) : rng2 (.int i) (.int j) = some ((uptoFrom i (j - i).toNat).map PyData.int) := by
  show (if in62 i && in62 j then some (rangeL i (j - i).toNat) else none) = _
  rw [if_pos (by rw [in62_le hi0 hi, in62_le h0 h]; rfl)]
  unfold rangeL uptoFrom
  rw [List.map_map]
  rfl
theorem upto_mem {n : Nat} {x : Int} : x ∈ upto n ↔ 0 ≤ x ∧ x < n := by
  unfold upto
  rw [List.mem_map]
  constructor
  · rintro ⟨k, hk, rfl⟩
    have := List.mem_range.mp hk
    omega
  · rintro ⟨h0, h1⟩
    exact ⟨x.toNat, List.mem_range.mpr (by omega), by omega⟩
theorem upto_length (n : Nat) : (upto n).length = n := by unfold upto; rw [List.length_map, List.length_range]
end Pu
/-! Ev2: data: equality, order, sorting, dicts, places -/
namespace Pu
open PySem L2
/-! ### equality of data without bools -/
mutual
def plD : D → Bool
  | .none => true
  | .int _ => true
  | .str _ => true
  | .list ds => plAll ds
  | .tuple ds => plAll ds
  | .bool _ => false
  | .dict _ => false
def plAll : List D → Bool
  | [] => true
  | d :: ds => plD d && plAll ds
end
mutual
theorem eqv_self : ∀ x : D, plD x = true → PyData.eqv x x = true
  | .none, _ => by simp [PyData.eqv]
  | .int i, _ => by simp [PyData.eqv]
  | .str i, _ => by simp [PyData.eqv]
  | .list ds, h => by simp only [PyData.eqv]; exact eqvAll_self ds (by simpa [plD] using h)
  | .tuple ds, h => by simp only [PyData.eqv]; exact eqvAll_self ds (by simpa [plD] using h)
  | .bool _, h => by simp [plD] at h
  | .dict _, h => by simp [plD] at h
theorem eqvAll_self : ∀ xs : List D, plAll xs = true → PyData.eqvAll xs xs = true
  | [], _ => by simp [PyData.eqvAll]
  | x :: xs, h => by
    simp only [plAll, Bool.and_eq_true] at h
    simp only [PyData.eqvAll, Bool.and_eq_true]
    exact ⟨eqv_self x h.1, eqvAll_self xs h.2⟩
end
mutual
theorem eq_of_eqv : ∀ x y : D, plD x = true → plD y = true → PyData.eqv x y = true → x = y
  | .none, y, _, h, e => by cases y <;> simp_all [PyData.eqv, plD]
  | .int i, y, _, h, e => by cases y <;> simp_all [PyData.eqv, plD]
  | .str i, y, _, h, e => by cases y <;> simp_all [PyData.eqv, plD]
  | .list ds, y, g, h, e => by
    cases y with
    | list es =>
      simp only [PyData.eqv] at e
      rw [eq_of_eqvAll ds es (by simpa [plD] using g) (by simpa [plD] using h) e]
    | _ => simp_all [PyData.eqv, plD]
  | .tuple ds, y, g, h, e => by
    cases y with
    | tuple es =>
      simp only [PyData.eqv] at e
      rw [eq_of_eqvAll ds es (by simpa [plD] using g) (by simpa [plD] using h) e]
    | _ => simp_all [PyData.eqv, plD]
  | .bool _, _, h, _, _ => by simp [plD] at h
  | .dict _, _, h, _, _ => by simp [plD] at h
theorem eq_of_eqvAll : ∀ xs ys : List D, plAll xs = true → plAll ys = true → PyData.eqvAll xs ys = true → xs = ys
  | [], [], _, _, _ => rfl
  | [], _ :: _, _, _, e => by simp [PyData.eqvAll] at e
  | _ :: _, [], _, _, e => by simp [PyData.eqvAll] at e
  | x :: xs, y :: ys, g, h, e => by
    simp only [plAll, Bool.and_eq_true] at g h
    simp only [PyData.eqvAll, Bool.and_eq_true] at e
    rw [eq_of_eqv x y g.1 h.1 e.1, eq_of_eqvAll xs ys g.2 h.2 e.2]
end
theorem eqv_iff {x y : D} (hx : plD x = true) (hy : plD y = true) : PyData.eqv x y = true ↔ x = y :=
  ⟨eq_of_eqv x y hx hy, fun e => by subst e; exact eqv_self x hx⟩
/-- of encoded things -/
theorem eqv_enc {α : Type} [DecidableEq α] {enc : α → D} (inj : ∀ a b, enc a = enc b → a = b) (pl : ∀ a, plD (enc a) = true) (a b : α) : PyData.eqv (enc a) (enc b) = decide (a = b) := by
  by_cases h : a = b
  · subst h; rw [eqv_self _ (pl a)]; simp
  · rw [decide_eq_false h]
    cases q : PyData.eqv (enc a) (enc b) with
    | false => rfl
    | true => exact absurd (inj _ _ (eq_of_eqv _ _ (pl a) (pl b) q)) h
theorem eq_ev {x y : D} (hx : SeqAt.shaped x = true) (hy : SeqAt.shaped y = true) : eqD x y = some (.bool (PyData.eqv x y)) := by
  unfold eqD
  rw [hx, hy]
  rfl
theorem ne_ev {x y : D} (hx : SeqAt.shaped x = true) (hy : SeqAt.shaped y = true) : neD x y = some (.bool (!PyData.eqv x y)) := by
  unfold neD
  rw [hx, hy]
  rfl
/-! ### shapes -/
theorem canLayAll_iff : ∀ ds : List D, PyData.canLayAll0 ds = true ↔ ∀ d ∈ ds, d.canLay0 = true
  | [] => by simp [PyData.canLayAll0]
  | d :: ds => by simp [PyData.canLayAll0, canLayAll_iff ds]
theorem depthAll_le : ∀ (ds : List D) (k : Nat), PyData.depthAll ds ≤ k ↔ ∀ d ∈ ds, d.depth ≤ k
  | [], k => by simp [PyData.depthAll]
  | d :: ds, k => by
    simp only [PyData.depthAll, List.mem_cons, forall_eq_or_imp, ← depthAll_le ds k]
    omega
/-- layable, at most so deep -/
def shp (k : Nat) (d : D) : Prop := d.canLay0 = true ∧ d.depth ≤ k
theorem shp.shaped {k : Nat} {d : D} (h : shp k d) (hk : k ≤ 64 := by decide) : SeqAt.shaped d = true := by
  unfold SeqAt.shaped
  rw [h.1, decide_eq_true (Nat.le_trans h.2 hk)]
  rfl
theorem shp.up {k j : Nat} {d : D} (h : shp k d) (hk : k ≤ j) : shp j d := ⟨h.1, Nat.le_trans h.2 hk⟩
theorem shp_int (i : Int) : shp 0 (.int i) := ⟨by simp [PyData.canLay0], by simp [PyData.depth]⟩
theorem shp_none : shp 0 .none := ⟨by simp [PyData.canLay0], by simp [PyData.depth]⟩
theorem shp_bool (b : Bool) : shp 0 (.bool b) := ⟨by simp [PyData.canLay0], by simp [PyData.depth]⟩
theorem shp_tup {k : Nat} {ds : List D} (h : ∀ d ∈ ds, shp k d) : shp (k + 1) (.tuple ds) :=
  ⟨by simp only [PyData.canLay0]; exact (canLayAll_iff ds).mpr fun d hd => (h d hd).1, by simp only [PyData.depth]; have := (depthAll_le ds k).mpr fun d hd => (h d hd).2; omega⟩
theorem shp_list {k : Nat} {ds : List D} (h : ∀ d ∈ ds, shp k d) : shp (k + 1) (.list ds) :=
  ⟨by simp only [PyData.canLay0]; exact (canLayAll_iff ds).mpr fun d hd => (h d hd).1, by simp only [PyData.depth]; have := (depthAll_le ds k).mpr fun d hd => (h d hd).2; omega⟩
@[simp] theorem shaped_int (i : Int) : SeqAt.shaped (.int i) = true := (shp_int i).shaped
@[simp] theorem shaped_none : SeqAt.shaped .none = true := shp_none.shaped
@[simp] theorem shaped_bool (b : Bool) : SeqAt.shaped (.bool b) = true := (shp_bool b).shaped
@[simp] theorem eqv_ii (i j : Int) : PyData.eqv (.int i) (.int j) = decide (i = j) := by simp only [PyData.eqv]; rfl
@[simp] theorem eqv_in (i : Int) : PyData.eqv (.int i) .none = false := by simp only [PyData.eqv]
@[simp] theorem eqv_ni (i : Int) : PyData.eqv .none (.int i) = false := by simp only [PyData.eqv]
@[simp] theorem eqv_nn : PyData.eqv .none .none = true := by simp only [PyData.eqv]
@[simp] theorem eqv_bb (a b : Bool) : PyData.eqv (.bool a) (.bool b) = (a == b) := by simp only [PyData.eqv]
@[simp] theorem eq_ii (i j : Int) : eqD (.int i) (.int j) = some (.bool (decide (i = j))) := by rw [eq_ev (shaped_int i) (shaped_int j), eqv_ii]
@[simp] theorem ne_ii (i j : Int) : neD (.int i) (.int j) = some (.bool (!decide (i = j))) := by rw [ne_ev (shaped_int i) (shaped_int j), eqv_ii]
@[simp] theorem ne_bb (i j : Bool) : neD (.bool i) (.bool j) = some (.bool (!(i == j))) := by rw [ne_ev (shaped_bool i) (shaped_bool j), eqv_bb]
@[simp] theorem eq_bb (i j : Bool) : eqD (.bool i) (.bool j) = some (.bool (i == j)) := by rw [eq_ev (shaped_bool i) (shaped_bool j), eqv_bb]
/-! ### x in xs -/
theorem in_t {α : Type} [DecidableEq α] {enc : α → D} {k : Nat} (inj : ∀ a b, enc a = enc b → a = b) (pl : ∀ a, plD (enc a) = true) (sh : ∀ a, shp k (enc a)) (hk : k + 1 ≤ 64) (x : α) (xs : List α) : inB (enc x) (.tuple (xs.map enc)) = some (decide (x ∈ xs)) := by
  show (if SeqAt.shaped (enc x) && SeqAt.shaped (.tuple (xs.map enc)) then some ((xs.map enc).any fun z => PyData.eqv z (enc x)) else none) = _
  rw [(sh x).shaped (by omega), (shp_tup (k := k) (ds := xs.map enc) fun d hd => by obtain ⟨y, _, rfl⟩ := List.mem_map.mp hd; exact sh y).shaped hk]
  rw [if_pos (show (true && true) = true from rfl), List.any_map]
  congr 1
  rw [Bool.eq_iff_iff, List.any_eq_true, decide_eq_true_eq]
  constructor
  · rintro ⟨y, hy, e⟩
    have : PyData.eqv (enc y) (enc x) = true := e
    rw [eqv_enc inj pl, decide_eq_true_eq] at this
    rw [← this]; exact hy
  · intro hx
    exact ⟨x, hx, by show PyData.eqv (enc x) (enc x) = true; exact eqv_self _ (pl x)⟩
theorem in_l {α : Type} [DecidableEq α] {enc : α → D} {k : Nat} (inj : ∀ a b, enc a = enc b → a = b) (pl : ∀ a, plD (enc a) = true) (sh : ∀ a, shp k (enc a)) (hk : k + 1 ≤ 64) (x : α) (xs : List α) : inB (enc x) (.list (xs.map enc)) = some (decide (x ∈ xs)) := by
  show (if SeqAt.shaped (enc x) && SeqAt.shaped (.list (xs.map enc)) then some ((xs.map enc).any fun z => PyData.eqv z (enc x)) else none) = _
  rw [(sh x).shaped (by omega), (shp_list (k := k) (ds := xs.map enc) fun d hd => by obtain ⟨y, _, rfl⟩ := List.mem_map.mp hd; exact sh y).shaped hk]
  rw [if_pos (show (true && true) = true from rfl), List.any_map]
  congr 1
  rw [Bool.eq_iff_iff, List.any_eq_true, decide_eq_true_eq]
  constructor
  · rintro ⟨y, hy, e⟩
    have : PyData.eqv (enc y) (enc x) = true := e
    rw [eqv_enc inj pl, decide_eq_true_eq] at this
    rw [← this]; exact hy
  · intro hx
    exact ⟨x, hx, by show PyData.eqv (enc x) (enc x) = true; exact eqv_self _ (pl x)⟩
theorem int_inj : ∀ a b : Int, PyData.int a = PyData.int b → a = b := fun _ _ h => by injection h
theorem int_pl : ∀ a : Int, plD (.int a) = true := fun _ => rfl
theorem in_ints_t (x : Int) (xs : List Int) : inB (.int x) (.tuple (xs.map PyData.int)) = some (decide (x ∈ xs)) := in_t int_inj int_pl shp_int (by decide) x xs
theorem in_ints_l (x : Int) (xs : List Int) : inB (.int x) (.list (xs.map PyData.int)) = some (decide (x ∈ xs)) := in_l int_inj int_pl shp_int (by decide) x xs
/-! ### order -/
theorem leS_int (i j : Int) : leS (.int i) (.int j) = decide (i ≤ j) := by
  unfold leS PySem.W.dataLe PySem.W.sortLe
  simp only [cond_false, id, PySem.W.keyToks, PyProof.Rows.lexLt, PyProof.Rows.itemLt, PyProof.Rows.itemOrd]
  by_cases h : i ≤ j
  · simp [h, show ¬ j < i by omega]
  · simp [h, show j < i by omega]
/-- tuples of ints -/
def tJ (xs : List Int) : D := .tuple (xs.map PyData.int)
def lexLe : List Int → List Int → Bool
  | [], _ => true
  | _ :: _, [] => false
  | x :: xs, y :: ys => decide (x < y) || (decide (x = y) && lexLe xs ys)
theorem toks_tJ : ∀ xs ys : List Int, (!PyProof.Rows.lexLt PyProof.Rows.itemOrd (PySem.W.keyToksAll (ys.map PyData.int)) (PySem.W.keyToksAll (xs.map PyData.int))) = lexLe xs ys
  | [], [] => by simp [PySem.W.keyToksAll, PyProof.Rows.lexLt, PyProof.Rows.itemLt, lexLe]
  | [], y :: ys => by simp [PySem.W.keyToksAll, PyProof.Rows.lexLt, PyProof.Rows.itemLt, lexLe]
  | x :: xs, [] => by simp [PySem.W.keyToksAll, PyProof.Rows.lexLt, PyProof.Rows.itemLt, lexLe]
  | x :: xs, y :: ys => by
    have ih := toks_tJ xs ys
    simp only [List.map_cons, PySem.W.keyToksAll, PySem.W.keyToks, List.singleton_append, PyProof.Rows.lexLt, PyProof.Rows.itemLt, lexLe, ← ih]
    by_cases h1 : x < y
    · simp [h1, show ¬ y < x by omega]
    · by_cases h2 : x = y
      · subst h2; simp
      · simp [h1, h2, show y < x by omega]
theorem leS_tJ (xs ys : List Int) : leS (tJ xs) (tJ ys) = lexLe xs ys := by
  rw [← toks_tJ xs ys]
  unfold leS PySem.W.dataLe PySem.W.sortLe tJ
  simp only [cond_false, id, PySem.W.keyToks]
theorem lexLe_total : ∀ xs ys : List Int, (lexLe xs ys || lexLe ys xs) = true
  | [], _ => by simp [lexLe]
  | _ :: _, [] => by simp [lexLe]
  | x :: xs, y :: ys => by
    have ih := lexLe_total xs ys
    simp only [lexLe]
    by_cases h1 : x < y
    · simp [h1]
    · by_cases h2 : x = y
      · subst h2; simpa using ih
      · simp [show y < x by omega]
theorem lexLe_trans : ∀ xs ys zs : List Int, lexLe xs ys = true → lexLe ys zs = true → lexLe xs zs = true
  | [], _, _, _, _ => by simp [lexLe]
  | _ :: _, [], _, h, _ => by simp [lexLe] at h
  | _ :: _, _ :: _, [], _, h => by simp [lexLe] at h
  | x :: xs, y :: ys, z :: zs, h1, h2 => by
    simp only [lexLe, Bool.or_eq_true, Bool.and_eq_true, decide_eq_true_eq] at h1 h2 ⊢
    rcases h1 with h1 | ⟨h1, h1'⟩
    · rcases h2 with h2 | ⟨h2, h2'⟩
      · left; omega
      · left; omega
    · rcases h2 with h2 | ⟨h2, h2'⟩
      · left; omega
      · right; exact ⟨by omega, lexLe_trans xs ys zs h1' h2'⟩
theorem lexLe_antisymm : ∀ xs ys : List Int, lexLe xs ys = true → lexLe ys xs = true → xs = ys
  | [], [], _, _ => rfl
  | [], _ :: _, _, h => by simp [lexLe] at h
  | _ :: _, [], h, _ => by simp [lexLe] at h
  | x :: xs, y :: ys, h1, h2 => by
    simp only [lexLe, Bool.or_eq_true, Bool.and_eq_true, decide_eq_true_eq] at h1 h2
    rcases h1 with h1 | ⟨h1, h1'⟩
    · rcases h2 with h2 | ⟨h2, _⟩ <;> omega
    · rcases h2 with h2 | ⟨_, h2'⟩
      · omega
      · rw [h1, lexLe_antisymm xs ys h1' h2']
/-! ### sorting -/
structure GoodLe {α : Type} (le : α → α → Bool) : Prop where
  total : ∀ a b, (le a b || le b a) = true
  trans : ∀ a b c, le a b = true → le b c = true → le a c = true
  anti : ∀ a b, le a b = true → le b a = true → a = b
theorem goodInt : GoodLe (fun a b : Int => decide (a ≤ b)) := ⟨fun a b => by simp only [Bool.or_eq_true, decide_eq_true_eq]; omega, fun a b c => by simp only [decide_eq_true_eq]; omega, fun a b => by simp only [decide_eq_true_eq]; omega⟩
theorem goodLex : GoodLe lexLe := ⟨lexLe_total, lexLe_trans, lexLe_antisymm⟩
theorem GoodLe.on {α β : Type} {le : α → α → Bool} (g : GoodLe le) (f : β → α) (inj : ∀ a b, f a = f b → a = b) : GoodLe (fun a b => le (f a) (f b)) :=
  ⟨fun a b => g.total _ _, fun a b c => g.trans _ _ _, fun a b h1 h2 => inj _ _ (g.anti _ _ h1 h2)⟩
section
variable {α : Type} {le : α → α → Bool}
theorem GoodLe.sorted (g : GoodLe le) (xs : List α) : (xs.mergeSort le).Pairwise fun a b => le a b = true := List.pairwise_mergeSort g.trans g.total xs
/-- two sorted lists of the same things -/
theorem GoodLe.unique (g : GoodLe le) : ∀ (xs ys : List α), xs.Pairwise (fun a b => le a b = true) → ys.Pairwise (fun a b => le a b = true) → xs.Perm ys → xs = ys := fun xs ys h1 h2 p => List.Perm.eq_of_pairwise (fun a b _ _ => g.anti a b) h1 h2 p
theorem GoodLe.perm (g : GoodLe le) {xs ys : List α} (p : xs.Perm ys) : xs.mergeSort le = ys.mergeSort le :=
  g.unique _ _ (g.sorted xs) (g.sorted ys) ((List.mergeSort_perm _ _).trans (p.trans (List.mergeSort_perm _ _).symm))
theorem GoodLe.same (g : GoodLe le) {xs : List α} (h : xs.Pairwise fun a b => le a b = true) : xs.mergeSort le = xs :=
  g.unique _ _ (g.sorted xs) h (List.mergeSort_perm _ _)
theorem sortD_map {enc : α → D} (h : ∀ x y, leS (enc x) (enc y) = le x y) {xs : List α} (hs : sortable (xs.map enc) = true) (hl : xs.length ≤ 1000000) : sortD (xs.map enc) = some ((xs.mergeSort le).map enc) := by
  unfold sortD
  rw [hs, decide_eq_true (show (xs.map enc).length ≤ many by rw [List.length_map]; exact hl), if_pos (show (true && true) = true from rfl)]
  congr 1
  exact (List.map_mergeSort fun a _ b _ => (h a b).symm).symm
end
theorem sortable_ints (ns : List Int) : sortable (ns.map PyData.int) = true := by
  unfold sortable
  rw [Bool.or_eq_true]
  left
  rw [List.all_eq_true]
  intro d hd
  obtain ⟨n, _, rfl⟩ := List.mem_map.mp hd
  rfl
theorem isTupD_tJ {t : List Int} (h : t ≠ []) : isTupD (tJ t) = true := by
  cases t with
  | nil => exact absurd rfl h
  | cons x r =>
    show ((x :: r).map PyData.int).all isIntD = true
    rw [List.all_eq_true]
    intro d hd
    obtain ⟨n, _, rfl⟩ := List.mem_map.mp hd
    rfl
theorem sortable_tJ {α : Type} {f : α → List Int} (hf : ∀ a, f a ≠ []) (xs : List α) : sortable (xs.map fun a => tJ (f a)) = true := by
  unfold sortable
  rw [Bool.or_eq_true]
  right
  rw [List.all_eq_true]
  intro d hd
  obtain ⟨n, _, rfl⟩ := List.mem_map.mp hd
  exact isTupD_tJ (hf n)
/-- sorted(..) of ints -/
def sortI (ns : List Int) : List Int := ns.mergeSort fun a b => decide (a ≤ b)
theorem sort_ints {ns : List Int} (hl : ns.length ≤ 1000000) : sortD (ns.map PyData.int) = some ((sortI ns).map PyData.int) := sortD_map leS_int (sortable_ints ns) hl
/-- sorted(..) of tuples of ints -/
def sortT {α : Type} (f : α → List Int) (xs : List α) : List α := xs.mergeSort fun a b => lexLe (f a) (f b)
theorem sort_tJ {α : Type} {f : α → List Int} (hf : ∀ a, f a ≠ []) {xs : List α} (hl : xs.length ≤ 1000000) : sortD (xs.map fun a => tJ (f a)) = some ((sortT f xs).map fun a => tJ (f a)) :=
  sortD_map (fun x y => leS_tJ (f x) (f y)) (sortable_tJ hf xs) hl
@[simp] theorem sortN_l (ds : List D) : sortN (.list ds) = sortD ds := rfl
@[simp] theorem sortN_t (ds : List D) : sortN (.tuple ds) = sortD ds := rfl
@[simp] theorem sortN_d (kvs : List (D × D)) : sortN (.dict kvs) = sortD (kvKeys kvs) := rfl
theorem sortT_perm {α : Type} (f : α → List Int) (xs : List α) : (sortT f xs).Perm xs := List.mergeSort_perm _ _
theorem sortI_perm (xs : List Int) : (sortI xs).Perm xs := List.mergeSort_perm _ _
/-! ### dicts whose values are True -/
section
variable {α : Type} [DecidableEq α] {enc : α → D} {key : α → NestedKey}
def tDict (enc : α → D) (ks : List α) : List (D × D) := ks.map fun a => (enc a, .bool true)
def addK (ks : List α) (a : α) : List α := if a ∈ ks then ks else ks ++ [a]
theorem dget_t (hk : ∀ a, nk (enc a) = some (key a)) (inj : ∀ a b, key a = key b → a = b) (ks : List α) (a : α) : dget (tDict enc ks) (key a) = if a ∈ ks then some (.bool true) else none := by
  induction ks with
  | nil => rfl
  | cons b ks ih =>
    show (if nk (enc b) = some (key a) then some (PyData.bool true) else dget (tDict enc ks) (key a)) = _
    rw [ih, hk]
    by_cases h : b = a
    · subst h; simp
    · have : ¬ (some (key b) = some (key a)) := fun z => h (inj _ _ (Option.some.inj z))
      rw [if_neg this]
      have h' : ¬ a = b := fun z => h z.symm
      simp [h']
theorem dput_t (hk : ∀ a, nk (enc a) = some (key a)) (inj : ∀ a b, key a = key b → a = b) (ks : List α) (a : α) : dput (tDict enc ks) (key a) (enc a) (.bool true) = tDict enc (addK ks a) := by
  unfold dput addK
  rw [dget_t hk inj]
  by_cases h : a ∈ ks
  · rw [if_pos h, if_pos h]
    show (if true = true then _ else _) = _
    rw [if_pos rfl]
    unfold tDict
    rw [List.map_map]
    apply List.map_congr_left
    intro b _
    show (if nk (enc b) = some (key a) then (enc b, PyData.bool true) else (enc b, PyData.bool true)) = _
    split <;> rfl
  · rw [if_neg h, if_neg h]
    show (if false = true then _ else _) = _
    rw [if_neg Bool.false_ne_true]
    unfold tDict
    rw [List.map_append]
    rfl
theorem kvKeys_t (ks : List α) : kvKeys (tDict enc ks) = ks.map enc := by
  unfold kvKeys tDict
  rw [List.map_map]
  rfl
theorem addK_nodup {ks : List α} {a : α} (h : ks.Nodup) : (addK ks a).Nodup := by
  unfold addK
  split
  · exact h
  · rename_i hn
    rw [List.nodup_append]
    exact ⟨h, by simp, fun x hx y hy => by simp at hy; subst hy; exact fun e => hn (e ▸ hx)⟩
theorem addK_mem {ks : List α} {a b : α} : b ∈ addK ks a ↔ b ∈ ks ∨ b = a := by
  unfold addK
  split
  · rename_i h
    exact ⟨fun z => .inl z, fun z => z.elim (fun z => z) fun e => e ▸ h⟩
  · simp
theorem addK_len {ks : List α} {a : α} : (addK ks a).length ≤ ks.length + 1 := by
  unfold addK
  split <;> simp
end
def keyI (t : List Int) : NestedKey := .tup (t.map NestedKey.num)
theorem nkAll_ints : ∀ t : List Int, nkAll (t.map PyData.int) = some (t.map NestedKey.num)
  | [] => by simp [nkAll]
  | x :: t => by simp [nkAll, nk, nkAll_ints t]
theorem nk_tJ (t : List Int) : nk (tJ t) = some (keyI t) := by
  unfold tJ
  simp only [nk, nkAll_ints]
  rfl
theorem keyI_inj {s t : List Int} (h : keyI s = keyI t) : s = t := by
  unfold keyI at h
  injection h with h
  have go : ∀ s t : List Int, s.map NestedKey.num = t.map NestedKey.num → s = t := by
    intro s
    induction s with
    | nil => intro t h; cases t with
      | nil => rfl
      | cons _ _ => cases h
    | cons x s ih => intro t h; cases t with
      | nil => cases h
      | cons y t =>
        rw [List.map_cons, List.map_cons] at h
        injection h with h1 h2
        injection h1 with h1
        rw [h1, ih t h2]
  exact go s t h
theorem keyI_depth (t : List Int) : (keyI t).depth = 1 := by
  have : ∀ t : List Int, NestedKey.depthAll (t.map NestedKey.num) = 0 := by
    intro t
    induction t with
    | nil => simp [NestedKey.depthAll]
    | cons x t ih => simp [NestedKey.depthAll, NestedKey.depth, ih]
  unfold keyI
  simp [NestedKey.depth, this]
theorem keyD_tJ (t : List Int) : keyD (tJ t) = some (keyI t) := by
  unfold keyD
  rw [show isTup (tJ t) = true from rfl, if_pos rfl, nk_tJ]
  show (if (keyI t).depth ≤ 8 then some (keyI t) else none) = _
  rw [if_pos (by rw [keyI_depth]; decide)]
/-! ### sorting by putting in: the same, and it computes -/
def ins1 (x : D) : List D → List D
  | [] => [x]
  | y :: ys => if leS x y then x :: y :: ys else y :: ins1 x ys
def isort : List D → List D
  | [] => []
  | x :: xs => ins1 x (isort xs)
theorem leS_tot : PySem.W.TotalLe leS := by unfold leS PySem.W.dataLe; exact PySem.W.sortLe_total _ _ _
theorem ins1_perm (x : D) : ∀ ys : List D, (ins1 x ys).Perm (x :: ys)
  | [] => List.Perm.refl _
  | y :: ys => by
    unfold ins1
    split
    · exact List.Perm.refl _
    · exact ((ins1_perm x ys).cons y).trans (List.Perm.swap x y ys)
theorem isort_perm : ∀ xs : List D, (isort xs).Perm xs
  | [] => List.Perm.refl _
  | x :: xs => (ins1_perm x (isort xs)).trans ((isort_perm xs).cons x)
theorem ins1_sorted (x : D) : ∀ ys : List D, ys.Pairwise (fun a b => leS a b = true) → (ins1 x ys).Pairwise fun a b => leS a b = true
  | [], _ => by simp [ins1]
  | y :: ys, h => by
    unfold ins1
    rw [List.pairwise_cons] at h
    split
    · rename_i hxy
      rw [List.pairwise_cons, List.pairwise_cons]
      refine ⟨fun z hz => ?_, h⟩
      rcases List.mem_cons.mp hz with rfl | hz
      · exact hxy
      · exact leS_tot.trans _ _ _ hxy (h.1 z hz)
    · rename_i hxy
      rw [List.pairwise_cons]
      refine ⟨fun z hz => ?_, ins1_sorted x ys h.2⟩
      rcases List.mem_cons.mp ((ins1_perm x ys).mem_iff.mp hz) with rfl | hz
      · rcases leS_tot.total y z with h1 | h1
        · exact h1
        · exact absurd h1 hxy
      · exact h.1 z hz
theorem isort_sorted : ∀ xs : List D, (isort xs).Pairwise fun a b => leS a b = true
  | [] => List.Pairwise.nil
  | x :: xs => ins1_sorted x _ (isort_sorted xs)
theorem sortable_anti {ds : List D} (h : sortable ds = true) {x y : D} (hx : x ∈ ds) (hy : y ∈ ds) (h1 : leS x y = true) (h2 : leS y x = true) : x = y := by
  unfold sortable at h
  rw [Bool.or_eq_true, List.all_eq_true, List.all_eq_true] at h
  rcases h with h | h
  · have a := h x hx
    have b := h y hy
    cases x with
    | int i => cases y with
      | int j =>
        rw [leS_int, decide_eq_true_eq] at h1 h2
        rw [show i = j by omega]
      | _ => cases b
    | _ => cases a
  · have sh : ∀ d ∈ ds, ∃ t, d = tJ t := fun d hd => by
      have a := h d hd
      cases d with
      | tuple xs =>
        cases xs with
        | nil => cases a
        | cons z r =>
          have a : (z :: r).all isIntD = true := a
          have : ∃ t : List Int, z :: r = t.map PyData.int := by
            have go : ∀ l : List D, l.all isIntD = true → ∃ t : List Int, l = t.map PyData.int := by
              intro l
              induction l with
              | nil => exact fun _ => ⟨[], rfl⟩
              | cons u l ih =>
                intro q
                rw [List.all_cons, Bool.and_eq_true] at q
                obtain ⟨t, rfl⟩ := ih q.2
                cases u with
                | int i => exact ⟨i :: t, rfl⟩
                | _ => cases q.1
            exact go _ a
          obtain ⟨t, ht⟩ := this
          exact ⟨t, by unfold tJ; rw [ht]⟩
      | _ => cases a
    obtain ⟨s, rfl⟩ := sh x hx
    obtain ⟨t, rfl⟩ := sh y hy
    rw [leS_tJ] at h1 h2
    rw [lexLe_antisymm _ _ h1 h2]
theorem merge_isort {ds : List D} (h : sortable ds = true) : ds.mergeSort leS = isort ds := by
  have p : (ds.mergeSort leS).Perm (isort ds) := (List.mergeSort_perm _ _).trans (isort_perm ds).symm
  exact List.Perm.eq_of_pairwise (fun a b ha hb => sortable_anti h ((List.mergeSort_perm ds leS).mem_iff.mp ha) ((isort_perm ds).mem_iff.mp hb)) (List.pairwise_mergeSort leS_tot.trans (fun a b => by rw [Bool.or_eq_true]; exact leS_tot.total a b) ds) (isort_sorted ds) p
def sortD' (ds : List D) : Option (List D) := if sortable ds && decide (ds.length ≤ many) then some (isort ds) else none
theorem sortD_eq : sortD = sortD' := by
  funext ds
  unfold sortD sortD'
  by_cases h : sortable ds = true
  · rw [merge_isort h]
  · rw [Bool.eq_false_iff.mpr h]; rfl
def sortN' : D → Option (List D)
  | .list ds => sortD' ds
  | .tuple ds => sortD' ds
  | .dict kvs => sortD' (kvKeys kvs)
  | _ => none
theorem sortN_eq : sortN = sortN' := by
  funext d
  cases d <;> first | rfl | exact congrFun sortD_eq _
end Pu
/-! Ev3: changes, enumerate, counts, places -/
namespace Pu
open PySem L2
theorem sdnew_ev (i : Nat) (e : En) : sdnew i e = .nx (e.set i (.dic [])) := rfl
theorem sdput_ev {i : Nat} {G F : En → R D} {e : En} {v x : D} {kvs : List (D × D)} {k : NestedKey} (hF : F e = .ok v) (hi : e[i]? = some (.dic kvs)) (hG : G e = .ok x) (hk : keyD x = some k) (hl : kvs.length < 1000000) :
    sdput i G F e = .nx (e.set i (.dic (dput kvs k x v))) := by
  unfold sdput
  rw [hF, liftE_ok, hi]
  show liftE (G e) e (dputAt i e kvs v) = _
  rw [hG, liftE_ok]
  unfold dputAt
  rw [hk]
  show (if kvs.length < many then _ else _) = _
  rw [if_pos (show kvs.length < many from hl)]
theorem sapp_ev {i : Nat} {F : En → R D} {e : En} {d : D} {ds : List D} (hi : e[i]? = some (.own ds)) (hF : F e = .ok d) (hl : ds.length < 1000000) : sapp i F e = .nx (e.set i (.own (ds ++ [d]))) := by
  unfold sapp
  rw [hi]
  show liftE (F e) e _ = _
  rw [hF, liftE_ok, if_pos (show ds.length < many from hl)]
theorem sext_ev {i : Nat} {F : En → R D} {e : En} {d : D} {ds es : List D} (hi : e[i]? = some (.own ds)) (hF : F e = .ok d) (hd : listN d = some es) (hl : ds.length + es.length ≤ 1000000) : sext i F e = .nx (e.set i (.own (ds ++ es))) := by
  unfold sext
  rw [hi]
  show liftE (F e) e _ = _
  rw [hF, liftE_ok, hd]
  show (if ds.length + es.length ≤ many then _ else _) = _
  rw [if_pos (show ds.length + es.length ≤ many from hl)]
theorem sput_ev {i : Nat} {G F : En → R D} {e : En} {d : D} {n : Int} {m : Nat} {ds : List D} (hF : F e = .ok d) (hi : e[i]? = some (.own ds)) (hG : G e = .ok (.int n)) (hn : ixN ds.length n = some m) : sput i G F e = .nx (e.set i (.own (ds.set m d))) := by
  unfold sput
  rw [hF, liftE_ok, hi]
  show liftE (G e) e (putAt i e ds d) = _
  rw [hG, liftE_ok]
  show (match ixN ds.length n with | some m => Fl.nx (e.set i (.own (ds.set m d))) | none => .bad) = _
  rw [hn]
theorem ixN_nat {n : Nat} {i : Int} (h0 : 0 ≤ i) (h : i < n) : ixN n i = some i.toNat := by
  unfold ixN
  rw [if_pos h0, if_pos h]
theorem atI_some {α : Type} {xs : List α} {i : Int} {x : α} (h0 : 0 ≤ i) (h : xs[i.toNat]? = some x) : atI xs i = some x := by
  obtain ⟨j, rfl⟩ : ∃ j : Nat, i = j := ⟨i.toNat, by omega⟩
  rw [atI_n]
  simpa using h
/-! ### men -/
def oM : Option Int → D
  | none => .none
  | some i => .int i
@[simp] theorem oM_n : oM none = .none := rfl
@[simp] theorem oM_s (i : Int) : oM (some i) = .int i := rfl
theorem oM_inj (a b : Option Int) (h : oM a = oM b) : a = b := by
  cases a <;> cases b <;> simp_all [oM]
theorem oM_pl (a : Option Int) : plD (oM a) = true := by cases a <;> rfl
theorem oM_shp (a : Option Int) : shp 0 (oM a) := by
  cases a with
  | none => exact shp_none
  | some i => exact shp_int i
@[simp] theorem oM_shaped (a : Option Int) : SeqAt.shaped (oM a) = true := (oM_shp a).shaped
@[simp] theorem isNone_oM (a : Option Int) : isNoneD (oM a) = a.isNone := by cases a <;> rfl
theorem eqv_oM (a b : Option Int) : PyData.eqv (oM a) (oM b) = decide (a = b) := eqv_enc oM_inj oM_pl a b
theorem eqv_oMi (a : Option Int) (i : Int) : PyData.eqv (oM a) (.int i) = decide (a = some i) := eqv_enc oM_inj oM_pl a (some i)
theorem eq_oMi (a : Option Int) (i : Int) : eqD (oM a) (.int i) = some (.bool (decide (a = some i))) := by rw [eq_ev (oM_shaped a) (shaped_int i), eqv_oMi]
/-- the man at a point -/
def mAt (ms : List (Option Int)) (p : Int) : Option Int := ms.getD p.toNat none
theorem atI_men {ms : List (Option Int)} {p : Int} (h0 : 0 ≤ p) (h : p < ms.length) : atI (ms.map oM) p = some (oM (mAt ms p)) := by
  apply atI_some h0
  rw [List.getElem?_map, List.getElem?_eq_getElem (show p.toNat < ms.length by omega)]
  unfold mAt
  rw [List.getD_eq_getElem?_getD, List.getElem?_eq_getElem (show p.toNat < ms.length by omega)]
  rfl
theorem mAt_set {ms : List (Option Int)} {p q : Int} {m : Option Int} (hp : 0 ≤ p) (hp2 : p < ms.length) (hq : 0 ≤ q) : mAt (ms.set p.toNat m) q = if q = p then m else mAt ms q := by
  unfold mAt
  rw [List.getD_eq_getElem?_getD, List.getD_eq_getElem?_getD, List.getElem?_set]
  by_cases h : q = p
  · subst h
    rw [if_pos rfl, if_pos rfl, if_pos (by omega)]
    rfl
  · rw [if_neg (by omega), if_neg h]
/-! ### enumerate -/
def enumM (ms : List (Option Int)) : List (Int × Option Int) := ms.mapIdx fun i m => ((i : Int), m)
def encE (p : Int × Option Int) : D := pairD (.int p.1) (oM p.2)
theorem enum_men (ms : List (Option Int)) : enumL (ms.map oM) = (enumM ms).map encE := by
  unfold enumL enumM encE
  apply List.ext_getElem?
  intro i
  rw [List.getElem?_mapIdx, List.getElem?_map, List.getElem?_map, List.getElem?_mapIdx]
  cases ms[i]? <;> rfl
theorem enumM_mem {ms : List (Option Int)} {p : Int × Option Int} : p ∈ enumM ms ↔ 0 ≤ p.1 ∧ ms[p.1.toNat]? = some p.2 := by
  unfold enumM
  rw [List.mem_mapIdx]
  constructor
  · rintro ⟨i, hi, rfl⟩
    exact ⟨by simp, by simp [hi]⟩
  · rintro ⟨h0, h⟩
    obtain ⟨hi, e⟩ := List.getElem?_eq_some_iff.mp h
    exact ⟨p.1.toNat, hi, by apply Prod.ext <;> simp [e]; omega⟩
theorem enumM_length (ms : List (Option Int)) : (enumM ms).length = ms.length := by unfold enumM; rw [List.length_mapIdx]
/-- the places whose men are so -/
def whr (c : Option Int → Bool) (ms : List (Option Int)) : List Int := ((enumM ms).filter fun p => c p.2).map (·.1)
theorem whr_mem {c : Option Int → Bool} {ms : List (Option Int)} {p : Int} : p ∈ whr c ms ↔ 0 ≤ p ∧ p < ms.length ∧ c (mAt ms p) = true := by
  unfold whr
  rw [List.mem_map]
  constructor
  · rintro ⟨⟨q, m⟩, hq, rfl⟩
    rw [List.mem_filter, enumM_mem] at hq
    obtain ⟨⟨h0, h1⟩, h2⟩ := hq
    simp only at h0 h1 h2 ⊢
    have h3 : q.toNat < ms.length := (List.getElem?_eq_some_iff.mp h1).1
    refine ⟨h0, by omega, ?_⟩
    unfold mAt
    rw [List.getD_eq_getElem?_getD, h1]
    exact h2
  · rintro ⟨h0, h1, h2⟩
    refine ⟨(p, mAt ms p), ?_, rfl⟩
    rw [List.mem_filter, enumM_mem]
    refine ⟨⟨h0, ?_⟩, h2⟩
    unfold mAt
    rw [List.getD_eq_getElem?_getD, List.getElem?_eq_getElem (show p.toNat < ms.length by omega)]
    rfl
theorem enumM_sorted (ms : List (Option Int)) : (enumM ms).Pairwise fun p q => p.1 < q.1 := by
  unfold enumM
  rw [List.pairwise_iff_getElem]
  intro i j hi hj hij
  rw [List.getElem_mapIdx, List.getElem_mapIdx]
  show (i : Int) < (j : Int)
  omega
theorem whr_sorted (c : Option Int → Bool) (ms : List (Option Int)) : (whr c ms).Pairwise (· < ·) := by
  unfold whr
  rw [List.pairwise_map]
  exact (enumM_sorted ms).filter _
theorem whr_length (c : Option Int → Bool) (ms : List (Option Int)) : (whr c ms).length ≤ ms.length := by
  unfold whr
  rw [List.length_map, ← enumM_length ms]
  exact List.length_filter_le _ _
/-- [p for p, man in enumerate(men) if ..] -/
theorem xlc_whr {vs : List Nat} {L : En → R (List D)} {f : Tg} {T : En → R Bool} {E : En → R D} {e : En} {ms : List (Option Int)} (c : Option Int → Bool) (hL : L e = .ok (enumL (ms.map oM))) (hl : ms.length ≤ 1000000)
    (h : ∀ (p : Int) (m : Option Int), 0 ≤ p → p < ms.length → m = mAt ms p → ∃ e1, f (pairD (.int p) (oM m)) (wipeE e vs) = some e1 ∧ T e1 = .ok (c m) ∧ E e1 = .ok (.int p)) : xlc vs L f T E e = .ok ((whr c ms).map PyData.int) := by
  rw [enum_men] at hL
  rw [xlc_map (enc := encE) (xs := enumM ms) (fun p => c p.2) (fun p => .int p.1) hL (by rw [enumM_length]; exact hl) fun x hx => ?_]
  · unfold whr
    rw [List.map_map]
    rfl
  · obtain ⟨h0, h1⟩ := enumM_mem.mp hx
    have h3 : x.1.toNat < ms.length := (List.getElem?_eq_some_iff.mp h1).1
    obtain ⟨e1, a1, a2, a3⟩ := h x.1 x.2 h0 (by omega) (by unfold mAt; rw [List.getD_eq_getElem?_getD, h1]; rfl)
    exact ⟨e1, a1, a2, fun _ => a3⟩
/-! ### counts -/
theorem count_men_l (ms : List (Option Int)) (w : Int) : countD (.list (ms.map oM)) (.int w) = some (.int (ms.count (some w) : Nat)) := by
  show (if SeqAt.shaped (.int w) && SeqAt.shaped (.list (ms.map oM)) then some (PyData.int ((ms.map oM).countP fun z => PyData.eqv z (.int w) : Nat)) else none) = _
  rw [shaped_int, (shp_list (k := 0) (ds := ms.map oM) fun d hd => by obtain ⟨y, _, rfl⟩ := List.mem_map.mp hd; exact oM_shp y).shaped]
  rw [if_pos (show (true && true) = true from rfl), List.countP_map]
  congr 3
  unfold List.count
  congr 1
  funext m
  show PyData.eqv (oM m) (.int w) = _
  rw [eqv_oMi, Bool.eq_iff_iff, decide_eq_true_eq, beq_iff_eq]
theorem count_men_t (ms : List (Option Int)) (w : Int) : countD (.tuple (ms.map oM)) (.int w) = some (.int (ms.count (some w) : Nat)) := by
  show (if SeqAt.shaped (.int w) && SeqAt.shaped (.tuple (ms.map oM)) then some (PyData.int ((ms.map oM).countP fun z => PyData.eqv z (.int w) : Nat)) else none) = _
  rw [shaped_int, (shp_tup (k := 0) (ds := ms.map oM) fun d hd => by obtain ⟨y, _, rfl⟩ := List.mem_map.mp hd; exact oM_shp y).shaped]
  rw [if_pos (show (true && true) = true from rfl), List.countP_map]
  congr 3
  unfold List.count
  congr 1
  funext m
  show PyData.eqv (oM m) (.int w) = _
  rw [eqv_oMi, Bool.eq_iff_iff, decide_eq_true_eq, beq_iff_eq]
theorem xcount_ev {F G : En → R D} {e : En} {x y z : D} (hF : F e = .ok x) (hG : G e = .ok y) (hx : (∃ ds, x = .list ds) ∨ ∃ ds, x = .tuple ds) (hz : countD x y = some z) : xcount F G e = .ok z := by
  unfold xcount xmt
  rw [hF, bind_ok]
  rcases hx with ⟨ds, rfl⟩ | ⟨ds, rfl⟩
  · show (if "list" ∈ ["list", "tuple"] then _ else _) = _
    rw [if_pos (by simp), hG, bind_ok, hz]
    rfl
  · show (if "tuple" ∈ ["list", "tuple"] then _ else _) = _
    rw [if_pos (by simp), hG, bind_ok, hz]
    rfl
end Pu
namespace Pf
open PySem L2 Pu
def b_law_mix : En → Fl :=
  (sseq (sasg 3 (bin modD (bin mulD (xvE 0) (xc (.int 48271))) (xvE 1)))
  (sret (bin modD (bin modD (bin mulD (xvE 3) (bin addD (xvE 3) (xc (.int 7)))) (xvE 1)) (xvE 2))))
def f_law_mix : List D → R D := runD 4 b_law_mix
def lb_law_drawn_board_1 : En → Fl :=
  (sseq (sasg 5 (xcall 3 f_law_mix (lcons (bin addD (xvE 0) (bin mulD (xc (.int 7)) (xvE 4))) (lcons (xc (.int 9949)) (lcons (xvE 2) lnil)))))
  (sseq (sasg 6 (xcall 3 f_law_mix (lcons (bin addD (xvE 0) (bin mulD (xc (.int 11)) (xvE 4))) (lcons (xc (.int 9941)) (lcons (xvE 2) lnil)))))
  (sif (xbl (bin neD (xvV 5) (xvV 6))) (sdput 3 (xtup (lcons (bin min2D (xvV 5) (xvV 6)) (lcons (bin max2D (xvV 5) (xvV 6)) lnil))) (xc (.bool true))) snil)))
def l_law_drawn_board_1 : En → Fl :=
  (sfor (irng1 (xcall 3 f_law_mix (lcons (xvE 0) (lcons (xc (.int 9967)) (lcons (bin mulD (xc (.int 2)) (xvE 2)) lnil))))) (gn 4) lb_law_drawn_board_1)
def q_law_drawn_board_1 : En → R (List D) :=
  (xlc [9] (irng1 (xc (.int 3))) (gn 9) tyes (xcall 3 f_law_mix (lcons (bin addD (bin addD (xvE 0) (bin mulD (xc (.int 13)) (xvE 4))) (xvE 9)) (lcons (xc (.int 9929)) (lcons (xvE 2) lnil)))))
def lb_law_drawn_board_2 : En → Fl :=
  (sseq (sasg 8 (asL (un1N sortSetN (asL q_law_drawn_board_1))))
  (sif (xbl (bin eqD (un1 lenD (xvV 8)) (xc (.int 3)))) (sdput 7 (un1 tupleD (xvV 8)) (xc (.bool true))) snil))
def l_law_drawn_board_2 : En → Fl :=
  (sfor (irng1 (xcall 3 f_law_mix (lcons (xvE 0) (lcons (xc (.int 9931)) (lcons (xc (.int 6)) lnil))))) (gn 4) lb_law_drawn_board_2)
def b_law_drawn_board : En → Fl :=
  (sseq (sasg 2 (bin addD (xc (.int 5)) (xcall 3 f_law_mix (lcons (xvE 0) (lcons (xc (.int 9973)) (lcons (bin subD (xvE 1) (xc (.int 4))) lnil))))))
  (sseq (sdnew 3)
  (sseq l_law_drawn_board_1
  (sseq (sdnew 7)
  (sseq l_law_drawn_board_2
  (sret (xtup (lcons (xvE 2) (lcons (un1 tupleD (asL (un1N sortN (xvV 3)))) (lcons (un1 tupleD (asL (un1N sortN (xvV 7)))) lnil))))))))))
def f_law_drawn_board : List D → R D := runD 10 b_law_drawn_board
def q_law_ring_board_1 : En → R (List D) :=
  (xlc [5] (irng1 (xc (.int 8))) (gn 5) tyes (bin addD (bin mulD (xc (.int 8)) (xvE 3)) (xvE 5)))
def q_law_ring_board_2 : En → R (List D) :=
  (xlc [5] (irng1 (xc (.int 8))) (gn 5) tyes (un1 tupleD (asL (un1N sortN (xsl (xvV 4) (osome (xvE 5)) (osome (bin addD (xvE 5) (xc (.int 2)))))))))
def q_law_ring_board_3 : En → R (List D) :=
  (xlc [5] (iseq (xtup (lcons (xc (.int 0)) (lcons (xc (.int 2)) (lcons (xc (.int 4)) (lcons (xc (.int 6)) lnil)))))) (gn 5) tyes (un1 tupleD (asL (un1N sortN (xsl (xvV 4) (osome (xvE 5)) (osome (bin addD (xvE 5) (xc (.int 3)))))))))
def q_law_ring_board_4 : En → R (List D) :=
  (xlc [5] (iseq (xtup (lcons (xc (.int 1)) (lcons (xc (.int 3)) (lcons (xc (.int 5)) (lcons (xc (.int 7)) lnil)))))) (gn 5) tyes (xtup (lcons (bin subD (bin ixD (xvV 4) (xvV 5)) (xc (.int 8))) (lcons (bin ixD (xvV 4) (xvV 5)) lnil))))
def lb_law_ring_board_1 : En → Fl :=
  (sseq (sasg 4 (bin addD (asL q_law_ring_board_1) (asL (xlst (lcons (bin mulD (xc (.int 8)) (xvE 3)) lnil)))))
  (sseq (sasg 1 (bin addD (xvE 1) (asL q_law_ring_board_2)))
  (sseq (sasg 2 (bin addD (xvE 2) (asL q_law_ring_board_3)))
  (sif (xbl (bin gtD (xvV 3) (xc (.int 0)))) (sasg 1 (bin addD (xvE 1) (asL q_law_ring_board_4))) snil))))
def l_law_ring_board_1 : En → Fl :=
  (sfor (irng1 (xvE 0)) (gn 3) lb_law_ring_board_1)
def q_law_ring_board_5 : En → R (List D) :=
  (xlc [5] (iseq (xtup (lcons (xc (.int 1)) (lcons (xc (.int 3)) (lcons (xc (.int 5)) (lcons (xc (.int 7)) lnil)))))) (gn 5) tyes (xtup (lcons (xvE 5) (lcons (bin addD (xvE 5) (xc (.int 8))) (lcons (bin addD (xvE 5) (xc (.int 16))) lnil)))))
def b_law_ring_board : En → Fl :=
  (sseq (sasg 1 (asL (xlst lnil)))
  (sseq (sasg 2 (asL (xlst lnil)))
  (sseq l_law_ring_board_1
  (sseq (sif (xbl (bin eqD (xvV 0) (xc (.int 3)))) (sasg 2 (bin addD (xvE 2) (asL q_law_ring_board_5))) snil)
  (sret (xtup (lcons (bin mulD (xc (.int 8)) (xvE 0)) (lcons (un1 tupleD (asL (un1N sortN (xvV 1)))) (lcons (un1 tupleD (asL (un1N sortN (xvV 2)))) lnil)))))))))
def f_law_ring_board : List D → R D := runD 6 b_law_ring_board
def lb_law_grid_board_1 : En → Fl :=
  (sif (tor (xbl (bin eqD (bin subD (xvE 2) (xvE 1)) (xc (.int 3)))) (tand (xbl (bin eqD (bin subD (xvE 2) (xvE 1)) (xc (.int 1)))) (xbl (bin gtD (bin modD (xvE 2) (xc (.int 3))) (xc (.int 0)))))) (sapp 0 (xtup (lcons (xvE 1) (lcons (xvE 2) lnil)))) snil)
def l_law_grid_board_1 : En → Fl :=
  (sfor (irng2 (bin addD (xvE 1) (xc (.int 1))) (xc (.int 9))) (gn 2) lb_law_grid_board_1)
def lb_law_grid_board_2 : En → Fl :=
  l_law_grid_board_1
def l_law_grid_board_2 : En → Fl :=
  (sfor (irng1 (xc (.int 9))) (gn 1) lb_law_grid_board_2)
def b_law_grid_board : En → Fl :=
  (sseq (sasgN 0 (xlst lnil))
  (sseq l_law_grid_board_2
  (sseq (sasg 3 (xtup (lcons (xtup (lcons (xc (.int 0)) (lcons (xc (.int 1)) (lcons (xc (.int 2)) lnil)))) (lcons (xtup (lcons (xc (.int 0)) (lcons (xc (.int 3)) (lcons (xc (.int 6)) lnil)))) (lcons (xtup (lcons (xc (.int 1)) (lcons (xc (.int 4)) (lcons (xc (.int 7)) lnil)))) (lcons (xtup (lcons (xc (.int 2)) (lcons (xc (.int 5)) (lcons (xc (.int 8)) lnil)))) (lcons (xtup (lcons (xc (.int 3)) (lcons (xc (.int 4)) (lcons (xc (.int 5)) lnil)))) (lcons (xtup (lcons (xc (.int 6)) (lcons (xc (.int 7)) (lcons (xc (.int 8)) lnil)))) lnil))))))))
  (sret (xtup (lcons (xc (.int 9)) (lcons (un1 tupleD (xvV 0)) (lcons (xvE 3) lnil))))))))
def f_law_grid_board : List D → R D := runD 4 b_law_grid_board
def b_law_board : En → Fl :=
  (sseq (sasg 2 (xcall 3 f_law_mix (lcons (xvE 0) (lcons (xc (.int 9923)) (lcons (xc (.int 6)) lnil)))))
  (sseq (sif (tand (xbl (bin eqD (xvV 2) (xc (.int 0)))) (xbl (bin gtD (xvV 1) (xc (.int 23))))) (sret (xcall 1 f_law_ring_board (lcons (xc (.int 3)) lnil))) snil)
  (sseq (sif (tand (xbl (bin ltD (xvV 2) (xc (.int 3)))) (xbl (bin gtD (xvV 1) (xc (.int 15))))) (sret (xcall 1 f_law_ring_board (lcons (bin addD (xc (.int 1)) (bin modD (xvE 2) (xc (.int 2)))) lnil))) snil)
  (sseq (sif (xbl (bin ltD (xvV 2) (xc (.int 4)))) (sret (xcall 0 f_law_grid_board lnil)) snil)
  (sret (xcall 2 f_law_drawn_board (lcons (bin addD (xvE 0) (xc (.int 1))) (lcons (bin min2D (xvV 1) (xc (.int 12))) lnil))))))))
def f_law_board : List D → R D := runD 3 b_law_board
def q_law_stand_1 : En → R (List D) :=
  (xlc [9] (irng1 (bin ixD (xvV 0) (xc (.int 0)))) (gn 9) tyes (xc .none))
def q_law_stand_2 : En → R (List D) :=
  (xlc [9, 10] (ienum (xvV 3)) (gtup (gcons (gn 9) (gcons (gn 10) gnil))) (xbl (bin isD (xvV 10) (xc .none))) (xvE 9))
def lb_law_stand_1 : En → Fl :=
  (sseq (sasg 7 (asL q_law_stand_2))
  (sif (tand (xbl (bin gtD (un1 lenD (xvV 7)) (xvV 4))) (tor (xbl (bin eqD (xvV 2) (xc (.int 0)))) (xbl (bin ltD (xcount (xvV 3) (xvV 6)) (xvV 2))))) (sput 3 (bin ixD (xvV 7) (xcall 3 f_law_mix (lcons (bin addD (bin addD (xvE 1) (bin mulD (xc (.int 23)) (xvE 5))) (bin mulD (xc (.int 5)) (xvE 6))) (lcons (xc (.int 9901)) (lcons (un1 lenD (xvV 7)) lnil))))) (xvE 6)) snil))
def l_law_stand_1 : En → Fl :=
  (sfor (iseq (xtup (lcons (xc (.int 0)) (lcons (xc (.int 1)) lnil)))) (gn 6) lb_law_stand_1)
def lb_law_stand_2 : En → Fl :=
  l_law_stand_1
def l_law_stand_2 : En → Fl :=
  (sfor (irng1 (bin addD (xcall 3 f_law_mix (lcons (xvE 1) (lcons (xc (.int 9907)) (lcons (bin addD (xc (.int 4)) (bin mulD (xc (.int 6)) (un1 intD (bin eqD (xvV 2) (xc (.int 0)))))) lnil)))) (xc (.int 3)))) (gn 5) lb_law_stand_2)
def b_law_stand : En → Fl :=
  (sseq (sasgN 3 q_law_stand_1)
  (sseq (sasg 4 (xcall 3 f_law_mix (lcons (xvE 1) (lcons (xc (.int 9871)) (lcons (xc (.int 4)) lnil)))))
  (sseq l_law_stand_2
  (sseq (sasg 8 (xtup (lcons (xc (.int 0)) (lcons (xc (.int 0)) lnil))))
  (sseq (sif (tand (xbl (bin eqD (xvV 2) (xc (.int 0)))) (xbl (bin eqD (bin modD (xvE 1) (xc (.int 3))) (xc (.int 0))))) (sasg 8 (xtup (lcons (xcall 3 f_law_mix (lcons (xvE 1) (lcons (xc (.int 9887)) (lcons (xc (.int 4)) lnil)))) (lcons (xcall 3 f_law_mix (lcons (xvE 1) (lcons (xc (.int 9883)) (lcons (xc (.int 4)) lnil)))) lnil)))) snil)
  (sret (xtup (lcons (un1 tupleD (xvV 3)) (lcons (xvE 8) (lcons (bin modD (xvE 1) (xc (.int 2))) lnil))))))))))
def f_law_stand : List D → R D := runD 11 b_law_stand
def b_law_cell : En → Fl :=
  (sseq (sif (xbl (bin ltD (xvV 1) (un1 lenD (xvV 0)))) (sret (bin ixD (xvV 0) (xvV 1))) snil)
  (sret (xc (.int 0))))
def f_law_cell : List D → R D := runD 2 b_law_cell
end Pf
namespace Pf
open PySem L2 Pu
def qfull_rows_1 : En → R (List D) :=
  (xlc [4] (iseq (xvV 3)) (gn 4) tyes (bin eqD (bin ixD (xvV 1) (xvV 4)) (xvV 2)))
def qfull_rows_2 : En → R (List D) :=
  (xlc [3] (iseq (bin ixD (xvV 0) (xc (.int 2)))) (gn 3) (xtru (un1 allD (asL qfull_rows_1))) (xvE 3))
def bfull_rows : En → Fl :=
  (sret (asL qfull_rows_2))
def ffull_rows : List D → R D := runD 5 bfull_rows
def bfull : En → Fl :=
  (sret (un1 tupleD (xcall 3 ffull_rows (lcons (xvE 0) (lcons (bin ixD (xvV 1) (xc (.int 0))) (lcons (xvE 2) lnil))))))
def ffull : List D → R D := runD 3 bfull
end Pf
namespace Pf
open PySem L2 Pu
def qpoints_of_1 : En → R (List D) :=
  (xlc [2, 3] (ienum (bin ixD (xvV 0) (xc (.int 0)))) (gtup (gcons (gn 2) (gcons (gn 3) gnil))) (xbl (bin eqD (xvV 3) (xvV 1))) (xvE 2))
def bpoints_of : En → Fl :=
  (sret (asL qpoints_of_1))
def fpoints_of : List D → R D := runD 4 bpoints_of
def bcount : En → Fl :=
  (sret (bin addD (un1 lenD (xcall 2 fpoints_of (lcons (xvE 0) (lcons (xvE 1) lnil)))) (bin ixD (bin ixD (xvV 0) (xc (.int 1))) (xvV 1))))
def fcount : List D → R D := runD 2 bcount
def lbneighbours_1 : En → Fl :=
  (sseq (sif (xbl (bin eqD (xvV 3) (xvV 1))) (sapp 2 (xvE 4)) snil)
  (sif (xbl (bin eqD (xvV 4) (xvV 1))) (sapp 2 (xvE 3)) snil))
def lneighbours_1 : En → Fl :=
  (sfor (iseq (bin ixD (xvV 0) (xc (.int 1)))) (gtup (gcons (gn 3) (gcons (gn 4) gnil))) lbneighbours_1)
def bneighbours : En → Fl :=
  (sseq (sasgN 2 (xlst lnil))
  (sseq lneighbours_1
  (sret (xvE 2))))
def fneighbours : List D → R D := runD 5 bneighbours
def qsteps_1 : En → R (List D) :=
  (xlc [10, 11] (ienum (xvV 2)) (gtup (gcons (gn 10) (gcons (gn 11) gnil))) (xbl (bin isD (xvV 11) (xc .none))) (xvE 10))
def qsteps_2 : En → R (List D) :=
  (xlc [12] (iseq (xvV 5)) (gn 12) tyes (xtup (lcons (un1 negD (xc (.int 1))) (lcons (xvE 12) lnil))))
def qsteps_3 : En → R (List D) :=
  (xlc [10] (iseq (xcall 2 fneighbours (lcons (xvE 0) (lcons (xvE 8) lnil)))) (gn 10) (xbl (bin isD (bin ixD (xvV 2) (xvV 10)) (xc .none))) (xvE 10))
def qsteps_4 : En → R (List D) :=
  (xlc [12] (iseq (xvV 9)) (gn 12) tyes (xtup (lcons (xvE 8) (lcons (xvE 12) lnil))))
def lbsteps_1 : En → Fl :=
  (sseq (sasg 9 (xvE 5))
  (sseq (sif (xbl (bin gtD (un1 lenD (xvV 6)) (xc (.int 3)))) (sasg 9 (asL qsteps_3)) snil)
  (sext 7 (asL qsteps_4))))
def lsteps_1 : En → Fl :=
  (sfor (iseq (xvE 6)) (gn 8) lbsteps_1)
def bsteps : En → Fl :=
  (sseq (sasgT (gtup (gcons (gn 2) (gcons (gn 3) (gcons (gn 4) gnil)))) (xvE 1))
  (sseq (sasg 5 (asL qsteps_1))
  (sseq (sif (xbl (bin gtD (bin ixD (xvV 3) (xvV 4)) (xc (.int 0)))) (sret (asL qsteps_2)) snil)
  (sseq (sasg 6 (xcall 2 fpoints_of (lcons (xvE 1) (lcons (xvE 4) lnil))))
  (sseq (sasgN 7 (xlst lnil))
  (sseq lsteps_1
  (sret (xvE 7))))))))
def fsteps : List D → R D := runD 13 bsteps
def bwinner : En → Fl :=
  (sseq (sasg 2 (bin ixD (xvV 1) (xc (.int 2))))
  (sseq (sif (tor (xbl (bin ltD (xcall 2 fcount (lcons (xvE 1) (lcons (xvE 2) lnil))) (xc (.int 3)))) (tnot (xtru (xcall 2 fsteps (lcons (xvE 0) (lcons (xvE 1) lnil)))))) (sret (bin subD (xc (.int 1)) (xvE 2))) snil)
  (sret (xc .none))))
def fwinner : List D → R D := runD 3 bwinner
def qtakings_1 : En → R (List D) :=
  (xlc [9] (iseq (xcall 3 ffull_rows (lcons (xvE 0) (lcons (xvE 1) (lcons (xvE 3) lnil))))) (gn 9) tyes (bin inD (xvV 2) (xvV 9)))
def qtakings_2 : En → R (List D) :=
  (xlc [7, 8] (ienum (xvV 1)) (gtup (gcons (gn 7) (gcons (gn 8) gnil))) (xbl (bin eqD (xvV 8) (bin subD (xc (.int 1)) (xvE 3)))) (xvE 7))
def qtakings_3 : En → R (List D) :=
  (xlc [9] (iseq (xvV 5)) (gn 9) tyes (bin inD (xvV 7) (xvV 9)))
def qtakings_4 : En → R (List D) :=
  (xlc [7] (iseq (xvV 4)) (gn 7) (tnot (xtru (un1 anyD (asL qtakings_3)))) (xvE 7))
def btakings : En → Fl :=
  (sseq (sif (tnot (xtru (un1 anyD (asL qtakings_1)))) (sret (asL (xlst (lcons (un1 negD (xc (.int 1))) lnil)))) snil)
  (sseq (sasg 4 (asL qtakings_2))
  (sseq (sasg 5 (xcall 3 ffull_rows (lcons (xvE 0) (lcons (xvE 1) (lcons (bin subD (xc (.int 1)) (xvE 3)) lnil)))))
  (sseq (sasg 6 (asL qtakings_4))
  (sret (xorV (xvE 6) (xorV (xvE 4) (asL (xlst (lcons (un1 negD (xc (.int 1))) lnil))))))))))
def ftakings : List D → R D := runD 10 btakings
def bwith_step : En → Fl :=
  (sseq (sasgN 4 (un1N listN (xvV 0)))
  (sseq (sif (xbl (bin geD (xvV 1) (xc (.int 0)))) (sput 4 (xvE 1) (xc .none)) snil)
  (sseq (sput 4 (xvE 2) (xvE 3))
  (sret (un1 tupleD (xvV 4))))))
def fwith_step : List D → R D := runD 5 bwith_step
def qall_moves_1 : En → R (List D) :=
  (xlc [9] (iseq (xvV 8)) (gn 9) tyes (xtup (lcons (xvE 6) (lcons (xvE 7) (lcons (xvE 9) lnil)))))
def lball_moves_1 : En → Fl :=
  (sseq (sasg 8 (xcall 4 ftakings (lcons (xvE 0) (lcons (xcall 4 fwith_step (lcons (xvE 2) (lcons (xvE 6) (lcons (xvE 7) (lcons (xvE 4) lnil))))) (lcons (xvE 7) (lcons (xvE 4) lnil))))))
  (sext 5 (asL qall_moves_1)))
def lall_moves_1 : En → Fl :=
  (sfor (iseq (xcall 2 fsteps (lcons (xvE 0) (lcons (xvE 1) lnil)))) (gtup (gcons (gn 6) (gcons (gn 7) gnil))) lball_moves_1)
def ball_moves : En → Fl :=
  (sseq (sasgT (gtup (gcons (gn 2) (gcons (gn 3) (gcons (gn 4) gnil)))) (xvE 1))
  (sseq (sasgN 5 (xlst lnil))
  (sseq lall_moves_1
  (sret (xvE 5)))))
def fall_moves : List D → R D := runD 10 ball_moves
def bmoves : En → Fl :=
  (sseq (sif (xbl (bin isNotD (xcall 2 fwinner (lcons (xvE 0) (lcons (xvE 1) lnil))) (xc .none))) (sret (xtup lnil)) snil)
  (sret (un1 tupleD (asL (un1N sortN (xcall 2 fall_moves (lcons (xvE 0) (lcons (xvE 1) lnil))))))))
def fmoves : List D → R D := runD 2 bmoves
end Pf
namespace Pf
open PySem L2 Pu
def q_law_steps_1 : En → R (List D) :=
  (xlc [10] (irng1 (bin ixD (xvV 0) (xc (.int 0)))) (gn 10) (xbl (bin isD (bin ixD (xvV 2) (xvV 10)) (xc .none))) (xvE 10))
def q_law_steps_2 : En → R (List D) :=
  (xlc [9] (iseq (xvV 5)) (gn 9) tyes (xtup (lcons (un1 negD (xc (.int 1))) (lcons (xvE 9) lnil))))
def q_law_steps_3 : En → R (List D) :=
  (xlc [10] (irng1 (bin ixD (xvV 0) (xc (.int 0)))) (gn 10) (xbl (bin eqD (bin ixD (xvV 2) (xvV 10)) (xvV 4))) (xvE 10))
def lb_law_steps_1 : En → Fl :=
  (sif (tor (xbl (bin ltD (un1 lenD (xvV 6)) (xc (.int 4)))) (xbl (bin inD (xtup (lcons (bin min2D (xvV 8) (xvV 9)) (lcons (bin max2D (xvV 8) (xvV 9)) lnil))) (bin ixD (xvV 0) (xc (.int 1)))))) (sapp 7 (xtup (lcons (xvE 8) (lcons (xvE 9) lnil)))) snil)
def l_law_steps_1 : En → Fl :=
  (sfor (iseq (xvE 5)) (gn 9) lb_law_steps_1)
def lb_law_steps_2 : En → Fl :=
  l_law_steps_1
def l_law_steps_2 : En → Fl :=
  (sfor (iseq (xvE 6)) (gn 8) lb_law_steps_2)
def b_law_steps : En → Fl :=
  (sseq (sasgT (gtup (gcons (gn 2) (gcons (gn 3) (gcons (gn 4) gnil)))) (xvE 1))
  (sseq (sasg 5 (asL q_law_steps_1))
  (sseq (sif (xbl (bin gtD (bin ixD (xvV 3) (xvV 4)) (xc (.int 0)))) (sret (asL q_law_steps_2)) snil)
  (sseq (sasg 6 (asL q_law_steps_3))
  (sseq (sasgN 7 (xlst lnil))
  (sseq l_law_steps_2
  (sret (xvE 7))))))))
def f_law_steps : List D → R D := runD 11 b_law_steps
def b_law_winner : En → Fl :=
  (sseq (sasgT (gtup (gcons (gn 2) (gcons (gn 3) (gcons (gn 4) gnil)))) (xvE 1))
  (sseq (sif (tor (xbl (bin ltD (bin addD (xcount (xvV 2) (xvV 4)) (bin ixD (xvV 3) (xvV 4))) (xc (.int 3)))) (tnot (xtru (xcall 2 f_law_steps (lcons (xvE 0) (lcons (xvE 1) lnil)))))) (sret (bin subD (xc (.int 1)) (xvE 4))) snil)
  (sret (xc .none))))
def f_law_winner : List D → R D := runD 5 b_law_winner
def q_law_rows_of_1 : En → R (List D) :=
  (xlc [4] (iseq (xvV 3)) (gn 4) tyes (bin ixD (xvV 1) (xvV 4)))
def q_law_rows_of_2 : En → R (List D) :=
  (xlc [3] (iseq (bin ixD (xvV 0) (xc (.int 2)))) (gn 3) (xbl (bin eqD (asL q_law_rows_of_1) (asL (xlst (lcons (xvE 2) (lcons (xvE 2) (lcons (xvE 2) lnil))))))) (xvE 3))
def b_law_rows_of : En → Fl :=
  (sret (asL q_law_rows_of_2))
def f_law_rows_of : List D → R D := runD 5 b_law_rows_of
def q_law_moves_1 : En → R (List D) :=
  (xlc [14, 15] (ienum (xvV 2)) (gtup (gcons (gn 14) (gcons (gn 15) gnil))) tyes (xif (xbl (bin eqD (xvV 14) (xvV 6))) (xc .none) (xvE 15)))
def q_law_moves_2 : En → R (List D) :=
  (xlc [11] (iseq (xcall 3 f_law_rows_of (lcons (xvE 0) (lcons (xvE 8) (lcons (xvE 4) lnil))))) (gn 11) (xbl (bin inD (xvV 7) (xvV 11))) (xvE 11))
def lb_law_moves_1 : En → Fl :=
  (sext 10 (xvE 11))
def l_law_moves_1 : En → Fl :=
  (sfor (iseq (xcall 3 f_law_rows_of (lcons (xvE 0) (lcons (xvE 8) (lcons (bin subD (xc (.int 1)) (xvE 4)) lnil))))) (gn 11) lb_law_moves_1)
def q_law_moves_3 : En → R (List D) :=
  (xlc [14] (irng1 (bin ixD (xvV 0) (xc (.int 0)))) (gn 14) (xbl (bin eqD (bin ixD (xvV 8) (xvV 14)) (bin subD (xc (.int 1)) (xvE 4)))) (xvE 14))
def q_law_moves_4 : En → R (List D) :=
  (xlc [14] (iseq (xvV 12)) (gn 14) (xbl (bin notInD (xvV 14) (xvV 10))) (xvE 14))
def q_law_moves_5 : En → R (List D) :=
  (xlc [16] (iseq (xvV 9)) (gn 16) tyes (xtup (lcons (xvE 6) (lcons (xvE 7) (lcons (xvE 16) lnil)))))
def lb_law_moves_2 : En → Fl :=
  (sseq (sasgN 8 q_law_moves_1)
  (sseq (sput 8 (xvE 7) (xvE 4))
  (sseq (sasg 9 (asL (xlst (lcons (un1 negD (xc (.int 1))) lnil))))
  (sseq (sfz 8 (sif (xtru (asL q_law_moves_2)) (sseq (sasgN 10 (xlst lnil))
  (sseq l_law_moves_1
  (sseq (sasg 12 (asL q_law_moves_3))
  (sseq (sasg 13 (asL q_law_moves_4))
  (sif (xtru (xvV 13)) (sasg 9 (xvE 13)) (sif (xtru (xvV 12)) (sasg 9 (xvE 12)) snil)))))) snil))
  (sext 5 (asL q_law_moves_5))))))
def l_law_moves_2 : En → Fl :=
  (sfor (iseq (xcall 2 f_law_steps (lcons (xvE 0) (lcons (xvE 1) lnil)))) (gtup (gcons (gn 6) (gcons (gn 7) gnil))) lb_law_moves_2)
def b_law_moves : En → Fl :=
  (sseq (sasgT (gtup (gcons (gn 2) (gcons (gn 3) (gcons (gn 4) gnil)))) (xvE 1))
  (sseq (sif (xbl (bin isNotD (xcall 2 f_law_winner (lcons (xvE 0) (lcons (xvE 1) lnil))) (xc .none))) (sret (xtup lnil)) snil)
  (sseq (sasgN 5 (xlst lnil))
  (sseq l_law_moves_2
  (sret (un1 tupleD (asL (un1N sortN (xvV 5)))))))))
def f_law_moves : List D → R D := runD 17 b_law_moves
def q_law_same_1 (F_law_same : List D → R D) : En → R (List D) :=
  (xlc [2, 3] (izip (xvV 0) (xvV 1)) (gtup (gcons (gn 2) (gcons (gn 3) gnil))) tyes (xcall 2 F_law_same (lcons (xvE 2) (lcons (xvE 3) lnil))))
def b_law_same (F_law_same : List D → R D) : En → Fl :=
  (sseq (sif (xtru (un1 (isiD "tuple") (xvV 1))) (sseq (sif (tor (tnot (xtru (un1 (isiD "tuple") (xvV 0)))) (xbl (bin neD (un1 lenD (xvV 0)) (un1 lenD (xvV 1))))) (sret (xc (.bool false))) snil)
  (sret (un1 allD (asL (q_law_same_1 F_law_same))))) snil)
  (sseq (sif (xbl (bin isD (xvV 1) (xc .none))) (sret (bin isD (xvV 0) (xc .none))) snil)
  (sseq (sif (tor (xtru (un1 (isiD "bool") (xvV 1))) (xtru (un1 (isiD "bool") (xvV 0)))) (sret (xandV (un1 (isiD "bool") (xvV 1)) (xandV (un1 (isiD "bool") (xvV 0)) (bin eqD (xvV 0) (xvV 1))))) snil)
  (sret (xandV (un1 (isi2D "int" "str") (xvV 0)) (bin eqD (xvV 0) (xvV 1)))))))
def f_law_same : Nat → List D → R D
  | 0 => fun _ => .bad
  | n + 1 => runD 4 (b_law_same (f_law_same n))
end Pf
namespace Pf
open PySem L2 Pu
def bdone : En → Fl :=
  (sseq (sasgT (gtup (gcons (gn 2) (gcons (gn 3) (gcons (gn 4) gnil)))) (xvE 0))
  (sseq (sasgT (gtup (gcons (gn 5) (gcons (gn 6) (gcons (gn 7) gnil)))) (xvE 1))
  (sseq (sasgN 8 (un1N listN (xcall 4 fwith_step (lcons (xvE 2) (lcons (xvE 5) (lcons (xvE 6) (lcons (xvE 4) lnil)))))))
  (sseq (sif (xbl (bin geD (xvV 7) (xc (.int 0)))) (sput 8 (xvE 7) (xc .none)) snil)
  (sseq (sif (xbl (bin ltD (xvV 5) (xc (.int 0)))) (sseq (sasgN 9 (xlst (lcons (bin ixD (xvV 3) (xc (.int 0))) (lcons (bin ixD (xvV 3) (xc (.int 1))) lnil))))
  (sseq (sput 9 (xvE 4) (bin subD (bin ixD (xvV 9) (xvV 4)) (xc (.int 1))))
  (sasg 3 (un1 tupleD (xvV 9))))) snil)
  (sret (xtup (lcons (un1 tupleD (xvV 8)) (lcons (xvE 3) (lcons (bin subD (xc (.int 1)) (xvE 4)) lnil))))))))))
def fdone : List D → R D := runD 10 bdone
def q_law_after_1 : En → R (List D) :=
  (xlc [9, 10] (ienum (xvV 2)) (gtup (gcons (gn 9) (gcons (gn 10) gnil))) tyes (xif (xbl (bin inD (xvV 9) (xtup (lcons (xvE 5) (lcons (xvE 7) lnil))))) (xc .none) (xvE 10)))
def b_law_after : En → Fl :=
  (sseq (sasgT (gtup (gcons (gn 2) (gcons (gn 3) (gcons (gn 4) gnil)))) (xvE 0))
  (sseq (sasgT (gtup (gcons (gn 5) (gcons (gn 6) (gcons (gn 7) gnil)))) (xvE 1))
  (sseq (sasgN 8 q_law_after_1)
  (sseq (sput 8 (xvE 6) (xvE 4))
  (sseq (sif (xbl (bin ltD (xvV 5) (xc (.int 0)))) (sasg 3 (xtup (lcons (bin subD (bin ixD (xvV 3) (xc (.int 0))) (un1 intD (bin eqD (xvV 4) (xc (.int 0))))) (lcons (bin subD (bin ixD (xvV 3) (xc (.int 1))) (un1 intD (bin eqD (xvV 4) (xc (.int 1))))) lnil)))) snil)
  (sret (xtup (lcons (un1 tupleD (xvV 8)) (lcons (xvE 3) (lcons (bin subD (xc (.int 1)) (xvE 4)) lnil))))))))))
def f_law_after : List D → R D := runD 11 b_law_after
end Pf
namespace Pf
open PySem L2 Pu
def bis_whole : En → Fl :=
  (sret (xandV (un1 (isiD "int") (xvV 0)) (xandV (xnot (un1 (isiD "bool") (xvV 0))) (chn leD leD (xvV 1) (xvV 0) (xvV 2)))))
def fis_whole : List D → R D := runD 3 bis_whole
def qis_stand_1 : En → R (List D) :=
  (xlc [5] (iseq (xvV 2)) (gn 5) tyes (xorV (bin isD (xvV 5) (xc .none)) (xcall 3 fis_whole (lcons (xvE 5) (lcons (xc (.int 0)) (lcons (xc (.int 1)) lnil))))))
def qis_stand_2 : En → R (List D) :=
  (xlc [6] (iseq (xvV 3)) (gn 6) tyes (xcall 3 fis_whole (lcons (xvE 6) (lcons (xc (.int 0)) (lcons (xc (.int 9)) lnil)))))
def bis_stand : En → Fl :=
  (sseq (sif (tor (tnot (xtru (un1 (isiD "tuple") (xvV 1)))) (tor (xbl (bin neD (un1 lenD (xvV 1)) (xc (.int 3)))) (tnot (xtru (xcall 3 fis_whole (lcons (bin ixD (xvV 1) (xc (.int 2))) (lcons (xc (.int 0)) (lcons (xc (.int 1)) lnil)))))))) (sret (xc (.bool false))) snil)
  (sseq (sasgT (gtup (gcons (gn 2) (gcons (gn 3) (gcons (gn 4) gnil)))) (xvE 1))
  (sseq (sif (tor (tnot (xtru (un1 (isiD "tuple") (xvV 2)))) (xbl (bin neD (un1 lenD (xvV 2)) (bin ixD (xvV 0) (xc (.int 0)))))) (sret (xc (.bool false))) snil)
  (sseq (sif (tnot (xtru (un1 allD (asL qis_stand_1)))) (sret (xc (.bool false))) snil)
  (sret (xandV (un1 (isiD "tuple") (xvV 3)) (xandV (bin eqD (un1 lenD (xvV 3)) (xc (.int 2))) (un1 allD (asL qis_stand_2)))))))))
def fis_stand : List D → R D := runD 7 bis_stand
end Pf
namespace Pf
open PySem L2 Pu
def q_law_near_1 : En → R (List D) :=
  (xlc [6] (irng1 (bin ixD (xvV 0) (xc (.int 0)))) (gn 6) tyes (xc .none))
def lb_law_near_1 : En → Fl :=
  (sseq (sasg 6 (xcall 3 f_law_mix (lcons (bin addD (bin addD (xvE 1) (bin mulD (xc (.int 7)) (xvE 5))) (bin mulD (xc (.int 3)) (xvE 4))) (lcons (xc (.int 9769)) (lcons (bin ixD (xvV 0) (xc (.int 0))) lnil)))))
  (sif (tand (xbl (bin isD (bin ixD (xvV 2) (xvV 6)) (xc .none))) (xbl (bin ltD (xcount (xvV 2) (xvV 4)) (bin ixD (xvV 3) (xvV 4))))) (sput 2 (xvE 6) (xvE 4)) snil))
def l_law_near_1 : En → Fl :=
  (sfor (irng1 (xc (.int 60))) (gn 5) lb_law_near_1)
def lb_law_near_2 : En → Fl :=
  l_law_near_1
def l_law_near_2 : En → Fl :=
  (sfor (iseq (xtup (lcons (xc (.int 0)) (lcons (xc (.int 1)) lnil)))) (gn 4) lb_law_near_2)
def b_law_near : En → Fl :=
  (sseq (sasgN 2 q_law_near_1)
  (sseq (sasg 3 (xtup (lcons (bin addD (xc (.int 3)) (xcall 3 f_law_mix (lcons (xvE 1) (lcons (xc (.int 9781)) (lcons (xc (.int 2)) lnil))))) (lcons (xc (.int 3)) lnil))))
  (sseq (sif (xbl (bin eqD (bin modD (xvE 1) (xc (.int 3))) (xc (.int 0)))) (sasg 3 (xtup (lcons (xc (.int 3)) (lcons (xc (.int 3)) lnil)))) snil)
  (sseq l_law_near_2
  (sret (xtup (lcons (un1 tupleD (xvV 2)) (lcons (xtup (lcons (xc (.int 0)) (lcons (xc (.int 0)) lnil))) (lcons (bin modD (xvE 1) (xc (.int 2))) lnil)))))))))
def f_law_near : List D → R D := runD 7 b_law_near
end Pf
namespace Pf
open PySem L2 Pu
def lbforced_1 (Fanswers_to : List D → R D) : En → Fl :=
  (sseq (sasg 4 (xcall 3 Fanswers_to (lcons (xvE 0) (lcons (xcall 2 fdone (lcons (xvE 1) (lcons (xvE 3) lnil))) (lcons (bin subD (xvE 2) (xc (.int 2))) lnil)))))
  (sif (xbl (bin isNotD (xvV 4) (xc .none))) (sret (xtup (lcons (xvE 3) (lcons (xvE 4) lnil)))) snil))
def lforced_1 (Fanswers_to : List D → R D) : En → Fl :=
  (sfor (iseq (xcall 2 fmoves (lcons (xvE 0) (lcons (xvE 1) lnil)))) (gn 3) (lbforced_1 Fanswers_to))
def bforced (Fanswers_to : List D → R D) : En → Fl :=
  (sseq (sif (xbl (bin ltD (xvV 2) (xc (.int 1)))) (sret (xc .none)) snil)
  (sseq (lforced_1 Fanswers_to)
  (sret (xc .none))))
def lbanswers_to_1 (Fforced : List D → R D) : En → Fl :=
  (sseq (sasg 5 (xcall 3 Fforced (lcons (xvE 0) (lcons (xcall 2 fdone (lcons (xvE 1) (lcons (xvE 4) lnil))) (lcons (xvE 2) lnil)))))
  (sseq (sif (xbl (bin isD (xvV 5) (xc .none))) (sret (xc .none)) snil)
  (sapp 3 (xtup (lcons (xvE 4) (lcons (xvE 5) lnil))))))
def lanswers_to_1 (Fforced : List D → R D) : En → Fl :=
  (sfor (iseq (xcall 2 fmoves (lcons (xvE 0) (lcons (xvE 1) lnil)))) (gn 4) (lbanswers_to_1 Fforced))
def banswers_to (Fforced : List D → R D) : En → Fl :=
  (sseq (sif (xbl (bin isNotD (xcall 2 fwinner (lcons (xvE 0) (lcons (xvE 1) lnil))) (xc .none))) (sret (xtup lnil)) snil)
  (sseq (sasgN 3 (xlst lnil))
  (sseq (lanswers_to_1 Fforced)
  (sret (un1 tupleD (xvV 3))))))
mutual
def fforced : Nat → List D → R D
  | 0 => fun _ => .bad
  | n + 1 => runD 5 (bforced (fanswers_to n))
def fanswers_to : Nat → List D → R D
  | 0 => fun _ => .bad
  | n + 1 => runD 6 (banswers_to (fforced n))
end
def qis_move_1 : En → R (List D) :=
  (xlc [1] (iseq (xvV 0)) (gn 1) tyes (xcall 3 fis_whole (lcons (xvE 1) (lcons (un1 negD (xc (.int 1))) (lcons (xc (.int 23)) lnil)))))
def bis_move : En → Fl :=
  (sret (xandV (un1 (isiD "tuple") (xvV 0)) (xandV (bin eqD (un1 lenD (xvV 0)) (xc (.int 3))) (un1 allD (asL qis_move_1)))))
def fis_move : List D → R D := runD 2 bis_move
def bis_paper (Fis_answers : List D → R D) : En → Fl :=
  (sseq (sif (tor (xbl (bin ltD (xvV 2) (xc (.int 1)))) (tor (tnot (xtru (un1 (isiD "tuple") (xvV 3)))) (tor (xbl (bin neD (un1 lenD (xvV 3)) (xc (.int 2)))) (tnot (xtru (xcall 1 fis_move (lcons (bin ixD (xvV 3) (xc (.int 0))) lnil))))))) (sret (xc (.bool false))) snil)
  (sseq (sif (xbl (bin notInD (bin ixD (xvV 3) (xc (.int 0))) (xcall 2 fmoves (lcons (xvE 0) (lcons (xvE 1) lnil))))) (sret (xc (.bool false))) snil)
  (sret (xcall 4 Fis_answers (lcons (xvE 0) (lcons (xcall 2 fdone (lcons (xvE 1) (lcons (bin ixD (xvV 3) (xc (.int 0))) lnil))) (lcons (bin subD (xvE 2) (xc (.int 2))) (lcons (bin ixD (xvV 3) (xc (.int 1))) lnil))))))))
def lbis_answers_1 (Fis_paper : List D → R D) : En → Fl :=
  (sseq (sif (tor (tnot (xtru (un1 (isiD "tuple") (xvV 6)))) (tor (xbl (bin neD (un1 lenD (xvV 6)) (xc (.int 2)))) (tor (tnot (xtru (xcall 1 fis_move (lcons (bin ixD (xvV 6) (xc (.int 0))) lnil)))) (xbl (bin neD (bin ixD (xvV 6) (xc (.int 0))) (xvV 5)))))) (sret (xc (.bool false))) snil)
  (sif (tnot (xtru (xcall 4 Fis_paper (lcons (xvE 0) (lcons (xcall 2 fdone (lcons (xvE 1) (lcons (xvE 5) lnil))) (lcons (xvE 2) (lcons (bin ixD (xvV 6) (xc (.int 1))) lnil))))))) (sret (xc (.bool false))) snil))
def lis_answers_1 (Fis_paper : List D → R D) : En → Fl :=
  (sfor (izip (xvE 4) (xvE 3)) (gtup (gcons (gn 5) (gcons (gn 6) gnil))) (lbis_answers_1 Fis_paper))
def bis_answers (Fis_paper : List D → R D) : En → Fl :=
  (sseq (sif (tnot (xtru (un1 (isiD "tuple") (xvV 3)))) (sret (xc (.bool false))) snil)
  (sseq (sif (xbl (bin isNotD (xcall 2 fwinner (lcons (xvE 0) (lcons (xvE 1) lnil))) (xc .none))) (sret (bin eqD (xvV 3) (xtup lnil))) snil)
  (sseq (sasg 4 (xcall 2 fmoves (lcons (xvE 0) (lcons (xvE 1) lnil))))
  (sseq (sif (xbl (bin neD (un1 lenD (xvV 3)) (un1 lenD (xvV 4)))) (sret (xc (.bool false))) snil)
  (sseq (lis_answers_1 Fis_paper)
  (sret (xc (.bool true))))))))
mutual
def fis_paper : Nat → List D → R D
  | 0 => fun _ => .bad
  | n + 1 => runD 4 (bis_paper (fis_answers n))
def fis_answers : Nat → List D → R D
  | 0 => fun _ => .bad
  | n + 1 => runD 7 (bis_answers (fis_paper n))
end
end Pf
namespace Pf
open PySem L2 Pu
def q_law_can_1 : En → R (List D) :=
  (xlc [6] (iseq (xcall 2 f_law_moves (lcons (xvE 0) (lcons (xvE 4) lnil)))) (gn 6) tyes (xcall 2 f_law_after (lcons (xvE 4) (lcons (xvE 6) lnil))))
def q_law_can_2 (F_law_can : List D → R D) : En → R (List D) :=
  (xlc [6] (iseq (xvV 5)) (gn 6) tyes (xcall 3 F_law_can (lcons (xvE 0) (lcons (xvE 6) (lcons (bin subD (xvE 2) (xc (.int 2))) lnil)))))
def lb_law_can_1 (F_law_can : List D → R D) : En → Fl :=
  (sseq (sasg 4 (xcall 2 f_law_after (lcons (xvE 1) (lcons (xvE 3) lnil))))
  (sseq (sif (xbl (bin isNotD (xcall 2 f_law_winner (lcons (xvE 0) (lcons (xvE 4) lnil))) (xc .none))) (sret (xc (.bool true))) snil)
  (sseq (sasg 5 (asL q_law_can_1))
  (sif (tand (xbl (bin gtD (xvV 2) (xc (.int 2)))) (xtru (un1 allD (asL (q_law_can_2 F_law_can))))) (sret (xc (.bool true))) snil))))
def l_law_can_1 (F_law_can : List D → R D) : En → Fl :=
  (sfor (iseq (xcall 2 f_law_moves (lcons (xvE 0) (lcons (xvE 1) lnil)))) (gn 3) (lb_law_can_1 F_law_can))
def b_law_can (F_law_can : List D → R D) : En → Fl :=
  (sseq (sif (xbl (bin ltD (xvV 2) (xc (.int 1)))) (sret (xc (.bool false))) snil)
  (sseq (l_law_can_1 F_law_can)
  (sret (xc (.bool false)))))
def f_law_can : Nat → List D → R D
  | 0 => fun _ => .bad
  | n + 1 => runD 7 (b_law_can (f_law_can n))
def q_law_wins_1 : En → R (List D) :=
  (xlc [6] (iseq (bin ixD (xvV 3) (xc (.int 1)))) (gn 6) tyes (xandV (un1 (isiD "tuple") (xvV 6)) (bin eqD (un1 lenD (xvV 6)) (xc (.int 2)))))
def q_law_wins_2 : En → R (List D) :=
  (xlc [6] (iseq (bin ixD (xvV 3) (xc (.int 1)))) (gn 6) tyes (bin ixD (xvV 6) (xc (.int 0))))
def q_law_wins_3 (F_law_wins : List D → R D) : En → R (List D) :=
  (xlc [7, 6] (izip (xvV 5) (bin ixD (xvV 3) (xc (.int 1)))) (gtup (gcons (gn 7) (gcons (gn 6) gnil))) tyes (xcall 4 F_law_wins (lcons (xvE 0) (lcons (xcall 2 f_law_after (lcons (xvE 4) (lcons (xvE 7) lnil))) (lcons (bin subD (xvE 2) (xc (.int 2))) (lcons (bin ixD (xvV 6) (xc (.int 1))) lnil))))))
def b_law_wins (F_law_wins : List D → R D) : En → Fl :=
  (sseq (sif (tor (xbl (bin ltD (xvV 2) (xc (.int 1)))) (tor (tnot (xtru (un1 (isiD "tuple") (xvV 3)))) (tor (xbl (bin neD (un1 lenD (xvV 3)) (xc (.int 2)))) (xbl (bin notInD (bin ixD (xvV 3) (xc (.int 0))) (xcall 2 f_law_moves (lcons (xvE 0) (lcons (xvE 1) lnil)))))))) (sret (xc (.bool false))) snil)
  (sseq (sasg 4 (xcall 2 f_law_after (lcons (xvE 1) (lcons (bin ixD (xvV 3) (xc (.int 0))) lnil))))
  (sseq (sasg 5 (xcall 2 f_law_moves (lcons (xvE 0) (lcons (xvE 4) lnil))))
  (sseq (sif (xbl (bin isNotD (xcall 2 f_law_winner (lcons (xvE 0) (lcons (xvE 4) lnil))) (xc .none))) (sret (bin eqD (bin ixD (xvV 3) (xc (.int 1))) (xtup lnil))) snil)
  (sseq (sif (tor (tnot (xtru (un1 (isiD "tuple") (bin ixD (xvV 3) (xc (.int 1)))))) (xbl (bin neD (un1 lenD (bin ixD (xvV 3) (xc (.int 1)))) (un1 lenD (xvV 5))))) (sret (xc (.bool false))) snil)
  (sseq (sif (tnot (xtru (un1 allD (asL q_law_wins_1)))) (sret (xc (.bool false))) snil)
  (sseq (sif (xbl (bin neD (asL q_law_wins_2) (asL (un1N listN (xvV 5))))) (sret (xc (.bool false))) snil)
  (sret (un1 allD (asL (q_law_wins_3 F_law_wins)))))))))))
def f_law_wins : Nat → List D → R D
  | 0 => fun _ => .bad
  | n + 1 => runD 8 (b_law_wins (f_law_wins n))
end Pf
namespace M11
open PySem L2 Pu Pf
def b_law_spoilt : En → Fl :=
  (sseq (sasgT (gtup (gcons (gn 4) (gcons (gn 5) gnil))) (xvE 2))
  (sseq (sasgN 6 (xlst (lcons (xc .none) (lcons (xtup lnil) (lcons (xtup (lcons (xvE 4) lnil)) (lcons (xtup (lcons (xvE 4) (lcons (xvE 5) (lcons (xc (.int 0)) lnil)))) lnil))))))
  (sseq (sasgN 6 (binN addN (xvV 6) (asL (xlst (lcons (asL (xlst (lcons (xvE 4) (lcons (xvE 5) lnil)))) (lcons (xtup (lcons (asL (un1N listN (xvV 4))) (lcons (xvE 5) lnil))) (lcons (xtup (lcons (xvE 4) (lcons (asL (un1N listN (xvV 5))) lnil))) (lcons (xtup (lcons (xvE 5) (lcons (xvE 4) lnil))) lnil))))))))
  (sseq (sasg 7 (xcall 2 f_law_moves (lcons (xvE 0) (lcons (xvE 1) lnil))))
  (sseq (sasgN 6 (binN addN (xvV 6) (asL (xlst (lcons (xtup (lcons (bin ixD (xvV 7) (xcall 3 f_law_mix (lcons (xvE 3) (lcons (xc (.int 9767)) (lcons (un1 lenD (xvV 7)) lnil))))) (lcons (xvE 5) lnil))) (lcons (xtup (lcons (xvE 4) (lcons (xc .none) lnil))) (lcons (xtup (lcons (xvE 4) (lcons (bin addD (xvE 5) (xtup (lcons (xc (.int 0)) lnil))) lnil))) lnil)))))))
  (sseq (sasgN 6 (binN addN (xvV 6) (asL (xlst (lcons (xtup (lcons (xc .none) (lcons (xvE 5) lnil))) (lcons (xc (.int 5)) lnil))))))
  (sseq (sasgN 6 (binN addN (xvV 6) (asL (xlst (lcons (xtup (lcons (xtup (lcons (bin ixD (xvV 4) (xc (.int 0))) (lcons (bin ixD (xvV 4) (xc (.int 1))) (lcons (bin subD (bin ixD (xvV 4) (xc (.int 2))) (xc (.int 1))) lnil)))) (lcons (xvE 5) lnil))) (lcons (xtup (lcons (xtup (lcons (bin ixD (xvV 4) (xc (.int 0))) (lcons (xc (.bool true)) (lcons (bin ixD (xvV 4) (xc (.int 2))) lnil)))) (lcons (xvE 5) lnil))) lnil))))))
  (sseq (sasgN 6 (binN addN (xvV 6) (asL (xlst (lcons (xtup (lcons (xvE 4) (lcons (xtup (lcons (xtup (lcons (xtup (lcons (xc (.int 0)) (lcons (xc (.int 0)) (lcons (xc (.int 0)) lnil)))) (lcons (xtup lnil) lnil))) lnil)) lnil))) lnil)))))
  (sseq (sif (xtru (xvV 5)) (sseq (sasg 8 (xcall 3 f_law_mix (lcons (xvE 3) (lcons (xc (.int 9749)) (lcons (un1 lenD (xvV 5)) lnil)))))
  (sseq (sasgN 6 (binN addN (xvV 6) (asL (xlst (lcons (xtup (lcons (xvE 4) (lcons (xtup lnil) lnil))) (lcons (xtup (lcons (xvE 4) (lcons (xsl (xvV 5) (osome (xc (.int 1))) onone) lnil))) lnil))))))
  (sseq (sasgN 6 (binN addN (xvV 6) (asL (xlst (lcons (xtup (lcons (xvE 4) (lcons (bin addD (xsl (xvV 5) onone (osome (xvE 8))) (xsl (xvV 5) (osome (bin addD (xvE 8) (xc (.int 1)))) onone)) lnil))) (lcons (xtup (lcons (xvE 4) (lcons (un1 revD (xvV 5)) lnil))) lnil))))))
  (sseq (sasgN 6 (binN addN (xvV 6) (asL (xlst (lcons (xtup (lcons (xvE 4) (lcons (bin addD (xsl (xvV 5) onone (osome (bin addD (xvE 8) (xc (.int 1))))) (xsl (xvV 5) (osome (xvE 8)) onone)) lnil))) lnil)))))
  (sseq (sasgN 6 (binN addN (xvV 6) (asL (xlst (lcons (xtup (lcons (xvE 4) (lcons (bin addD (bin addD (xsl (xvV 5) onone (osome (xvE 8))) (xtup (lcons (xtup (lcons (bin ixD (bin ixD (xvV 5) (xvV 8)) (xc (.int 0))) (lcons (xc .none) lnil))) lnil))) (xsl (xvV 5) (osome (bin addD (xvE 8) (xc (.int 1)))) onone)) lnil))) lnil)))))
  (sseq (sapp 6 (xtup (lcons (xvE 4) (lcons (bin addD (bin addD (xsl (xvV 5) onone (osome (xvE 8))) (xtup (lcons (asL (un1N listN (bin ixD (xvV 5) (xvV 8)))) lnil))) (xsl (xvV 5) (osome (bin addD (xvE 8) (xc (.int 1)))) onone)) lnil))))
  (sapp 6 (xtup (lcons (xvE 4) (lcons (bin addD (bin addD (xsl (xvV 5) onone (osome (xvE 8))) (xtup (lcons (bin addD (bin ixD (xvV 5) (xvV 8)) (xtup (lcons (xc (.int 0)) lnil))) lnil))) (xsl (xvV 5) (osome (bin addD (xvE 8) (xc (.int 1)))) onone)) lnil)))))))))) snil)
  (sret (xvE 6)))))))))))
def f_law_spoilt : List D → R D := runD 9 b_law_spoilt
def q_law_is_plain_1 (F_law_is_plain : List D → R D) : En → R (List D) :=
  (xlc [1] (iseq (xvV 0)) (gn 1) tyes (xcall 1 F_law_is_plain (lcons (xvE 1) lnil)))
def b_law_is_plain (F_law_is_plain : List D → R D) : En → Fl :=
  (sseq (sif (xtru (un1 (isiD "tuple") (xvV 0))) (sret (un1 allD (asL (q_law_is_plain_1 F_law_is_plain)))) snil)
  (sret (xandV (un1 (isiD "int") (xvV 0)) (xnot (un1 (isiD "bool") (xvV 0))))))
def f_law_is_plain : Nat → List D → R D
  | 0 => fun _ => .bad
  | n + 1 => runD 2 (b_law_is_plain (f_law_is_plain n))
def qlaw_1 : En → R (List D) :=
  (xlc [14] (iseq (xsl (xcall 2 f_law_moves (lcons (xvE 3) (lcons (xvE 4) lnil))) onone (osome (xc (.int 5))))) (gn 14) tyes (xtup (lcons (xvE 14) (lcons (xtup lnil) lnil))))
def lblaw_1 : En → Fl :=
  (sseq (sasg 12 (xandV (xcall 1 (f_law_is_plain 12) (lcons (xvE 9) lnil)) (xcall 4 (f_law_wins 8) (lcons (xvE 3) (lcons (xvE 10) (lcons (xvE 11) (lcons (xvE 9) lnil)))))))
  (sseq (sasg 13 (xcall 4 (fis_paper 8) (lcons (xvE 3) (lcons (xvE 10) (lcons (xvE 11) (lcons (xvE 9) lnil))))))
  (sif (tor (tand (xbl (bin isNotD (xvV 13) (xc (.bool true)))) (xtru (xvV 12))) (tand (xbl (bin isNotD (xvV 13) (xc (.bool false)))) (tnot (xtru (xvV 12))))) (sret (xc (.bool false))) snil)))
def llaw_1 : En → Fl :=
  (sfor (iseq (xtup (lcons (xtup (lcons (xvE 4) (lcons (xvE 6) lnil))) (lcons (xtup (lcons (xvE 4) (lcons (bin subD (xvE 6) (xc (.int 1))) lnil))) (lcons (xtup (lcons (xvE 4) (lcons (bin addD (xvE 6) (xc (.int 1))) lnil))) (lcons (xtup (lcons (xvE 5) (lcons (xvE 6) lnil))) lnil)))))) (gtup (gcons (gn 10) (gcons (gn 11) gnil))) lblaw_1)
def lblaw_2 : En → Fl :=
  llaw_1
def llaw_2 : En → Fl :=
  (sfor (iseq (xvE 8)) (gn 9) lblaw_2)
def lblaw_3 : En → Fl :=
  (sseq (sasg 7 (xcall 3 (fforced 8) (lcons (xvE 3) (lcons (xvE 4) (lcons (xvE 6) lnil)))))
  (sseq (sasg 8 (bin addD (asL (xlst (lcons (xc .none) (lcons (xtup lnil) (lcons (xc (.int 0)) (lcons (xtup (lcons (xtup (lcons (un1 negD (xc (.int 1))) (lcons (xc (.int 0)) (lcons (un1 negD (xc (.int 1))) lnil)))) (lcons (xtup lnil) lnil))) lnil)))))) (asL qlaw_1)))
  (sseq (sif (xbl (bin isNotD (xvV 7) (xc .none))) (sasg 8 (bin addD (bin addD (xvE 8) (asL (xlst (lcons (xvE 7) lnil)))) (xcall 4 f_law_spoilt (lcons (xvE 3) (lcons (xvE 4) (lcons (xvE 7) (lcons (bin addD (xcall 2 f_law_cell (lcons (xvE 0) (lcons (xc (.int 6)) lnil))) (xvE 1)) lnil))))))) snil)
  llaw_2)))
def llaw_3 : En → Fl :=
  (sfor (iseq (xtup (lcons (xc (.int 1)) (lcons (xc (.int 3)) lnil)))) (gn 6) lblaw_3)
def lblaw_4 : En → Fl :=
  (sseq (sasg 2 (bin addD (xcall 2 f_law_cell (lcons (xvE 0) (lcons (xvE 1) lnil))) (bin mulD (xc (.int 3)) (xvE 1))))
  (sseq (sasg 3 (xcall 0 f_law_grid_board lnil))
  (sseq (sif (xbl (bin eqD (bin modD (xvE 2) (xc (.int 2))) (xc (.int 0)))) (sasg 3 (xcall 2 f_law_drawn_board (lcons (xvE 2) (lcons (xc (.int 8)) lnil)))) snil)
  (sseq (sasg 4 (xcall 2 f_law_near (lcons (xvE 3) (lcons (bin addD (xcall 2 f_law_cell (lcons (xvE 0) (lcons (xc (.int 4)) lnil))) (bin mulD (xc (.int 5)) (xvE 1))) lnil))))
  (sseq (sif (xbl (bin eqD (xvV 1) (xc (.int 4)))) (sasgT (gtup (gcons (gn 3) (gcons (gn 4) gnil))) (xtup (lcons (xtup (lcons (xc (.int 9)) (lcons (xtup lnil) (lcons (xtup (lcons (xtup (lcons (xc (.int 0)) (lcons (xc (.int 1)) (lcons (xc (.int 2)) lnil)))) (lcons (xtup (lcons (xc (.int 0)) (lcons (xc (.int 3)) (lcons (xc (.int 4)) lnil)))) lnil))) lnil)))) (lcons (xtup (lcons (xtup (lcons (xc .none) (lcons (xc (.int 0)) (lcons (xc .none) (lcons (xc (.int 0)) (lcons (xc .none) (lcons (xc (.int 1)) (lcons (xc (.int 1)) (lcons (xc (.int 1)) (lcons (xc (.int 0)) lnil)))))))))) (lcons (xtup (lcons (xc (.int 0)) (lcons (xc (.int 0)) lnil))) (lcons (xc (.int 0)) lnil)))) lnil)))) snil)
  (sseq (sasg 5 (xcall 2 f_law_near (lcons (xvE 3) (lcons (bin addD (xcall 2 f_law_cell (lcons (xvE 0) (lcons (xc (.int 5)) lnil))) (bin mulD (xc (.int 7)) (xvE 1))) lnil))))
  llaw_3))))))
def llaw_4 : En → Fl :=
  (sfor (irng1 (xc (.int 5))) (gn 1) lblaw_4)
def blaw : En → Fl :=
  (sseq llaw_4
  (sret (xc (.bool true))))
def flaw : List D → R D := runD 15 blaw
end M11
/-! Bo: boards and stands as the laws draw them -/
namespace Pf
open PySem L2 Pu
structure Bd where
  n : Int
  ties : List (Int × Int)
  rows : List (Int × Int × Int)
def f2 (p : Int × Int) : List Int := [p.1, p.2]
def f3 (p : Int × Int × Int) : List Int := [p.1, p.2.1, p.2.2]
def e2 (p : Int × Int) : D := tJ (f2 p)
def e3 (p : Int × Int × Int) : D := tJ (f3 p)
def encB (b : Bd) : D := .tuple [.int b.n, .tuple (b.ties.map e2), .tuple (b.rows.map e3)]
structure Bd.Ok (b : Bd) : Prop where
  lo : 3 ≤ b.n
  hi : b.n ≤ 24
  ties : b.ties.Pairwise fun p q => lexLe (f2 p) (f2 q) = true ∧ p ≠ q
  tie : ∀ p ∈ b.ties, 0 ≤ p.1 ∧ p.1 < p.2 ∧ p.2 < b.n
  rows : b.rows.Pairwise fun p q => lexLe (f3 p) (f3 q) = true ∧ p ≠ q
  row : ∀ p ∈ b.rows, 0 ≤ p.1 ∧ p.1 < p.2.1 ∧ p.2.1 < p.2.2 ∧ p.2.2 < b.n
  nt : b.ties.length ≤ 200
  nr : b.rows.length ≤ 1000
theorem f2_inj (p q : Int × Int) (h : f2 p = f2 q) : p = q := by
  unfold f2 at h
  simp only [List.cons.injEq, and_true] at h
  exact Prod.ext h.1 h.2
theorem f3_inj (p q : Int × Int × Int) (h : f3 p = f3 q) : p = q := by
  unfold f3 at h
  simp only [List.cons.injEq, and_true] at h
  exact Prod.ext h.1 (Prod.ext h.2.1 h.2.2)
theorem tJ_inj (s t : List Int) (h : tJ s = tJ t) : s = t := by
  have h1 := nk_tJ s
  rw [h, nk_tJ t] at h1
  exact keyI_inj (Option.some.inj h1).symm
theorem plAll_ints : ∀ t : List Int, plAll (t.map PyData.int) = true
  | [] => by simp [plAll]
  | x :: t => by simp [plAll, plD, plAll_ints t]
theorem tJ_pl (t : List Int) : plD (tJ t) = true := by
  unfold tJ
  simp only [plD]
  exact plAll_ints t
theorem tJ_shp (t : List Int) : shp 1 (tJ t) := shp_tup fun d hd => by obtain ⟨x, _, rfl⟩ := List.mem_map.mp hd; exact shp_int x
/-! ### the known boards -/
def ringB1 : Bd := ⟨8, [(0, 1), (0, 7), (1, 2), (2, 3), (3, 4), (4, 5), (5, 6), (6, 7)], [(0, 1, 2), (0, 6, 7), (2, 3, 4), (4, 5, 6)]⟩
def ringB2 : Bd := ⟨16, [(0, 1), (0, 7), (1, 2), (1, 9), (2, 3), (3, 4), (3, 11), (4, 5), (5, 6), (5, 13), (6, 7), (7, 15), (8, 9), (8, 15), (9, 10), (10, 11), (11, 12), (12, 13), (13, 14), (14, 15)], [(0, 1, 2), (0, 6, 7), (2, 3, 4), (4, 5, 6), (8, 9, 10), (8, 14, 15), (10, 11, 12), (12, 13, 14)]⟩
def ringB3 : Bd := ⟨24, [(0, 1), (0, 7), (1, 2), (1, 9), (2, 3), (3, 4), (3, 11), (4, 5), (5, 6), (5, 13), (6, 7), (7, 15), (8, 9), (8, 15), (9, 10), (9, 17), (10, 11), (11, 12), (11, 19), (12, 13), (13, 14), (13, 21), (14, 15), (15, 23), (16, 17), (16, 23), (17, 18), (18, 19), (19, 20), (20, 21), (21, 22), (22, 23)], [(0, 1, 2), (0, 6, 7), (1, 9, 17), (2, 3, 4), (3, 11, 19), (4, 5, 6), (5, 13, 21), (7, 15, 23), (8, 9, 10), (8, 14, 15), (10, 11, 12), (12, 13, 14), (16, 17, 18), (16, 22, 23), (18, 19, 20), (20, 21, 22)]⟩
def gridB : Bd := ⟨9, [(0, 1), (0, 3), (1, 2), (1, 4), (2, 5), (3, 4), (3, 6), (4, 5), (4, 7), (5, 8), (6, 7), (7, 8)], [(0, 1, 2), (0, 3, 6), (1, 4, 7), (2, 5, 8), (3, 4, 5), (6, 7, 8)]⟩
theorem grid_ev : f_law_grid_board [] = .ok (encB gridB) := by kernel_rfl
theorem ring1_ev : f_law_ring_board [.int 1] = .ok (encB ringB1) := by
  delta f_law_ring_board b_law_ring_board l_law_ring_board_1 lb_law_ring_board_1 q_law_ring_board_2 q_law_ring_board_3
  rw [sortN_eq]
  kernel_rfl
theorem ring2_ev : f_law_ring_board [.int 2] = .ok (encB ringB2) := by
  delta f_law_ring_board b_law_ring_board l_law_ring_board_1 lb_law_ring_board_1 q_law_ring_board_2 q_law_ring_board_3
  rw [sortN_eq]
  kernel_rfl
theorem ring3_ev : f_law_ring_board [.int 3] = .ok (encB ringB3) := by
  delta f_law_ring_board b_law_ring_board l_law_ring_board_1 lb_law_ring_board_1 q_law_ring_board_2 q_law_ring_board_3
  rw [sortN_eq]
  kernel_rfl
theorem grid_ok : gridB.Ok := ⟨by decide, by decide, by decide, by decide, by decide, by decide, by decide, by decide⟩
theorem ring1_ok : ringB1.Ok := ⟨by decide, by decide, by decide, by decide, by decide, by decide, by decide, by decide⟩
theorem ring2_ok : ringB2.Ok := ⟨by decide, by decide, by decide, by decide, by decide, by decide, by decide, by decide⟩
theorem ring3_ok : ringB3.Ok := ⟨by decide, by decide, by decide, by decide, by decide, by decide, by decide, by decide⟩
/-! ### mix, cell -/
def mixI (c p m : Int) : Int := (c * 48271 % p) * (c * 48271 % p + 7) % p % m
theorem mix_ev {c p m : Int} (hp : 0 < p) (hp2 : p < 1000000000) (hm : 0 < m) : f_law_mix [.int c, .int p, .int m] = .ok (.int (mixI c p m)) := by
  have h0 := Int.emod_nonneg (c * 48271) (show p ≠ 0 by omega)
  have h1 := Int.emod_lt_of_pos (c * 48271) hp
  have e1 : mulD (.int c) (.int 48271) = some (.int (c * 48271)) := mul_ii (.inr (by decide))
  have e2 : mulD (.int (c * 48271 % p)) (.int (c * 48271 % p + 7)) = some (.int ((c * 48271 % p) * (c * 48271 % p + 7))) := mul_ii (.inl (small_le (by omega) (by omega)))
  apply runD_rt
  simp [b_law_mix, startE, e1, e2, mod_ii hp, mod_ii hm, mixI]
theorem mix_lo {c p m : Int} (hm : 0 < m) : 0 ≤ mixI c p m := Int.emod_nonneg _ (by omega)
theorem mix_hi {c p m : Int} (hm : 0 < m) : mixI c p m < m := Int.emod_lt_of_pos _ hm
def cellI (ns : List Int) (k : Int) : Int := if k < ns.length then ns.getD k.toNat 0 else 0
theorem cell_ev {ns : List Int} {k : Int} (hk0 : 0 ≤ k) : f_law_cell [scrD ns, .int k] = .ok (.int (cellI ns k)) := by
  have e1 : lenD (scrD ns) = some (.int ns.length) := by
    show ((scrOf [(.none, .list (ns.map PyData.int))]).map fun ns => PyData.int ns.length) = _
    rw [scrOf_map]
    rfl
  obtain ⟨j, rfl⟩ : ∃ j : Nat, k = j := ⟨k.toNat, by omega⟩
  apply runD_rt
  by_cases h : (j : Int) < ns.length
  · have hj : j < ns.length := by omega
    have e2 : ixD (scrD ns) (.int j) = some (.int (ns.getD (j : Int).toNat 0)) := by
      show ((scrOf [(.none, .list (ns.map PyData.int))]).bind fun ns => (atI ns j).map PyData.int) = _
      rw [scrOf_map]
      show (atI ns j).map PyData.int = _
      rw [atI_n, List.getD_eq_getElem?_getD, Int.toNat_natCast, List.getElem?_eq_getElem hj]
      rfl
    simp [b_law_cell, startE, e1, e2, h, cellI]
  · simp [b_law_cell, startE, e1, h, cellI]
end Pf
/-! Bo2: drawn boards -/
namespace Pf
open PySem L2 Pu
theorem f2_key (p q : Int × Int) (h : keyI (f2 p) = keyI (f2 q)) : p = q := f2_inj p q (keyI_inj h)
theorem f3_key (p q : Int × Int × Int) (h : keyI (f3 p) = keyI (f3 q)) : p = q := f3_inj p q (keyI_inj h)
section
variable {c most m : Int}
def D1 (c most m : Int) (n : Nat) (e : En) : Prop := ∃ (ks : List (Int × Int)) (s4 s5 s6 : Sl), e = [.dat (.int c), .dat (.int most), .dat (.int m), .dic (tDict e2 ks), s4, s5, s6, .un, .un, .un] ∧ ks.Nodup ∧ (∀ p ∈ ks, 0 ≤ p.1 ∧ p.1 < p.2 ∧ p.2 < m) ∧ ks.length ≤ n
theorem lb1_ev (hm : 0 < m) (hm2 : m ≤ 24) {n : Nat} (hn : n ≤ 1000) {k : Int} (hk : 0 ≤ k) (hk2 : k ≤ 1000) {e : En} (h : D1 c most m n e) : ∃ e1 e2, gn 4 (.int k) e = some e1 ∧ (lb_law_drawn_board_1 e1 = .nx e2 ∨ lb_law_drawn_board_1 e1 = .ct e2) ∧ D1 c most m (n + 1) e2 := by
  obtain ⟨ks, s4, s5, s6, rfl, nd, ok, hl⟩ := h
  have m7 : mulD (.int 7) (.int k) = some (.int (7 * k)) := mul_ii (.inl (by decide))
  have m11 : mulD (.int 11) (.int k) = some (.int (11 * k)) := mul_ii (.inl (by decide))
  have x1 := mix_ev (c := c + 7 * k) (p := 9949) (m := m) (by decide) (by decide) hm
  have x2 := mix_ev (c := c + 11 * k) (p := 9941) (m := m) (by decide) (by decide) hm
  have a1 := mix_lo (c := c + 7 * k) (p := 9949) hm
  have a2 := mix_hi (c := c + 7 * k) (p := 9949) hm
  have b1 := mix_lo (c := c + 11 * k) (p := 9941) hm
  have b2 := mix_hi (c := c + 11 * k) (p := 9941) hm
  generalize mixI (c + 7 * k) 9949 m = x at x1 a1 a2
  generalize mixI (c + 11 * k) 9941 m = y at x2 b1 b2
  by_cases hxy : x = y
  · refine ⟨_, _, rfl, .inl (?_ : _ = Fl.nx [.dat (.int c), .dat (.int most), .dat (.int m), .dic (tDict e2 ks), .dat (.int k), .dat (.int x), .dat (.int y), .un, .un, .un]), ks, _, _, _, rfl, nd, ok, by omega⟩
    simp [lb_law_drawn_board_1, m7, m11, x1, x2, hxy]
  · have hp : keyD (tJ [min x y, max x y]) = some (keyI [min x y, max x y]) := keyD_tJ _
    refine ⟨_, _, rfl, .inl (?_ : _ = Fl.nx [.dat (.int c), .dat (.int most), .dat (.int m), .dic (tDict e2 (addK ks (min x y, max x y))), .dat (.int k), .dat (.int x), .dat (.int y), .un, .un, .un]), addK ks (min x y, max x y), _, _, _, rfl, addK_nodup nd, fun p hp => ?_, ?_⟩
    · have hd : dput (tDict e2 ks) (keyI [min x y, max x y]) (tJ [min x y, max x y]) (.bool true) = tDict e2 (addK ks (min x y, max x y)) := dput_t (enc := e2) (key := fun p => keyI (f2 p)) (fun a => nk_tJ _) f2_key ks (min x y, max x y)
      simp [lb_law_drawn_board_1, m7, m11, x1, x2, hxy]
      rw [sdput_ev (v := .bool true) (x := tJ [min x y, max x y]) (kvs := tDict e2 ks) (k := keyI [min x y, max x y]) rfl rfl (by simp [tJ]) hp (by unfold tDict; rw [List.length_map]; omega), hd]
      rfl
    · rcases addK_mem.mp hp with hp | rfl
      · exact ok p hp
      · simp only; omega
    · have := addK_len (ks := ks) (a := (min x y, max x y)); omega
theorem l1_ev (hm : 0 < m) (hm2 : m ≤ 24) : ∃ e', l_law_drawn_board_1 [.dat (.int c), .dat (.int most), .dat (.int m), .dic [], .un, .un, .un, .un, .un, .un] = .nx e' ∧ D1 c most m 100 e' := by
  have x1 := mix_ev (c := c) (p := 9967) (m := 2 * m) (by decide) (by decide) (by omega)
  have a1 := mix_lo (c := c) (p := 9967) (m := 2 * m) (by omega)
  have a2 := mix_hi (c := c) (p := 9967) (m := 2 * m) (by omega)
  generalize mixI c 9967 (2 * m) = n at x1 a1 a2
  have m2 : mulD (.int 2) (.int m) = some (.int (2 * m)) := mul_ii (.inl (by decide))
  obtain ⟨e', h1, h2⟩ := forL_inv (enc := PyData.int) (f := gn 4) (B := lb_law_drawn_board_1) (fun p e => D1 c most m p.length e) (upto n.toNat) [] [.dat (.int c), .dat (.int most), .dat (.int m), .dic [], .un, .un, .un, .un, .un, .un]
    ⟨[], _, _, _, rfl, List.nodup_nil, (fun p hp => nomatch hp), Nat.le_refl _⟩ fun p x r e q h => by
      rw [List.nil_append] at q
      have hl : (upto n.toNat).length = p.length + (r.length + 1) := by rw [q, List.length_append, List.length_cons]
      rw [upto_length] at hl
      have hx : x ∈ upto n.toNat := by rw [q]; simp
      rw [upto_mem] at hx
      obtain ⟨e1, e2, h1, h2, h3⟩ := lb1_ev hm hm2 (n := p.length) (by omega) (k := x) hx.1 (by omega) h
      exact ⟨e1, e2, h1, h2, by rw [List.length_append]; exact h3⟩
  refine ⟨e', sfor_nx (ds := (upto n.toNat).map PyData.int) ?_ h1, ?_⟩
  · simp [m2, x1, rng1_ev (j := n) (by omega) (by omega)]
  · obtain ⟨ks, s4, s5, s6, q1, q2, q3, q4⟩ := h2
    refine ⟨ks, s4, s5, s6, q1, q2, q3, ?_⟩
    rw [List.nil_append, upto_length] at q4
    omega
def D2 (c most m : Int) (ks : List (Int × Int)) (n : Nat) (e : En) : Prop := ∃ (rs : List (Int × Int × Int)) (s4 s5 s6 s8 : Sl), e = [.dat (.int c), .dat (.int most), .dat (.int m), .dic (tDict e2 ks), s4, s5, s6, .dic (tDict e3 rs), s8, .un] ∧ rs.Nodup ∧ (∀ p ∈ rs, 0 ≤ p.1 ∧ p.1 < p.2.1 ∧ p.2.1 < p.2.2 ∧ p.2.2 < m) ∧ rs.length ≤ n
theorem q1_ev (hm : 0 < m) {k : Int} {d3 s5 s6 s7 s8 : Sl} : q_law_drawn_board_1 [.dat (.int c), .dat (.int most), .dat (.int m), d3, .dat (.int k), s5, s6, s7, s8, .un] = .ok (((upto 3).map fun j => mixI (c + 13 * k + j) 9929 m).map PyData.int) := by
  have m13 : mulD (.int 13) (.int k) = some (.int (13 * k)) := mul_ii (.inl (by decide))
  unfold q_law_drawn_board_1
  rw [xlc_all (enc := PyData.int) (xs := upto 3) (fun j => .int (mixI (c + 13 * k + j) 9929 m)) (by simp [rng1_ev (j := 3) (by omega) (by omega)]) (by decide) fun x hx => ?_]
  · rw [List.map_map]; rfl
  · refine ⟨_, rfl, rfl, ?_⟩
    simp [wipeE, m13, mix_ev (c := c + 13 * k + x) (p := 9929) (m := m) (by decide) (by decide) hm]
theorem sortSet_ev {ns : List Int} (h : ns.length < 60) : sortSetN (.list (ns.map PyData.int)) = some ((ssort ns).map PyData.int) := by
  show ((intsOf (ns.map PyData.int)).bind fun ns => if ns.length < 60 then some ((ssort ns).map PyData.int) else none) = _
  rw [intsOf_map]
  show (if ns.length < 60 then _ else _) = _
  rw [if_pos h]
theorem lb2_ev (hm : 0 < m) (hm2 : m ≤ 24) {ks : List (Int × Int)} {n : Nat} (hn : n ≤ 1000) {k : Int} {e : En} (h : D2 c most m ks n e) : ∃ e1 e2, gn 4 (.int k) e = some e1 ∧ (lb_law_drawn_board_2 e1 = .nx e2 ∨ lb_law_drawn_board_2 e1 = .ct e2) ∧ D2 c most m ks (n + 1) e2 := by
  obtain ⟨rs, s4, s5, s6, s8, rfl, nd, ok, hl⟩ := h
  have hq := q1_ev (c := c) (most := most) (m := m) (k := k) (d3 := .dic (tDict e2 ks)) (s5 := s5) (s6 := s6) (s7 := .dic (tDict e3 rs)) (s8 := s8) hm
  have hmem : ∀ x ∈ (upto 3).map fun j => mixI (c + 13 * k + j) 9929 m, 0 ≤ x ∧ x < m := fun x hx => by
    obtain ⟨j, _, rfl⟩ := List.mem_map.mp hx
    exact ⟨mix_lo hm, mix_hi hm⟩
  have hlen : ((upto 3).map fun j => mixI (c + 13 * k + j) 9929 m).length < 60 := by rw [List.length_map, upto_length]; decide
  generalize (upto 3).map (fun j => mixI (c + 13 * k + j) 9929 m) = ns at hq hmem hlen
  have hs := sortSet_ev hlen
  by_cases h3 : (ssort ns).length = 3
  · obtain ⟨x, y, z, hz⟩ : ∃ x y z, ssort ns = [x, y, z] := by
      match ssort ns, h3 with
      | [x, y, z], _ => exact ⟨x, y, z, rfl⟩
    have hlt := ssort_lt ns
    rw [hz] at hlt hs
    simp only [List.pairwise_cons, List.mem_cons, List.not_mem_nil, or_false, forall_eq_or_imp, forall_eq] at hlt
    have hx := hmem x ((ssort_mem ns x).mp (by rw [hz]; simp))
    have hzz := hmem z ((ssort_mem ns z).mp (by rw [hz]; simp))
    have hd : dput (tDict e3 rs) (keyI [x, y, z]) (tJ [x, y, z]) (.bool true) = tDict e3 (addK rs (x, y, z)) := dput_t (enc := e3) (key := fun p => keyI (f3 p)) (fun a => nk_tJ _) f3_key rs (x, y, z)
    refine ⟨_, _, rfl, .inl (?_ : _ = Fl.nx [.dat (.int c), .dat (.int most), .dat (.int m), .dic (tDict e2 ks), .dat (.int k), s5, s6, .dic (tDict e3 (addK rs (x, y, z))), .dat (.list [.int x, .int y, .int z]), .un]), addK rs (x, y, z), _, _, _, _, rfl, addK_nodup nd, fun p hp => ?_, ?_⟩
    · simp [lb_law_drawn_board_2, hq, hs]
      rw [sdput_ev (v := .bool true) (x := tJ [x, y, z]) (kvs := tDict e3 rs) (k := keyI [x, y, z]) rfl rfl (by simp [tJ]) (keyD_tJ _) (by unfold tDict; rw [List.length_map]; omega), hd]
      rfl
    · rcases addK_mem.mp hp with hp | rfl
      · exact ok p hp
      · simp only; omega
    · have := addK_len (ks := rs) (a := (x, y, z)); omega
  · refine ⟨_, _, rfl, .inl (?_ : _ = Fl.nx [.dat (.int c), .dat (.int most), .dat (.int m), .dic (tDict e2 ks), .dat (.int k), s5, s6, .dic (tDict e3 rs), .dat (.list ((ssort ns).map PyData.int)), .un]), rs, _, _, _, _, rfl, nd, ok, by omega⟩
    have h3' : ¬ ((ssort ns).length : Int) = 3 := by omega
    simp [lb_law_drawn_board_2, hq, hs, h3']
theorem l2_ev (hm : 0 < m) (hm2 : m ≤ 24) {ks : List (Int × Int)} {s4 s5 s6 : Sl} : ∃ e', l_law_drawn_board_2 [.dat (.int c), .dat (.int most), .dat (.int m), .dic (tDict e2 ks), s4, s5, s6, .dic [], .un, .un] = .nx e' ∧ D2 c most m ks 1000 e' := by
  have x1 := mix_ev (c := c) (p := 9931) (m := 6) (by decide) (by decide) (by omega)
  have a1 := mix_lo (c := c) (p := 9931) (m := 6) (by omega)
  have a2 := mix_hi (c := c) (p := 9931) (m := 6) (by omega)
  generalize mixI c 9931 6 = n at x1 a1 a2
  obtain ⟨e', h1, h2⟩ := forL_inv (enc := PyData.int) (f := gn 4) (B := lb_law_drawn_board_2) (fun p e => D2 c most m ks p.length e) (upto n.toNat) [] [.dat (.int c), .dat (.int most), .dat (.int m), .dic (tDict e2 ks), s4, s5, s6, .dic [], .un, .un]
    ⟨[], _, _, _, _, rfl, List.nodup_nil, (fun p hp => nomatch hp), Nat.le_refl _⟩ fun p x r e q h => by
      rw [List.nil_append] at q
      have hl : (upto n.toNat).length = p.length + (r.length + 1) := by rw [q, List.length_append, List.length_cons]
      rw [upto_length] at hl
      obtain ⟨e1, e2, h1, h2, h3⟩ := lb2_ev hm hm2 (n := p.length) (by omega) (k := x) h
      exact ⟨e1, e2, h1, h2, by rw [List.length_append]; exact h3⟩
  refine ⟨e', sfor_nx (ds := (upto n.toNat).map PyData.int) ?_ h1, ?_⟩
  · simp [x1, rng1_ev (j := n) (by omega) (by omega)]
  · obtain ⟨rs, s4, s5, s6, s8, q1, q2, q3, q4⟩ := h2
    refine ⟨rs, s4, s5, s6, s8, q1, q2, q3, ?_⟩
    rw [List.nil_append, upto_length] at q4
    omega
theorem sortT_strict {α : Type} {f : α → List Int} (inj : ∀ a b, f a = f b → a = b) {xs : List α} (nd : xs.Nodup) : (sortT f xs).Pairwise fun p q => lexLe (f p) (f q) = true ∧ p ≠ q := by
  have h1 := (goodLex.on f inj).sorted xs
  have h2 : (sortT f xs).Pairwise (· ≠ ·) := (sortT_perm f xs).nodup_iff.mpr nd
  exact h1.and h2
theorem drawn_ev (h5 : 5 ≤ most) (h24 : most ≤ 24) : ∃ b : Bd, b.Ok ∧ 5 ≤ b.n ∧ b.n ≤ most ∧ f_law_drawn_board [.int c, .int most] = .ok (encB b) := by
  have x1 := mix_ev (c := c) (p := 9973) (m := most - 4) (by decide) (by decide) (by omega)
  have a1 := mix_lo (c := c) (p := 9973) (m := most - 4) (by omega)
  have a2 := mix_hi (c := c) (p := 9973) (m := most - 4) (by omega)
  generalize mixI c 9973 (most - 4) = n at x1 a1 a2
  obtain ⟨e1, p1, ks, s4, s5, s6, rfl, nd, ok, hl⟩ := l1_ev (c := c) (most := most) (m := 5 + n) (by omega) (by omega)
  obtain ⟨e2', p2, rs, t4, t5, t6, t8, rfl, nd2, ok2, hl2⟩ := l2_ev (c := c) (most := most) (m := 5 + n) (ks := ks) (s4 := s4) (s5 := s5) (s6 := s6) (by omega) (by omega)
  refine ⟨⟨5 + n, sortT f2 ks, sortT f3 rs⟩, ⟨by simp only; omega, by simp only; omega, sortT_strict f2_inj nd, fun p hp => ok p ((sortT_perm f2 ks).mem_iff.mp hp), sortT_strict f3_inj nd2, fun p hp => ok2 p ((sortT_perm f3 rs).mem_iff.mp hp), ?_, ?_⟩, by simp only; omega, by simp only; omega, ?_⟩
  · rw [(sortT_perm f2 ks).length_eq]; omega
  · rw [(sortT_perm f3 rs).length_eq]; exact hl2
  · apply runD_rt
    have s1 : sortD (ks.map e2) = some ((sortT f2 ks).map e2) := sort_tJ (f := f2) (fun a => by simp [f2]) (by omega)
    have s2 : sortD (rs.map e3) = some ((sortT f3 rs).map e3) := sort_tJ (f := f3) (fun a => by simp [f3]) (by omega)
    simp only [b_law_drawn_board, startE, List.map_cons, List.map_nil, List.length_cons, List.length_nil, sseq_ev, sdnew_ev]
    simp [x1, p1, p2, sdnew_ev, kvKeys_t, s1, s2, encB]
end
end Pf
/-! Bo3: boards and stands as drawn -/
namespace Pf
open PySem L2 Pu
theorem board_ev {c most : Int} (h5 : 5 ≤ most) (h24 : most ≤ 24) : ∃ b : Bd, b.Ok ∧ 5 ≤ b.n ∧ f_law_board [.int c, .int most] = .ok (encB b) := by
  have x1 := mix_ev (c := c) (p := 9923) (m := 6) (by decide) (by decide) (by omega)
  have a1 := mix_lo (c := c) (p := 9923) (m := 6) (by omega)
  have a2 := mix_hi (c := c) (p := 9923) (m := 6) (by omega)
  generalize mixI c 9923 6 = n at x1 a1 a2
  by_cases c1 : n = 0 ∧ 23 < most
  · refine ⟨ringB3, ring3_ok, by decide, ?_⟩
    apply runD_rt
    simp [b_law_board, startE, x1, c1.1, c1.2, ring3_ev]
  by_cases c2 : n < 3 ∧ 15 < most
  · by_cases hn : n % 2 = 0
    · refine ⟨ringB1, ring1_ok, by decide, ?_⟩
      apply runD_rt
      have m2 : modD (.int n) (.int 2) = some (.int 0) := by rw [mod_ii (by decide), hn]
      by_cases h0 : n = 0
      · have : ¬ 23 < most := fun z => c1 ⟨h0, z⟩
        simp [b_law_board, startE, x1, h0, this, c2.2, mod_ii, ring1_ev]
      · simp [b_law_board, startE, x1, h0, c2.1, c2.2, m2, ring1_ev]
    · refine ⟨ringB2, ring2_ok, by decide, ?_⟩
      apply runD_rt
      have m2 : modD (.int n) (.int 2) = some (.int 1) := by rw [mod_ii (by decide), show n % 2 = 1 by omega]
      have h0 : ¬ n = 0 := by omega
      simp [b_law_board, startE, x1, h0, c2.1, c2.2, m2, ring2_ev]
  by_cases c3 : n < 4
  · refine ⟨gridB, grid_ok, by decide, ?_⟩
    apply runD_rt
    by_cases h0 : n = 0
    · have h1 : ¬ 23 < most := fun z => c1 ⟨h0, z⟩
      have h2 : ¬ 15 < most := fun z => c2 ⟨by omega, z⟩
      simp [b_law_board, startE, x1, h0, h1, h2, grid_ev]
    · by_cases h3 : n < 3
      · have h2 : ¬ 15 < most := fun z => c2 ⟨by omega, z⟩
        simp [b_law_board, startE, x1, h0, h2, h3, c3, grid_ev]
      · simp [b_law_board, startE, x1, h0, h3, c3, grid_ev]
  · obtain ⟨b, ok, lo, hi, he⟩ := drawn_ev (c := c + 1) (most := min most 12) (by omega) (by omega)
    refine ⟨b, ok, lo, ?_⟩
    apply runD_rt
    have h0 : ¬ n = 0 := by omega
    have h3 : ¬ n < 3 := by omega
    simp [b_law_board, startE, x1, h0, h3, c3, he]
/-! ### stands -/
structure Sd where
  men : List (Option Int)
  l0 : Int
  l1 : Int
  turn : Int
def encM (ms : List (Option Int)) : D := .tuple (ms.map oM)
def encS (s : Sd) : D := .tuple [encM s.men, .tuple [.int s.l0, .int s.l1], .int s.turn]
def ManOk (m : Option Int) : Prop := m = none ∨ m = some 0 ∨ m = some 1
structure Sd.Ok (n : Int) (s : Sd) : Prop where
  len : (s.men.length : Int) = n
  man : ∀ m ∈ s.men, ManOk m
  l0 : 0 ≤ s.l0 ∧ s.l0 ≤ 9
  l1 : 0 ≤ s.l1 ∧ s.l1 ≤ 9
  turn : s.turn = 0 ∨ s.turn = 1
section
variable {b : Bd} {c few fr : Int}
def S1 (b : Bd) (c few fr : Int) (e : En) : Prop := ∃ (ms : List (Option Int)) (s5 s6 s7 : Sl), e = [.dat (encB b), .dat (.int c), .dat (.int few), .own (ms.map oM), .dat (.int fr), s5, s6, s7, .un, .un, .un] ∧ (ms.length : Int) = b.n ∧ (∀ m ∈ ms, ManOk m) ∧ (few = 0 ∨ ((ms.count (some 0) : Int) ≤ few ∧ (ms.count (some 1) : Int) ≤ few))
theorem q2_ev {ms : List (Option Int)} (hl : ms.length ≤ 1000000) {s0 s1 s2 s4 s5 s6 s7 s8 : Sl} : q_law_stand_2 [s0, s1, s2, .own (ms.map oM), s4, s5, s6, s7, s8, .un, .un] = .ok ((whr (·.isNone) ms).map PyData.int) := by
  unfold q_law_stand_2
  refine xlc_whr (fun m => m.isNone) (by simp) hl fun p m _ _ _ => ⟨_, rfl, ?_, ?_⟩
  · simp [wipeE]
  · simp [wipeE]
theorem set_ok {ms : List (Option Int)} {i : Nat} {w : Int} (h : ∀ m ∈ ms, ManOk m) (hw : w = 0 ∨ w = 1) : ∀ m ∈ ms.set i (some w), ManOk m := fun m hm => by
  rcases List.mem_or_eq_of_mem_set hm with hm | rfl
  · exact h m hm
  · rcases hw with rfl | rfl
    · exact .inr (.inl rfl)
    · exact .inr (.inr rfl)
theorem count_set_le {ms : List (Option Int)} {i : Nat} (hi : i < ms.length) (w v : Int) : (ms.set i (some w)).count (some v) ≤ ms.count (some v) + if w = v then 1 else 0 := by
  rw [List.count_set hi]
  by_cases h : w = v
  · subst h; simp
  · have : ¬ (some w = some v) := fun z => h (Option.some.inj z)
    simp [h]
theorem lbS1_ev (hf : 0 ≤ fr) (h24 : b.n ≤ 24) {k w : Int} (hw : w = 0 ∨ w = 1) {s6 s7 : Sl} {ms : List (Option Int)} (hl : (ms.length : Int) = b.n) (hm : ∀ m ∈ ms, ManOk m) (hc : few = 0 ∨ ((ms.count (some 0) : Int) ≤ few ∧ (ms.count (some 1) : Int) ≤ few)) :
    ∃ ms' : List (Option Int), (ms'.length : Int) = b.n ∧ (∀ m ∈ ms', ManOk m) ∧ (few = 0 ∨ ((ms'.count (some 0) : Int) ≤ few ∧ (ms'.count (some 1) : Int) ≤ few)) ∧ ∃ s7', lb_law_stand_1 [.dat (encB b), .dat (.int c), .dat (.int few), .own (ms.map oM), .dat (.int fr), .dat (.int k), .dat (.int w), s7, .un, .un, .un] =
      .nx [.dat (encB b), .dat (.int c), .dat (.int few), .own (ms'.map oM), .dat (.int fr), .dat (.int k), .dat (.int w), s7', .un, .un, .un] := by
  have hq := q2_ev (ms := ms) (by omega) (s0 := .dat (encB b)) (s1 := .dat (.int c)) (s2 := .dat (.int few)) (s4 := .dat (.int fr)) (s5 := .dat (.int k)) (s6 := .dat (.int w)) (s7 := s7) (s8 := .un)
  have hcnt : xcount (xvV 3) (xvV 6) [.dat (encB b), .dat (.int c), .dat (.int few), .own (ms.map oM), .dat (.int fr), .dat (.int k), .dat (.int w), .dat (.list ((whr (·.isNone) ms).map PyData.int)), .un, .un, .un] = .ok (.int (ms.count (some w) : Nat)) :=
    xcount_ev (x := .list (ms.map oM)) (y := .int w) (by simp) (by simp) (.inl ⟨_, rfl⟩) (count_men_l ms w)
  have hwl := whr_length (·.isNone) ms
  have hmem : ∀ p ∈ whr (·.isNone) ms, 0 ≤ p ∧ p < ms.length := fun p hp => ⟨(whr_mem.mp hp).1, (whr_mem.mp hp).2.1⟩
  generalize whr (·.isNone) ms = em at hq hcnt hwl hmem
  by_cases h1 : fr < em.length
  · by_cases h2 : few = 0 ∨ (ms.count (some w) : Int) < few
    · -- a man is put
      have x1 := mix_ev (c := c + 23 * k + 5 * w) (p := 9901) (m := (em.length : Int)) (by decide) (by decide) (by omega)
      have a1 := mix_lo (c := c + 23 * k + 5 * w) (p := 9901) (m := (em.length : Int)) (by omega)
      have a2 := mix_hi (c := c + 23 * k + 5 * w) (p := 9901) (m := (em.length : Int)) (by omega)
      generalize mixI (c + 23 * k + 5 * w) 9901 (em.length : Int) = i at x1 a1 a2
      have hi : i.toNat < em.length := by omega
      have hp := hmem em[i.toNat] (List.getElem_mem hi)
      have hat : atI (em.map PyData.int) i = some (.int em[i.toNat]) := atI_some a1 (by rw [List.getElem?_map, List.getElem?_eq_getElem hi]; rfl)
      generalize em[i.toNat] = p at hp hat
      have m23 : mulD (.int 23) (.int k) = some (.int (23 * k)) := mul_ii (.inl (by decide))
      have m5 : mulD (.int 5) (.int w) = some (.int (5 * w)) := mul_ii (.inl (by decide))
      refine ⟨ms.set p.toNat (some w), by rw [List.length_set]; exact hl, set_ok hm hw, ?_, .dat (.list (em.map PyData.int)), ?_⟩
      · by_cases hfw : few = 0
        · exact .inl hfw
        · right
          have hcw : (ms.count (some w) : Int) < few := h2.resolve_left hfw
          have hcc := hc.resolve_left hfw
          have q0 := count_set_le (show p.toNat < ms.length by omega) w 0
          have q1 := count_set_le (show p.toNat < ms.length by omega) w 1
          rcases hw with rfl | rfl
          · rw [if_pos rfl] at q0; rw [if_neg (by decide)] at q1; omega
          · rw [if_neg (by decide)] at q0; rw [if_pos rfl] at q1; omega
      · have hT : (tand (xbl (bin gtD (un1 lenD (xvV 7)) (xvV 4))) (tor (xbl (bin eqD (xvV 2) (xc (.int 0)))) (xbl (bin ltD (xcount (xvV 3) (xvV 6)) (xvV 2))))) [.dat (encB b), .dat (.int c), .dat (.int few), .own (ms.map oM), .dat (.int fr), .dat (.int k), .dat (.int w), .dat (.list (em.map PyData.int)), .un, .un, .un] = .ok true := by
          by_cases hfw : few = 0
          · simp [h1, hfw]
          · simp [h1, hfw, hcnt, h2.resolve_left hfw]
        simp only [lb_law_stand_1, sseq_ev, sasg_ev, asL_ev, hq, bind_ok, liftE_ok, then_nx, List.set_cons_succ, List.set_cons_zero]
        rw [sif_t hT, sput_ev (d := .int w) (n := p) (m := p.toNat) (ds := ms.map oM) (by simp) rfl (by simp [m23, m5, x1, hat]) (by rw [List.length_map]; exact ixN_nat hp.1 (by omega))]
        rw [show (PyData.int w) = oM (some w) from rfl, ← List.map_set]
        rfl
    · refine ⟨ms, hl, hm, hc, .dat (.list (em.map PyData.int)), ?_⟩
      have hfw : ¬ few = 0 := fun z => h2 (.inl z)
      have hcw : ¬ (ms.count (some w) : Int) < few := fun z => h2 (.inr z)
      have hT : (tand (xbl (bin gtD (un1 lenD (xvV 7)) (xvV 4))) (tor (xbl (bin eqD (xvV 2) (xc (.int 0)))) (xbl (bin ltD (xcount (xvV 3) (xvV 6)) (xvV 2))))) [.dat (encB b), .dat (.int c), .dat (.int few), .own (ms.map oM), .dat (.int fr), .dat (.int k), .dat (.int w), .dat (.list (em.map PyData.int)), .un, .un, .un] = .ok false := by
        simp [h1, hfw, hcnt, hcw]
      simp only [lb_law_stand_1, sseq_ev, sasg_ev, asL_ev, hq, bind_ok, liftE_ok, then_nx, List.set_cons_succ, List.set_cons_zero]
      rw [sif_f hT]
      rfl
  · refine ⟨ms, hl, hm, hc, .dat (.list (em.map PyData.int)), ?_⟩
    have hT : (tand (xbl (bin gtD (un1 lenD (xvV 7)) (xvV 4))) (tor (xbl (bin eqD (xvV 2) (xc (.int 0)))) (xbl (bin ltD (xcount (xvV 3) (xvV 6)) (xvV 2))))) [.dat (encB b), .dat (.int c), .dat (.int few), .own (ms.map oM), .dat (.int fr), .dat (.int k), .dat (.int w), .dat (.list (em.map PyData.int)), .un, .un, .un] = .ok false := by
      simp [h1]
    simp only [lb_law_stand_1, sseq_ev, sasg_ev, asL_ev, hq, bind_ok, liftE_ok, then_nx, List.set_cons_succ, List.set_cons_zero]
    rw [sif_f hT]
    rfl
theorem lbS2_ev (hf : 0 ≤ fr) (h24 : b.n ≤ 24) {k : Int} {e : En} (h : S1 b c few fr e) : ∃ e1 e2, gn 5 (.int k) e = some e1 ∧ (lb_law_stand_2 e1 = .nx e2 ∨ lb_law_stand_2 e1 = .ct e2) ∧ S1 b c few fr e2 := by
  obtain ⟨ms, s5, s6, s7, rfl, hl, hm, hc⟩ := h
  obtain ⟨e', h1, h2⟩ := forL_stay (enc := PyData.int) (f := gn 6) (B := lb_law_stand_1) (fun e => ∃ (ms : List (Option Int)) (s6 s7 : Sl), e = [.dat (encB b), .dat (.int c), .dat (.int few), .own (ms.map oM), .dat (.int fr), .dat (.int k), s6, s7, .un, .un, .un] ∧ (ms.length : Int) = b.n ∧ (∀ m ∈ ms, ManOk m) ∧ (few = 0 ∨ ((ms.count (some 0) : Int) ≤ few ∧ (ms.count (some 1) : Int) ≤ few)))
    [0, 1] [.dat (encB b), .dat (.int c), .dat (.int few), .own (ms.map oM), .dat (.int fr), .dat (.int k), s6, s7, .un, .un, .un] ⟨ms, s6, s7, rfl, hl, hm, hc⟩ fun w e hw ⟨ms, s6, s7, e1, hl, hm, hc⟩ => by
      subst e1
      obtain ⟨ms', l', m', c', s7', he⟩ := lbS1_ev (b := b) (c := c) (few := few) (fr := fr) hf h24 (k := k) (w := w) (by simpa using hw) (s6 := s6) (s7 := s7) hl hm hc
      exact ⟨_, _, rfl, .inl he, ms', _, _, rfl, l', m', c'⟩
  obtain ⟨ms', s6', s7', rfl, hl', hm', hc'⟩ := h2
  have hh : lb_law_stand_2 [.dat (encB b), .dat (.int c), .dat (.int few), .own (ms.map oM), .dat (.int fr), .dat (.int k), s6, s7, .un, .un, .un] = .nx [.dat (encB b), .dat (.int c), .dat (.int few), .own (ms'.map oM), .dat (.int fr), .dat (.int k), s6', s7', .un, .un, .un] := by
    unfold lb_law_stand_2 l_law_stand_1
    exact sfor_nx (by simp) h1
  exact ⟨_, _, rfl, .inl hh, ms', _, _, _, rfl, hl', hm', hc'⟩
theorem stand_ev (hb : 5 ≤ b.n) (h24 : b.n ≤ 24) (hfew : 0 ≤ few) : ∃ s : Sd, s.Ok b.n ∧ (0 < few → (s.men.count (some 0) : Int) ≤ few ∧ (s.men.count (some 1) : Int) ≤ few ∧ s.l0 = 0 ∧ s.l1 = 0) ∧ s.turn = c % 2 ∧ s.l0 ≤ 3 ∧ s.l1 ≤ 3 ∧ f_law_stand [encB b, .int c, .int few] = .ok (encS s) := by
  have x1 := mix_ev (c := c) (p := 9871) (m := 4) (by decide) (by decide) (by omega)
  have a1 := mix_lo (c := c) (p := 9871) (m := 4) (by omega)
  generalize mixI c 9871 4 = fr at x1 a1
  have hq1 : q_law_stand_1 [.dat (encB b), .dat (.int c), .dat (.int few), .un, .un, .un, .un, .un, .un, .un, .un] = .ok ((List.replicate b.n.toNat none).map oM) := by
    unfold q_law_stand_1
    rw [xlc_all (enc := PyData.int) (xs := upto b.n.toNat) (fun _ => .none) (by simp [encB, rng1_ev (j := b.n) (by omega) (by omega)]) (by rw [upto_length]; omega) fun x hx => ⟨_, rfl, rfl, rfl⟩]
    congr 1
    unfold upto
    rw [List.map_map, List.map_replicate]
    apply List.ext_getElem
    · simp
    · intro i h1 h2
      simp
  -- the loop
  obtain ⟨n, hn0, hn1, xn⟩ : ∃ n : Int, 0 ≤ n ∧ n ≤ 100 ∧ irng1 (bin addD (xcall 3 f_law_mix (lcons (xvE 1) (lcons (xc (.int 9907)) (lcons (bin addD (xc (.int 4)) (bin mulD (xc (.int 6)) (un1 intD (bin eqD (xvV 2) (xc (.int 0)))))) lnil)))) (xc (.int 3))) [.dat (encB b), .dat (.int c), .dat (.int few), .own ((List.replicate b.n.toNat none).map oM), .dat (.int fr), .un, .un, .un, .un, .un, .un] = .ok ((upto n.toNat).map PyData.int) := by
    by_cases h0 : few = 0
    · have x2 := mix_ev (c := c) (p := 9907) (m := 10) (by decide) (by decide) (by omega)
      have b1 := mix_lo (c := c) (p := 9907) (m := 10) (by omega)
      have b2 := mix_hi (c := c) (p := 9907) (m := 10) (by omega)
      have m6 : mulD (.int 6) (.int 1) = some (.int 6) := mul_ii (.inl (by decide))
      refine ⟨mixI c 9907 10 + 3, by omega, by omega, ?_⟩
      simp [h0, m6, x2, rng1_ev (j := mixI c 9907 10 + 3) (by omega) (by omega)]
    · have x2 := mix_ev (c := c) (p := 9907) (m := 4) (by decide) (by decide) (by omega)
      have b1 := mix_lo (c := c) (p := 9907) (m := 4) (by omega)
      have b2 := mix_hi (c := c) (p := 9907) (m := 4) (by omega)
      have m6 : mulD (.int 6) (.int 0) = some (.int 0) := mul_ii (.inl (by decide))
      refine ⟨mixI c 9907 4 + 3, by omega, by omega, ?_⟩
      simp [h0, m6, x2, rng1_ev (j := mixI c 9907 4 + 3) (by omega) (by omega)]
  obtain ⟨e', h1, ms, s5, s6, s7, rfl, hl, hm, hc⟩ := forL_stay (enc := PyData.int) (f := gn 5) (B := lb_law_stand_2) (S1 b c few fr) (upto n.toNat) [.dat (encB b), .dat (.int c), .dat (.int few), .own ((List.replicate b.n.toNat none).map oM), .dat (.int fr), .un, .un, .un, .un, .un, .un]
    ⟨_, _, _, _, rfl, by rw [List.length_replicate]; omega, fun m hm => .inl (List.eq_of_mem_replicate hm), by right; rw [List.count_replicate, List.count_replicate]; simp; exact hfew⟩ fun x e _ h => lbS2_ev a1 h24 h
  have hloop : l_law_stand_2 [.dat (encB b), .dat (.int c), .dat (.int few), .own ((List.replicate b.n.toNat none).map oM), .dat (.int fr), .un, .un, .un, .un, .un, .un] = .nx [.dat (encB b), .dat (.int c), .dat (.int few), .own (ms.map oM), .dat (.int fr), s5, s6, s7, .un, .un, .un] := sfor_nx xn h1
  simp only [List.map_replicate, oM_n] at hloop
  have ht0 := Int.emod_nonneg c (show (2 : Int) ≠ 0 by decide)
  have ht1 := Int.emod_lt_of_pos c (show (0 : Int) < 2 by decide)
  have m2 : modD (.int c) (.int 2) = some (.int (c % 2)) := mod_ii (by decide)
  have m3 : modD (.int c) (.int 3) = some (.int (c % 3)) := mod_ii (by decide)
  have y1 := mix_ev (c := c) (p := 9887) (m := 4) (by decide) (by decide) (by omega)
  have y2 := mix_ev (c := c) (p := 9883) (m := 4) (by decide) (by decide) (by omega)
  have l1 := mix_lo (c := c) (p := 9887) (m := 4) (by omega)
  have l2 := mix_hi (c := c) (p := 9887) (m := 4) (by omega)
  have l3 := mix_lo (c := c) (p := 9883) (m := 4) (by omega)
  have l4 := mix_hi (c := c) (p := 9883) (m := 4) (by omega)
  by_cases hc3 : few = 0 ∧ c % 3 = 0
  · obtain ⟨rfl, h3⟩ := hc3
    refine ⟨⟨ms, mixI c 9887 4, mixI c 9883 4, c % 2⟩, ⟨hl, hm, by simp only; omega, by simp only; omega, by simp only; omega⟩, fun h => by omega, rfl, by simp only; omega, by simp only; omega, ?_⟩
    apply runD_rt
    simp [b_law_stand, startE, hq1, x1]
    rw [hloop]
    simp [m2, m3, h3, y1, y2, encS, encM]
  · refine ⟨⟨ms, 0, 0, c % 2⟩, ⟨hl, hm, by simp only; omega, by simp only; omega, by simp only; omega⟩, fun h => ⟨(hc.resolve_left (by omega)).1, (hc.resolve_left (by omega)).2, rfl, rfl⟩, rfl, by simp only; omega, by simp only; omega, ?_⟩
    apply runD_rt
    by_cases h0 : few = 0
    · have h3 : ¬ c % 3 = 0 := fun z => hc3 ⟨h0, z⟩
      subst h0
      simp [b_law_stand, startE, hq1, x1]
      rw [hloop]
      simp [m2, m3, h3, encS, encM]
    · simp [b_law_stand, startE, hq1, x1]
      rw [hloop]
      simp [m2, m3, h0, encS, encM]
end
end Pf
namespace Pf
open PySem L2 Pu
def qrows_open_1 : En → R (List D) :=
  (xlc [6] (iseq (xvV 5)) (gn 6) (xbl (bin neD (xvV 6) (xvV 3))) (bin ixD (bin ixD (xvV 1) (xc (.int 0))) (xvV 6)))
def lbrows_open_1 : En → Fl :=
  (sif (tand (xbl (bin inD (xvV 3) (xvV 5))) (xbl (bin eqD (asL qrows_open_1) (asL (xlst (lcons (xvE 2) (lcons (xvE 2) lnil))))))) (sasg 4 (bin addD (xvE 4) (xc (.int 1)))) snil)
def lrows_open_1 : En → Fl :=
  (sfor (iseq (bin ixD (xvV 0) (xc (.int 2)))) (gn 5) lbrows_open_1)
def brows_open : En → Fl :=
  (sseq (sasg 4 (xc (.int 0)))
  (sseq lrows_open_1
  (sret (xvE 4))))
def frows_open : List D → R D := runD 7 brows_open
def qpoints_open_1 : En → R (List D) :=
  (xlc [5, 6] (ienum (bin ixD (xvV 1) (xc (.int 0)))) (gtup (gcons (gn 5) (gcons (gn 6) gnil))) (xbl (bin isD (xvV 6) (xc .none))) (xvE 5))
def qpoints_open_2 : En → R (List D) :=
  (xlc [5] (iseq (xvV 4)) (gn 5) (xbl (bin geD (xcall 4 frows_open (lcons (xvE 0) (lcons (xvE 1) (lcons (xvE 2) (lcons (xvE 5) lnil))))) (xvV 3))) (xvE 5))
def bpoints_open : En → Fl :=
  (sseq (sasg 4 (asL qpoints_open_1))
  (sret (un1 tupleD (asL qpoints_open_2))))
def fpoints_open : List D → R D := runD 7 bpoints_open
def bthreats : En → Fl :=
  (sret (xcall 4 fpoints_open (lcons (xvE 0) (lcons (xvE 1) (lcons (xvE 2) (lcons (xc (.int 1)) lnil))))))
def fthreats : List D → R D := runD 3 bthreats
def bforks : En → Fl :=
  (sret (xcall 4 fpoints_open (lcons (xvE 0) (lcons (xvE 1) (lcons (xvE 2) (lcons (xc (.int 2)) lnil))))))
def fforks : List D → R D := runD 3 bforks
def q_law_open_rows_1 : En → R (List D) :=
  (xlc [6] (iseq (xvV 5)) (gn 6) tyes (bin ixD (xvV 1) (xvV 6)))
def lb_law_open_rows_1 : En → Fl :=
  (sif (tand (xbl (bin inD (xvV 3) (xvV 5))) (tand (xbl (bin eqD (xcount (asL q_law_open_rows_1) (xvV 2)) (xc (.int 2)))) (xbl (bin isD (bin ixD (xvV 1) (xvV 3)) (xc .none))))) (sapp 4 (xvE 5)) snil)
def l_law_open_rows_1 : En → Fl :=
  (sfor (iseq (bin ixD (xvV 0) (xc (.int 2)))) (gn 5) lb_law_open_rows_1)
def b_law_open_rows : En → Fl :=
  (sseq (sasgN 4 (xlst lnil))
  (sseq l_law_open_rows_1
  (sret (xvE 4))))
def f_law_open_rows : List D → R D := runD 7 b_law_open_rows
end Pf
/-! Th: full rows, threats -/
namespace Pf
open PySem L2 Pu
theorem map_oM_inj : ∀ xs ys : List (Option Int), xs.map oM = ys.map oM → xs = ys
  | [], [], _ => rfl
  | [], _ :: _, h => by cases h
  | _ :: _, [], h => by cases h
  | x :: xs, y :: ys, h => by
    rw [List.map_cons, List.map_cons] at h
    injection h with h1 h2
    rw [oM_inj x y h1, map_oM_inj xs ys h2]
theorem plAll_oM : ∀ xs : List (Option Int), plAll (xs.map oM) = true
  | [] => by simp [plAll]
  | x :: xs => by simp [plAll, oM_pl, plAll_oM xs]
def encML (xs : List (Option Int)) : D := .list (xs.map oM)
theorem eq_menL (xs ys : List (Option Int)) : eqD (.list (xs.map oM)) (.list (ys.map oM)) = some (.bool (decide (xs = ys))) := by
  have sh : ∀ zs : List (Option Int), SeqAt.shaped (.list (zs.map oM)) = true := fun zs => (shp_list (k := 0) (ds := zs.map oM) fun d hd => by obtain ⟨y, _, rfl⟩ := List.mem_map.mp hd; exact oM_shp y).shaped
  rw [eq_ev (sh xs) (sh ys)]
  congr 2
  exact eqv_enc (enc := encML) (fun a b h => by unfold encML at h; injection h with h; exact map_oM_inj a b h) (fun a => by unfold encML; simp only [plD]; exact plAll_oM a) xs ys
theorem all_bools (bs : List Bool) : allD (.list (bs.map PyData.bool)) = some (.bool (bs.all id)) := by
  show ((boolsOf (bs.map PyData.bool)).map fun bs => PyData.bool (bs.all id)) = _
  rw [boolsOf_map]
  rfl
theorem any_bools (bs : List Bool) : anyD (.list (bs.map PyData.bool)) = some (.bool (bs.any id)) := by
  show ((boolsOf (bs.map PyData.bool)).map fun bs => PyData.bool (bs.any id)) = _
  rw [boolsOf_map]
  rfl
/-- all points of a row are on the board -/
def RowOn (n : Int) (r : Int × Int × Int) : Prop := ∀ p ∈ f3 r, 0 ≤ p ∧ p < n
theorem Bd.Ok.on {b : Bd} (h : b.Ok) : ∀ r ∈ b.rows, RowOn b.n r := fun r hr p hp => by
  have := h.row r hr
  unfold f3 at hp
  simp only [List.mem_cons, List.not_mem_nil, or_false] at hp
  omega
/-! ### full rows -/
def fullR (ms : List (Option Int)) (w : Int) (r : Int × Int × Int) : Bool := (f3 r).all fun p => decide (mAt ms p = some w)
section
variable {b : Bd} {ms : List (Option Int)} {w : Int}
theorem qfull1_ev {r : Int × Int × Int} (hr : RowOn ms.length r) {s0 s4 : Sl} : qfull_rows_1 [s0, .dat (encM ms), .dat (.int w), .dat (e3 r), s4] = .ok (((f3 r).map fun p => decide (mAt ms p = some w)).map PyData.bool) := by
  unfold qfull_rows_1
  rw [xlc_all (enc := PyData.int) (xs := f3 r) (fun p => .bool (decide (mAt ms p = some w))) (by simp [e3, tJ]) (by simp [f3]) fun p hp => ?_]
  · rw [List.map_map]; rfl
  · obtain ⟨h0, h1⟩ := hr p hp
    exact ⟨_, rfl, rfl, by simp [wipeE, encM, atI_men h0 h1, eq_oMi]⟩
theorem full_rows_ev (hrow : ∀ r ∈ b.rows, RowOn ms.length r) (hl : b.rows.length ≤ 1000) : ffull_rows [encB b, encM ms, .int w] = .ok (.list ((b.rows.filter (fullR ms w)).map e3)) := by
  have h : qfull_rows_2 [.dat (encB b), .dat (encM ms), .dat (.int w), .un, .un] = .ok ((b.rows.filter (fullR ms w)).map e3) := by
    unfold qfull_rows_2
    refine xlc_map (enc := e3) (xs := b.rows) (fullR ms w) e3 (by simp [encB]) (by omega) fun r hr => ⟨_, rfl, ?_, fun _ => ?_⟩
    · simp [-List.map_map, wipeE, qfull1_ev (hrow r hr), all_bools, fullR]
    · simp [wipeE]
  apply runD_rt
  simp [bfull_rows, startE, h]
theorem full_ev {s : Sd} (hm : s.men = ms) (hrow : ∀ r ∈ b.rows, RowOn ms.length r) (hl : b.rows.length ≤ 1000) : ffull [encB b, encS s, .int w] = .ok (.tuple ((b.rows.filter (fullR ms w)).map e3)) := by
  subst hm
  apply runD_rt
  simp [bfull, startE, encS, full_rows_ev hrow hl]
/-! ### threats -/
/-- a row that a man of w at p makes full -/
def opnR (ms : List (Option Int)) (w p : Int) (r : Int × Int × Int) : Bool := decide (p ∈ f3 r) && decide (((f3 r).filter fun q => !decide (q = p)).map (mAt ms) = [some w, some w])
theorem qopen_ev {r : Int × Int × Int} (hr : RowOn ms.length r) {s : Sd} (hm : s.men = ms) {p : Int} {s0 s2 s4 s6 : Sl} : qrows_open_1 [s0, .dat (encS s), s2, .dat (.int p), s4, .dat (e3 r), s6] = .ok ((((f3 r).filter fun q => !decide (q = p)).map (mAt ms)).map oM) := by
  subst hm
  unfold qrows_open_1
  rw [xlc_map (enc := PyData.int) (xs := f3 r) (fun q => !decide (q = p)) (fun q => oM (mAt s.men q)) (by simp [e3, tJ]) (by simp [f3]) fun q hq => ?_]
  · rw [List.map_map]; rfl
  · obtain ⟨h0, h1⟩ := hr q hq
    exact ⟨_, rfl, by simp [wipeE], fun _ => by simp [wipeE, encS, encM, atI_men h0 h1]⟩
theorem lbopen_ev {r : Int × Int × Int} (hr : RowOn ms.length r) {s : Sd} (hm : s.men = ms) {p n : Int} {s0 s6 : Sl} : lbrows_open_1 [s0, .dat (encS s), .dat (.int w), .dat (.int p), .dat (.int n), .dat (e3 r), s6] =
    .nx [s0, .dat (encS s), .dat (.int w), .dat (.int p), .dat (.int (n + if opnR ms w p r then 1 else 0)), .dat (e3 r), s6] := by
  have hi : inD (.int p) (e3 r) = some (.bool (decide (p ∈ f3 r))) := by unfold inD e3 tJ; rw [in_ints_t]; rfl
  have he := eq_menL (((f3 r).filter fun q => !decide (q = p)).map (mAt ms)) [some w, some w]
  simp only [List.map_cons, List.map_nil, oM_s] at he
  have hq := qopen_ev hr hm (p := p) (s0 := s0) (s2 := .dat (.int w)) (s4 := .dat (.int n)) (s6 := s6)
  unfold lbrows_open_1 opnR
  generalize ((f3 r).filter fun q => !decide (q = p)).map (mAt ms) = L at he hq
  by_cases h1 : p ∈ f3 r
  · by_cases h2 : L = [some w, some w]
    · rw [sif_t (by simp [hi, h1, hq, he]; exact h2)]
      simp [h1, h2]
    · rw [sif_f (by simp [hi, h1, hq, he]; exact h2)]
      simp [h1, h2]
  · rw [sif_f (by simp [hi, h1])]
    simp [h1]
theorem foldl_count {α : Type} (c : α → Bool) : ∀ (xs : List α) (n : Int), xs.foldl (fun n x => n + if c x then 1 else 0) n = n + (xs.filter c).length
  | [], n => by simp
  | x :: xs, n => by
    rw [List.foldl_cons, foldl_count c xs]
    by_cases h : c x = true
    · rw [List.filter_cons_of_pos h, if_pos h, List.length_cons]; omega
    · rw [List.filter_cons_of_neg h, if_neg h]; omega
theorem rows_open_ev (hrow : ∀ r ∈ b.rows, RowOn ms.length r) {s : Sd} (hm : s.men = ms) {p : Int} : frows_open [encB b, encS s, .int w, .int p] = .ok (.int ((b.rows.filter (opnR ms w p)).length : Int)) := by
  obtain ⟨e', h1, s5, rfl⟩ := forL_fold (enc := e3) (f := gn 5) (B := lbrows_open_1) (fun (n : Int) e => ∃ s5, e = [.dat (encB b), .dat (encS s), .dat (.int w), .dat (.int p), .dat (.int n), s5, .un]) (fun n r => n + if opnR ms w p r then 1 else 0) b.rows 0
    [.dat (encB b), .dat (encS s), .dat (.int w), .dat (.int p), .dat (.int 0), .un, .un] ⟨_, rfl⟩ fun n r e hr ⟨s5, h⟩ => by
      subst h
      exact ⟨_, _, rfl, .inl (lbopen_ev (hrow r hr) hm), _, rfl⟩
  rw [foldl_count, Int.zero_add] at h1
  have hl : lrows_open_1 [.dat (encB b), .dat (encS s), .dat (.int w), .dat (.int p), .dat (.int 0), .un, .un] = .nx _ := sfor_nx (by simp [encB]) h1
  apply runD_rt
  simp [brows_open, startE, hl]
/-- the places that ask for at least so many rows -/
def opnP (b : Bd) (ms : List (Option Int)) (w k : Int) : List Int := (whr (·.isNone) ms).filter fun p => decide (k ≤ ((b.rows.filter (opnR ms w p)).length : Int))
theorem points_open_ev (hrow : ∀ r ∈ b.rows, RowOn ms.length r) (hlen : ms.length ≤ 1000) {s : Sd} (hm : s.men = ms) {k : Int} : fpoints_open [encB b, encS s, .int w, .int k] = .ok (.tuple ((opnP b ms w k).map PyData.int)) := by
  have h1 : qpoints_open_1 [.dat (encB b), .dat (encS s), .dat (.int w), .dat (.int k), .un, .un, .un] = .ok ((whr (·.isNone) ms).map PyData.int) := by
    subst hm
    unfold qpoints_open_1
    exact xlc_whr (fun m => m.isNone) (by simp [encS, encM]) (by omega) fun p m _ _ _ => ⟨_, rfl, by simp [wipeE], by simp [wipeE]⟩
  have h2 : qpoints_open_2 (fz [.dat (encB b), .dat (encS s), .dat (.int w), .dat (.int k), .dat (.list ((whr (·.isNone) ms).map PyData.int)), .un, .un]) = .ok ((opnP b ms w k).map PyData.int) := by
    unfold qpoints_open_2 opnP
    refine xlc_map (enc := PyData.int) (xs := whr (·.isNone) ms) _ PyData.int (by simp) (by have := whr_length (·.isNone) ms; omega) fun p hp => ⟨_, rfl, ?_, fun _ => ?_⟩
    · simp [wipeE, rows_open_ev hrow hm]
    · simp [wipeE]
  apply runD_rt
  simp [bpoints_open, startE, h1]
  simp at h2
  simp [h2]
theorem threats_ev (hrow : ∀ r ∈ b.rows, RowOn ms.length r) (hlen : ms.length ≤ 1000) {s : Sd} (hm : s.men = ms) : fthreats [encB b, encS s, .int w] = .ok (.tuple ((opnP b ms w 1).map PyData.int)) := by
  apply runD_rt
  simp [bthreats, startE, points_open_ev hrow hlen hm]
theorem forks_ev (hrow : ∀ r ∈ b.rows, RowOn ms.length r) (hlen : ms.length ≤ 1000) {s : Sd} (hm : s.men = ms) : fforks [encB b, encS s, .int w] = .ok (.tuple ((opnP b ms w 2).map PyData.int)) := by
  apply runD_rt
  simp [bforks, startE, points_open_ev hrow hlen hm]
/-! ### the law's own -/
def lopR (ms : List (Option Int)) (w p : Int) (r : Int × Int × Int) : Bool := decide (p ∈ f3 r) && decide (((f3 r).map (mAt ms)).count (some w) = 2) && (mAt ms p).isNone
theorem open_rows_ev (hrow : ∀ r ∈ b.rows, RowOn ms.length r) (hl : b.rows.length ≤ 1000) {p : Int} (h0 : 0 ≤ p) (hp : p < ms.length) : f_law_open_rows [encB b, encM ms, .int w, .int p] = .ok (.list ((b.rows.filter (lopR ms w p)).map e3)) := by
  have step : ∀ (acc : List (Int × Int × Int)) (r : Int × Int × Int) (e : En), r ∈ b.rows → (∃ s5, acc.length ≤ b.rows.length ∧ e = [.dat (encB b), .dat (encM ms), .dat (.int w), .dat (.int p), .own (acc.map e3), s5, .un]) → True := fun _ _ _ _ _ => trivial
  obtain ⟨e', h1, s5, hE⟩ := forL_inv (enc := e3) (f := gn 5) (B := lb_law_open_rows_1) (fun pre e => ∃ s5, e = [.dat (encB b), .dat (encM ms), .dat (.int w), .dat (.int p), .own ((pre.filter (lopR ms w p)).map e3), s5, .un]) b.rows []
    [.dat (encB b), .dat (encM ms), .dat (.int w), .dat (.int p), .own [], .un, .un] ⟨_, rfl⟩ fun pre r rest e q ⟨s5, h⟩ => by
      subst h
      rw [List.nil_append] at q
      have hr : r ∈ b.rows := by rw [q]; simp
      have hlp : pre.length < b.rows.length := by rw [q, List.length_append, List.length_cons]; omega
      have hlf : (pre.filter (lopR ms w p)).length ≤ pre.length := List.length_filter_le _ _
      have hq : q_law_open_rows_1 [.dat (encB b), .dat (encM ms), .dat (.int w), .dat (.int p), .own ((pre.filter (lopR ms w p)).map e3), .dat (e3 r), .un] = .ok (((f3 r).map (mAt ms)).map oM) := by
        unfold q_law_open_rows_1
        rw [xlc_all (enc := PyData.int) (xs := f3 r) (fun q => oM (mAt ms q)) (by simp [e3, tJ]) (by simp [f3]) fun q hq => ?_]
        · rw [List.map_map]; rfl
        · obtain ⟨g0, g1⟩ := hrow r hr q hq
          exact ⟨_, rfl, rfl, by simp [wipeE, encM, atI_men g0 g1]⟩
      have hi : inD (.int p) (e3 r) = some (.bool (decide (p ∈ f3 r))) := by unfold inD e3 tJ; rw [in_ints_t]; rfl
      have hc : xcount (asL q_law_open_rows_1) (xvV 2) [.dat (encB b), .dat (encM ms), .dat (.int w), .dat (.int p), .own ((pre.filter (lopR ms w p)).map e3), .dat (e3 r), .un] = .ok (.int (((f3 r).map (mAt ms)).count (some w) : Nat)) :=
        xcount_ev (x := .list (((f3 r).map (mAt ms)).map oM)) (y := .int w) (by simp [hq]) (by simp) (.inl ⟨_, rfl⟩) (count_men_l _ w)
      have hat : ixD (encM ms) (.int p) = some (oM (mAt ms p)) := atI_men h0 hp
      by_cases ht : lopR ms w p r = true
      · refine ⟨_, _, rfl, .inl (?_ : _ = Fl.nx [.dat (encB b), .dat (encM ms), .dat (.int w), .dat (.int p), .own (((pre ++ [r]).filter (lopR ms w p)).map e3), .dat (e3 r), .un]), _, rfl⟩
        have ht' := ht
        unfold lopR at ht'
        simp only [Bool.and_eq_true, decide_eq_true_eq] at ht'
        unfold lb_law_open_rows_1
        have hc2 : (((((f3 r).map (mAt ms)).count (some w) : Nat) : Int) = 2) := by omega
        show sif _ _ _ [.dat (encB b), .dat (encM ms), .dat (.int w), .dat (.int p), .own ((pre.filter (lopR ms w p)).map e3), .dat (e3 r), .un] = _
        rw [sif_t (by simp [hi, ht'.1.1, hc, hc2, hat, ht'.2])]
        rw [sapp_ev (ds := (pre.filter (lopR ms w p)).map e3) (d := e3 r) rfl (by simp) (by rw [List.length_map]; omega)]
        rw [List.filter_append, List.filter_cons_of_pos ht, List.filter_nil, List.map_append]
        rfl
      · refine ⟨_, _, rfl, .inl (?_ : _ = Fl.nx [.dat (encB b), .dat (encM ms), .dat (.int w), .dat (.int p), .own (((pre ++ [r]).filter (lopR ms w p)).map e3), .dat (e3 r), .un]), _, rfl⟩
        have ht' := ht
        unfold lopR at ht'
        unfold lb_law_open_rows_1
        show sif _ _ _ [.dat (encB b), .dat (encM ms), .dat (.int w), .dat (.int p), .own ((pre.filter (lopR ms w p)).map e3), .dat (e3 r), .un] = _
        rw [sif_f ?_]
        · rw [List.filter_append, List.filter_cons_of_neg ht, List.filter_nil, List.append_nil]
          rfl
        · by_cases g1 : p ∈ f3 r
          · by_cases g2 : ((f3 r).map (mAt ms)).count (some w) = 2
            · have hc2 : (((((f3 r).map (mAt ms)).count (some w) : Nat) : Int) = 2) := by omega
              have g3 : (mAt ms p).isNone = false := by
                cases h : (mAt ms p).isNone with
                | false => rfl
                | true => exact absurd (by simp [g1, g2, h]) ht'
              simp [hi, g1, hc, hc2, hat, g3]
            · have hc2 : ¬ (((((f3 r).map (mAt ms)).count (some w) : Nat) : Int) = 2) := by omega
              simp [hi, g1, hc, hc2]
          · simp [hi, g1]
  subst hE
  have hl' : l_law_open_rows_1 [.dat (encB b), .dat (encM ms), .dat (.int w), .dat (.int p), .own [], .un, .un] = .nx _ := sfor_nx (by simp [encB]) h1
  apply runD_rt
  simp [b_law_open_rows, startE, hl']
end
end Pf
/-! Th2: threats, the mathematics; cuts; enumerate -/
namespace Pf
open PySem L2 Pu
theorem upto_sorted (n : Nat) : (upto n).Pairwise (· < ·) := by
  unfold upto
  rw [List.pairwise_map, List.pairwise_iff_getElem]
  intro i j hi hj hij
  rw [List.getElem_range, List.getElem_range]
  omega
theorem whr_eq (c : Option Int → Bool) (ms : List (Option Int)) : whr c ms = (upto ms.length).filter fun p => c (mAt ms p) := by
  refine lt_unique _ _ (whr_sorted c ms) ((upto_sorted _).filter _) fun p => ?_
  rw [whr_mem, List.mem_filter, upto_mem]
  constructor
  · rintro ⟨h0, h1, h2⟩; exact ⟨⟨h0, h1⟩, h2⟩
  · rintro ⟨⟨h0, h1⟩, h2⟩; exact ⟨h0, h1, h2⟩
/-! ### cuts -/
theorem cut_to {α : Type} (xs : List α) {p : Int} (h0 : 0 ≤ p) : cutD xs none (some p) = xs.take p.toNat := by
  unfold cutD
  have e : HT.sIx xs.length xs.length (some p) = min p.toNat xs.length := by
    show (if p < 0 then (p + (xs.length : Int)).toNat else min p.toNat xs.length) = _
    rw [if_neg (by omega)]
  rw [e, show HT.sIx xs.length 0 none = 0 from rfl, List.drop_zero, Nat.sub_zero]
  rw [List.take_eq_take_iff]
  omega
theorem cut_from {α : Type} (xs : List α) {p : Int} (h0 : 0 ≤ p) : cutD xs (some p) none = xs.drop p.toNat := by
  unfold cutD
  have e : HT.sIx xs.length 0 (some p) = min p.toNat xs.length := by
    show (if p < 0 then (p + (xs.length : Int)).toNat else min p.toNat xs.length) = _
    rw [if_neg (by omega)]
  rw [e, show HT.sIx xs.length xs.length none = xs.length from rfl]
  by_cases h : p.toNat ≤ xs.length
  · rw [Nat.min_eq_left h, List.take_of_length_le (by rw [List.length_drop]; exact Nat.le_refl _)]
  · rw [Nat.min_eq_right (by omega), List.drop_eq_nil_of_le (Nat.le_refl _), List.drop_eq_nil_of_le (by omega), List.take_nil]
theorem set_cut {α : Type} (xs : List α) {i : Nat} (h : i < xs.length) (x : α) : xs.take i ++ [x] ++ xs.drop (i + 1) = xs.set i x := by
  rw [List.set_eq_take_append_cons_drop, if_pos h, List.append_assoc]
  rfl
@[simp] theorem slice_t (ds : List D) (lo hi : Option Int) : sliceD (.tuple ds) lo hi = some (.tuple (cutD ds lo hi)) := rfl
@[simp] theorem slice_l (ds : List D) (lo hi : Option Int) : sliceD (.list ds) lo hi = some (.list (cutD ds lo hi)) := rfl
theorem add_tt {xs ys : List D} (h : xs.length + ys.length ≤ 1000000) : addD (.tuple xs) (.tuple ys) = some (.tuple (xs ++ ys)) := by
  show (if xs.length + ys.length ≤ many then some (PyData.tuple (xs ++ ys)) else none) = _
  rw [if_pos (show xs.length + ys.length ≤ many from h)]
theorem add_ll {xs ys : List D} (h : xs.length + ys.length ≤ 1000000) : addD (.list xs) (.list ys) = some (.list (xs ++ ys)) := by
  show (if xs.length + ys.length ≤ many then some (PyData.list (xs ++ ys)) else none) = _
  rw [if_pos (show xs.length + ys.length ≤ many from h)]
theorem addN_ll {xs ys : List D} (h : xs.length + ys.length ≤ 1000000) : addN (.list xs) (.list ys) = some (xs ++ ys) := by
  show (if xs.length + ys.length ≤ many then some (xs ++ ys) else none) = _
  rw [if_pos (show xs.length + ys.length ≤ many from h)]
/-! ### enumerate of anything -/
def enumX {α : Type} (xs : List α) : List (Int × α) := xs.mapIdx fun i x => ((i : Int), x)
theorem enum_any {α : Type} (enc : α → D) (xs : List α) : enumL (xs.map enc) = (enumX xs).map fun p => pairD (.int p.1) (enc p.2) := by
  unfold enumL enumX
  apply List.ext_getElem?
  intro i
  rw [List.getElem?_mapIdx, List.getElem?_map, List.getElem?_map, List.getElem?_mapIdx]
  cases xs[i]? <;> rfl
theorem enumX_upto {α : Type} (g : Int → α) (n : Nat) : enumX ((upto n).map g) = (upto n).map fun p => (p, g p) := by
  unfold enumX upto
  apply List.ext_getElem?
  intro i
  rw [List.getElem?_mapIdx, List.getElem?_map, List.getElem?_map, List.getElem?_map, List.getElem?_map]
  cases h : (List.range n)[i]? with
  | none => rfl
  | some k =>
    obtain ⟨hi, e⟩ := List.getElem?_eq_some_iff.mp h
    rw [List.getElem_range] at e
    subst e
    rfl
theorem enumX_length {α : Type} (xs : List α) : (enumX xs).length = xs.length := by unfold enumX; rw [List.length_mapIdx]
/-! ### tuples of ints compared -/
theorem tJ_eq (s t : List Int) : PyData.eqv (tJ s) (tJ t) = decide (s = t) := eqv_enc tJ_inj tJ_pl s t
theorem ne_tJ (s t : List Int) : neD (tJ s) (tJ t) = some (.bool (!decide (s = t))) := by rw [ne_ev ((tJ_shp s).shaped) ((tJ_shp t).shaped), tJ_eq]
theorem eq_tJ (s t : List Int) : eqD (tJ s) (tJ t) = some (.bool (decide (s = t))) := by rw [eq_ev ((tJ_shp s).shaped) ((tJ_shp t).shaped), tJ_eq]
theorem in_tJ (x : Int) (s : List Int) : inD (.int x) (tJ s) = some (.bool (decide (x ∈ s))) := by unfold inD tJ; rw [in_ints_t]; rfl
/-! ### a man more -/
section
variable {ms : List (Option Int)} {w p : Int} {r : Int × Int × Int}
theorem two_count (x y : Option Int) (w : Int) : decide ([x, y] = [some w, some w]) = decide (([x, y].count (some w)) = 2) := by
  by_cases g1 : x = some w <;> by_cases g2 : y = some w <;> simp [g1, g2, List.count_cons]
theorem opn_lop (hr : r.1 < r.2.1 ∧ r.2.1 < r.2.2) (hp : mAt ms p = none) : opnR ms w p r = lopR ms w p r := by
  obtain ⟨a, b, c⟩ := r
  simp only at hr
  unfold opnR lopR f3
  rw [hp]
  simp only [List.mem_cons, List.not_mem_nil, or_false, Option.isNone_none, Bool.and_true]
  by_cases h1 : p = a
  · subst h1
    have e1 : ¬ b = p := by omega
    have e2 : ¬ c = p := by omega
    have t := two_count (mAt ms b) (mAt ms c) w
    simp only [List.count_cons, List.count_nil] at t
    simp [e1, e2, hp, List.count_cons]
    simpa using t
  · by_cases h2 : p = b
    · subst h2
      have e1 : ¬ a = p := by omega
      have e2 : ¬ c = p := by omega
      have t := two_count (mAt ms a) (mAt ms c) w
      simp only [List.count_cons, List.count_nil] at t
      simp [e1, e2, hp, List.count_cons]
      simpa using t
    · by_cases h3 : p = c
      · subst h3
        have e1 : ¬ a = p := by omega
        have e2 : ¬ b = p := by omega
        have t := two_count (mAt ms a) (mAt ms b) w
        simp only [List.count_cons, List.count_nil] at t
        simp [e1, e2, hp, List.count_cons]
        simpa using t
      · simp [h1, h2, h3]
theorem full_more (hr : r.1 < r.2.1 ∧ r.2.1 < r.2.2) (hon : RowOn ms.length r) (h0 : 0 ≤ p) (hl : p < ms.length) (hp : mAt ms p = none) :
    fullR (ms.set p.toNat (some w)) w r = (fullR ms w r || opnR ms w p r) ∧ (fullR ms w r && opnR ms w p r) = false := by
  obtain ⟨a, b, c⟩ := r
  simp only at hr
  have ha := hon a (by simp [f3])
  have hb := hon b (by simp [f3])
  have hc := hon c (by simp [f3])
  unfold fullR opnR f3
  simp only [List.all_cons, List.all_nil, Bool.and_true, mAt_set h0 hl ha.1, mAt_set h0 hl hb.1, mAt_set h0 hl hc.1, List.mem_cons, List.not_mem_nil, or_false]
  by_cases h1 : p = a
  · subst h1
    have e1 : ¬ b = p := by omega
    have e2 : ¬ c = p := by omega
    simp [e1, e2, hp]
  · have h1' : ¬ a = p := fun z => h1 z.symm
    by_cases h2 : p = b
    · subst h2
      have e2 : ¬ c = p := by omega
      simp [h1', e2, hp]
    · have h2' : ¬ b = p := fun z => h2 z.symm
      by_cases h3 : p = c
      · subst h3
        simp [h1', h2', hp]
      · have h3' : ¬ c = p := fun z => h3 z.symm
        simp [h1, h2, h3, h1', h2', h3']
end
theorem filter_or_len {α : Type} {f g o : α → Bool} : ∀ {xs : List α}, (∀ x ∈ xs, f x = (g x || o x) ∧ (g x && o x) = false) → (xs.filter f).length = (xs.filter g).length + (xs.filter o).length
  | [], _ => rfl
  | x :: xs, h => by
    have ih := filter_or_len (f := f) (g := g) (o := o) (xs := xs) fun y hy => h y (List.mem_cons_of_mem _ hy)
    obtain ⟨h1, h2⟩ := h x List.mem_cons_self
    simp only [List.filter_cons, h1]
    cases hg : g x <;> cases ho : o x <;> simp_all <;> omega
/-- the other side -/
def flipM : Option Int → Option Int
  | none => none
  | some i => some (1 - i)
theorem flipM_none (m : Option Int) : (flipM m).isNone = m.isNone := by cases m <;> rfl
theorem flipM_eq (m : Option Int) (w : Int) : flipM m = some (1 - w) ↔ m = some w := by
  cases m with
  | none => simp [flipM]
  | some i => simp [flipM]
theorem mAt_flip (ms : List (Option Int)) (p : Int) : mAt (ms.map flipM) p = flipM (mAt ms p) := by
  unfold mAt
  rw [List.getD_eq_getElem?_getD, List.getD_eq_getElem?_getD, List.getElem?_map]
  cases ms[p.toNat]? <;> rfl
theorem opnR_flip (ms : List (Option Int)) (w p : Int) (r : Int × Int × Int) : opnR (ms.map flipM) (1 - w) p r = opnR ms w p r := by
  unfold opnR
  congr 1
  rw [decide_eq_decide]
  have e : (mAt (ms.map flipM)) = flipM ∘ mAt ms := funext fun q => mAt_flip ms q
  rw [e, ← List.map_map]
  generalize ((f3 r).filter fun q => !decide (q = p)).map (mAt ms) = L
  match L with
  | [] => simp
  | [x] => simp
  | [x, y] => simp [flipM_eq]
  | x :: y :: z :: t => simp
theorem opnP_flip (b : Bd) (ms : List (Option Int)) (w k : Int) : opnP b (ms.map flipM) (1 - w) k = opnP b ms w k := by
  unfold opnP
  rw [whr_eq, whr_eq, List.length_map, List.filter_filter, List.filter_filter]
  apply List.filter_congr
  intro p _
  rw [mAt_flip, flipM_none, show opnR (ms.map flipM) (1 - w) p = opnR ms w p from funext fun r => opnR_flip ms w p r]
theorem opnP_mem {b : Bd} {ms : List (Option Int)} {w k p : Int} : p ∈ opnP b ms w k ↔ (0 ≤ p ∧ p < ms.length ∧ (mAt ms p).isNone = true) ∧ k ≤ ((b.rows.filter (opnR ms w p)).length : Int) := by
  unfold opnP
  rw [List.mem_filter, whr_mem, decide_eq_true_eq]
theorem opnP_law {b : Bd} {ms : List (Option Int)} {w : Int} (k : Int) (hk : 1 ≤ k) (hr : ∀ r ∈ b.rows, r.1 < r.2.1 ∧ r.2.1 < r.2.2) : opnP b ms w k = (upto ms.length).filter fun p => decide (k ≤ ((b.rows.filter (lopR ms w p)).length : Int)) := by
  unfold opnP
  rw [whr_eq, List.filter_filter]
  apply List.filter_congr
  intro p _
  by_cases h : mAt ms p = none
  · rw [h]
    simp only [Option.isNone_none, Bool.and_true]
    have e : b.rows.filter (opnR ms w p) = b.rows.filter (lopR ms w p) := List.filter_congr fun r hh => opn_lop (hr r hh) h
    rw [e]
  · have h1 : (mAt ms p).isNone = false := by
      cases q : mAt ms p with
      | none => exact absurd q h
      | some _ => rfl
    rw [h1]
    have h2 : b.rows.filter (lopR ms w p) = [] := List.filter_eq_nil_iff.mpr fun r _ => by unfold lopR; rw [h1]; simp
    rw [h2]
    simp
    omega
end Pf
/-! Mv: what the program's moving computes -/
namespace Pf
open PySem L2 Pu
structure Sd.Wk (n : Int) (s : Sd) : Prop where
  len : (s.men.length : Int) = n
  turn : s.turn = 0 ∨ s.turn = 1
theorem Sd.Ok.wk {n : Int} {s : Sd} (h : s.Ok n) : s.Wk n := ⟨h.len, h.turn⟩
def Sd.left (s : Sd) (w : Int) : Int := if w = 0 then s.l0 else s.l1
def isM (w : Int) (m : Option Int) : Bool := decide (m = some w)
def nbrs (b : Bd) (p : Int) : List Int := b.ties.flatMap fun t => (if t.1 = p then [t.2] else []) ++ (if t.2 = p then [t.1] else [])
def encP (p : Int × Int) : D := e2 p
section
variable {b : Bd} {s : Sd} {w p : Int}
theorem points_of_ev (hl : s.men.length ≤ 1000) : fpoints_of [encS s, .int w] = .ok (.list ((whr (isM w) s.men).map PyData.int)) := by
  have h : qpoints_of_1 [.dat (encS s), .dat (.int w), .un, .un] = .ok ((whr (isM w) s.men).map PyData.int) := by
    unfold qpoints_of_1
    exact xlc_whr (isM w) (by simp [encS, encM]) (by omega) fun p m _ _ _ => ⟨_, rfl, by simp [wipeE, eq_oMi, isM], by simp [wipeE]⟩
  apply runD_rt
  simp [bpoints_of, startE, h]
theorem left_ix (hw : w = 0 ∨ w = 1) : atI [PyData.int s.l0, PyData.int s.l1] w = some (.int (s.left w)) := by
  unfold Sd.left
  rcases hw with rfl | rfl <;> simp
theorem count_ev (hl : s.men.length ≤ 1000) (hw : w = 0 ∨ w = 1) : fcount [encS s, .int w] = .ok (.int ((whr (isM w) s.men).length + s.left w)) := by
  have h := points_of_ev (s := s) (w := w) hl
  have h2 : ixD (encS s) (.int 1) = some (.tuple [.int s.l0, .int s.l1]) := rfl
  apply runD_rt
  simp [bcount, startE, h, h2, left_ix hw]
theorem neighbours_ev (hb : b.ties.length ≤ 1000) : fneighbours [encB b, .int p] = .ok (.list ((nbrs b p).map PyData.int)) := by
  have hlen : ∀ l : List (Int × Int), (l.flatMap fun t => (if t.1 = p then [t.2] else []) ++ (if t.2 = p then [t.1] else [])).length ≤ 2 * l.length := by
    intro l
    induction l with
    | nil => simp
    | cons t l ih =>
      rw [List.flatMap_cons, List.length_append, List.length_append, List.length_cons]
      have a1 : (if t.1 = p then [t.2] else []).length ≤ 1 := by split <;> simp
      have a2 : (if t.2 = p then [t.1] else []).length ≤ 1 := by split <;> simp
      omega
  obtain ⟨e', h1, s3, s4, hE⟩ := forL_inv (enc := e2) (f := gtup (gcons (gn 3) (gcons (gn 4) gnil))) (B := lbneighbours_1) (fun pre e => ∃ s3 s4, e = [.dat (encB b), .dat (.int p), .own ((pre.flatMap fun t => (if t.1 = p then [t.2] else []) ++ (if t.2 = p then [t.1] else [])).map PyData.int), s3, s4]) b.ties []
    [.dat (encB b), .dat (.int p), .own [], .un, .un] ⟨_, _, rfl⟩ fun pre t rest e q ⟨s3, s4, h⟩ => by
      subst h
      rw [List.nil_append] at q
      have hlp : pre.length < b.ties.length := by rw [q, List.length_append, List.length_cons]; omega
      have hl := hlen pre
      rw [List.flatMap_append, List.flatMap_cons, List.flatMap_nil, List.append_nil]
      generalize (pre.flatMap fun t => (if t.1 = p then [t.2] else []) ++ (if t.2 = p then [t.1] else [])) = acc at hl
      obtain ⟨x, y⟩ := t
      refine ⟨_, [.dat (encB b), .dat (.int p), .own ((acc ++ ((if x = p then [y] else []) ++ (if y = p then [x] else []))).map PyData.int), .dat (.int x), .dat (.int y)], rfl, .inl ?_, _, _, rfl⟩
      have al : ∀ (ds : List D) (z : Int) (u3 u4 : Sl) (i : Nat), ds.length ≤ 5000 → True := fun _ _ _ _ _ _ => trivial
      have s1 : ∀ {G : En → R D} {ds : List Int} {z : Int}, ds.length ≤ 5000 → G [.dat (encB b), .dat (.int p), .own (ds.map PyData.int), .dat (.int x), .dat (.int y)] = .ok (.int z) → sapp 2 G [.dat (encB b), .dat (.int p), .own (ds.map PyData.int), .dat (.int x), .dat (.int y)] = .nx [.dat (encB b), .dat (.int p), .own ((ds ++ [z]).map PyData.int), .dat (.int x), .dat (.int y)] := by
        intro G ds z hd hG
        rw [sapp_ev (ds := ds.map PyData.int) rfl hG (by rw [List.length_map]; omega), List.map_append]
        rfl
      unfold lbneighbours_1
      show sseq _ _ [.dat (encB b), .dat (.int p), .own (acc.map PyData.int), .dat (.int x), .dat (.int y)] = _
      by_cases hx : x = p
      · by_cases hy : y = p
        · rw [sseq_ev, sif_t (by simp [hx]), s1 (z := y) (by omega) (by simp), then_nx, sif_t (by simp [hy]), s1 (z := x) (by rw [List.length_append]; simp; omega) (by simp)]
          rw [if_pos hx, if_pos hy, List.append_assoc]
        · rw [sseq_ev, sif_t (by simp [hx]), s1 (z := y) (by omega) (by simp), then_nx, sif_f (by simp [hy])]
          rw [if_pos hx, if_neg hy, List.append_nil]
          rfl
      · by_cases hy : y = p
        · rw [sseq_ev, sif_f (by simp [hx]), snil_ev, then_nx, sif_t (by simp [hy]), s1 (z := x) (by omega) (by simp)]
          rw [if_neg hx, if_pos hy, List.nil_append]
        · rw [sseq_ev, sif_f (by simp [hx]), snil_ev, then_nx, sif_f (by simp [hy])]
          rw [if_neg hx, if_neg hy, List.append_nil, List.append_nil]
          rfl
  subst hE
  have hl' : lneighbours_1 [.dat (encB b), .dat (.int p), .own [], .un, .un] = .nx _ := sfor_nx (by simp [encB]) h1
  apply runD_rt
  simp [bneighbours, startE, hl', nbrs]
/-! ### steps -/
def emp (ms : List (Option Int)) : List Int := whr (·.isNone) ms
def goalsT (b : Bd) (ms : List (Option Int)) (m : Nat) (q : Int) : List Int := if 3 < m then (nbrs b q).filter fun g => (mAt ms g).isNone else emp ms
def stepsT (b : Bd) (s : Sd) : List (Int × Int) :=
  if 0 < s.left s.turn then (emp s.men).map fun g => (-1, g) else (whr (isM s.turn) s.men).flatMap fun q => (goalsT b s.men (whr (isM s.turn) s.men).length q).map fun g => (q, g)
/-- the points of ties are on the board -/
def TiesOn (b : Bd) : Prop := ∀ t ∈ b.ties, 0 ≤ t.1 ∧ t.1 < b.n ∧ 0 ≤ t.2 ∧ t.2 < b.n
theorem Bd.Ok.tiesOn (h : b.Ok) : TiesOn b := fun t ht => by have := h.tie t ht; omega
theorem nbrs_on (h : TiesOn b) {q g : Int} (hg : g ∈ nbrs b q) : 0 ≤ g ∧ g < b.n := by
  unfold nbrs at hg
  obtain ⟨t, ht, hg⟩ := List.mem_flatMap.mp hg
  have := h t ht
  rcases List.mem_append.mp hg with hg | hg
  · split at hg
    · simp at hg; omega
    · simp at hg
  · split at hg
    · simp at hg; omega
    · simp at hg
theorem nbrs_len (b : Bd) (q : Int) : (nbrs b q).length ≤ 2 * b.ties.length := by
  unfold nbrs
  generalize b.ties = l
  induction l with
  | nil => simp
  | cons t l ih =>
    rw [List.flatMap_cons, List.length_append, List.length_append, List.length_cons]
    have a1 : (if t.1 = q then [t.2] else []).length ≤ 1 := by split <;> simp
    have a2 : (if t.2 = q then [t.1] else []).length ≤ 1 := by split <;> simp
    omega
theorem goals_len (hb : b.ties.length ≤ 200) (ms : List (Option Int)) (hl : ms.length ≤ 24) (m : Nat) (q : Int) : (goalsT b ms m q).length ≤ 400 := by
  unfold goalsT
  split
  · have := List.length_filter_le (fun g => (mAt ms g).isNone) (nbrs b q)
    have := nbrs_len b q
    omega
  · have := whr_length (·.isNone) ms
    unfold emp
    omega
theorem flat_len {α β : Type} {f : α → List β} {k : Nat} : ∀ {l : List α}, (∀ x ∈ l, (f x).length ≤ k) → (l.flatMap f).length ≤ k * l.length
  | [], _ => by simp
  | x :: l, h => by
    have := h x List.mem_cons_self
    have := flat_len (f := f) (k := k) (l := l) fun y hy => h y (List.mem_cons_of_mem _ hy)
    rw [List.flatMap_cons, List.length_append, List.length_cons, Nat.mul_succ]
    omega
theorem steps_ev (hb : b.ties.length ≤ 200) (ht : TiesOn b) (hn : b.n ≤ 24) (hs : s.Wk b.n) : fsteps [encB b, encS s] = .ok (.list ((stepsT b s).map e2)) := by
  have hlen := hs.len
  have hl : s.men.length ≤ 24 := by omega
  have hq1 : ∀ {t0 t1 t3 t4 t5 t6 t7 t8 t9 t12 : Sl}, qsteps_1 [t0, t1, .dat (encM s.men), t3, t4, t5, t6, t7, t8, t9, .un, .un, t12] = .ok ((emp s.men).map PyData.int) := by
    intros
    unfold qsteps_1
    exact xlc_whr (fun m => m.isNone) (by simp [encM]) (by omega) fun p m _ _ _ => ⟨_, rfl, by simp [wipeE], by simp [wipeE]⟩
  have hel : (emp s.men).length ≤ 24 := by have := whr_length (·.isNone) s.men; unfold emp; omega
  have hlx : atI [PyData.int s.l0, PyData.int s.l1] s.turn = some (.int (s.left s.turn)) := left_ix hs.turn
  unfold stepsT
  by_cases h0 : 0 < s.left s.turn
  · rw [if_pos h0]
    have hq2 : qsteps_2 (fz [.dat (encB b), .dat (encS s), .dat (encM s.men), .dat (.tuple [.int s.l0, .int s.l1]), .dat (.int s.turn), .dat (.list ((emp s.men).map PyData.int)), .un, .un, .un, .un, .un, .un, .un]) = .ok (((emp s.men).map fun g => ((-1 : Int), g)).map e2) := by
      unfold qsteps_2
      rw [xlc_all (enc := PyData.int) (xs := emp s.men) (fun g => e2 (-1, g)) (by simp) (by omega) fun g hg => ⟨_, rfl, rfl, by simp [wipeE, e2, f2, tJ]⟩, List.map_map]
      rfl
    apply runD_rt
    simp only [fz_cons, frz1_dat, frz1_un, fz_nil] at hq2
    have es : gtup (gcons (gn 2) (gcons (gn 3) (gcons (gn 4) gnil))) (encS s) [.dat (encB b), .dat (encS s), .un, .un, .un, .un, .un, .un, .un, .un, .un, .un, .un] = some [.dat (encB b), .dat (encS s), .dat (encM s.men), .dat (.tuple [.int s.l0, .int s.l1]), .dat (.int s.turn), .un, .un, .un, .un, .un, .un, .un, .un] := rfl
    simp [-List.map_map, bsteps, startE, es, hq1, hlx, h0, hq2]
  · rw [if_neg h0]
    have hp := points_of_ev (s := s) (w := s.turn) (by omega)
    have hml : (whr (isM s.turn) s.men).length ≤ 24 := by have := whr_length (isM s.turn) s.men; omega
    have hmine : ∀ q ∈ whr (isM s.turn) s.men, 0 ≤ q := fun q hq => (whr_mem.mp hq).1
    generalize whr (isM s.turn) s.men = mine at hp hml hmine
    obtain ⟨e', h1, s8, s9, hE⟩ := forL_inv (enc := PyData.int) (f := gn 8) (B := lbsteps_1) (fun pre e => ∃ s8 s9, e = [.dat (encB b), .dat (encS s), .dat (encM s.men), .dat (.tuple [.int s.l0, .int s.l1]), .dat (.int s.turn), .dat (.list ((emp s.men).map PyData.int)), .dat (.list (mine.map PyData.int)), .own ((pre.flatMap fun q => (goalsT b s.men mine.length q).map fun g => (q, g)).map e2), s8, s9, .un, .un, .un]) mine []
      [.dat (encB b), .dat (encS s), .dat (encM s.men), .dat (.tuple [.int s.l0, .int s.l1]), .dat (.int s.turn), .dat (.list ((emp s.men).map PyData.int)), .dat (.list (mine.map PyData.int)), .own [], .un, .un, .un, .un, .un] ⟨_, _, rfl⟩ fun pre q rest e qq ⟨s8, s9, h⟩ => by
        subst h
        rw [List.nil_append] at qq
        have hlp : pre.length < mine.length := by rw [qq, List.length_append, List.length_cons]; omega
        have hfl := flat_len (f := fun q => (goalsT b s.men mine.length q).map fun g => (q, g)) (k := 400) (l := pre) fun x _ => by rw [List.length_map]; exact goals_len hb s.men hl _ _
        rw [List.flatMap_append, List.flatMap_cons, List.flatMap_nil, List.append_nil]
        generalize (pre.flatMap fun q => (goalsT b s.men mine.length q).map fun g => (q, g)) = acc at hfl
        refine ⟨_, [.dat (encB b), .dat (encS s), .dat (encM s.men), .dat (.tuple [.int s.l0, .int s.l1]), .dat (.int s.turn), .dat (.list ((emp s.men).map PyData.int)), .dat (.list (mine.map PyData.int)), .own ((acc ++ (goalsT b s.men mine.length q).map fun g => (q, g)).map e2), .dat (.int q), .dat (.list ((goalsT b s.men mine.length q).map PyData.int)), .un, .un, .un], rfl, .inl ?_, _, _, rfl⟩
        have hgl := goals_len hb s.men hl mine.length q
        -- the goals
        have hg : (sseq (sasg 9 (xvE 5)) (sif (xbl (bin gtD (un1 lenD (xvV 6)) (xc (.int 3)))) (sasg 9 (asL qsteps_3)) snil)) [.dat (encB b), .dat (encS s), .dat (encM s.men), .dat (.tuple [.int s.l0, .int s.l1]), .dat (.int s.turn), .dat (.list ((emp s.men).map PyData.int)), .dat (.list (mine.map PyData.int)), .own (acc.map e2), .dat (.int q), s9, .un, .un, .un] =
            .nx [.dat (encB b), .dat (encS s), .dat (encM s.men), .dat (.tuple [.int s.l0, .int s.l1]), .dat (.int s.turn), .dat (.list ((emp s.men).map PyData.int)), .dat (.list (mine.map PyData.int)), .own (acc.map e2), .dat (.int q), .dat (.list ((goalsT b s.men mine.length q).map PyData.int)), .un, .un, .un] := by
          unfold goalsT
          by_cases h3 : 3 < mine.length
          · have h3' : (3 : Int) < (mine.length : Int) := by omega
            rw [if_pos h3]
            have hq3 : qsteps_3 [.dat (encB b), .dat (encS s), .dat (encM s.men), .dat (.tuple [.int s.l0, .int s.l1]), .dat (.int s.turn), .dat (.list ((emp s.men).map PyData.int)), .dat (.list (mine.map PyData.int)), .own (acc.map e2), .dat (.int q), .dat (.list ((emp s.men).map PyData.int)), .un, .un, .un] = .ok (((nbrs b q).filter fun g => (mAt s.men g).isNone).map PyData.int) := by
              unfold qsteps_3
              refine xlc_map (enc := PyData.int) (xs := nbrs b q) (fun g => (mAt s.men g).isNone) PyData.int (by simp [neighbours_ev (b := b) (p := q) (by omega)]) (by have := nbrs_len b q; omega) fun g hg => ⟨_, rfl, ?_, fun _ => by simp [wipeE]⟩
              have := nbrs_on ht hg
              simp [wipeE, encM, atI_men this.1 (show g < s.men.length by omega)]
            simp [h3', hq3]
          · have h3' : ¬ (3 : Int) < (mine.length : Int) := by omega
            rw [if_neg h3]
            simp [h3']
        have hq4 : qsteps_4 [.dat (encB b), .dat (encS s), .dat (encM s.men), .dat (.tuple [.int s.l0, .int s.l1]), .dat (.int s.turn), .dat (.list ((emp s.men).map PyData.int)), .dat (.list (mine.map PyData.int)), .own (acc.map e2), .dat (.int q), .dat (.list ((goalsT b s.men mine.length q).map PyData.int)), .un, .un, .un] = .ok (((goalsT b s.men mine.length q).map fun g => (q, g)).map e2) := by
          unfold qsteps_4
          rw [xlc_all (enc := PyData.int) (xs := goalsT b s.men mine.length q) (fun g => e2 (q, g)) (by simp) (by omega) fun g hg => ⟨_, rfl, rfl, by simp [wipeE, e2, f2, tJ]⟩, List.map_map]
          rfl
        have assoc : lbsteps_1 = sseq (sasg 9 (xvE 5)) (sseq (sif (xbl (bin gtD (un1 lenD (xvV 6)) (xc (.int 3)))) (sasg 9 (asL qsteps_3)) snil) (sext 7 (asL qsteps_4))) := rfl
        have as2 : ∀ (A B C : En → Fl) (e : En), sseq A (sseq B C) e = (sseq A B e).andThen C := by
          intro A B C e
          rw [sseq_ev, sseq_ev]
          cases A e <;> simp [Fl.andThen]
        show lbsteps_1 [.dat (encB b), .dat (encS s), .dat (encM s.men), .dat (.tuple [.int s.l0, .int s.l1]), .dat (.int s.turn), .dat (.list ((emp s.men).map PyData.int)), .dat (.list (mine.map PyData.int)), .own (acc.map e2), .dat (.int q), s9, .un, .un, .un] = _
        rw [assoc, as2, hg, then_nx, sext_ev (ds := acc.map e2) (d := .list (((goalsT b s.men mine.length q).map fun g => (q, g)).map e2)) rfl (by simp [-List.map_map, hq4]) rfl (by rw [List.length_map, List.length_map, List.length_map]; have : 400 * pre.length ≤ 400 * 24 := Nat.mul_le_mul_left _ (by omega); omega), List.map_append]
        rfl
    subst hE
    have hl' : lsteps_1 [.dat (encB b), .dat (encS s), .dat (encM s.men), .dat (.tuple [.int s.l0, .int s.l1]), .dat (.int s.turn), .dat (.list ((emp s.men).map PyData.int)), .dat (.list (mine.map PyData.int)), .own [], .un, .un, .un, .un, .un] = .nx _ := sfor_nx (by simp) h1
    have es : gtup (gcons (gn 2) (gcons (gn 3) (gcons (gn 4) gnil))) (encS s) [.dat (encB b), .dat (encS s), .un, .un, .un, .un, .un, .un, .un, .un, .un, .un, .un] = some [.dat (encB b), .dat (encS s), .dat (encM s.men), .dat (.tuple [.int s.l0, .int s.l1]), .dat (.int s.turn), .un, .un, .un, .un, .un, .un, .un, .un] := rfl
    apply runD_rt
    simp [-List.map_map, bsteps, startE, es, hq1, hlx, h0, hp, hl']
end
end Pf
/-! Mv2: takings, moves, winner -/
namespace Pf
open PySem L2 Pu
section
variable {b : Bd} {s : Sd} {w : Int}
/-! ### a step made -/
def stepM (ms : List (Option Int)) (beg goal w : Int) : List (Option Int) := (if 0 ≤ beg then ms.set beg.toNat none else ms).set goal.toNat (some w)
theorem stepM_len (ms : List (Option Int)) (beg goal w : Int) : (stepM ms beg goal w).length = ms.length := by
  unfold stepM
  rw [List.length_set]
  split <;> simp
theorem with_step_ev {ms : List (Option Int)} {beg goal : Int} (hb : beg < ms.length) (hg0 : 0 ≤ goal) (hg : goal < ms.length) : fwith_step [encM ms, .int beg, .int goal, .int w] = .ok (encM (stepM ms beg goal w)) := by
  apply runD_rt
  have p2 : ∀ {ms' : List (Option Int)}, ms'.length = ms.length → sput 4 (xvE 2) (xvE 3) [.dat (encM ms), .dat (.int beg), .dat (.int goal), .dat (.int w), .own (ms'.map oM)] = .nx [.dat (encM ms), .dat (.int beg), .dat (.int goal), .dat (.int w), .own ((ms'.set goal.toNat (some w)).map oM)] := by
    intro ms' hl
    rw [sput_ev (d := .int w) (n := goal) (m := goal.toNat) (ds := ms'.map oM) (by simp) rfl (by simp) (by rw [List.length_map]; exact ixN_nat hg0 (by omega)), List.map_set]
    rfl
  have hlist : listN (encM ms) = some (ms.map oM) := rfl
  unfold stepM
  by_cases h0 : 0 ≤ beg
  · have p1 : sput 4 (xvE 1) (xc .none) [.dat (encM ms), .dat (.int beg), .dat (.int goal), .dat (.int w), .own (ms.map oM)] = .nx [.dat (encM ms), .dat (.int beg), .dat (.int goal), .dat (.int w), .own ((ms.set beg.toNat none).map oM)] := by
      rw [sput_ev (d := .none) (n := beg) (m := beg.toNat) (ds := ms.map oM) (by simp) rfl (by simp) (by rw [List.length_map]; exact ixN_nat h0 (by omega)), List.map_set]
      rfl
    rw [if_pos h0]
    have q2 := p2 (ms' := ms.set beg.toNat none) (by simp)
    simp [-List.map_set, bwith_step, startE, hlist, h0, p1, q2]
    rfl
  · rw [if_neg h0]
    have q2 := p2 (ms' := ms) rfl
    simp [-List.map_set, bwith_step, startE, hlist, h0, q2]
    rfl
/-! ### what may be taken -/
def anyRow (rs : List (Int × Int × Int)) (p : Int) : Bool := rs.any fun r => decide (p ∈ f3 r)
def freeT (b : Bd) (ms : List (Option Int)) (w : Int) : List Int := (whr (isM (1 - w)) ms).filter fun p => !anyRow (b.rows.filter (fullR ms (1 - w))) p
def takT (b : Bd) (ms : List (Option Int)) (goal w : Int) : List Int :=
  if anyRow (b.rows.filter (fullR ms w)) goal = true then (if freeT b ms w ≠ [] then freeT b ms w else if whr (isM (1 - w)) ms ≠ [] then whr (isM (1 - w)) ms else [-1]) else [-1]
theorem takings_ev {ms : List (Option Int)} {goal : Int} (hrow : ∀ r ∈ b.rows, RowOn ms.length r) (hr : b.rows.length ≤ 1000) (hl : ms.length ≤ 24) : ftakings [encB b, encM ms, .int goal, .int w] = .ok (.list ((takT b ms goal w).map PyData.int)) := by
  have f1 := full_rows_ev (b := b) (ms := ms) (w := w) hrow hr
  have f2' := full_rows_ev (b := b) (ms := ms) (w := 1 - w) hrow hr
  have l1 : (b.rows.filter (fullR ms w)).length ≤ 1000 := Nat.le_trans (List.length_filter_le _ _) hr
  have l2 : (b.rows.filter (fullR ms (1 - w))).length ≤ 1000 := Nat.le_trans (List.length_filter_le _ _) hr
  have inr : ∀ (p : Int) (r : Int × Int × Int), inD (.int p) (e3 r) = some (.bool (decide (p ∈ f3 r))) := fun p r => in_tJ p (f3 r)
  have q1 : qtakings_1 [.dat (encB b), .dat (encM ms), .dat (.int goal), .dat (.int w), .un, .un, .un, .un, .un, .un] = .ok (((b.rows.filter (fullR ms w)).map fun r => decide (goal ∈ f3 r)).map PyData.bool) := by
    unfold qtakings_1
    rw [xlc_all (enc := e3) (xs := b.rows.filter (fullR ms w)) (fun r => .bool (decide (goal ∈ f3 r))) (by simp [f1]) (by omega) fun r _ => ⟨_, rfl, rfl, by simp [wipeE, inr]⟩, List.map_map]
    rfl
  have a1 : anyD (.list (((b.rows.filter (fullR ms w)).map fun r => decide (goal ∈ f3 r)).map PyData.bool)) = some (.bool (anyRow (b.rows.filter (fullR ms w)) goal)) := by
    rw [any_bools]
    unfold anyRow
    rw [List.any_map]
    rfl
  unfold takT
  by_cases h1 : anyRow (b.rows.filter (fullR ms w)) goal = true
  · rw [if_pos h1]
    rw [h1] at a1
    have q2 : qtakings_2 [.dat (encB b), .dat (encM ms), .dat (.int goal), .dat (.int w), .un, .un, .un, .un, .un, .un] = .ok ((whr (isM (1 - w)) ms).map PyData.int) := by
      unfold qtakings_2
      exact xlc_whr (isM (1 - w)) (by simp [encM]) (by omega) fun p m _ _ _ => ⟨_, rfl, by simp [wipeE, eq_oMi, isM], by simp [wipeE]⟩
    have lo : (whr (isM (1 - w)) ms).length ≤ 24 := by have := whr_length (isM (1 - w)) ms; omega
    have q4 : qtakings_4 [.dat (encB b), .dat (encM ms), .dat (.int goal), .dat (.int w), .dat (.list ((whr (isM (1 - w)) ms).map PyData.int)), .dat (.list ((b.rows.filter (fullR ms (1 - w))).map e3)), .un, .un, .un, .un] = .ok ((freeT b ms w).map PyData.int) := by
      unfold qtakings_4 freeT
      refine xlc_map (enc := PyData.int) (xs := whr (isM (1 - w)) ms) _ PyData.int (by simp) (by omega) fun p _ => ⟨_, rfl, ?_, fun _ => by simp [wipeE]⟩
      have q3 : ∀ {t4 t6 t8 t9 : Sl}, qtakings_3 [.dat (encB b), .dat (encM ms), .dat (.int goal), .dat (.int w), t4, .dat (.list ((b.rows.filter (fullR ms (1 - w))).map e3)), t6, .dat (.int p), t8, t9] = .ok (((b.rows.filter (fullR ms (1 - w))).map fun r => decide (p ∈ f3 r)).map PyData.bool) := by
        intros
        unfold qtakings_3
        rw [xlc_all (enc := e3) (xs := b.rows.filter (fullR ms (1 - w))) (fun r => .bool (decide (p ∈ f3 r))) (by simp) (by omega) fun r _ => ⟨_, rfl, rfl, by simp [wipeE, inr]⟩, List.map_map]
        rfl
      have a3 : anyD (.list (((b.rows.filter (fullR ms (1 - w))).map fun r => decide (p ∈ f3 r)).map PyData.bool)) = some (.bool (anyRow (b.rows.filter (fullR ms (1 - w))) p)) := by
        rw [any_bools]
        unfold anyRow
        rw [List.any_map]
        rfl
      simp [-List.map_map, wipeE, q3, a3]
    apply runD_rt
    generalize whr (isM (1 - w)) ms = ot at q2 q4
    generalize freeT b ms w = fr at q4
    have htr : ∀ L : List Int, truD (.list (L.map PyData.int)) = some (!L.isEmpty) := fun L => by cases L <;> rfl
    cases fr with
    | nil =>
      cases ot with
      | nil =>
        simp only [List.map_nil] at q2 q4
        simp [-List.map_map, btakings, startE, q1, a1, q2, f2', q4]
      | cons x r =>
        simp only [List.map_cons, List.map_nil] at q2 q4
        simp [-List.map_map, btakings, startE, q1, a1, q2, f2', q4]
    | cons x r =>
      simp only [List.map_cons] at q4
      simp [-List.map_map, btakings, startE, q1, a1, q2, f2', q4]
  · rw [if_neg h1]
    rw [Bool.eq_false_iff.mpr h1] at a1
    apply runD_rt
    simp [-List.map_map, btakings, startE, q1, a1]
/-! ### all moves -/
def movesU (b : Bd) (s : Sd) : List (Int × Int × Int) := (stepsT b s).flatMap fun st => (takT b (stepM s.men st.1 st.2 s.turn) st.2 s.turn).map fun t => (st.1, st.2, t)
theorem emp_mem {ms : List (Option Int)} {p : Int} : p ∈ emp ms ↔ 0 ≤ p ∧ p < ms.length ∧ mAt ms p = none := by
  unfold emp
  rw [whr_mem]
  constructor
  · rintro ⟨h0, h1, h2⟩
    refine ⟨h0, h1, ?_⟩
    cases q : mAt ms p with
    | none => rfl
    | some _ => rw [q] at h2; cases h2
  · rintro ⟨h0, h1, h2⟩
    exact ⟨h0, h1, by rw [h2]; rfl⟩
/-- where steps lead -/
theorem steps_on (ht : TiesOn b) (hs : s.Wk b.n) {st : Int × Int} (h : st ∈ stepsT b s) : (st.1 = -1 ∨ (0 ≤ st.1 ∧ st.1 < s.men.length ∧ mAt s.men st.1 = some s.turn)) ∧ 0 ≤ st.2 ∧ st.2 < s.men.length ∧ mAt s.men st.2 = none := by
  have hl := hs.len
  unfold stepsT at h
  split at h
  · obtain ⟨g, hg, rfl⟩ := List.mem_map.mp h
    rw [emp_mem] at hg
    exact ⟨.inl rfl, hg.1, hg.2.1, hg.2.2⟩
  · obtain ⟨q, hq, h⟩ := List.mem_flatMap.mp h
    obtain ⟨g, hg, rfl⟩ := List.mem_map.mp h
    rw [whr_mem] at hq
    have hq2 : mAt s.men q = some s.turn := of_decide_eq_true hq.2.2
    refine ⟨.inr ⟨hq.1, hq.2.1, hq2⟩, ?_⟩
    unfold goalsT at hg
    split at hg
    · rw [List.mem_filter] at hg
      have := nbrs_on ht hg.1
      refine ⟨this.1, by omega, ?_⟩
      show mAt s.men g = none
      cases q : mAt s.men g with
      | none => rfl
      | some _ => have := hg.2; rw [q] at this; cases this
    · rw [emp_mem] at hg
      exact ⟨hg.1, hg.2.1, hg.2.2⟩
theorem steps_len (hb : b.ties.length ≤ 200) (hl : s.men.length ≤ 24) : (stepsT b s).length ≤ 9600 := by
  unfold stepsT
  split
  · rw [List.length_map]
    have := whr_length (·.isNone) s.men
    unfold emp
    omega
  · have hf := flat_len (f := fun q => (goalsT b s.men (whr (isM s.turn) s.men).length q).map fun g => (q, g)) (k := 400) (l := whr (isM s.turn) s.men) fun x _ => by rw [List.length_map]; exact goals_len hb s.men hl _ _
    have := whr_length (isM s.turn) s.men
    have : 400 * (whr (isM s.turn) s.men).length ≤ 400 * 24 := Nat.mul_le_mul_left _ (by omega)
    omega
theorem tak_len {ms : List (Option Int)} (hl : ms.length ≤ 24) (goal w : Int) : (takT b ms goal w).length ≤ 24 := by
  have h1 := whr_length (isM (1 - w)) ms
  have h2 : (freeT b ms w).length ≤ (whr (isM (1 - w)) ms).length := List.length_filter_le _ _
  unfold takT
  split
  · split
    · omega
    · split
      · omega
      · simp
  · simp
theorem all_moves_ev (hb : b.ties.length ≤ 200) (ht : TiesOn b) (hr : b.rows.length ≤ 1000) (hrow : ∀ r ∈ b.rows, RowOn b.n r) (hn : b.n ≤ 24) (hs : s.Wk b.n) : fall_moves [encB b, encS s] = .ok (.list ((movesU b s).map e3)) := by
  have hlen := hs.len
  have hl : s.men.length ≤ 24 := by omega
  have hst := steps_ev hb ht hn hs
  have hsl := steps_len (b := b) (s := s) hb hl
  have hon : ∀ st ∈ stepsT b s, (st.1 = -1 ∨ (0 ≤ st.1 ∧ st.1 < s.men.length ∧ mAt s.men st.1 = some s.turn)) ∧ 0 ≤ st.2 ∧ st.2 < s.men.length ∧ mAt s.men st.2 = none := fun st h => steps_on ht hs h
  unfold movesU
  generalize stepsT b s = sts at hst hsl hon
  obtain ⟨e', h1, s6, s7, s8, hE⟩ := forL_inv (enc := e2) (f := gtup (gcons (gn 6) (gcons (gn 7) gnil))) (B := lball_moves_1) (fun pre e => ∃ s6 s7 s8, e = [.dat (encB b), .dat (encS s), .dat (encM s.men), .dat (.tuple [.int s.l0, .int s.l1]), .dat (.int s.turn), .own ((pre.flatMap fun st => (takT b (stepM s.men st.1 st.2 s.turn) st.2 s.turn).map fun t => (st.1, st.2, t)).map e3), s6, s7, s8, .un]) sts []
    [.dat (encB b), .dat (encS s), .dat (encM s.men), .dat (.tuple [.int s.l0, .int s.l1]), .dat (.int s.turn), .own [], .un, .un, .un, .un] ⟨_, _, _, rfl⟩ fun pre st rest e q ⟨s6, s7, s8, h⟩ => by
      subst h
      rw [List.nil_append] at q
      have hst' : st ∈ sts := by rw [q]; simp
      obtain ⟨o1, o2, o3, o4⟩ := hon st hst'
      have hlp : pre.length < sts.length := by rw [q, List.length_append, List.length_cons]; omega
      have hfl := flat_len (f := fun st : Int × Int => (takT b (stepM s.men st.1 st.2 s.turn) st.2 s.turn).map fun t => (st.1, st.2, t)) (k := 24) (l := pre) fun x _ => by rw [List.length_map]; exact tak_len (by rw [stepM_len]; exact hl) _ _
      rw [List.flatMap_append, List.flatMap_cons, List.flatMap_nil, List.append_nil]
      generalize (pre.flatMap fun st : Int × Int => (takT b (stepM s.men st.1 st.2 s.turn) st.2 s.turn).map fun t => (st.1, st.2, t)) = acc at hfl
      obtain ⟨x, y⟩ := st
      simp only at o1 o2 o3 o4 ⊢
      have hw := with_step_ev (w := s.turn) (ms := s.men) (beg := x) (goal := y) (by omega) o2 o3
      have htk := takings_ev (b := b) (w := s.turn) (ms := stepM s.men x y s.turn) (goal := y) (fun r h => by rw [stepM_len, hlen]; exact hrow r h) hr (by rw [stepM_len]; exact hl)
      have htl := tak_len (b := b) (ms := stepM s.men x y s.turn) (by rw [stepM_len]; exact hl) y s.turn
      generalize takT b (stepM s.men x y s.turn) y s.turn = tk at htk htl
      refine ⟨_, [.dat (encB b), .dat (encS s), .dat (encM s.men), .dat (.tuple [.int s.l0, .int s.l1]), .dat (.int s.turn), .own ((acc ++ tk.map fun t => (x, y, t)).map e3), .dat (.int x), .dat (.int y), .dat (.list (tk.map PyData.int)), .un], rfl, .inl ?_, _, _, _, rfl⟩
      have hq1 : qall_moves_1 [.dat (encB b), .dat (encS s), .dat (encM s.men), .dat (.tuple [.int s.l0, .int s.l1]), .dat (.int s.turn), .own (acc.map e3), .dat (.int x), .dat (.int y), .dat (.list (tk.map PyData.int)), .un] = .ok ((tk.map fun t => (x, y, t)).map e3) := by
        unfold qall_moves_1
        rw [xlc_all (enc := PyData.int) (xs := tk) (fun t => e3 (x, y, t)) (by simp) (by omega) fun t _ => ⟨_, rfl, rfl, by simp [wipeE, e3, f3, tJ]⟩, List.map_map]
        rfl
      show lball_moves_1 [.dat (encB b), .dat (encS s), .dat (encM s.men), .dat (.tuple [.int s.l0, .int s.l1]), .dat (.int s.turn), .own (acc.map e3), .dat (.int x), .dat (.int y), s8, .un] = _
      unfold lball_moves_1
      rw [sseq_ev]
      have h8 : sasg 8 (xcall 4 ftakings (lcons (xvE 0) (lcons (xcall 4 fwith_step (lcons (xvE 2) (lcons (xvE 6) (lcons (xvE 7) (lcons (xvE 4) lnil))))) (lcons (xvE 7) (lcons (xvE 4) lnil))))) [.dat (encB b), .dat (encS s), .dat (encM s.men), .dat (.tuple [.int s.l0, .int s.l1]), .dat (.int s.turn), .own (acc.map e3), .dat (.int x), .dat (.int y), s8, .un] =
          .nx [.dat (encB b), .dat (encS s), .dat (encM s.men), .dat (.tuple [.int s.l0, .int s.l1]), .dat (.int s.turn), .own (acc.map e3), .dat (.int x), .dat (.int y), .dat (.list (tk.map PyData.int)), .un] := by
        simp [-List.map_map, hw, htk]
      rw [h8, then_nx, sext_ev (ds := acc.map e3) (d := .list ((tk.map fun t => (x, y, t)).map e3)) rfl (by simp [-List.map_map, hq1]) rfl (by rw [List.length_map, List.length_map, List.length_map]; have h3 : 24 * pre.length ≤ 24 * 9600 := Nat.mul_le_mul_left _ (by omega); omega), List.map_append]
      rfl
  subst hE
  have hl' : lall_moves_1 [.dat (encB b), .dat (encS s), .dat (encM s.men), .dat (.tuple [.int s.l0, .int s.l1]), .dat (.int s.turn), .own [], .un, .un, .un, .un] = .nx _ := sfor_nx (by simp [hst]) h1
  have es : gtup (gcons (gn 2) (gcons (gn 3) (gcons (gn 4) gnil))) (encS s) [.dat (encB b), .dat (encS s), .un, .un, .un, .un, .un, .un, .un, .un] = some [.dat (encB b), .dat (encS s), .dat (encM s.men), .dat (.tuple [.int s.l0, .int s.l1]), .dat (.int s.turn), .un, .un, .un, .un, .un] := rfl
  apply runD_rt
  simp [-List.map_map, ball_moves, startE, es, hl']
/-! ### who has won -/
def winT (b : Bd) (s : Sd) : Option Int := if ((whr (isM s.turn) s.men).length : Int) + s.left s.turn < 3 ∨ stepsT b s = [] then some (1 - s.turn) else none
theorem winner_ev (hb : b.ties.length ≤ 200) (ht : TiesOn b) (hn : b.n ≤ 24) (hs : s.Wk b.n) : fwinner [encB b, encS s] = .ok (oM (winT b s)) := by
  have hlen := hs.len
  have h1 := count_ev (s := s) (w := s.turn) (by omega) hs.turn
  have h2 := steps_ev hb ht hn hs
  have h3 : ixD (encS s) (.int 2) = some (.int s.turn) := rfl
  apply runD_rt
  unfold winT
  by_cases c1 : ((whr (isM s.turn) s.men).length : Int) + s.left s.turn < 3
  · rw [if_pos (.inl c1)]
    simp [bwinner, startE, h3, h1, c1]
  · by_cases c2 : stepsT b s = []
    · rw [if_pos (.inr c2)]
      rw [c2] at h2
      simp [bwinner, startE, h3, h1, c1, h2]
    · rw [if_neg (by rintro (z | z) <;> contradiction)]
      cases h : stepsT b s with
      | nil => exact absurd h c2
      | cons x r =>
        rw [h] at h2
        simp [bwinner, startE, h3, h1, c1, h2]
def movesT (b : Bd) (s : Sd) : List (Int × Int × Int) := if winT b s = none then sortT f3 (movesU b s) else []
theorem movesU_len (hb : b.ties.length ≤ 200) (hl : s.men.length ≤ 24) : (movesU b s).length ≤ 230400 := by
  unfold movesU
  have h1 := flat_len (f := fun st : Int × Int => (takT b (stepM s.men st.1 st.2 s.turn) st.2 s.turn).map fun t => (st.1, st.2, t)) (k := 24) (l := stepsT b s) fun x _ => by rw [List.length_map]; exact tak_len (by rw [stepM_len]; exact hl) _ _
  have h2 := steps_len (b := b) (s := s) hb hl
  have h3 : 24 * (stepsT b s).length ≤ 24 * 9600 := Nat.mul_le_mul_left _ h2
  omega
theorem moves_ev (hb : b.ties.length ≤ 200) (ht : TiesOn b) (hr : b.rows.length ≤ 1000) (hrow : ∀ r ∈ b.rows, RowOn b.n r) (hn : b.n ≤ 24) (hs : s.Wk b.n) : fmoves [encB b, encS s] = .ok (.tuple ((movesT b s).map e3)) := by
  have hlen := hs.len
  have h1 := winner_ev hb ht hn hs
  have h2 := all_moves_ev hb ht hr hrow hn hs
  have h3 : sortD ((movesU b s).map e3) = some ((sortT f3 (movesU b s)).map e3) := sort_tJ (f := f3) (fun a => by simp [f3]) (by have := movesU_len (b := b) (s := s) hb (by omega); omega)
  apply runD_rt
  unfold movesT
  cases hw : winT b s with
  | none =>
    rw [hw] at h1
    simp [bmoves, startE, h1, h2, h3]
  | some v =>
    rw [hw] at h1
    simp [bmoves, startE, h1]
theorem moves_ok (hb : b.Ok) (hs : s.Wk b.n) : fmoves [encB b, encS s] = .ok (.tuple ((movesT b s).map e3)) := moves_ev hb.nt hb.tiesOn hb.nr hb.on hb.hi hs
theorem winner_ok (hb : b.Ok) (hs : s.Wk b.n) : fwinner [encB b, encS s] = .ok (oM (winT b s)) := winner_ev hb.nt hb.tiesOn hb.hi hs
end
end Pf
/-! Lw: the law's own steps, moves, winner -/
namespace Pf
open PySem L2 Pu
section
variable {b : Bd} {s : Sd} {w : Int}
theorem e2_inj (p q : Int × Int) (h : e2 p = e2 q) : p = q := f2_inj p q (tJ_inj _ _ h)
theorem e3_inj (p q : Int × Int × Int) (h : e3 p = e3 q) : p = q := f3_inj p q (tJ_inj _ _ h)
theorem in_ties (p : Int × Int) (ts : List (Int × Int)) : inD (e2 p) (.tuple (ts.map e2)) = some (.bool (decide (p ∈ ts))) := by
  unfold inD
  rw [in_t (enc := e2) (k := 1) e2_inj (fun a => tJ_pl _) (fun a => tJ_shp _) (by decide)]
  exact congrArg (fun x => some (PyData.bool x)) (decide_eq_decide.mpr Iff.rfl)
theorem in_moves (p : Int × Int × Int) (ts : List (Int × Int × Int)) : inD (e3 p) (.tuple (ts.map e3)) = some (.bool (decide (p ∈ ts))) := by
  unfold inD
  rw [in_t (enc := e3) (k := 1) e3_inj (fun a => tJ_pl _) (fun a => tJ_shp _) (by decide)]
  exact congrArg (fun x => some (PyData.bool x)) (decide_eq_decide.mpr Iff.rfl)
theorem notIn_moves (p : Int × Int × Int) (ts : List (Int × Int × Int)) : notInD (e3 p) (.tuple (ts.map e3)) = some (.bool (!decide (p ∈ ts))) := by
  unfold notInD
  rw [in_t (enc := e3) (k := 1) e3_inj (fun a => tJ_pl _) (fun a => tJ_shp _) (by decide)]
  exact congrArg (fun x => some (PyData.bool (!x))) (decide_eq_decide.mpr Iff.rfl)
/-! ### steps -/
def lgC (b : Bd) (m : Nat) (q g : Int) : Bool := decide (m < 4) || decide ((min q g, max q g) ∈ b.ties)
def lgoals (b : Bd) (ms : List (Option Int)) (m : Nat) (q : Int) : List Int := (emp ms).filter (lgC b m q)
def lstepsT (b : Bd) (s : Sd) : List (Int × Int) :=
  if 0 < s.left s.turn then (emp s.men).map fun g => (-1, g) else (whr (isM s.turn) s.men).flatMap fun q => (lgoals b s.men (whr (isM s.turn) s.men).length q).map fun g => (q, g)
theorem lsteps_ev (hn : b.n ≤ 24) (hs : s.Wk b.n) : f_law_steps [encB b, encS s] = .ok (.list ((lstepsT b s).map e2)) := by
  have hlen := hs.len
  have hl : s.men.length ≤ 24 := by omega
  have hnn : b.n.toNat = s.men.length := by omega
  have hix : ixD (encB b) (.int 0) = some (.int b.n) := rfl
  have hix1 : ixD (encB b) (.int 1) = some (.tuple (b.ties.map e2)) := rfl
  have hrg : rng1 (.int b.n) = some ((upto b.n.toNat).map PyData.int) := rng1_ev (by omega) (by omega)
  have hq1 : ∀ {t1 t3 t4 t5 t6 t7 t8 t9 : Sl}, q_law_steps_1 [.dat (encB b), t1, .dat (encM s.men), t3, t4, t5, t6, t7, t8, t9, .un] = .ok ((emp s.men).map PyData.int) := by
    intros
    unfold q_law_steps_1 emp
    rw [whr_eq, ← hnn]
    refine xlc_map (enc := PyData.int) (xs := upto b.n.toNat) _ PyData.int (by simp [hix, hrg]) (by rw [upto_length]; omega) fun p hp => ⟨_, rfl, ?_, fun _ => by simp [wipeE]⟩
    rw [upto_mem] at hp
    simp [wipeE, encM, atI_men hp.1 (show p < s.men.length by omega)]
  have hel : (emp s.men).length ≤ 24 := by have := whr_length (·.isNone) s.men; unfold emp; omega
  have hlx : atI [PyData.int s.l0, PyData.int s.l1] s.turn = some (.int (s.left s.turn)) := left_ix hs.turn
  have es : gtup (gcons (gn 2) (gcons (gn 3) (gcons (gn 4) gnil))) (encS s) [.dat (encB b), .dat (encS s), .un, .un, .un, .un, .un, .un, .un, .un, .un] = some [.dat (encB b), .dat (encS s), .dat (encM s.men), .dat (.tuple [.int s.l0, .int s.l1]), .dat (.int s.turn), .un, .un, .un, .un, .un, .un] := rfl
  unfold lstepsT
  by_cases h0 : 0 < s.left s.turn
  · rw [if_pos h0]
    have hq2 : q_law_steps_2 (fz [.dat (encB b), .dat (encS s), .dat (encM s.men), .dat (.tuple [.int s.l0, .int s.l1]), .dat (.int s.turn), .dat (.list ((emp s.men).map PyData.int)), .un, .un, .un, .un, .un]) = .ok (((emp s.men).map fun g => ((-1 : Int), g)).map e2) := by
      unfold q_law_steps_2
      rw [xlc_all (enc := PyData.int) (xs := emp s.men) (fun g => e2 (-1, g)) (by simp) (by omega) fun g hg => ⟨_, rfl, rfl, by simp [wipeE, e2, f2, tJ]⟩, List.map_map]
      rfl
    simp only [fz_cons, frz1_dat, frz1_un, fz_nil] at hq2
    apply runD_rt
    simp [-List.map_map, b_law_steps, startE, es, hq1, hlx, h0, hq2]
  · rw [if_neg h0]
    have hq3 : ∀ {t1 t3 t5 t6 t7 t8 t9 : Sl}, q_law_steps_3 [.dat (encB b), t1, .dat (encM s.men), t3, .dat (.int s.turn), t5, t6, t7, t8, t9, .un] = .ok ((whr (isM s.turn) s.men).map PyData.int) := by
      intros
      unfold q_law_steps_3
      rw [whr_eq, ← hnn]
      refine xlc_map (enc := PyData.int) (xs := upto b.n.toNat) _ PyData.int (by simp [hix, hrg]) (by rw [upto_length]; omega) fun p hp => ⟨_, rfl, ?_, fun _ => by simp [wipeE]⟩
      rw [upto_mem] at hp
      simp [wipeE, encM, atI_men hp.1 (show p < s.men.length by omega), eq_oMi, isM]
    have hml : (whr (isM s.turn) s.men).length ≤ 24 := by have := whr_length (isM s.turn) s.men; omega
    generalize whr (isM s.turn) s.men = mine at hq3 hml
    have hgl : ∀ q, (lgoals b s.men mine.length q).length ≤ 24 := fun q => Nat.le_trans (List.length_filter_le _ _) hel
    -- the inner loop
    have inner : ∀ (q : Int) (acc : List (Int × Int)) (s9 : Sl), acc.length ≤ 2000 → ∃ s9', l_law_steps_1 [.dat (encB b), .dat (encS s), .dat (encM s.men), .dat (.tuple [.int s.l0, .int s.l1]), .dat (.int s.turn), .dat (.list ((emp s.men).map PyData.int)), .dat (.list (mine.map PyData.int)), .own (acc.map e2), .dat (.int q), s9, .un] =
        .nx [.dat (encB b), .dat (encS s), .dat (encM s.men), .dat (.tuple [.int s.l0, .int s.l1]), .dat (.int s.turn), .dat (.list ((emp s.men).map PyData.int)), .dat (.list (mine.map PyData.int)), .own ((acc ++ (lgoals b s.men mine.length q).map fun g => (q, g)).map e2), .dat (.int q), s9', .un] := by
      intro q acc s9 hacc
      obtain ⟨e', h1, s9', hE⟩ := forL_inv (enc := PyData.int) (f := gn 9) (B := lb_law_steps_1) (fun pre e => ∃ s9, e = [.dat (encB b), .dat (encS s), .dat (encM s.men), .dat (.tuple [.int s.l0, .int s.l1]), .dat (.int s.turn), .dat (.list ((emp s.men).map PyData.int)), .dat (.list (mine.map PyData.int)), .own ((acc ++ (pre.filter (lgC b mine.length q)).map fun g => (q, g)).map e2), .dat (.int q), s9, .un]) (emp s.men) []
        [.dat (encB b), .dat (encS s), .dat (encM s.men), .dat (.tuple [.int s.l0, .int s.l1]), .dat (.int s.turn), .dat (.list ((emp s.men).map PyData.int)), .dat (.list (mine.map PyData.int)), .own (acc.map e2), .dat (.int q), s9, .un] ⟨s9, by simp⟩ fun pre g rest e qq ⟨s9, h⟩ => by
          subst h
          rw [List.nil_append] at qq
          have hlp : pre.length < (emp s.men).length := by rw [qq, List.length_append, List.length_cons]; omega
          have hlf : (pre.filter (lgC b mine.length q)).length ≤ pre.length := List.length_filter_le _ _
          have htie : ∀ {t1 t2 t3 t4 t5 t6 t7 : Sl}, bin inD (xtup (lcons (bin min2D (xvV 8) (xvV 9)) (lcons (bin max2D (xvV 8) (xvV 9)) lnil))) (bin ixD (xvV 0) (xc (.int 1))) [.dat (encB b), t1, t2, t3, t4, t5, t6, t7, .dat (.int q), .dat (.int g), .un] = .ok (.bool (decide ((min q g, max q g) ∈ b.ties))) := by
            intros
            rw [bin_ev, show ∀ {t1 t2 t3 t4 t5 t6 t7 : Sl}, xtup (lcons (bin min2D (xvV 8) (xvV 9)) (lcons (bin max2D (xvV 8) (xvV 9)) lnil)) [.dat (encB b), t1, t2, t3, t4, t5, t6, t7, .dat (.int q), .dat (.int g), .un] = .ok (e2 (min q g, max q g)) from by intros; simp [e2, f2, tJ], bind_ok]
            simp [hix1, in_ties]
          by_cases hc : lgC b mine.length q g = true
          · refine ⟨_, [.dat (encB b), .dat (encS s), .dat (encM s.men), .dat (.tuple [.int s.l0, .int s.l1]), .dat (.int s.turn), .dat (.list ((emp s.men).map PyData.int)), .dat (.list (mine.map PyData.int)), .own ((acc ++ ((pre ++ [g]).filter (lgC b mine.length q)).map fun g => (q, g)).map e2), .dat (.int q), .dat (.int g), .un], rfl, .inl ?_, _, rfl⟩
            rw [List.filter_append, List.filter_cons_of_pos hc, List.filter_nil]
            unfold lb_law_steps_1
            show sif _ _ _ [.dat (encB b), .dat (encS s), .dat (encM s.men), .dat (.tuple [.int s.l0, .int s.l1]), .dat (.int s.turn), .dat (.list ((emp s.men).map PyData.int)), .dat (.list (mine.map PyData.int)), .own ((acc ++ (pre.filter (lgC b mine.length q)).map fun g => (q, g)).map e2), .dat (.int q), .dat (.int g), .un] = _
            rw [sif_t ?_]
            · rw [sapp_ev (d := e2 (q, g)) rfl (by simp [e2, f2, tJ]) (by rw [List.length_map, List.length_append, List.length_map]; omega)]
              rw [List.map_append, List.map_append, List.map_append, List.map_append, List.append_assoc]
              rfl
            · by_cases h4 : (mine.length : Int) < 4
              · simp [-List.map_append, -List.map_map, h4]
              · have h4' : ¬ mine.length < 4 := by omega
                have h5 : (min q g, max q g) ∈ b.ties := by simpa [lgC, h4'] using hc
                rw [tor_ev, xbl_ev, xbl_ev, htie]
                simp [-List.map_append, -List.map_map, h4, h5]
          · refine ⟨_, [.dat (encB b), .dat (encS s), .dat (encM s.men), .dat (.tuple [.int s.l0, .int s.l1]), .dat (.int s.turn), .dat (.list ((emp s.men).map PyData.int)), .dat (.list (mine.map PyData.int)), .own ((acc ++ ((pre ++ [g]).filter (lgC b mine.length q)).map fun g => (q, g)).map e2), .dat (.int q), .dat (.int g), .un], rfl, .inl ?_, _, rfl⟩
            rw [List.filter_append, List.filter_cons_of_neg hc, List.filter_nil, List.append_nil]
            unfold lb_law_steps_1
            show sif _ _ _ [.dat (encB b), .dat (encS s), .dat (encM s.men), .dat (.tuple [.int s.l0, .int s.l1]), .dat (.int s.turn), .dat (.list ((emp s.men).map PyData.int)), .dat (.list (mine.map PyData.int)), .own ((acc ++ (pre.filter (lgC b mine.length q)).map fun g => (q, g)).map e2), .dat (.int q), .dat (.int g), .un] = _
            rw [sif_f ?_]
            · rfl
            · have hc' : ¬ mine.length < 4 ∧ ¬ (min q g, max q g) ∈ b.ties := by
                unfold lgC at hc
                simp only [Bool.or_eq_true, decide_eq_true_eq, not_or] at hc
                exact hc
              have h4 : ¬ (mine.length : Int) < 4 := by omega
              rw [tor_ev, xbl_ev, xbl_ev, htie]
              simp [-List.map_append, -List.map_map, h4, hc'.2]
      subst hE
      refine ⟨s9', sfor_nx (by simp) h1⟩
    obtain ⟨e', h1, s8, s9, hE⟩ := forL_inv (enc := PyData.int) (f := gn 8) (B := lb_law_steps_2) (fun pre e => ∃ s8 s9, e = [.dat (encB b), .dat (encS s), .dat (encM s.men), .dat (.tuple [.int s.l0, .int s.l1]), .dat (.int s.turn), .dat (.list ((emp s.men).map PyData.int)), .dat (.list (mine.map PyData.int)), .own ((pre.flatMap fun q => (lgoals b s.men mine.length q).map fun g => (q, g)).map e2), s8, s9, .un]) mine []
      [.dat (encB b), .dat (encS s), .dat (encM s.men), .dat (.tuple [.int s.l0, .int s.l1]), .dat (.int s.turn), .dat (.list ((emp s.men).map PyData.int)), .dat (.list (mine.map PyData.int)), .own [], .un, .un, .un] ⟨_, _, rfl⟩ fun pre q rest e qq ⟨s8, s9, h⟩ => by
        subst h
        rw [List.nil_append] at qq
        have hlp : pre.length < mine.length := by rw [qq, List.length_append, List.length_cons]; omega
        have hfl := flat_len (f := fun q => (lgoals b s.men mine.length q).map fun g => (q, g)) (k := 24) (l := pre) fun x _ => by rw [List.length_map]; exact hgl x
        rw [List.flatMap_append, List.flatMap_cons, List.flatMap_nil, List.append_nil]
        obtain ⟨s9', hin⟩ := inner q (pre.flatMap fun q => (lgoals b s.men mine.length q).map fun g => (q, g)) s9 (by omega)
        exact ⟨_, _, rfl, .inl hin, _, _, rfl⟩
    subst hE
    have hl' : l_law_steps_2 [.dat (encB b), .dat (encS s), .dat (encM s.men), .dat (.tuple [.int s.l0, .int s.l1]), .dat (.int s.turn), .dat (.list ((emp s.men).map PyData.int)), .dat (.list (mine.map PyData.int)), .own [], .un, .un, .un] = .nx _ := sfor_nx (by simp) h1
    apply runD_rt
    simp [-List.map_map, b_law_steps, startE, es, hq1, hlx, h0, hq3, hl']
end
end Pf
/-! Lw2: the law's own moves and winner -/
namespace Pf
open PySem L2 Pu
section
variable {b : Bd} {s : Sd} {w : Int}
theorem whr_count (ms : List (Option Int)) (w : Int) : (whr (isM w) ms).length = ms.count (some w) := by
  unfold whr enumM
  rw [List.length_map]
  have : ∀ (k : Nat) (l : List (Option Int)), ((l.mapIdx fun i m => (((i + k : Nat) : Int), m)).filter fun p => isM w p.2).length = l.count (some w) := by
    intro k l
    induction l generalizing k with
    | nil => rfl
    | cons m l ih =>
      rw [List.mapIdx_cons]
      have e : (l.mapIdx fun i m => (((i + 1 + k : Nat) : Int), m)) = l.mapIdx fun i m => (((i + (k + 1) : Nat) : Int), m) := by
        congr 1
        funext i m
        rw [show i + 1 + k = i + (k + 1) by omega]
      rw [e, List.filter_cons, List.count_cons]
      have ih' := ih (k + 1)
      by_cases h : m = some w
      · subst h
        have : isM w (some w) = true := decide_eq_true rfl
        simp only [this, if_true, List.length_cons, ih', beq_self_eq_true]
      · have : isM w m = false := decide_eq_false h
        simp only [this, Bool.false_eq_true, if_false, ih']
        have h2 : (m == some w) = false := by rw [beq_eq_false_iff_ne]; exact h
        rw [h2]
        simp
  have := this 0 ms
  simpa using this
def lwinT (b : Bd) (s : Sd) : Option Int := if ((whr (isM s.turn) s.men).length : Int) + s.left s.turn < 3 ∨ lstepsT b s = [] then some (1 - s.turn) else none
theorem lwinner_ev (hn : b.n ≤ 24) (hs : s.Wk b.n) : f_law_winner [encB b, encS s] = .ok (oM (lwinT b s)) := by
  have hlen := hs.len
  have h2 := lsteps_ev hn hs
  have hlx : atI [PyData.int s.l0, PyData.int s.l1] s.turn = some (.int (s.left s.turn)) := left_ix hs.turn
  have es : gtup (gcons (gn 2) (gcons (gn 3) (gcons (gn 4) gnil))) (encS s) [.dat (encB b), .dat (encS s), .un, .un, .un] = some [.dat (encB b), .dat (encS s), .dat (encM s.men), .dat (.tuple [.int s.l0, .int s.l1]), .dat (.int s.turn)] := rfl
  have hc : xcount (xvV 2) (xvV 4) [.dat (encB b), .dat (encS s), .dat (encM s.men), .dat (.tuple [.int s.l0, .int s.l1]), .dat (.int s.turn)] = .ok (.int ((whr (isM s.turn) s.men).length : Nat)) := by
    rw [whr_count]
    exact xcount_ev (x := encM s.men) (y := .int s.turn) (by simp) (by simp) (.inr ⟨_, rfl⟩) (count_men_t _ _)
  apply runD_rt
  unfold lwinT
  by_cases c1 : ((whr (isM s.turn) s.men).length : Int) + s.left s.turn < 3
  · rw [if_pos (.inl c1)]
    simp [b_law_winner, startE, es, hc, hlx, c1]
  · by_cases c2 : lstepsT b s = []
    · rw [if_pos (.inr c2)]
      rw [c2] at h2
      simp [b_law_winner, startE, es, hc, hlx, c1, h2]
    · rw [if_neg (by rintro (z | z) <;> contradiction)]
      cases h : lstepsT b s with
      | nil => exact absurd h c2
      | cons x r =>
        rw [h] at h2
        simp [b_law_winner, startE, es, hc, hlx, c1, h2]
theorem fullR_list (ms : List (Option Int)) (w : Int) (r : Int × Int × Int) : decide ((f3 r).map (mAt ms) = [some w, some w, some w]) = fullR ms w r := by
  unfold fullR f3
  rw [Bool.eq_iff_iff]
  simp
theorem lrows_ev {ms : List (Option Int)} (hrow : ∀ r ∈ b.rows, RowOn ms.length r) (hr : b.rows.length ≤ 1000) : f_law_rows_of [encB b, .list (ms.map oM), .int w] = .ok (.list ((b.rows.filter (fullR ms w)).map e3)) := by
  have h : q_law_rows_of_2 [.dat (encB b), .dat (.list (ms.map oM)), .dat (.int w), .un, .un] = .ok ((b.rows.filter (fullR ms w)).map e3) := by
    unfold q_law_rows_of_2
    refine xlc_map (enc := e3) (xs := b.rows) (fullR ms w) e3 (by simp [encB]) (by omega) fun r hr' => ⟨_, rfl, ?_, fun _ => by simp [wipeE]⟩
    have h1 : ∀ {t4 : Sl}, q_law_rows_of_1 [.dat (encB b), .dat (.list (ms.map oM)), .dat (.int w), .dat (e3 r), t4] = .ok (((f3 r).map (mAt ms)).map oM) := by
      intros
      unfold q_law_rows_of_1
      rw [xlc_all (enc := PyData.int) (xs := f3 r) (fun p => oM (mAt ms p)) (by simp [e3, tJ]) (by simp [f3]) fun p hp => ?_]
      · rw [List.map_map]; rfl
      · obtain ⟨g0, g1⟩ := hrow r hr' p hp
        exact ⟨_, rfl, rfl, by simp [wipeE, atI_men g0 g1]⟩
    have he := eq_menL ((f3 r).map (mAt ms)) [some w, some w, some w]
    rw [fullR_list] at he
    simp only [List.map_cons, List.map_nil, oM_s] at he
    simp [-List.map_map, wipeE, h1, he]
  apply runD_rt
  simp [b_law_rows_of, startE, h]
/-! ### the man led away -/
def newM (ms : List (Option Int)) (beg : Int) : List (Option Int) := if 0 ≤ beg then ms.set beg.toNat none else ms
theorem newM_map (ms : List (Option Int)) (beg : Int) : (enumM ms).map (fun p => if p.1 = beg then none else p.2) = newM ms beg := by
  unfold enumM newM
  apply List.ext_getElem?
  intro i
  rw [List.getElem?_map, List.getElem?_mapIdx]
  split
  · rename_i h
    rw [List.getElem?_set]
    by_cases hi : beg.toNat = i
    · rw [if_pos hi]
      have : (i : Int) = beg := by omega
      cases q : ms[i]? with
      | none =>
        have := List.getElem?_eq_none_iff.mp q
        rw [if_neg (by omega)]
        rfl
      | some m =>
        have := (List.getElem?_eq_some_iff.mp q).1
        rw [if_pos (by omega)]
        show some (if (i : Int) = beg then none else m) = _
        rw [if_pos (by omega)]
    · rw [if_neg hi]
      cases q : ms[i]? with
      | none => rfl
      | some m =>
        show some (if (i : Int) = beg then none else m) = _
        rw [if_neg (by omega)]
  · cases q : ms[i]? with
    | none => rfl
    | some m =>
      show some (if (i : Int) = beg then none else m) = _
      rw [if_neg (by omega)]
theorem stepM_new (ms : List (Option Int)) (beg goal w : Int) : stepM ms beg goal w = (newM ms beg).set goal.toNat (some w) := rfl
def lmovesU (b : Bd) (s : Sd) : List (Int × Int × Int) := (lstepsT b s).flatMap fun st => (takT b (stepM s.men st.1 st.2 s.turn) st.2 s.turn).map fun t => (st.1, st.2, t)
theorem lsteps_on (hs : s.Wk b.n) {st : Int × Int} (h : st ∈ lstepsT b s) : (st.1 = -1 ∨ (0 ≤ st.1 ∧ st.1 < s.men.length ∧ mAt s.men st.1 = some s.turn)) ∧ 0 ≤ st.2 ∧ st.2 < s.men.length ∧ mAt s.men st.2 = none := by
  have hl := hs.len
  unfold lstepsT at h
  split at h
  · obtain ⟨g, hg, rfl⟩ := List.mem_map.mp h
    rw [emp_mem] at hg
    exact ⟨.inl rfl, hg.1, hg.2.1, hg.2.2⟩
  · obtain ⟨q, hq, h⟩ := List.mem_flatMap.mp h
    obtain ⟨g, hg, rfl⟩ := List.mem_map.mp h
    rw [whr_mem] at hq
    have hq2 : mAt s.men q = some s.turn := of_decide_eq_true hq.2.2
    refine ⟨.inr ⟨hq.1, hq.2.1, hq2⟩, ?_⟩
    unfold lgoals at hg
    rw [List.mem_filter, emp_mem] at hg
    exact hg.1
theorem lsteps_len (hl : s.men.length ≤ 24) : (lstepsT b s).length ≤ 600 := by
  have hel : (emp s.men).length ≤ 24 := by have := whr_length (·.isNone) s.men; unfold emp; omega
  unfold lstepsT
  split
  · rw [List.length_map]; omega
  · have hf := flat_len (f := fun q => (lgoals b s.men (whr (isM s.turn) s.men).length q).map fun g => (q, g)) (k := 24) (l := whr (isM s.turn) s.men) fun x _ => by rw [List.length_map]; exact Nat.le_trans (List.length_filter_le _ _) hel
    have := whr_length (isM s.turn) s.men
    omega
/-- a turn of the law's loop -/
theorem lbmoves_ev (hr : b.rows.length ≤ 1000) (hrow : ∀ r ∈ b.rows, RowOn b.n r) (hn : b.n ≤ 24) (hs : s.Wk b.n) {x y : Int} (hx : x < s.men.length) (hy0 : 0 ≤ y) (hy : y < s.men.length) {acc : List (Int × Int × Int)} (ha : acc.length ≤ 100000) {s8 s9 s10 s11 s12 s13 : Sl} :
    ∃ t8 t9 t10 t11 t12 t13, lb_law_moves_2 [.dat (encB b), .dat (encS s), .dat (encM s.men), .dat (.tuple [.int s.l0, .int s.l1]), .dat (.int s.turn), .own (acc.map e3), .dat (.int x), .dat (.int y), s8, s9, s10, s11, s12, s13, .un, .un, .un] =
      .nx [.dat (encB b), .dat (encS s), .dat (encM s.men), .dat (.tuple [.int s.l0, .int s.l1]), .dat (.int s.turn), .own ((acc ++ (takT b (stepM s.men x y s.turn) y s.turn).map fun t => (x, y, t)).map e3), .dat (.int x), .dat (.int y), t8, t9, t10, t11, t12, t13, .un, .un, .un] := by
  have hlen := hs.len
  have hl : s.men.length ≤ 24 := by omega
  have hq1 : q_law_moves_1 [.dat (encB b), .dat (encS s), .dat (encM s.men), .dat (.tuple [.int s.l0, .int s.l1]), .dat (.int s.turn), .own (acc.map e3), .dat (.int x), .dat (.int y), s8, s9, s10, s11, s12, s13, .un, .un, .un] = .ok ((newM s.men x).map oM) := by
    unfold q_law_moves_1
    rw [xlc_all (enc := encE) (xs := enumM s.men) (fun p => oM (if p.1 = x then none else p.2)) (by simp [-List.map_map, encM, enum_men]) (by rw [enumM_length]; omega) fun p _ => ?_]
    · rw [← newM_map, List.map_map]
      rfl
    · refine ⟨_, rfl, rfl, ?_⟩
      by_cases h : p.1 = x
      · simp [-List.map_map, wipeE, h]
      · simp [-List.map_map, wipeE, h]
  have hnl : (newM s.men x).length = s.men.length := by unfold newM; split <;> simp
  have hml : (stepM s.men x y s.turn).length = s.men.length := stepM_len _ _ _ _
  have hput : sput 8 (xvE 7) (xvE 4) [.dat (encB b), .dat (encS s), .dat (encM s.men), .dat (.tuple [.int s.l0, .int s.l1]), .dat (.int s.turn), .own (acc.map e3), .dat (.int x), .dat (.int y), .own ((newM s.men x).map oM), s9, s10, s11, s12, s13, .un, .un, .un] =
      .nx [.dat (encB b), .dat (encS s), .dat (encM s.men), .dat (.tuple [.int s.l0, .int s.l1]), .dat (.int s.turn), .own (acc.map e3), .dat (.int x), .dat (.int y), .own ((stepM s.men x y s.turn).map oM), s9, s10, s11, s12, s13, .un, .un, .un] := by
    rw [sput_ev (d := .int s.turn) (n := y) (m := y.toNat) (ds := (newM s.men x).map oM) (by simp [-List.map_map]) rfl (by simp [-List.map_map]) (by rw [List.length_map]; exact ixN_nat hy0 (by omega)), stepM_new, List.map_set]
    rfl
  have hrow' : ∀ r ∈ b.rows, RowOn (stepM s.men x y s.turn).length r := fun r h => by rw [hml, hlen]; exact hrow r h
  have r1 := lrows_ev (b := b) (w := s.turn) (ms := stepM s.men x y s.turn) hrow' hr
  have r2 := lrows_ev (b := b) (w := 1 - s.turn) (ms := stepM s.men x y s.turn) hrow' hr
  have htl := tak_len (b := b) (ms := stepM s.men x y s.turn) (by omega) y s.turn
  have nn : b.n.toNat = (stepM s.men x y s.turn).length := by omega
  unfold takT at htl ⊢
  generalize stepM s.men x y s.turn = nm at hput hml hrow' r1 r2 htl nn
  have l1 : (b.rows.filter (fullR nm s.turn)).length ≤ 1000 := Nat.le_trans (List.length_filter_le _ _) hr
  have l2 : (b.rows.filter (fullR nm (1 - s.turn))).length ≤ 1000 := Nat.le_trans (List.length_filter_le _ _) hr
  have inr : ∀ (p : Int) (r : Int × Int × Int), inD (.int p) (e3 r) = some (.bool (decide (p ∈ f3 r))) := fun p r => in_tJ p (f3 r)
  have hq2 : q_law_moves_2 [.dat (encB b), .dat (encS s), .dat (encM s.men), .dat (.tuple [.int s.l0, .int s.l1]), .dat (.int s.turn), .own (acc.map e3), .dat (.int x), .dat (.int y), .dat (.list (nm.map oM)), .dat (.list [.int (-1)]), s10, s11, s12, s13, .un, .un, .un] = .ok (((b.rows.filter (fullR nm s.turn)).filter fun r => decide (y ∈ f3 r)).map e3) := by
    unfold q_law_moves_2
    exact xlc_map (enc := e3) (xs := b.rows.filter (fullR nm s.turn)) _ e3 (by simp [-List.map_map, r1]) (by omega) fun r _ => ⟨_, rfl, by simp [-List.map_map, wipeE, inr], fun _ => by simp [-List.map_map, wipeE]⟩
  have fin : ∀ (tk : List Int) (u8 u10 u11 u12 u13 : Sl), tk.length ≤ 24 → sext 5 (asL q_law_moves_5) [.dat (encB b), .dat (encS s), .dat (encM s.men), .dat (.tuple [.int s.l0, .int s.l1]), .dat (.int s.turn), .own (acc.map e3), .dat (.int x), .dat (.int y), u8, .dat (.list (tk.map PyData.int)), u10, u11, u12, u13, .un, .un, .un] =
      .nx [.dat (encB b), .dat (encS s), .dat (encM s.men), .dat (.tuple [.int s.l0, .int s.l1]), .dat (.int s.turn), .own ((acc ++ tk.map fun t => (x, y, t)).map e3), .dat (.int x), .dat (.int y), u8, .dat (.list (tk.map PyData.int)), u10, u11, u12, u13, .un, .un, .un] := by
    intro tk u8 u10 u11 u12 u13 htk
    have hq5 : q_law_moves_5 [.dat (encB b), .dat (encS s), .dat (encM s.men), .dat (.tuple [.int s.l0, .int s.l1]), .dat (.int s.turn), .own (acc.map e3), .dat (.int x), .dat (.int y), u8, .dat (.list (tk.map PyData.int)), u10, u11, u12, u13, .un, .un, .un] = .ok ((tk.map fun t => (x, y, t)).map e3) := by
      unfold q_law_moves_5
      rw [xlc_all (enc := PyData.int) (xs := tk) (fun t => e3 (x, y, t)) (by simp) (by omega) fun t _ => ⟨_, rfl, rfl, by simp [wipeE, e3, f3, tJ]⟩, List.map_map]
      rfl
    rw [sext_ev (ds := acc.map e3) (d := .list ((tk.map fun t => (x, y, t)).map e3)) rfl (by simp [-List.map_map, hq5]) rfl (by rw [List.length_map, List.length_map, List.length_map]; omega), List.map_append]
    rfl
  have hne : ∀ (rs : List (Int × Int × Int)) (p : Int), anyRow rs p = !(rs.filter fun r => decide (p ∈ f3 r)).isEmpty := by
    intro rs p
    unfold anyRow
    induction rs with
    | nil => rfl
    | cons r rs ih =>
      rw [List.any_cons, List.filter_cons]
      by_cases h : decide (p ∈ f3 r) = true
      · rw [h]; simp
      · rw [Bool.eq_false_iff.mpr h]
        simp only [Bool.false_or, Bool.false_eq_true, if_false]
        exact ih
  by_cases h1 : anyRow (b.rows.filter (fullR nm s.turn)) y = true
  · rw [if_pos h1] at htl ⊢
    have ht2 : truD (.list (((b.rows.filter (fullR nm s.turn)).filter fun r => decide (y ∈ f3 r)).map e3)) = some true := by
      have h2 := h1
      rw [hne] at h2
      cases q : ((b.rows.filter (fullR nm s.turn)).filter fun r => decide (y ∈ f3 r)) with
      | nil => rw [q] at h2; cases h2
      | cons _ _ => rfl
    -- held
    obtain ⟨e', g1, u11, hE⟩ := forL_inv (enc := e3) (f := gn 11) (B := lb_law_moves_1) (fun pre e => ∃ u11, e = [.dat (encB b), .dat (encS s), .dat (encM s.men), .dat (.tuple [.int s.l0, .int s.l1]), .dat (.int s.turn), .own (acc.map e3), .dat (.int x), .dat (.int y), .dat (.list (nm.map oM)), .dat (.list [.int (-1)]), .own ((pre.flatMap f3).map PyData.int), u11, s12, s13, .un, .un, .un]) (b.rows.filter (fullR nm (1 - s.turn))) []
      [.dat (encB b), .dat (encS s), .dat (encM s.men), .dat (.tuple [.int s.l0, .int s.l1]), .dat (.int s.turn), .own (acc.map e3), .dat (.int x), .dat (.int y), .dat (.list (nm.map oM)), .dat (.list [.int (-1)]), .own [], s11, s12, s13, .un, .un, .un] ⟨_, rfl⟩ fun pre r rest e q ⟨u11, h⟩ => by
        subst h
        rw [List.nil_append] at q
        have hlp : pre.length < (b.rows.filter (fullR nm (1 - s.turn))).length := by rw [q, List.length_append, List.length_cons]; omega
        have hfl := flat_len (f := f3) (k := 3) (l := pre) fun x _ => by simp [f3]
        rw [List.flatMap_append, List.flatMap_cons, List.flatMap_nil, List.append_nil]
        refine ⟨_, [.dat (encB b), .dat (encS s), .dat (encM s.men), .dat (.tuple [.int s.l0, .int s.l1]), .dat (.int s.turn), .own (acc.map e3), .dat (.int x), .dat (.int y), .dat (.list (nm.map oM)), .dat (.list [.int (-1)]), .own ((pre.flatMap f3 ++ f3 r).map PyData.int), .dat (e3 r), s12, s13, .un, .un, .un], rfl, .inl ?_, _, rfl⟩
        show lb_law_moves_1 [.dat (encB b), .dat (encS s), .dat (encM s.men), .dat (.tuple [.int s.l0, .int s.l1]), .dat (.int s.turn), .own (acc.map e3), .dat (.int x), .dat (.int y), .dat (.list (nm.map oM)), .dat (.list [.int (-1)]), .own ((pre.flatMap f3).map PyData.int), .dat (e3 r), s12, s13, .un, .un, .un] = _
        unfold lb_law_moves_1
        rw [sext_ev (ds := (pre.flatMap f3).map PyData.int) (d := e3 r) (es := (f3 r).map PyData.int) rfl (by simp [-List.map_map]) rfl (by rw [List.length_map, List.length_map]; have : (f3 r).length = 3 := rfl; omega), List.map_append]
        rfl
    rw [List.nil_append] at hE
    subst hE
    have hheld : l_law_moves_1 [.dat (encB b), .dat (encS s), .dat (encM s.men), .dat (.tuple [.int s.l0, .int s.l1]), .dat (.int s.turn), .own (acc.map e3), .dat (.int x), .dat (.int y), .dat (.list (nm.map oM)), .dat (.list [.int (-1)]), .own [], s11, s12, s13, .un, .un, .un] = .nx _ := sfor_nx (by simp [-List.map_map, r2]) g1
    generalize hH : (b.rows.filter (fullR nm (1 - s.turn))).flatMap f3 = held at hheld
    have hix : ixD (encB b) (.int 0) = some (.int b.n) := rfl
    have hrg : rng1 (.int b.n) = some ((upto b.n.toNat).map PyData.int) := rng1_ev (by omega) (by omega)
    have hq3 : q_law_moves_3 [.dat (encB b), .dat (encS s), .dat (encM s.men), .dat (.tuple [.int s.l0, .int s.l1]), .dat (.int s.turn), .own (acc.map e3), .dat (.int x), .dat (.int y), .dat (.list (nm.map oM)), .dat (.list [.int (-1)]), .own (held.map PyData.int), u11, s12, s13, .un, .un, .un] = .ok ((whr (isM (1 - s.turn)) nm).map PyData.int) := by
      unfold q_law_moves_3
      rw [whr_eq, ← nn]
      refine xlc_map (enc := PyData.int) (xs := upto b.n.toNat) _ PyData.int (by simp [-List.map_map, hix, hrg]) (by rw [upto_length]; omega) fun p hp => ⟨_, rfl, ?_, fun _ => by simp [-List.map_map, wipeE]⟩
      rw [upto_mem] at hp
      simp [-List.map_map, wipeE, atI_men hp.1 (show p < nm.length by omega), eq_oMi, isM]
    have hol : (whr (isM (1 - s.turn)) nm).length ≤ 24 := by have := whr_length (isM (1 - s.turn)) nm; omega
    have hq4 : q_law_moves_4 [.dat (encB b), .dat (encS s), .dat (encM s.men), .dat (.tuple [.int s.l0, .int s.l1]), .dat (.int s.turn), .own (acc.map e3), .dat (.int x), .dat (.int y), .dat (.list (nm.map oM)), .dat (.list [.int (-1)]), .own (held.map PyData.int), u11, .dat (.list ((whr (isM (1 - s.turn)) nm).map PyData.int)), s13, .un, .un, .un] = .ok ((freeT b nm s.turn).map PyData.int) := by
      unfold q_law_moves_4 freeT
      refine xlc_map (enc := PyData.int) (xs := whr (isM (1 - s.turn)) nm) _ PyData.int (by simp [-List.map_map]) (by omega) fun p hp => ⟨_, rfl, ?_, fun _ => by simp [-List.map_map, wipeE]⟩
      have hni : notInD (.int p) (.list (held.map PyData.int)) = some (.bool (!anyRow (b.rows.filter (fullR nm (1 - s.turn))) p)) := by
        unfold notInD
        rw [in_ints_l]
        have : decide (p ∈ held) = anyRow (b.rows.filter (fullR nm (1 - s.turn))) p := by
          rw [← hH, Bool.eq_iff_iff, decide_eq_true_eq, List.mem_flatMap]
          unfold anyRow
          rw [List.any_eq_true]
          constructor
          · rintro ⟨r, h1, h2⟩; exact ⟨r, h1, decide_eq_true h2⟩
          · rintro ⟨r, h1, h2⟩; exact ⟨r, h1, of_decide_eq_true h2⟩
        rw [this]
        rfl
      simp [-List.map_map, wipeE, hni]
    have hd8 : ∀ (A : En → Fl), sfz 8 A [.dat (encB b), .dat (encS s), .dat (encM s.men), .dat (.tuple [.int s.l0, .int s.l1]), .dat (.int s.turn), .own (acc.map e3), .dat (.int x), .dat (.int y), .own (nm.map oM), .dat (.list [.int (-1)]), s10, s11, s12, s13, .un, .un, .un] = A [.dat (encB b), .dat (encS s), .dat (encM s.men), .dat (.tuple [.int s.l0, .int s.l1]), .dat (.int s.turn), .own (acc.map e3), .dat (.int x), .dat (.int y), .dat (.list (nm.map oM)), .dat (.list [.int (-1)]), s10, s11, s12, s13, .un, .un, .un] := fun A => rfl
    generalize whr (isM (1 - s.turn)) nm = ot at hq3 hq4 hol htl
    generalize freeT b nm s.turn = fr at hq4 htl
    cases fr with
    | cons z r =>
      rw [if_pos (by simp)] at htl ⊢
      have f := fin (z :: r) (.dat (.list (nm.map oM))) (.own (held.map PyData.int)) u11 (.dat (.list (ot.map PyData.int))) (.dat (.list ((z :: r).map PyData.int))) htl
      refine ⟨.dat (.list (nm.map oM)), .dat (.list ((z :: r).map PyData.int)), .own (held.map PyData.int), u11, .dat (.list (ot.map PyData.int)), .dat (.list ((z :: r).map PyData.int)), ?_⟩
      have htr : truD (.list ((z :: r).map PyData.int)) = some true := rfl
      simp only [lb_law_moves_2, sseq_ev, sasgN_ev, hq1, liftL_ok, then_nx, List.set_cons_succ, List.set_cons_zero, hput, sasg_ev, asL_ev, xlst_ev, lcons_ev, un1_ev, xc_ev, bind_ok, neg_i, opt_some, lnil_ev, mkL_ev (show [PyData.int (-1)].length ≤ 1000000 by decide), liftE_ok, hd8]
      rw [sif_t (by simp only [xtru_ev, asL_ev, hq2, bind_ok, ht2, opt_some])]
      simp only [sseq_ev, sasgN_ev, xlst_ev, lnil_ev, bind_ok, mkL_ev (show ([] : List D).length ≤ 1000000 by decide), liftL_ok, then_nx, List.set_cons_succ, List.set_cons_zero, hheld, sasg_ev, asL_ev, hq3, hq4, liftE_ok]
      rw [sif_t (by simp only [xtru_ev, xvV_ev, getV_s, getV_z, bind_ok, htr, opt_some])]
      simp only [sasg_ev, xvE_ev, getE_s, getE_z, liftE_ok, then_nx, List.set_cons_succ, List.set_cons_zero]
      exact f
    | nil =>
      rw [if_neg (by simp)] at htl ⊢
      cases ot with
      | cons z r =>
        rw [if_pos (by simp)] at htl ⊢
        have f := fin (z :: r) (.dat (.list (nm.map oM))) (.own (held.map PyData.int)) u11 (.dat (.list ((z :: r).map PyData.int))) (.dat (.list ([] : List D))) htl
        refine ⟨.dat (.list (nm.map oM)), .dat (.list ((z :: r).map PyData.int)), .own (held.map PyData.int), u11, .dat (.list ((z :: r).map PyData.int)), .dat (.list []), ?_⟩
        have htr : truD (.list ((z :: r).map PyData.int)) = some true := rfl
        have htr0 : truD (.list ([].map PyData.int)) = some false := rfl
        simp only [lb_law_moves_2, sseq_ev, sasgN_ev, hq1, liftL_ok, then_nx, List.set_cons_succ, List.set_cons_zero, hput, sasg_ev, asL_ev, xlst_ev, lcons_ev, un1_ev, xc_ev, bind_ok, neg_i, opt_some, lnil_ev, mkL_ev (show [PyData.int (-1)].length ≤ 1000000 by decide), liftE_ok, hd8]
        rw [sif_t (by simp only [xtru_ev, asL_ev, hq2, bind_ok, ht2, opt_some])]
        simp only [sseq_ev, sasgN_ev, xlst_ev, lnil_ev, bind_ok, mkL_ev (show ([] : List D).length ≤ 1000000 by decide), liftL_ok, then_nx, List.set_cons_succ, List.set_cons_zero, hheld, sasg_ev, asL_ev, hq3, hq4, liftE_ok]
        rw [sif_f (by simp only [xtru_ev, xvV_ev, getV_s, getV_z, bind_ok, htr0, opt_some]), sif_t (by simp only [xtru_ev, xvV_ev, getV_s, getV_z, bind_ok, htr, opt_some])]
        simp only [sasg_ev, xvE_ev, getE_s, getE_z, liftE_ok, then_nx, List.set_cons_succ, List.set_cons_zero]
        exact f
      | nil =>
        rw [if_neg (by simp)] at htl ⊢
        have f := fin [-1] (.dat (.list (nm.map oM))) (.own (held.map PyData.int)) u11 (.dat (.list ([] : List D))) (.dat (.list ([] : List D))) htl
        refine ⟨.dat (.list (nm.map oM)), .dat (.list ([-1].map PyData.int)), .own (held.map PyData.int), u11, .dat (.list []), .dat (.list []), ?_⟩
        have htr0 : truD (.list ([].map PyData.int)) = some false := rfl
        simp only [lb_law_moves_2, sseq_ev, sasgN_ev, hq1, liftL_ok, then_nx, List.set_cons_succ, List.set_cons_zero, hput, sasg_ev, asL_ev, xlst_ev, lcons_ev, un1_ev, xc_ev, bind_ok, neg_i, opt_some, lnil_ev, mkL_ev (show [PyData.int (-1)].length ≤ 1000000 by decide), liftE_ok, hd8]
        rw [sif_t (by simp only [xtru_ev, asL_ev, hq2, bind_ok, ht2, opt_some])]
        simp only [sseq_ev, sasgN_ev, xlst_ev, lnil_ev, bind_ok, mkL_ev (show ([] : List D).length ≤ 1000000 by decide), liftL_ok, then_nx, List.set_cons_succ, List.set_cons_zero, hheld, sasg_ev, asL_ev, hq3, hq4, liftE_ok]
        rw [sif_f (by simp only [xtru_ev, xvV_ev, getV_s, getV_z, bind_ok, htr0, opt_some]), sif_f (by simp only [xtru_ev, xvV_ev, getV_s, getV_z, bind_ok, htr0, opt_some])]
        simp only [snil_ev, then_nx]
        exact f
  · rw [if_neg h1] at htl ⊢
    have ht2 : truD (.list (((b.rows.filter (fullR nm s.turn)).filter fun r => decide (y ∈ f3 r)).map e3)) = some false := by
      have h2 := Bool.eq_false_iff.mpr h1
      rw [hne] at h2
      cases q : ((b.rows.filter (fullR nm s.turn)).filter fun r => decide (y ∈ f3 r)) with
      | nil => rfl
      | cons _ _ => rw [q] at h2; cases h2
    have hd8 : ∀ (A : En → Fl), sfz 8 A [.dat (encB b), .dat (encS s), .dat (encM s.men), .dat (.tuple [.int s.l0, .int s.l1]), .dat (.int s.turn), .own (acc.map e3), .dat (.int x), .dat (.int y), .own (nm.map oM), .dat (.list [.int (-1)]), s10, s11, s12, s13, .un, .un, .un] = A [.dat (encB b), .dat (encS s), .dat (encM s.men), .dat (.tuple [.int s.l0, .int s.l1]), .dat (.int s.turn), .own (acc.map e3), .dat (.int x), .dat (.int y), .dat (.list (nm.map oM)), .dat (.list [.int (-1)]), s10, s11, s12, s13, .un, .un, .un] := fun A => rfl
    have f := fin [-1] (.dat (.list (nm.map oM))) s10 s11 s12 s13 htl
    refine ⟨.dat (.list (nm.map oM)), .dat (.list ([-1].map PyData.int)), s10, s11, s12, s13, ?_⟩
    simp only [lb_law_moves_2, sseq_ev, sasgN_ev, hq1, liftL_ok, then_nx, List.set_cons_succ, List.set_cons_zero, hput, sasg_ev, asL_ev, xlst_ev, lcons_ev, un1_ev, xc_ev, bind_ok, neg_i, opt_some, lnil_ev, mkL_ev (show [PyData.int (-1)].length ≤ 1000000 by decide), liftE_ok, hd8]
    rw [sif_f (by simp only [xtru_ev, asL_ev, hq2, bind_ok, ht2, opt_some])]
    simp only [snil_ev, then_nx]
    exact f
def lmovesT (b : Bd) (s : Sd) : List (Int × Int × Int) := if lwinT b s = none then sortT f3 (lmovesU b s) else []
theorem lmoves_ev (hr : b.rows.length ≤ 1000) (hrow : ∀ r ∈ b.rows, RowOn b.n r) (hn : b.n ≤ 24) (hs : s.Wk b.n) : f_law_moves [encB b, encS s] = .ok (.tuple ((lmovesT b s).map e3)) := by
  have hlen := hs.len
  have hl : s.men.length ≤ 24 := by omega
  have hw := lwinner_ev hn hs
  have hst := lsteps_ev hn hs
  have es : gtup (gcons (gn 2) (gcons (gn 3) (gcons (gn 4) gnil))) (encS s) [.dat (encB b), .dat (encS s), .un, .un, .un, .un, .un, .un, .un, .un, .un, .un, .un, .un, .un, .un, .un] = some [.dat (encB b), .dat (encS s), .dat (encM s.men), .dat (.tuple [.int s.l0, .int s.l1]), .dat (.int s.turn), .un, .un, .un, .un, .un, .un, .un, .un, .un, .un, .un, .un] := rfl
  apply runD_rt
  unfold lmovesT
  cases hwin : lwinT b s with
  | some v =>
    rw [hwin] at hw
    simp [b_law_moves, startE, es, hw]
  | none =>
    rw [hwin] at hw
    have hsl := lsteps_len (b := b) (s := s) hl
    have hon : ∀ st ∈ lstepsT b s, (st.1 = -1 ∨ (0 ≤ st.1 ∧ st.1 < s.men.length ∧ mAt s.men st.1 = some s.turn)) ∧ 0 ≤ st.2 ∧ st.2 < s.men.length ∧ mAt s.men st.2 = none := fun st h => lsteps_on hs h
    have hul : (lmovesU b s).length ≤ 24 * (lstepsT b s).length := flat_len fun x _ => by rw [List.length_map]; exact tak_len (by rw [stepM_len]; exact hl) _ _
    have hsort : sortD ((lmovesU b s).map e3) = some ((sortT f3 (lmovesU b s)).map e3) := sort_tJ (f := f3) (fun a => by simp [f3]) (by omega)
    unfold lmovesU at hsort hul ⊢
    generalize lstepsT b s = sts at hst hsl hon hsort hul
    obtain ⟨e', h1, s6, s7, s8, s9, s10, s11, s12, s13, hE⟩ := forL_inv (enc := e2) (f := gtup (gcons (gn 6) (gcons (gn 7) gnil))) (B := lb_law_moves_2) (fun pre e => ∃ s6 s7 s8 s9 s10 s11 s12 s13, e = [.dat (encB b), .dat (encS s), .dat (encM s.men), .dat (.tuple [.int s.l0, .int s.l1]), .dat (.int s.turn), .own ((pre.flatMap fun st => (takT b (stepM s.men st.1 st.2 s.turn) st.2 s.turn).map fun t => (st.1, st.2, t)).map e3), s6, s7, s8, s9, s10, s11, s12, s13, .un, .un, .un]) sts []
      [.dat (encB b), .dat (encS s), .dat (encM s.men), .dat (.tuple [.int s.l0, .int s.l1]), .dat (.int s.turn), .own [], .un, .un, .un, .un, .un, .un, .un, .un, .un, .un, .un] ⟨_, _, _, _, _, _, _, _, rfl⟩ fun pre st rest e q ⟨s6, s7, s8, s9, s10, s11, s12, s13, h⟩ => by
        subst h
        rw [List.nil_append] at q
        have hst' : st ∈ sts := by rw [q]; simp
        obtain ⟨o1, o2, o3, o4⟩ := hon st hst'
        have hlp : pre.length < sts.length := by rw [q, List.length_append, List.length_cons]; omega
        have hfl := flat_len (f := fun st : Int × Int => (takT b (stepM s.men st.1 st.2 s.turn) st.2 s.turn).map fun t => (st.1, st.2, t)) (k := 24) (l := pre) fun x _ => by rw [List.length_map]; exact tak_len (by rw [stepM_len]; exact hl) _ _
        rw [List.flatMap_append, List.flatMap_cons, List.flatMap_nil, List.append_nil]
        obtain ⟨x, y⟩ := st
        obtain ⟨t8, t9, t10, t11, t12, t13, hlb⟩ := lbmoves_ev (b := b) (s := s) hr hrow hn hs (x := x) (y := y) (by simp only at o1; omega) o2 o3 (acc := pre.flatMap fun st => (takT b (stepM s.men st.1 st.2 s.turn) st.2 s.turn).map fun t => (st.1, st.2, t)) (by omega) (s8 := s8) (s9 := s9) (s10 := s10) (s11 := s11) (s12 := s12) (s13 := s13)
        exact ⟨_, _, rfl, .inl hlb, _, _, _, _, _, _, _, _, rfl⟩
    rw [List.nil_append] at hE
    subst hE
    have hl' : l_law_moves_2 [.dat (encB b), .dat (encS s), .dat (encM s.men), .dat (.tuple [.int s.l0, .int s.l1]), .dat (.int s.turn), .own [], .un, .un, .un, .un, .un, .un, .un, .un, .un, .un, .un] = .nx _ := sfor_nx (by simp [hst]) h1
    simp [-List.map_map, b_law_moves, startE, es, hw, hl', hsort]
/-! ### both are alike -/
theorem tie_iff (hb : b.Ok) (q g : Int) (hqg : q ≠ g) : g ∈ nbrs b q ↔ (min q g, max q g) ∈ b.ties := by
  unfold nbrs
  rw [List.mem_flatMap]
  constructor
  · rintro ⟨⟨x, y⟩, ht, hg⟩
    have h1 := hb.tie _ ht
    simp only at h1 hg
    rcases List.mem_append.mp hg with hg' | hg'
    · split at hg'
      · rename_i e
        simp only [List.mem_cons, List.not_mem_nil, or_false] at hg'
        subst e
        subst hg'
        rw [Int.min_eq_left (by omega), Int.max_eq_right (by omega)]
        exact ht
      · cases hg'
    · split at hg'
      · rename_i e
        simp only [List.mem_cons, List.not_mem_nil, or_false] at hg'
        subst e
        subst hg'
        rw [Int.min_eq_right (by omega), Int.max_eq_left (by omega)]
        exact ht
      · cases hg'
  · intro h
    refine ⟨_, h, ?_⟩
    by_cases hl : q < g
    · rw [Int.min_eq_left (by omega), Int.max_eq_right (by omega)]
      simp
    · rw [Int.min_eq_right (by omega), Int.max_eq_left (by omega)]
      simp
theorem nbrs_nodup (hb : b.Ok) (q : Int) : (nbrs b q).Nodup := by
  have key : ∀ l : List (Int × Int), l.Pairwise (fun p q => lexLe (f2 p) (f2 q) = true ∧ p ≠ q) → (∀ p ∈ l, p.1 < p.2) → (l.flatMap fun t => (if t.1 = q then [t.2] else []) ++ (if t.2 = q then [t.1] else [])).Nodup := by
    intro l
    induction l with
    | nil => intro _ _; simp
    | cons t l ih =>
      intro hp hlt
      rw [List.pairwise_cons] at hp
      rw [List.flatMap_cons, List.nodup_append]
      have ht := hlt t List.mem_cons_self
      refine ⟨?_, ih hp.2 fun p h => hlt p (List.mem_cons_of_mem _ h), ?_⟩
      · by_cases h1 : t.1 = q
        · have h2 : ¬ t.2 = q := by omega
          simp [h1, h2]
        · simp only [h1, if_false, List.nil_append]
          split <;> simp
      · intro x hx y hy e
        subst e
        obtain ⟨u, hu, hx2⟩ := List.mem_flatMap.mp hy
        have hu2 := hlt u (List.mem_cons_of_mem _ hu)
        have hne := (hp.1 u hu).2
        apply hne
        have c1 : (t.1 = q ∧ x = t.2) ∨ (t.2 = q ∧ x = t.1) := by
          rcases List.mem_append.mp hx with h | h
          · split at h
            · simp at h; left; constructor <;> assumption
            · cases h
          · split at h
            · simp at h; right; constructor <;> assumption
            · cases h
        have c2 : (u.1 = q ∧ x = u.2) ∨ (u.2 = q ∧ x = u.1) := by
          rcases List.mem_append.mp hx2 with h | h
          · split at h
            · simp at h; left; constructor <;> assumption
            · cases h
          · split at h
            · simp at h; right; constructor <;> assumption
            · cases h
        apply Prod.ext <;> omega
  exact key b.ties hb.ties fun p hp => (hb.tie p hp).2.1
theorem goals_perm (hb : b.Ok) (hs : s.Wk b.n) {q : Int} (hq : q ∈ whr (isM s.turn) s.men) (m : Nat) : (goalsT b s.men m q).Perm (lgoals b s.men m q) := by
  have hlen := hs.len
  have hqn : mAt s.men q = some s.turn := of_decide_eq_true (whr_mem.mp hq).2.2
  unfold goalsT lgoals
  by_cases h : 3 < m
  · rw [if_pos h]
    have h4 : ¬ m < 4 := by omega
    have nd2 : (emp s.men).Nodup := (whr_sorted (·.isNone) s.men).imp fun h => by omega
    rw [List.perm_ext_iff_of_nodup ((nbrs_nodup hb q).filter _) (nd2.filter _)]
    intro g
    rw [List.mem_filter, List.mem_filter, emp_mem]
    unfold lgC
    simp only [h4, decide_false, Bool.false_or, decide_eq_true_eq]
    by_cases hqg : q = g
    · subst hqg
      rw [hqn]
      simp
    · rw [tie_iff hb q g hqg]
      constructor
      · rintro ⟨h1, h2⟩
        have ht := hb.tie _ h1
        simp only at ht
        refine ⟨⟨by omega, by omega, ?_⟩, h1⟩
        cases z : mAt s.men g with
        | none => rfl
        | some _ => rw [z] at h2; cases h2
      · rintro ⟨⟨h0, h1, h2⟩, h3⟩
        exact ⟨h3, by rw [h2]; rfl⟩
  · rw [if_neg h]
    have : (emp s.men).filter (lgC b m q) = emp s.men := List.filter_eq_self.mpr fun g _ => by unfold lgC; rw [decide_eq_true (show m < 4 by omega)]; rfl
    rw [this]
theorem steps_perm (hb : b.Ok) (hs : s.Wk b.n) : (stepsT b s).Perm (lstepsT b s) := by
  unfold stepsT lstepsT
  split
  · exact List.Perm.refl _
  · generalize hM : whr (isM s.turn) s.men = mine
    have : ∀ l : List Int, (∀ q ∈ l, q ∈ whr (isM s.turn) s.men) → (l.flatMap fun q => (goalsT b s.men mine.length q).map fun g => (q, g)).Perm (l.flatMap fun q => (lgoals b s.men mine.length q).map fun g => (q, g)) := by
      intro l
      induction l with
      | nil => intro _; exact List.Perm.refl _
      | cons q l ih =>
        intro h
        rw [List.flatMap_cons, List.flatMap_cons]
        exact ((goals_perm hb hs (h q List.mem_cons_self) mine.length).map _).append (ih fun y hy => h y (List.mem_cons_of_mem _ hy))
    exact this mine fun q hq => by rw [hM]; exact hq
theorem win_same (hb : b.Ok) (hs : s.Wk b.n) : lwinT b s = winT b s := by
  have p := steps_perm hb hs
  have : lstepsT b s = [] ↔ stepsT b s = [] := by
    constructor
    · intro h; rw [h] at p; exact p.eq_nil
    · intro h; rw [h] at p; exact p.symm.eq_nil
  unfold lwinT winT
  simp only [this]
theorem moves_same (hb : b.Ok) (hs : s.Wk b.n) : lmovesT b s = movesT b s := by
  unfold lmovesT movesT
  rw [win_same hb hs]
  split
  · have p : (lmovesU b s).Perm (movesU b s) := ((steps_perm hb hs).symm).flatMap_right _
    exact (goodLex.on f3 f3_inj).perm p
  · rfl
theorem lmoves_ok (hb : b.Ok) (hs : s.Wk b.n) : f_law_moves [encB b, encS s] = .ok (.tuple ((movesT b s).map e3)) := by
  rw [lmoves_ev hb.nr hb.on hb.hi hs, moves_same hb hs]
theorem lwinner_ok (hb : b.Ok) (hs : s.Wk b.n) : f_law_winner [encB b, encS s] = .ok (oM (winT b s)) := by
  rw [lwinner_ev hb.hi hs, win_same hb hs]
end
end Pf
/-! Dn: what comes of a move -/
namespace Pf
open PySem L2 Pu
section
variable {b : Bd} {s : Sd} {m : Int × Int × Int}
def takM (ms : List (Option Int)) (t : Int) : List (Option Int) := if 0 ≤ t then ms.set t.toNat none else ms
def doneT (s : Sd) (m : Int × Int × Int) : Sd :=
  ⟨takM (stepM s.men m.1 m.2.1 s.turn) m.2.2, if m.1 < 0 ∧ s.turn = 0 then s.l0 - 1 else s.l0, if m.1 < 0 ∧ s.turn = 1 then s.l1 - 1 else s.l1, 1 - s.turn⟩
/-- a move that stands to reason -/
structure MvOk (s : Sd) (m : Int × Int × Int) : Prop where
  beg : m.1 = -1 ∨ (0 ≤ m.1 ∧ m.1 < s.men.length ∧ mAt s.men m.1 = some s.turn)
  g0 : 0 ≤ m.2.1
  g1 : m.2.1 < s.men.length
  gn : mAt s.men m.2.1 = none
  tak : m.2.2 = -1 ∨ (0 ≤ m.2.2 ∧ m.2.2 < s.men.length ∧ mAt s.men m.2.2 = some (1 - s.turn))
theorem takM_len (ms : List (Option Int)) (t : Int) : (takM ms t).length = ms.length := by unfold takM; split <;> simp
theorem done_len (s : Sd) (m : Int × Int × Int) : (doneT s m).men.length = s.men.length := by
  show (takM (stepM s.men m.1 m.2.1 s.turn) m.2.2).length = _
  rw [takM_len, stepM_len]
theorem done_wk {n : Int} (hs : s.Wk n) : (doneT s m).Wk n := ⟨by rw [done_len]; exact hs.len, by have := hs.turn; show 1 - s.turn = 0 ∨ 1 - s.turn = 1; omega⟩
theorem mAt_step {ms : List (Option Int)} {beg goal w p : Int} (hb : beg < ms.length) (h0 : 0 ≤ goal) (hg : goal < ms.length) (hp : 0 ≤ p) : mAt (stepM ms beg goal w) p = if p = goal then some w else if 0 ≤ beg ∧ p = beg then none else mAt ms p := by
  unfold stepM
  by_cases h : 0 ≤ beg
  · rw [if_pos h, mAt_set h0 (by rw [List.length_set]; exact hg) hp]
    split
    · rfl
    · rw [mAt_set h hb hp]
      by_cases e : p = beg
      · rw [if_pos e, if_pos ⟨h, e⟩]
      · rw [if_neg e, if_neg (fun z => e z.2)]
  · rw [if_neg h, mAt_set h0 hg hp]
    split
    · rfl
    · rw [if_neg (fun z => h z.1)]
theorem mAt_tak {ms : List (Option Int)} {t p : Int} (ht : t < ms.length) (hp : 0 ≤ p) : mAt (takM ms t) p = if 0 ≤ t ∧ p = t then none else mAt ms p := by
  unfold takM
  by_cases h : 0 ≤ t
  · rw [if_pos h, mAt_set h ht hp]
    by_cases e : p = t
    · rw [if_pos e, if_pos ⟨h, e⟩]
    · rw [if_neg e, if_neg (fun z => e z.2)]
  · rw [if_neg h, if_neg (fun z => h z.1)]
/-- all moves stand to reason -/
theorem tak_mem {ms : List (Option Int)} {goal w t : Int} (h : t ∈ takT b ms goal w) : t = -1 ∨ t ∈ whr (isM (1 - w)) ms := by
  unfold takT at h
  split at h
  · split at h
    · right
      unfold freeT at h
      exact (List.mem_filter.mp h).1
    · split at h
      · exact .inr h
      · left; simpa using h
  · left; simpa using h
theorem movesU_ok (ht : TiesOn b) (hs : s.Wk b.n) (h : m ∈ movesU b s) : MvOk s m := by
  unfold movesU at h
  obtain ⟨st, hst, h⟩ := List.mem_flatMap.mp h
  obtain ⟨t, ht', rfl⟩ := List.mem_map.mp h
  obtain ⟨o1, o2, o3, o4⟩ := steps_on ht hs hst
  refine ⟨o1, o2, o3, o4, ?_⟩
  simp only
  rcases tak_mem ht' with h | h
  · exact .inl h
  · right
    rw [whr_mem, stepM_len] at h
    obtain ⟨h0, h1, h2⟩ := h
    refine ⟨h0, h1, ?_⟩
    have h2 : mAt (stepM s.men st.1 st.2 s.turn) t = some (1 - s.turn) := of_decide_eq_true h2
    rw [mAt_step (by omega) o2 o3 h0] at h2
    split at h2
    · injection h2 with h2
      have := hs.turn
      omega
    · split at h2
      · cases h2
      · exact h2
theorem moves_mem (hb : b.Ok) (hs : s.Wk b.n) (h : m ∈ movesT b s) : m ∈ movesU b s ∧ MvOk s m := by
  unfold movesT at h
  split at h
  · have := (sortT_perm f3 _).mem_iff.mp h
    exact ⟨this, movesU_ok hb.tiesOn hs this⟩
  · cases h
theorem left_set : ∀ (l0 l1 t : Int), t = 0 ∨ t = 1 → ([PyData.int l0, PyData.int l1].set t.toNat (.int ((if t = 0 then l0 else l1) - 1))) = [.int (if t = 0 then l0 - 1 else l0), .int (if t = 1 then l1 - 1 else l1)] := by
  intro l0 l1 t ht
  rcases ht with rfl | rfl <;> simp
theorem done_ev (hs : s.turn = 0 ∨ s.turn = 1) (hm : MvOk s m) : fdone [encS s, e3 m] = .ok (encS (doneT s m)) := by
  obtain ⟨x, y, t⟩ := m
  obtain ⟨h1, h2, h3, h4, h5⟩ := hm
  simp only at h1 h2 h3 h4 h5
  have hw := with_step_ev (w := s.turn) (ms := s.men) (beg := x) (goal := y) (by omega) h2 h3
  have es : gtup (gcons (gn 2) (gcons (gn 3) (gcons (gn 4) gnil))) (encS s) [.dat (encS s), .dat (e3 (x, y, t)), .un, .un, .un, .un, .un, .un, .un, .un] = some [.dat (encS s), .dat (e3 (x, y, t)), .dat (encM s.men), .dat (.tuple [.int s.l0, .int s.l1]), .dat (.int s.turn), .un, .un, .un, .un, .un] := rfl
  have em : gtup (gcons (gn 5) (gcons (gn 6) (gcons (gn 7) gnil))) (e3 (x, y, t)) [.dat (encS s), .dat (e3 (x, y, t)), .dat (encM s.men), .dat (.tuple [.int s.l0, .int s.l1]), .dat (.int s.turn), .un, .un, .un, .un, .un] = some [.dat (encS s), .dat (e3 (x, y, t)), .dat (encM s.men), .dat (.tuple [.int s.l0, .int s.l1]), .dat (.int s.turn), .dat (.int x), .dat (.int y), .dat (.int t), .un, .un] := rfl
  have hsl := stepM_len s.men x y s.turn
  generalize hN : stepM s.men x y s.turn = nm at hw hsl
  have hlist : listN (encM nm) = some (nm.map oM) := rfl
  have h8 : sif (xbl (bin geD (xvV 7) (xc (.int 0)))) (sput 8 (xvE 7) (xc .none)) snil [.dat (encS s), .dat (e3 (x, y, t)), .dat (encM s.men), .dat (.tuple [.int s.l0, .int s.l1]), .dat (.int s.turn), .dat (.int x), .dat (.int y), .dat (.int t), .own (nm.map oM), .un] =
      .nx [.dat (encS s), .dat (e3 (x, y, t)), .dat (encM s.men), .dat (.tuple [.int s.l0, .int s.l1]), .dat (.int s.turn), .dat (.int x), .dat (.int y), .dat (.int t), .own ((takM nm t).map oM), .un] := by
    unfold takM
    by_cases h0 : 0 ≤ t
    · rw [sif_t (by simp [h0]), if_pos h0, sput_ev (d := .none) (n := t) (m := t.toNat) (ds := nm.map oM) (by simp) rfl (by simp) (by rw [List.length_map]; exact ixN_nat h0 (by omega)), List.map_set]
      rfl
    · rw [sif_f (by simp [h0]), if_neg h0]
      rfl
  apply runD_rt
  unfold doneT
  simp only [hN]
  by_cases hx : x < 0
  · have hput : sput 9 (xvE 4) (bin subD (bin ixD (xvV 9) (xvV 4)) (xc (.int 1))) [.dat (encS s), .dat (e3 (x, y, t)), .dat (encM s.men), .dat (.tuple [.int s.l0, .int s.l1]), .dat (.int s.turn), .dat (.int x), .dat (.int y), .dat (.int t), .own ((takM nm t).map oM), .own [.int s.l0, .int s.l1]] =
        .nx [.dat (encS s), .dat (e3 (x, y, t)), .dat (encM s.men), .dat (.tuple [.int s.l0, .int s.l1]), .dat (.int s.turn), .dat (.int x), .dat (.int y), .dat (.int t), .own ((takM nm t).map oM), .own [.int (if s.turn = 0 then s.l0 - 1 else s.l0), .int (if s.turn = 1 then s.l1 - 1 else s.l1)]] := by
      have hlx : atI [PyData.int s.l0, PyData.int s.l1] s.turn = some (.int (s.left s.turn)) := left_ix hs
      rw [sput_ev (d := .int (s.left s.turn - 1)) (n := s.turn) (m := s.turn.toNat) (ds := [.int s.l0, .int s.l1]) (by simp [hlx]) rfl (by simp) (ixN_nat (by omega) (by simp; omega))]
      have := left_set s.l0 s.l1 s.turn hs
      unfold Sd.left
      rw [this]
      rfl
    simp [bdone, startE, es, em, hw, hlist, h8, hx, hput]
    rfl
  · simp [bdone, startE, es, em, hw, hlist, h8, hx]
    rfl
theorem lafter_ev (hs : s.turn = 0 ∨ s.turn = 1) (hl : s.men.length ≤ 1000) (hm : MvOk s m) : f_law_after [encS s, e3 m] = .ok (encS (doneT s m)) := by
  have hm' := hm
  obtain ⟨x, y, t⟩ := m
  obtain ⟨h1, h2, h3, h4, h5⟩ := hm
  simp only at h1 h2 h3 h4 h5
  have es : gtup (gcons (gn 2) (gcons (gn 3) (gcons (gn 4) gnil))) (encS s) [.dat (encS s), .dat (e3 (x, y, t)), .un, .un, .un, .un, .un, .un, .un, .un, .un] = some [.dat (encS s), .dat (e3 (x, y, t)), .dat (encM s.men), .dat (.tuple [.int s.l0, .int s.l1]), .dat (.int s.turn), .un, .un, .un, .un, .un, .un] := rfl
  have em : gtup (gcons (gn 5) (gcons (gn 6) (gcons (gn 7) gnil))) (e3 (x, y, t)) [.dat (encS s), .dat (e3 (x, y, t)), .dat (encM s.men), .dat (.tuple [.int s.l0, .int s.l1]), .dat (.int s.turn), .un, .un, .un, .un, .un, .un] = some [.dat (encS s), .dat (e3 (x, y, t)), .dat (encM s.men), .dat (.tuple [.int s.l0, .int s.l1]), .dat (.int s.turn), .dat (.int x), .dat (.int y), .dat (.int t), .un, .un, .un] := rfl
  have hq : q_law_after_1 [.dat (encS s), .dat (e3 (x, y, t)), .dat (encM s.men), .dat (.tuple [.int s.l0, .int s.l1]), .dat (.int s.turn), .dat (.int x), .dat (.int y), .dat (.int t), .un, .un, .un] = .ok (((enumM s.men).map fun p => if p.1 = x ∨ p.1 = t then none else p.2).map oM) := by
    unfold q_law_after_1
    rw [xlc_all (enc := encE) (xs := enumM s.men) (fun p => oM (if p.1 = x ∨ p.1 = t then none else p.2)) (by simp [-List.map_map, encM, enum_men]) (by rw [enumM_length]; omega) fun p _ => ?_]
    · rw [List.map_map]
      rfl
    · refine ⟨[.dat (encS s), .dat (e3 (x, y, t)), .dat (encM s.men), .dat (.tuple [.int s.l0, .int s.l1]), .dat (.int s.turn), .dat (.int x), .dat (.int y), .dat (.int t), .un, .dat (.int p.1), .dat (oM p.2)], rfl, rfl, ?_⟩
      have hin : ∀ {t0 t1 t2 t3 t4 t6 t8 t10 : Sl}, bin inD (xvV 9) (xtup (lcons (xvE 5) (lcons (xvE 7) lnil))) [t0, t1, t2, t3, t4, .dat (.int x), t6, .dat (.int t), t8, .dat (.int p.1), t10] = .ok (.bool (decide (p.1 = x ∨ p.1 = t))) := by
        intros
        have := in_tJ p.1 [x, t]
        simp only [tJ, List.map_cons, List.map_nil, List.mem_cons, List.not_mem_nil, or_false] at this
        simp [this]
      by_cases h : p.1 = x ∨ p.1 = t
      · rw [xif_ev, xbl_ev, hin, bind_ok, decide_eq_true h, if_pos h]
        rfl
      · rw [xif_ev, xbl_ev, hin, bind_ok, decide_eq_false h, if_neg h]
        simp [wipeE]
  have hmen : ((enumM s.men).map fun p => if p.1 = x ∨ p.1 = t then none else p.2).set y.toNat (some s.turn) = takM (stepM s.men x y s.turn) t := by
    have hty : t ≠ y := fun e => by
      subst e
      rcases h5 with h5 | h5
      · omega
      · rw [h4] at h5; cases h5.2.2
    have hlen1 : (((enumM s.men).map fun p => if p.1 = x ∨ p.1 = t then none else p.2).set y.toNat (some s.turn)).length = s.men.length := by simp [enumM_length]
    apply List.ext_getElem?
    intro i
    have hL : (((enumM s.men).map fun p => if p.1 = x ∨ p.1 = t then none else p.2).set y.toNat (some s.turn))[i]? = if y.toNat = i then (if i < s.men.length then some (some s.turn) else none) else (s.men[i]?).map fun m => if (i : Int) = x ∨ (i : Int) = t then none else m := by
      rw [List.getElem?_set, List.length_map, enumM_length, List.getElem?_map]
      unfold enumM
      rw [List.getElem?_mapIdx]
      split
      · rename_i e
        subst e
        rfl
      · cases s.men[i]? <;> rfl
    rw [hL]
    unfold takM stepM
    by_cases hi : i < s.men.length
    · rw [List.getElem?_eq_getElem hi]
      by_cases hx0 : 0 ≤ x
      · by_cases ht0 : 0 ≤ t
        · rw [if_pos ht0, if_pos hx0, List.getElem?_set, List.getElem?_set, List.getElem?_set, List.length_set, List.length_set, List.getElem?_eq_getElem hi]
          by_cases c1 : y.toNat = i
          · have : ¬ t.toNat = i := by omega
            rw [if_pos c1, if_pos hi, if_neg this, if_pos c1, if_pos (by omega)]
          · rw [if_neg c1, if_neg c1]
            by_cases c2 : t.toNat = i
            · rw [if_pos c2, if_pos (by omega)]
              simp; omega
            · rw [if_neg c2]
              by_cases c3 : x.toNat = i
              · rw [if_pos c3, if_pos (by omega)]
                simp; omega
              · rw [if_neg c3]
                simp; omega
        · rw [if_neg ht0, if_pos hx0, List.getElem?_set, List.getElem?_set, List.length_set, List.getElem?_eq_getElem hi]
          by_cases c1 : y.toNat = i
          · rw [if_pos c1, if_pos hi, if_pos c1, if_pos (by omega)]
          · rw [if_neg c1, if_neg c1]
            by_cases c3 : x.toNat = i
            · rw [if_pos c3, if_pos (by omega)]
              simp; omega
            · rw [if_neg c3]
              simp; omega
      · by_cases ht0 : 0 ≤ t
        · rw [if_pos ht0, if_neg hx0, List.getElem?_set, List.getElem?_set, List.length_set, List.getElem?_eq_getElem hi]
          by_cases c1 : y.toNat = i
          · have : ¬ t.toNat = i := by omega
            rw [if_pos c1, if_pos hi, if_neg this, if_pos c1, if_pos (by omega)]
          · rw [if_neg c1, if_neg c1]
            by_cases c2 : t.toNat = i
            · rw [if_pos c2, if_pos (by omega)]
              simp; omega
            · rw [if_neg c2]
              simp; omega
        · rw [if_neg ht0, if_neg hx0, List.getElem?_set, List.getElem?_eq_getElem hi]
          by_cases c1 : y.toNat = i
          · rw [if_pos c1, if_pos hi, if_pos c1, if_pos (by omega)]
          · rw [if_neg c1, if_neg c1]
            simp; omega
    · have hlen2 : (takM (stepM s.men x y s.turn) t).length = s.men.length := by rw [takM_len, stepM_len]
      have h2' : (takM (stepM s.men x y s.turn) t)[i]? = none := List.getElem?_eq_none (by omega)
      unfold takM stepM at h2'
      rw [h2', List.getElem?_eq_none (by omega)]
      simp; omega
  generalize ((enumM s.men).map fun p => if p.1 = x ∨ p.1 = t then none else p.2) = am at hq hmen
  have hal : am.length = s.men.length := by
    have := congrArg List.length hmen
    rw [List.length_set, takM_len, stepM_len] at this
    exact this
  have hput : sput 8 (xvE 6) (xvE 4) [.dat (encS s), .dat (e3 (x, y, t)), .dat (encM s.men), .dat (.tuple [.int s.l0, .int s.l1]), .dat (.int s.turn), .dat (.int x), .dat (.int y), .dat (.int t), .own (am.map oM), .un, .un] =
      .nx [.dat (encS s), .dat (e3 (x, y, t)), .dat (encM s.men), .dat (.tuple [.int s.l0, .int s.l1]), .dat (.int s.turn), .dat (.int x), .dat (.int y), .dat (.int t), .own ((takM (stepM s.men x y s.turn) t).map oM), .un, .un] := by
    rw [sput_ev (d := .int s.turn) (n := y) (m := y.toNat) (ds := am.map oM) (by simp) rfl (by simp) (by rw [List.length_map]; exact ixN_nat h2 (by omega)), ← hmen, List.map_set]
    rfl
  apply runD_rt
  unfold doneT
  by_cases hx : x < 0
  · have hi0 : intD (.bool (decide (s.turn = 0))) = some (.int (if s.turn = 0 then 1 else 0)) := by rw [int_b]; congr 2; by_cases h : s.turn = 0 <;> simp [h]
    have hi1 : intD (.bool (decide (s.turn = 1))) = some (.int (if s.turn = 1 then 1 else 0)) := by rw [int_b]; congr 2; by_cases h : s.turn = 1 <;> simp [h]
    have r0 : s.l0 - (if s.turn = 0 then 1 else 0) = if s.turn = 0 then s.l0 - 1 else s.l0 := by split <;> omega
    have r1 : s.l1 - (if s.turn = 1 then 1 else 0) = if s.turn = 1 then s.l1 - 1 else s.l1 := by split <;> omega
    simp [-int_b, b_law_after, startE, es, em, hq, hput, hx, hi0, hi1, r0, r1]
    rfl
  · simp [b_law_after, startE, es, em, hq, hput, hx]
    rfl
end
end Pf
/-! Sm: the same data is the same -/
namespace Pf
open PySem L2 Pu
@[simp] theorem isi_tt (ds : List D) : isiD "tuple" (.tuple ds) = some (.bool true) := by
  show (kitB "tuple" "tuple").map PyData.bool = _
  rw [show kitB "tuple" "tuple" = some true by decide +kernel]; rfl
@[simp] theorem isi_tn : isiD "tuple" .none = some (.bool false) := by
  show (kitB "NoneType" "tuple").map PyData.bool = _
  rw [show kitB "NoneType" "tuple" = some false by decide +kernel]; rfl
@[simp] theorem isi_ti (i : Int) : isiD "tuple" (.int i) = some (.bool false) := by
  show (kitB "int" "tuple").map PyData.bool = _
  rw [show kitB "int" "tuple" = some false by decide +kernel]; rfl
@[simp] theorem isi_tb (i : Bool) : isiD "tuple" (.bool i) = some (.bool false) := by
  show (kitB "bool" "tuple").map PyData.bool = _
  rw [show kitB "bool" "tuple" = some false by decide +kernel]; rfl
@[simp] theorem isi_ts (x : Str) : isiD "tuple" (.str x) = some (.bool false) := by
  show (kitB "str" "tuple").map PyData.bool = _
  rw [show kitB "str" "tuple" = some false by decide +kernel]; rfl
@[simp] theorem isi_tl (ds : List D) : isiD "tuple" (.list ds) = some (.bool false) := by
  show (kitB "list" "tuple").map PyData.bool = _
  rw [show kitB "list" "tuple" = some false by decide +kernel]; rfl
@[simp] theorem isi_bi (i : Int) : isiD "bool" (.int i) = some (.bool false) := by
  show (kitB "int" "bool").map PyData.bool = _
  rw [show kitB "int" "bool" = some false by decide +kernel]; rfl
@[simp] theorem isi_bb (i : Bool) : isiD "bool" (.bool i) = some (.bool true) := by
  show (kitB "bool" "bool").map PyData.bool = _
  rw [show kitB "bool" "bool" = some true by decide +kernel]; rfl
@[simp] theorem isi_bs (x : Str) : isiD "bool" (.str x) = some (.bool false) := by
  show (kitB "str" "bool").map PyData.bool = _
  rw [show kitB "str" "bool" = some false by decide +kernel]; rfl
@[simp] theorem isi_bt (x : List D) : isiD "bool" (.tuple x) = some (.bool false) := by
  show (kitB "tuple" "bool").map PyData.bool = _
  rw [show kitB "tuple" "bool" = some false by decide +kernel]; rfl
@[simp] theorem isi_bl (x : List D) : isiD "bool" (.list x) = some (.bool false) := by
  show (kitB "list" "bool").map PyData.bool = _
  rw [show kitB "list" "bool" = some false by decide +kernel]; rfl
@[simp] theorem isi_bn : isiD "bool" .none = some (.bool false) := by
  show (kitB "NoneType" "bool").map PyData.bool = _
  rw [show kitB "NoneType" "bool" = some false by decide +kernel]; rfl
@[simp] theorem isi_ii (i : Int) : isiD "int" (.int i) = some (.bool true) := by
  show (kitB "int" "int").map PyData.bool = _
  rw [show kitB "int" "int" = some true by decide +kernel]; rfl
@[simp] theorem isi_ib (i : Bool) : isiD "int" (.bool i) = some (.bool true) := by
  show (kitB "bool" "int").map PyData.bool = _
  rw [show kitB "bool" "int" = some true by decide +kernel]; rfl
@[simp] theorem isi_in : isiD "int" .none = some (.bool false) := by
  show (kitB "NoneType" "int").map PyData.bool = _
  rw [show kitB "NoneType" "int" = some false by decide +kernel]; rfl
@[simp] theorem isi_is (x : Str) : isiD "int" (.str x) = some (.bool false) := by
  show (kitB "str" "int").map PyData.bool = _
  rw [show kitB "str" "int" = some false by decide +kernel]; rfl
@[simp] theorem isi_it (x : List D) : isiD "int" (.tuple x) = some (.bool false) := by
  show (kitB "tuple" "int").map PyData.bool = _
  rw [show kitB "tuple" "int" = some false by decide +kernel]; rfl
@[simp] theorem isi_il (x : List D) : isiD "int" (.list x) = some (.bool false) := by
  show (kitB "list" "int").map PyData.bool = _
  rw [show kitB "list" "int" = some false by decide +kernel]; rfl
@[simp] theorem isi2_i (i : Int) : isi2D "int" "str" (.int i) = some (.bool true) := by
  show ((kitB "int" "int").bind fun b => (kitB "int" "str").map fun b' => PyData.bool (b || b')) = _
  rw [show kitB "int" "int" = some true by decide +kernel, show kitB "int" "str" = some false by decide +kernel]; rfl
@[simp] theorem isi2_s (x : Str) : isi2D "int" "str" (.str x) = some (.bool true) := by
  show ((kitB "str" "int").bind fun b => (kitB "str" "str").map fun b' => PyData.bool (b || b')) = _
  rw [show kitB "str" "int" = some false by decide +kernel, show kitB "str" "str" = some true by decide +kernel]; rfl
/-- what is the same as itself, so deep -/
inductive SmD : Nat → D → Prop
  | non {n : Nat} : SmD n .none
  | int {n : Nat} (i : Int) : SmD n (.int i)
  | bl {n : Nat} (i : Bool) : SmD n (.bool i)
  | str {n : Nat} {x : Str} : SeqAt.shaped (.str x) = true → SmD n (.str x)
  | tup {n : Nat} {ds : List D} : ds.length ≤ 1000000 → (∀ d ∈ ds, SmD n d) → SmD (n + 1) (.tuple ds)
theorem zipL_same (ds : List D) : zipL ds ds = ds.map fun d => pairD d d := by
  unfold zipL
  induction ds with
  | nil => rfl
  | cons d ds ih => rw [List.zipWith_cons_cons, ih, List.map_cons]
theorem same_refl {n : Nat} {d : D} (h : SmD n d) : f_law_same (n + 1) [d, d] = .ok (.bool true) := by
  induction h with
  | non =>
    apply runD_rt
    simp [b_law_same, startE]
  | int i =>
    apply runD_rt
    simp [b_law_same, startE]
  | bl i =>
    apply runD_rt
    simp [b_law_same, startE]
  | str hx =>
    apply runD_rt
    simp [b_law_same, startE, eq_ev hx hx, PyData.eqv]
  | @tup n ds hl hd ih =>
    have hq : q_law_same_1 (f_law_same (n + 1)) (fz [.dat (.tuple ds), .dat (.tuple ds), .un, .un]) = .ok ((ds.map fun _ => true).map PyData.bool) := by
      unfold q_law_same_1
      rw [xlc_all (enc := fun d => pairD d d) (xs := ds) (fun _ => .bool true) ?_ hl fun d hd' => ⟨_, rfl, rfl, ?_⟩]
      · rw [List.map_map]; rfl
      · simp only [fz_cons, frz1_dat, frz1_un, fz_nil, izip_ev, xvV_ev, getV_s, getV_z, bind_ok]
        show opt (some (zipL ds ds)) = _
        rw [zipL_same]
        rfl
      · simp [wipeE, ih d hd']
    have ha : allD (.list ((ds.map fun _ => true).map PyData.bool)) = some (.bool true) := by
      show ((boolsOf ((ds.map fun _ => true).map PyData.bool)).map fun bs => PyData.bool (bs.all id)) = _
      rw [boolsOf_map]
      simp
    simp only [fz_cons, frz1_dat, frz1_un, fz_nil] at hq
    apply runD_rt
    simp [-List.map_map, b_law_same, startE, hq, ha]
theorem SmD.up {n : Nat} {d : D} (h : SmD n d) : SmD (n + 1) d := by
  induction h with
  | non => exact .non
  | int i => exact .int i
  | bl i => exact .bl i
  | str hx => exact .str hx
  | tup hl _ ih => exact .tup hl ih
theorem SmD.le {n m : Nat} {d : D} (h : SmD n d) (hm : n ≤ m) : SmD m d := by
  obtain ⟨k, rfl⟩ := Nat.le.dest hm
  induction k with
  | zero => exact h
  | succ k ih => exact (ih (Nat.le_add_right _ _)).up
theorem sm_oM (m : Option Int) : SmD 0 (oM m) := by
  cases m with
  | none => exact .non
  | some i => exact .int i
theorem sm_tJ {t : List Int} (h : t.length ≤ 1000000) : SmD 1 (tJ t) := .tup (by rw [List.length_map]; exact h) fun d hd => by
  obtain ⟨x, _, rfl⟩ := List.mem_map.mp hd
  exact .int x
/-- _law_same of a thing and itself -/
theorem same_ok {n : Nat} {d : D} (h : SmD n d) (hn : n ≤ 7) : f_law_same 8 [d, d] = .ok (.bool true) := same_refl (h.le hn)
end Pf
/-! Wh: is_whole and is_stand -/
namespace Pf
open PySem L2 Pu
def noDc : D → Bool
  | .dict _ => false
  | _ => true
def isW (lo hi : Int) : D → Bool
  | .int i => decide (lo ≤ i) && decide (i ≤ hi)
  | _ => false
theorem chn_b {f f' : D → D → Option D} {F G Fc : En → R D} {e : En} {x y : D} {b : Bool} (hF : F e = .ok x) (hG : G e = .ok y) (h : f x y = some (.bool b)) : chn f f' F G Fc e = if b = true then (Fc e).bind fun w => opt (f' y w) else .ok (.bool false) := by
  unfold chn
  rw [hF, bind_ok, hG, bind_ok, h, opt_some, bind_ok]
  cases b <;> rfl
theorem is_whole_ev {d : D} {lo hi : Int} (h : noDc d = true) : fis_whole [d, .int lo, .int hi] = .ok (.bool (isW lo hi d)) := by
  apply runD_rt
  cases d with
  | int i =>
    have hc : chn leD leD (xvV 1) (xvV 0) (xvV 2) [.dat (.int i), .dat (.int lo), .dat (.int hi)] = .ok (.bool (decide (lo ≤ i) && decide (i ≤ hi))) := by
      rw [chn_b (x := .int lo) (y := .int i) (b := decide (lo ≤ i)) rfl rfl rfl]
      by_cases h1 : lo ≤ i <;> simp [h1]
    simp [bis_whole, startE, hc, isW]
  | dict => cases h
  | _ => simp [bis_whole, startE, isW]
def inS : D → Bool
  | .tuple ds => ds.all noDc && decide (ds.length ≤ 1000000)
  | _ => true
def okS : D → Bool
  | .dict _ => false
  | .tuple [x, y, z] => noDc x && noDc y && noDc z && inS x && inS y
  | _ => true
def isM2 (d : D) : Bool := isNoneD d || isW 0 1 d
def isSt (n : Int) : D → Bool
  | .tuple [.tuple ms, .tuple [x, y], z] => isW 0 1 z && decide ((ms.length : Int) = n) && ms.all isM2 && isW 0 9 x && isW 0 9 y
  | _ => false
theorem is_stand_ev {b : Bd} {d : D} (h : okS d = true) : fis_stand [encB b, d] = .ok (.bool (isSt b.n d)) := by
  apply runD_rt
  unfold bis_stand
  by_cases ht : ∃ ds, d = .tuple ds
  rotate_left
  · have h1 : isiD "tuple" d = some (.bool false) := by cases d <;> first | exact absurd ⟨_, rfl⟩ ht | (cases h; done) | simp
    have h2 : isSt b.n d = false := by cases d <;> first | rfl | exact absurd ⟨_, rfl⟩ ht
    rw [h2]
    simp [startE, h1]
  obtain ⟨ds, rfl⟩ := ht
  by_cases hl : ds.length = 3
  rotate_left
  · have h2 : isSt b.n (.tuple ds) = false := by
      unfold isSt
      split
      · rename_i e; injection e with e; subst e; exact absurd rfl hl
      · rfl
    rw [h2]
    have : ¬ (ds.length : Int) = 3 := by omega
    simp [startE, this]
  match ds, hl with
  | [x, y, z], _ =>
    simp only [okS, Bool.and_eq_true] at h
    obtain ⟨⟨⟨⟨hx, hy⟩, hz⟩, ix⟩, iy⟩ := h
    have w1 := is_whole_ev (lo := 0) (hi := 1) hz
    cases hz1 : isW 0 1 z with
    | false =>
      have h2 : isSt b.n (.tuple [x, y, z]) = false := by
        unfold isSt
        split
        · rename_i e; injection e with e; injection e with e1 e2; injection e2 with e2 e3; injection e3 with e3; subst e3; rw [hz1]; rfl
        · rfl
      rw [hz1] at w1
      rw [h2]
      simp [startE, w1]
    | true =>
    rw [hz1] at w1
    have e1 : (tor (tnot (xtru (un1 (isiD "tuple") (xvV 1)))) (tor (xbl (bin neD (un1 lenD (xvV 1)) (xc (.int 3)))) (tnot (xtru (xcall 3 fis_whole (lcons (bin ixD (xvV 1) (xc (.int 2))) (lcons (xc (.int 0)) (lcons (xc (.int 1)) lnil)))))))) (startE 7 [encB b, .tuple [x, y, z]]) = .ok false := by
      simp [startE, w1]
    rw [sseq_ev, sif_f e1, snil_ev, then_nx, sseq_ev]
    have e2 : sasgT (gtup (gcons (gn 2) (gcons (gn 3) (gcons (gn 4) gnil)))) (xvE 1) (startE 7 [encB b, .tuple [x, y, z]]) = .nx [.dat (encB b), .dat (.tuple [x, y, z]), .dat x, .dat y, .dat z, .un, .un] := by
      simp [startE]
    rw [e2, then_nx, sseq_ev]
    by_cases hxt : ∃ ms, x = .tuple ms
    rotate_left
    · have h1 : isiD "tuple" x = some (.bool false) := by cases x <;> first | exact absurd ⟨_, rfl⟩ hxt | (cases hx; done) | simp
      have h2 : isSt b.n (.tuple [x, y, z]) = false := by
        unfold isSt
        split
        · rename_i e; injection e with e; injection e with e1 e2; exact absurd ⟨_, e1⟩ hxt
        · rfl
      rw [h2]
      simp [h1]
    obtain ⟨ms, rfl⟩ := hxt
    simp only [inS, Bool.and_eq_true, decide_eq_true_eq, List.all_eq_true] at ix
    have hb0 : ixD (encB b) (.int 0) = some (.int b.n) := rfl
    by_cases hn : (ms.length : Int) = b.n
    rotate_left
    · have h2 : isSt b.n (.tuple [.tuple ms, y, z]) = false := by
        unfold isSt
        split
        · rename_i e; injection e with e; injection e with e1 e2; injection e1 with e1; subst e1; rw [decide_eq_false hn]; simp
        · rfl
      rw [h2]
      simp [hb0, hn]
    have e3 : (tor (tnot (xtru (un1 (isiD "tuple") (xvV 2)))) (xbl (bin neD (un1 lenD (xvV 2)) (bin ixD (xvV 0) (xc (.int 0)))))) [.dat (encB b), .dat (.tuple [.tuple ms, y, z]), .dat (.tuple ms), .dat y, .dat z, .un, .un] = .ok false := by
      simp [hb0, hn]
    rw [sif_f e3, snil_ev, then_nx, sseq_ev]
    have q1 : qis_stand_1 [.dat (encB b), .dat (.tuple [.tuple ms, y, z]), .dat (.tuple ms), .dat y, .dat z, .un, .un] = .ok ((ms.map isM2).map PyData.bool) := by
      unfold qis_stand_1
      rw [xlc_all (enc := id) (xs := ms) (fun m => .bool (isM2 m)) (by simp) ix.2 fun m hm => ⟨[.dat (encB b), .dat (.tuple [.tuple ms, y, z]), .dat (.tuple ms), .dat y, .dat z, .dat m, .un], rfl, rfl, ?_⟩]
      · rw [List.map_map]; rfl
      · have w2 := is_whole_ev (lo := 0) (hi := 1) (ix.1 m hm)
        cases hnm : isNoneD m <;> simp [hnm, w2, isM2]
    have ha := all_bools (ms.map isM2)
    cases hall : (ms.all isM2) with
    | false =>
      have h2 : isSt b.n (.tuple [.tuple ms, y, z]) = false := by
        unfold isSt
        split
        · rename_i e; injection e with e; injection e with e1 e2; injection e1 with e1; subst e1; rw [hall]; simp
        · rfl
      rw [h2]
      rw [show ((ms.map isM2).all id) = ms.all isM2 by rw [List.all_map]; rfl, hall] at ha
      have e4 : (tnot (xtru (un1 allD (asL qis_stand_1)))) [.dat (encB b), .dat (.tuple [.tuple ms, y, z]), .dat (.tuple ms), .dat y, .dat z, .un, .un] = .ok true := by
        simp only [tnot_ev, xtru_ev, un1_ev, asL_ev, q1, bind_ok, ha, opt_some, tru_b]; rfl
      rw [sif_t e4]
      rfl
    | true =>
    rw [show ((ms.map isM2).all id) = ms.all isM2 by rw [List.all_map]; rfl, hall] at ha
    have e4 : (tnot (xtru (un1 allD (asL qis_stand_1)))) [.dat (encB b), .dat (.tuple [.tuple ms, y, z]), .dat (.tuple ms), .dat y, .dat z, .un, .un] = .ok false := by
      simp only [tnot_ev, xtru_ev, un1_ev, asL_ev, q1, bind_ok, ha, opt_some, tru_b]; rfl
    rw [sif_f e4, snil_ev, then_nx, sret_ev]
    simp only [fz_cons, frz1_dat, frz1_un, fz_nil]
    by_cases hyt : ∃ ls, y = .tuple ls
    rotate_left
    · have h1 : isiD "tuple" y = some (.bool false) := by cases y <;> first | exact absurd ⟨_, rfl⟩ hyt | (cases hy; done) | simp
      have h2 : isSt b.n (.tuple [.tuple ms, y, z]) = false := by
        unfold isSt
        split
        · rename_i e; injection e with e; injection e with e1 e2; injection e2 with e2 e3; exact absurd ⟨_, e2⟩ hyt
        · rfl
      rw [h2]
      simp [h1]
    obtain ⟨ls, rfl⟩ := hyt
    simp only [inS, Bool.and_eq_true, decide_eq_true_eq, List.all_eq_true] at iy
    have q2 : qis_stand_2 [.dat (encB b), .dat (.tuple [.tuple ms, .tuple ls, z]), .dat (.tuple ms), .dat (.tuple ls), .dat z, .un, .un] = .ok ((ls.map (isW 0 9)).map PyData.bool) := by
      unfold qis_stand_2
      rw [xlc_all (enc := id) (xs := ls) (fun m => .bool (isW 0 9 m)) (by simp) iy.2 fun m hm => ⟨[.dat (encB b), .dat (.tuple [.tuple ms, .tuple ls, z]), .dat (.tuple ms), .dat (.tuple ls), .dat z, .un, .dat m], rfl, rfl, ?_⟩]
      · rw [List.map_map]; rfl
      · have w2 := is_whole_ev (lo := 0) (hi := 9) (iy.1 m hm)
        simp [w2]
    have ha2 := all_bools (ls.map (isW 0 9))
    by_cases h2l : ls.length = 2
    rotate_left
    · have h2 : isSt b.n (.tuple [.tuple ms, .tuple ls, z]) = false := by
        unfold isSt
        split
        · rename_i e; injection e with e; injection e with e1 e2; injection e2 with e2 e3; injection e2 with e2; subst e2; exact absurd rfl h2l
        · rfl
      rw [h2]
      have : ¬ (ls.length : Int) = 2 := by omega
      simp [this]
    match ls, h2l with
    | [l0, l1], _ =>
      simp only [xandV_ev, un1_ev, xvV_ev, getV_s, getV_z, bind_ok, isi_tt, opt_some, tru_b, if_true, bin_ev, len_t, xc_ev, eq_ii, asL_ev, q2, ha2]
      simp [isSt, hz1, hn, hall]
end Pf
/-! Ev4: loops that may return; rising rows -/
namespace Pu
open PySem L2
/-- a loop that returns d at the first that is not so -/
theorem forL_all {α : Type} {enc : α → D} {f : Tg} {B : En → Fl} (P : En → Prop) (c : α → Bool) (d : D) : ∀ (xs : List α) (e : En), P e →
    (∀ x e, x ∈ xs → P e → ∃ e1, f (enc x) e = some e1 ∧ (c x = true → ∃ e2, (B e1 = .nx e2 ∨ B e1 = .ct e2) ∧ P e2) ∧ (c x = false → B e1 = .rt d)) →
    (xs.all c = true → ∃ e', forL f B (xs.map enc) e = .nx e' ∧ P e') ∧ (xs.all c = false → forL f B (xs.map enc) e = .rt d)
  | [], e, h, _ => ⟨fun _ => ⟨e, rfl, h⟩, fun z => by simp at z⟩
  | x :: xs, e, h, st => by
    obtain ⟨e1, h1, h2, h3⟩ := st x e List.mem_cons_self h
    rw [List.map_cons, List.all_cons]
    unfold forL
    rw [h1]
    dsimp only
    cases hc : c x with
    | true =>
      obtain ⟨e2, h4, h5⟩ := h2 hc
      have ih := forL_all (enc := enc) (f := f) (B := B) P c d xs e2 h5 fun y e hy => st y e (List.mem_cons_of_mem _ hy)
      rw [Bool.true_and]
      rcases h4 with h4 | h4
      · rw [h4]; exact ih
      · rw [h4]; exact ih
    | false =>
      rw [h3 hc, Bool.false_and]
      exact ⟨fun z => by simp at z, fun _ => rfl⟩
/-- a loop that may return -/
theorem forL_try {α : Type} {enc : α → D} {f : Tg} {B : En → Fl} (P : List α → En → Prop) (Q : List α → α → Fl → Prop) : ∀ (xs pre : List α) (e : En), P pre e →
    (∀ p x r e, pre ++ xs = p ++ x :: r → P p e → ∃ e1, f (enc x) e = some e1 ∧ ((∃ e2, (B e1 = .nx e2 ∨ B e1 = .ct e2) ∧ P (p ++ [x]) e2) ∨ (((∃ d, B e1 = .rt d) ∨ ∃ c e2, B e1 = .ex c e2) ∧ Q p x (B e1)))) →
    (∃ e', forL f B (xs.map enc) e = .nx e' ∧ P (pre ++ xs) e') ∨ ∃ p x r, pre ++ xs = p ++ x :: r ∧ Q p x (forL f B (xs.map enc) e)
  | [], pre, e, h, _ => .inl ⟨e, rfl, by rw [List.append_nil]; exact h⟩
  | x :: xs, pre, e, h, st => by
    obtain ⟨e1, h1, h2⟩ := st pre x xs e rfl h
    have ea : pre ++ x :: xs = (pre ++ [x]) ++ xs := by rw [List.append_assoc]; rfl
    rw [List.map_cons]
    unfold forL
    rw [h1]
    dsimp only
    rcases h2 with ⟨e2, h2, h3⟩ | ⟨h2, h3⟩
    · have ih := forL_try (enc := enc) (f := f) (B := B) P Q xs (pre ++ [x]) e2 h3 fun p y r e0 q => st p y r e0 (ea.trans q)
      rw [ea]
      rcases h2 with h2 | h2
      · rw [h2]; exact ih
      · rw [h2]; exact ih
    · right
      refine ⟨pre, x, xs, rfl, ?_⟩
      rcases h2 with ⟨d, h2⟩ | ⟨c, e2, h2⟩
      · rw [h2] at h3 ⊢; exact h3
      · rw [h2] at h3 ⊢; exact h3
theorem sfor_is {L : En → R (List D)} {f : Tg} {B : En → Fl} {e : En} {ds : List D} {r : Fl} (hL : L e = .ok ds) (h : forL f B ds e = r) : sfor L f B e = r := by
  unfold sfor
  rw [hL]
  exact h
/-- what a def tells -/
def finR : Fl → R D
  | .rt d => .ok d
  | .nx _ => .ok .none
  | .ex c _ => .ex c
  | _ => .bad
theorem runD_fin (m : Nat) (B : En → Fl) (ds : List D) : runD m B ds = finR (B (startE m ds)) := by
  unfold runD finR
  cases B (startE m ds) <;> rfl
/-- by lemmas, that the kernel unfolds nothing (a length that meets 2 ^ 62 is deep) -/
theorem irng1_of {F : En → R D} {e : En} {j : Int} {L : List D} (hF : F e = .ok (.int j)) (h : rng1 (.int j) = some L) : irng1 F e = .ok L := by
  rw [irng1_ev, hF, bind_ok, h]
  rfl
theorem irng2_of {F G : En → R D} {e : En} {i j : Int} {L : List D} (hF : F e = .ok (.int i)) (hG : G e = .ok (.int j)) (h : rng2 (.int i) (.int j) = some L) : irng2 F G e = .ok L := by
  rw [irng2_ev, hF, bind_ok, hG, bind_ok, h]
  rfl
/-- each below the next -/
def risL {α : Type} (lt : α → α → Bool) : List α → Bool
  | x :: y :: r => lt x y && risL lt (y :: r)
  | _ => true
theorem uptoFrom_succ (n : Nat) : uptoFrom 1 (n + 1) = 1 :: (uptoFrom 1 n).map (· + 1) := by
  unfold uptoFrom
  rw [List.range_succ_eq_map, List.map_cons, List.map_map, List.map_map]
  refine List.cons_eq_cons.mpr ⟨rfl, List.map_congr_left fun k _ => ?_⟩
  show 1 + ((k + 1 : Nat) : Int) = 1 + (k : Int) + 1
  omega
theorem uptoFrom_mem {lo x : Int} {n : Nat} : x ∈ uptoFrom lo n ↔ lo ≤ x ∧ x < lo + n := by
  unfold uptoFrom
  rw [List.mem_map]
  constructor
  · rintro ⟨k, hk, rfl⟩
    have := List.mem_range.mp hk
    omega
  · rintro ⟨h0, h1⟩
    exact ⟨(x - lo).toNat, List.mem_range.mpr (by omega), by omega⟩
theorem uptoFrom_length (lo : Int) (n : Nat) : (uptoFrom lo n).length = n := by unfold uptoFrom; rw [List.length_map, List.length_range]
theorem ris_all {α : Type} (lt : α → α → Bool) (z : α) : ∀ xs : List α, (uptoFrom 1 (xs.length - 1)).all (fun k => lt (xs.getD (k - 1).toNat z) (xs.getD k.toNat z)) = risL lt xs
  | [] => rfl
  | [x] => rfl
  | x :: y :: r => by
    have ih := ris_all lt z (y :: r)
    show (uptoFrom 1 (r.length + 1)).all _ = _
    rw [uptoFrom_succ, List.all_cons, List.all_map]
    unfold risL
    rw [← ih]
    congr 1
    show List.all _ _ = (uptoFrom 1 r.length).all _
    rw [Bool.eq_iff_iff, List.all_eq_true, List.all_eq_true]
    have key : ∀ k ∈ uptoFrom 1 r.length, ((fun k : Int => lt ((x :: y :: r).getD (k - 1).toNat z) ((x :: y :: r).getD k.toNat z)) ∘ fun x => x + 1) k = lt ((y :: r).getD (k - 1).toNat z) ((y :: r).getD k.toNat z) := fun k hk => by
      rw [uptoFrom_mem] at hk
      obtain ⟨j, rfl⟩ : ∃ j : Nat, k = (j : Int) + 1 := ⟨(k - 1).toNat, by omega⟩
      show lt ((x :: y :: r).getD ((j : Int) + 1 + 1 - 1).toNat z) ((x :: y :: r).getD ((j : Int) + 1 + 1).toNat z) = _
      rw [show ((j : Int) + 1 + 1 - 1).toNat = j + 1 by omega, show ((j : Int) + 1 + 1).toNat = j + 1 + 1 by omega, show ((j : Int) + 1 - 1).toNat = j by omega, show ((j : Int) + 1).toNat = j + 1 by omega]
      rfl
    exact ⟨fun h k hk => (key k hk).symm.trans (h k hk), fun h k hk => (key k hk).trans (h k hk)⟩
theorem risL_map {α β : Type} (lt : β → β → Bool) (f : α → β) : ∀ xs : List α, risL lt (xs.map f) = risL (fun x y => lt (f x) (f y)) xs
  | [] => rfl
  | [x] => rfl
  | x :: y :: r => by
    have ih := risL_map lt f (y :: r)
    rw [List.map_cons, List.map_cons] at *
    unfold risL
    rw [ih]
theorem risL_pair {α : Type} {lt : α → α → Bool} : ∀ {xs : List α}, xs.Pairwise (fun a b => lt a b = true) → risL lt xs = true
  | [], _ => rfl
  | [x], _ => rfl
  | x :: y :: r, h => by
    rw [List.pairwise_cons] at h
    unfold risL
    rw [h.1 y List.mem_cons_self, risL_pair h.2]
    rfl
def ltB (x y : D) : Bool := match ltD x y with
  | some (.bool b) => b
  | _ => false
theorem ltB_int (i j : Int) : ltB (.int i) (.int j) = decide (i < j) := rfl
theorem lt_tJ (s t : List Int) : ltD (tJ s) (tJ t) = some (.bool (HT.lexLt s t)) := by
  unfold tJ
  show (match intsOf (s.map PyData.int), intsOf (t.map PyData.int) with | some ns, some ms => some (PyData.bool (HT.lexLt ns ms)) | _, _ => none) = _
  rw [intsOf_map, intsOf_map]
theorem lexLt_of : ∀ s t : List Int, lexLe s t = true → s ≠ t → HT.lexLt s t = true
  | [], [], _, h => absurd rfl h
  | [], _ :: _, _, _ => rfl
  | _ :: _, [], h, _ => by simp [lexLe] at h
  | x :: s, y :: t, h, hn => by
    rw [HT.lexLt_cons]
    simp only [lexLe, Bool.or_eq_true, Bool.and_eq_true, decide_eq_true_eq] at h
    by_cases e : x = y
    · subst e
      rw [if_pos rfl]
      exact lexLt_of s t (h.elim (fun z => by omega) fun z => z.2) fun z => hn (by rw [z])
    · rw [if_neg e]
      exact decide_eq_true (by omega)
end Pu
/-! Pp: papers -/
namespace Pf
open PySem L2 Pu
/-- things that are looked at, so deep -/
inductive TOk : Nat → D → Prop
  | non {n : Nat} : TOk n .none
  | int {n : Nat} (i : Int) : TOk n (.int i)
  | bl {n : Nat} (i : Bool) : TOk n (.bool i)
  | tup {n : Nat} {ds : List D} : ds.length ≤ 1000000 → (∀ d ∈ ds, TOk n d) → TOk (n + 1) (.tuple ds)
  | lst {n : Nat} {ds : List D} : ds.length ≤ 1000000 → (∀ d ∈ ds, TOk n d) → TOk (n + 1) (.list ds)
theorem TOk.shp {n : Nat} {d : D} (h : TOk n d) : Pu.shp n d := by
  induction h with
  | non => exact shp_none.up (Nat.zero_le _)
  | int i => exact (shp_int i).up (Nat.zero_le _)
  | bl i => exact (shp_bool i).up (Nat.zero_le _)
  | tup _ _ ih => exact shp_tup ih
  | lst _ _ ih => exact shp_list ih
theorem TOk.up {n : Nat} {d : D} (h : TOk n d) : TOk (n + 1) d := by
  induction h with
  | non => exact .non
  | int i => exact .int i
  | bl i => exact .bl i
  | tup hl _ ih => exact .tup hl ih
  | lst hl _ ih => exact .lst hl ih
theorem TOk.le {n m : Nat} {d : D} (h : TOk n d) (hm : n ≤ m) : TOk m d := by
  obtain ⟨k, rfl⟩ := Nat.le.dest hm
  induction k with
  | zero => exact h
  | succ k ih => exact (ih (Nat.le_add_right _ _)).up
theorem TOk.dc {n : Nat} {d : D} (h : TOk n d) : noDc d = true := by cases h <;> rfl
theorem tok_tJ {t : List Int} (h : t.length ≤ 1000000) {n : Nat} : TOk (n + 1) (tJ t) := .tup (by rw [List.length_map]; exact h) fun d hd => by
  obtain ⟨x, _, rfl⟩ := List.mem_map.mp hd
  exact .int x
theorem tok_e3 (m : Int × Int × Int) {n : Nat} : TOk (n + 1) (e3 m) := tok_tJ (by simp [f3])
theorem TOk.tuple {n : Nat} {ds : List D} (h : TOk (n + 1) (.tuple ds)) : ds.length ≤ 1000000 ∧ ∀ d ∈ ds, TOk n d := by
  cases h with
  | tup a b => exact ⟨a, b⟩
theorem TOk.isi {n : Nat} {d : D} (h : TOk n d) : isiD "tuple" d = some (.bool (isTup d)) := by
  cases h <;> simp [isTup]
theorem isTup_iff {d : D} : isTup d = true ↔ ∃ ds, d = .tuple ds := by
  cases d <;> simp [isTup]
/-! nested tuples of whole numbers -/
mutual
def plnD : D → Bool
  | .int _ => true
  | .tuple ds => plnAll ds
  | _ => false
def plnAll : List D → Bool
  | [] => true
  | d :: ds => plnD d && plnAll ds
end
mutual
theorem pl_of_pln : ∀ d : D, plnD d = true → plD d = true
  | .int _, _ => rfl
  | .tuple ds, h => by simp only [plD]; exact plAll_of_pln ds (by simpa [plnD] using h)
  | .none, h => by simp [plnD] at h
  | .bool _, h => by simp [plnD] at h
  | .str _, h => by simp [plnD] at h
  | .list _, h => by simp [plnD] at h
  | .dict _, h => by simp [plnD] at h
theorem plAll_of_pln : ∀ ds : List D, plnAll ds = true → plAll ds = true
  | [], _ => by simp [plAll]
  | d :: ds, h => by
    simp only [plnAll, Bool.and_eq_true] at h
    simp only [plAll, Bool.and_eq_true]
    exact ⟨pl_of_pln d h.1, plAll_of_pln ds h.2⟩
end
theorem plnAll_iff : ∀ ds : List D, plnAll ds = true ↔ ∀ d ∈ ds, plnD d = true
  | [] => by simp [plnAll]
  | d :: ds => by simp [plnAll, plnAll_iff ds]
theorem pln_tJ (t : List Int) : plnD (tJ t) = true := by
  unfold tJ
  simp only [plnD]
  rw [plnAll_iff]
  intro d hd
  obtain ⟨x, _, rfl⟩ := List.mem_map.mp hd
  rfl
/-- a move, out of its data -/
def mvOf : D → Option (Int × Int × Int)
  | .tuple [.int a, .int b, .int c] => some (a, b, c)
  | _ => none
theorem mvOf_e3 (m : Int × Int × Int) : mvOf (e3 m) = some m := rfl
theorem mvOf_some {d : D} {m : Int × Int × Int} (h : mvOf d = some m) : d = e3 m := by
  unfold mvOf at h
  split at h
  · injection h with h; subst h; rfl
  · cases h
/-! ### is_move -/
def isMv : D → Bool
  | .tuple ds => decide (ds.length = 3) && ds.all (isW (-1) 23)
  | _ => false
theorem is_move_ev {n : Nat} {d : D} (h : TOk n d) : fis_move [d] = .ok (.bool (isMv d)) := by
  apply runD_rt
  unfold bis_move
  by_cases ht : ∃ ds, d = .tuple ds
  rotate_left
  · have h1 := h.isi
    have h2 : isTup d = false := by rw [Bool.eq_false_iff]; exact fun z => ht (isTup_iff.mp z)
    have h3 : isMv d = false := by cases d <;> first | rfl | exact absurd ⟨_, rfl⟩ ht
    rw [h2] at h1
    rw [h3]
    simp [startE, h1]
  obtain ⟨ds, rfl⟩ := ht
  by_cases hl : ds.length = 3
  rotate_left
  · have h2 : isMv (.tuple ds) = false := by simp only [isMv]; rw [decide_eq_false hl]; rfl
    have : ¬ (ds.length : Int) = 3 := by omega
    rw [h2]
    simp [startE, this]
  have hz : ∃ n', n = n' + 1 := by cases h with
    | tup _ _ => exact ⟨_, rfl⟩
  obtain ⟨n, rfl⟩ := hz
  have hq : qis_move_1 [.dat (.tuple ds), .un] = .ok ((ds.map (isW (-1) 23)).map PyData.bool) := by
    unfold qis_move_1
    rw [xlc_all (enc := id) (xs := ds) (fun m => .bool (isW (-1) 23 m)) (by simp) h.tuple.1 fun m hm => ⟨[.dat (.tuple ds), .dat m], rfl, rfl, ?_⟩]
    · rw [List.map_map]; rfl
    · have := is_whole_ev (lo := -1) (hi := 23) (h.tuple.2 m hm).dc
      generalize fis_whole = F at this ⊢
      simp [this]
  have ha := all_bools (ds.map (isW (-1) 23))
  have ea : ((ds.map (isW (-1) 23)).all id) = ds.all (isW (-1) 23) := by rw [List.all_map]; rfl
  rw [ea] at ha
  have h2 : isMv (.tuple ds) = ds.all (isW (-1) 23) := by simp only [isMv]; rw [decide_eq_true hl]; rfl
  rw [h2]
  show sret _ [.dat (.tuple ds), .un] = _
  generalize qis_move_1 = Q at hq ⊢
  generalize (ds.map (isW (-1) 23)).map PyData.bool = L at hq ha
  generalize ds.all (isW (-1) 23) = v at ha ⊢
  have hl' : (ds.length : Int) = 3 := by omega
  simp [hq, ha, hl']
theorem isMv_some {d : D} (h : isMv d = true) : ∃ m, d = e3 m := by
  unfold isMv at h
  split at h
  · rename_i ds
    rw [Bool.and_eq_true, decide_eq_true_eq] at h
    match ds, h.1 with
    | [x, y, z], _ =>
      have h2 := h.2
      simp only [List.all_cons, List.all_nil, Bool.and_true, Bool.and_eq_true] at h2
      obtain ⟨a, b, c⟩ := h2
      cases x with
      | int x => cases y with
        | int y => cases z with
          | int z => exact ⟨(x, y, z), rfl⟩
          | _ => cases c
        | _ => cases b
      | _ => cases a
  · cases h
theorem isMv_mem {b : Bd} {s : Sd} {m : Int × Int × Int} (hb : b.Ok) (hs : s.Wk b.n) (h : m ∈ movesT b s) : isMv (e3 m) = true := by
  have ho := (moves_mem hb hs h).2
  have hl := hs.len
  have h24 := hb.hi
  obtain ⟨h1, h2, h3, h4, h5⟩ := ho
  unfold e3 tJ f3
  simp only [isMv, List.map_cons, List.map_nil, List.length_cons, List.length_nil, List.all_cons, List.all_nil, isW, Bool.and_true, Bool.and_eq_true, decide_eq_true_eq]
  have h1' : -1 ≤ m.1 ∧ m.1 ≤ 23 := by rcases h1 with h | ⟨h, h', _⟩ <;> omega
  have h5' : -1 ≤ m.2.2 ∧ m.2.2 ≤ 23 := by rcases h5 with h | ⟨h, h', _⟩ <;> omega
  exact ⟨trivial, h1', ⟨by omega, by omega⟩, h5'⟩
/-! ### who has not won can move -/
theorem takP_ne (b : Bd) (ms : List (Option Int)) (goal w : Int) : takT b ms goal w ≠ [] := by
  unfold takT
  split
  · split
    · rename_i h; exact h
    · split
      · rename_i h; exact h
      · simp
  · simp
theorem moves_ne {b : Bd} {s : Sd} (h : winT b s = none) : movesT b s ≠ [] := by
  unfold movesT
  rw [if_pos h]
  unfold winT at h
  split at h
  · cases h
  · rename_i hn
    intro z
    have hs : stepsT b s ≠ [] := fun e => hn (.inr e)
    have hp := (sortT_perm f3 (movesU b s)).length_eq
    rw [z] at hp
    cases hst : stepsT b s with
    | nil => exact hs hst
    | cons a r =>
      have ht := takP_ne b (stepM s.men a.1 a.2 s.turn) a.2 s.turn
      cases htk : takT b (stepM s.men a.1 a.2 s.turn) a.2 s.turn with
      | nil => exact ht htk
      | cons t tr =>
        unfold movesU at hp
        rw [hst, List.flatMap_cons, htk] at hp
        simp at hp
theorem win_moves {b : Bd} {s : Sd} (h : winT b s ≠ none) : movesT b s = [] := by
  unfold movesT
  rw [if_neg h]
theorem moves_len {b : Bd} {s : Sd} (hb : b.Ok) (hs : s.Wk b.n) : (movesT b s).length ≤ 230400 := by
  have hl := hs.len
  have h24 := hb.hi
  unfold movesT
  split
  · rw [(sortT_perm f3 _).length_eq]; exact movesU_len hb.nt (by omega)
  · simp
/-! ### papers, plainly -/
def pairB (P : Sd → Int → D → Bool) (t : Sd) (m : Int) (q : (Int × Int × Int) × D) : Bool := match q.2 with
  | .tuple [x, z] => decide (mvOf x = some q.1) && P (doneT t q.1) m z
  | _ => false
def ansB (b : Bd) (P : Sd → Int → D → Bool) (t : Sd) (m : Int) : D → Bool
  | .tuple ps => if (winT b t).isSome = true then ps.isEmpty else decide (ps.length = (movesT b t).length) && ((movesT b t).zip ps).all (pairB P t m)
  | _ => false
def papB (b : Bd) (P : Sd → Int → D → Bool) (s : Sd) (m : Int) : D → Bool
  | .tuple [x, y] => decide (1 ≤ m) && match mvOf x with
    | some mv => decide (mv ∈ movesT b s) && ansB b P (doneT s mv) (m - 2) y
    | none => false
  | _ => false
def paperB (b : Bd) : Nat → Sd → Int → D → Bool
  | 0 => fun _ _ _ => false
  | k + 1 => papB b (paperB b k)
theorem paperB_low {b : Bd} : ∀ (k : Nat) (s : Sd) (m : Int) (d : D), m < 1 → paperB b k s m d = false
  | 0, _, _, _, _ => rfl
  | k + 1, s, m, d, h => by
    unfold paperB papB
    split
    · rw [decide_eq_false (by omega)]; rfl
    · rfl
/-- a paper is plain -/
theorem paperB_ok {b : Bd} (hb : b.Ok) : ∀ (k : Nat) (s : Sd) (m : Int) (d : D), s.Wk b.n → paperB b k s m d = true → plnD d = true ∧ TOk (3 * k) d
  | 0, _, _, _, _, h => nomatch h
  | k + 1, s, m, d, hs, h => by
    have ih := paperB_ok hb k
    unfold paperB papB at h
    split at h
    · rename_i x y
      rw [Bool.and_eq_true] at h
      have h2 := h.2
      split at h2
      · rename_i mv hx
        have ex := mvOf_some hx
        subst ex
        rw [Bool.and_eq_true, decide_eq_true_eq] at h2
        obtain ⟨hm, ha⟩ := h2
        have ht := done_wk (m := mv) hs
        have hy : plnD y = true ∧ TOk (3 * k + 2) y := by
          unfold ansB at ha
          split at ha
          · rename_i ps
            split at ha
            · rw [List.isEmpty_iff] at ha; subst ha
              exact ⟨rfl, .tup (by simp) (by simp)⟩
            · rw [Bool.and_eq_true, decide_eq_true_eq, List.all_eq_true] at ha
              have hp : ∀ p ∈ ps, plnD p = true ∧ TOk (3 * k + 1) p := fun p hp => by
                obtain ⟨i, hi, e⟩ := List.mem_iff_getElem.mp hp
                have hi2 : i < (movesT b (doneT s mv)).length := by omega
                have hz := ha.2 ((movesT b (doneT s mv))[i], p) (List.mem_iff_getElem.mpr ⟨i, by simp; omega, by simp [e]⟩)
                unfold pairB at hz
                split at hz
                · rename_i x z e1
                  simp only at e1 hz
                  subst e1
                  rw [Bool.and_eq_true, decide_eq_true_eq] at hz
                  obtain ⟨hz1, hz2⟩ := hz
                  have ex := mvOf_some hz1
                  subst ex
                  obtain ⟨r1, r2⟩ := ih _ _ z (done_wk ht) hz2
                  refine ⟨?_, .tup (by simp) fun d hd => ?_⟩
                  · simp only [plnD]
                    rw [plnAll_iff]
                    intro d hd
                    simp only [List.mem_cons, List.not_mem_nil, or_false] at hd
                    rcases hd with rfl | rfl
                    · exact pln_tJ _
                    · exact r1
                  · simp only [List.mem_cons, List.not_mem_nil, or_false] at hd
                    rcases hd with rfl | rfl
                    · have : 0 < k := by
                        cases k with
                        | zero => cases hz2
                        | succ k => omega
                      exact (tok_e3 _ (n := 0)).le (by omega)
                    · exact r2
                · cases hz
              have hml := moves_len hb ht
              exact ⟨by simp only [plnD]; rw [plnAll_iff]; exact fun d hd => (hp d hd).1, .tup (by omega) fun d hd => (hp d hd).2⟩
          · cases ha
        refine ⟨?_, .tup (by simp) fun d hd => ?_⟩
        · simp only [plnD]
          rw [plnAll_iff]
          intro d hd
          simp only [List.mem_cons, List.not_mem_nil, or_false] at hd
          rcases hd with rfl | rfl
          · exact pln_tJ _
          · exact hy.1
        · simp only [List.mem_cons, List.not_mem_nil, or_false] at hd
          rcases hd with rfl | rfl
          · exact (tok_e3 _ (n := 0)).le (by omega)
          · exact hy.2
      · cases h2
    · cases h
/-! ### is_paper -/
section
variable {b : Bd} {s t : Sd} {m : Int}
theorem lbans_ev (hb : b.Ok) (ht : t.Wk b.n) {Fp : List D → R D} {P : Sd → Int → D → Bool} {j : Nat} {a : Int × Int × Int} (ha : a ∈ movesT b t) {p : D} (hp : TOk (j + 1) p) (hj : j ≤ 60)
    (hP : ∀ z, TOk j z → Fp [encB b, encS (doneT t a), .int m, z] = .ok (.bool (P (doneT t a) m z))) {s3 s4 : Sl} :
    (pairB P t m (a, p) = true → lbis_answers_1 Fp [.dat (encB b), .dat (encS t), .dat (.int m), s3, s4, .dat (e3 a), .dat p] = .nx [.dat (encB b), .dat (encS t), .dat (.int m), s3, s4, .dat (e3 a), .dat p]) ∧
    (pairB P t m (a, p) = false → lbis_answers_1 Fp [.dat (encB b), .dat (encS t), .dat (.int m), s3, s4, .dat (e3 a), .dat p] = .rt (.bool false)) := by
  unfold lbis_answers_1
  have hi := hp.isi
  by_cases hx : ∃ x z, p = .tuple [x, z]
  rotate_left
  · have h2 : pairB P t m (a, p) = false := by
      unfold pairB
      split
      · rename_i x z e; exact absurd ⟨x, z, e⟩ hx
      · rfl
    rw [h2]
    refine ⟨fun z => (nomatch z), fun _ => ?_⟩
    by_cases hT : ∃ ds, p = .tuple ds
    · obtain ⟨ds, rfl⟩ := hT
      have hl : ¬ (ds.length : Int) = 2 := fun z => by
        match ds, z with
        | [x, y], _ => exact hx ⟨x, y, rfl⟩
        | [], z => simp at z
        | [_], z => simp at z
        | _ :: _ :: _ :: _, z => simp at z; omega
      generalize fis_move = F1
      simp [hl]
    · have : isTup p = false := by rw [Bool.eq_false_iff]; exact fun z => hT (isTup_iff.mp z)
      rw [this] at hi
      generalize fis_move = F1
      simp [hi]
  obtain ⟨x, z, rfl⟩ := hx
  have hx := hp.tuple.2 x (by simp)
  have hz := hp.tuple.2 z (by simp)
  have im := is_move_ev hx
  have i0 : ixD (.tuple [x, z]) (.int 0) = some x := rfl
  have i1 : ixD (.tuple [x, z]) (.int 1) = some z := rfl
  have hd := done_ev ht.turn (moves_mem hb ht ha).2
  have hpz := hP z hz
  have hne : neD x (e3 a) = some (.bool (!PyData.eqv x (e3 a))) := ne_ev (hx.shp.shaped (by omega)) ((tJ_shp _).shaped)
  have epb : pairB P t m (a, .tuple [x, z]) = (decide (mvOf x = some a) && P (doneT t a) m z) := rfl
  rw [epb]
  generalize fdone = F2 at hd ⊢
  cases hm : isMv x with
  | false =>
    have : ¬ mvOf x = some a := fun q => by
      rw [mvOf_some q, isMv_mem hb ht ha] at hm
      cases hm
    rw [decide_eq_false this]
    rw [hm] at im
    generalize fis_move = F1 at im ⊢
    exact ⟨fun z => (nomatch z), fun _ => by simp [i0, im]⟩
  | true =>
    obtain ⟨mx, rfl⟩ := isMv_some hm
    rw [hm] at im
    generalize fis_move = F1 at im ⊢
    have eqq : PyData.eqv (e3 mx) (e3 a) = decide (mx = a) := eqv_enc e3_inj (fun m => tJ_pl _) mx a
    rw [eqq] at hne
    rw [mvOf_e3]
    by_cases e : mx = a
    · subst e
      rw [decide_eq_true rfl, Bool.true_and]
      rw [decide_eq_true rfl] at hne
      cases hpp : P (doneT t mx) m z with
      | true =>
        rw [hpp] at hpz
        exact ⟨fun _ => by simp [i0, i1, im, hne, hd, hpz], fun z => nomatch z⟩
      | false =>
        rw [hpp] at hpz
        exact ⟨fun z => (nomatch z), fun _ => by simp [i0, i1, im, hne, hd, hpz]⟩
    · have : ¬ (some mx = some a) := fun z => e (Option.some.inj z)
      rw [decide_eq_false this]
      rw [decide_eq_false e] at hne
      exact ⟨fun z => (nomatch z), fun _ => by simp [i0, im, hne]⟩
theorem zipL_moves (ms : List (Int × Int × Int)) (ps : List D) : zipL (ms.map e3) ps = (ms.zip ps).map fun q => pairD (e3 q.1) q.2 := by
  unfold zipL
  rw [List.zipWith_map_left, List.zip_eq_zipWith, List.map_zipWith]
theorem is_answers_ev (hb : b.Ok) (ht : t.Wk b.n) {Fp : List D → R D} {P : Sd → Int → D → Bool} {j : Nat} (hj : j ≤ 60)
    (hP : ∀ a ∈ movesT b t, ∀ z, TOk j z → Fp [encB b, encS (doneT t a), .int m, z] = .ok (.bool (P (doneT t a) m z))) {d : D} (hd : TOk (j + 2) d) :
    runD 7 (bis_answers Fp) [encB b, encS t, .int m, d] = .ok (.bool (ansB b P t m d)) := by
  apply runD_rt
  unfold bis_answers
  have hi := hd.isi
  have hmv := moves_ok hb ht
  have hwn := winner_ok hb ht
  by_cases hT : ∃ ps, d = .tuple ps
  rotate_left
  · have : isTup d = false := by rw [Bool.eq_false_iff]; exact fun z => hT (isTup_iff.mp z)
    rw [this] at hi
    have h2 : ansB b P t m d = false := by cases d <;> first | rfl | exact absurd ⟨_, rfl⟩ hT
    rw [h2]
    generalize fwinner = F1
    generalize fmoves = F2
    generalize lis_answers_1 Fp = L
    simp [startE, hi]
  obtain ⟨ps, rfl⟩ := hT
  have e0 : sif (tnot (xtru (un1 (isiD "tuple") (xvV 3)))) (sret (xc (.bool false))) snil (startE 7 [encB b, encS t, .int m, .tuple ps]) = .nx [.dat (encB b), .dat (encS t), .dat (.int m), .dat (.tuple ps), .un, .un, .un] := by
    simp [startE]
  rw [sseq_ev, e0, then_nx, sseq_ev]
  unfold ansB
  cases hw : winT b t with
  | some w =>
    rw [hw] at hwn
    have he : eqD (.tuple ps) (.tuple []) = some (.bool ps.isEmpty) := by
      rw [eq_ev (hd.shp.shaped (by omega)) ((shp_tup (k := 0) (ds := []) (by simp)).shaped)]
      cases ps <;> simp [PyData.eqv, PyData.eqvAll]
    have e1 : sif (xbl (bin isNotD (xcall 2 fwinner (lcons (xvE 0) (lcons (xvE 1) lnil))) (xc .none))) (sret (bin eqD (xvV 3) (xtup lnil))) snil [.dat (encB b), .dat (encS t), .dat (.int m), .dat (.tuple ps), .un, .un, .un] = .rt (.bool ps.isEmpty) := by
      generalize fwinner = F1 at hwn ⊢
      rw [sif_t (by simp [hwn])]
      simp [he]
    rw [e1]
    rfl
  | none =>
    rw [hw] at hwn
    have e1 : sif (xbl (bin isNotD (xcall 2 fwinner (lcons (xvE 0) (lcons (xvE 1) lnil))) (xc .none))) (sret (bin eqD (xvV 3) (xtup lnil))) snil [.dat (encB b), .dat (encS t), .dat (.int m), .dat (.tuple ps), .un, .un, .un] = .nx [.dat (encB b), .dat (encS t), .dat (.int m), .dat (.tuple ps), .un, .un, .un] := by
      generalize fwinner = F1 at hwn ⊢
      rw [sif_f (by simp [hwn])]
      rfl
    rw [e1, then_nx, sseq_ev]
    have e2 : sasg 4 (xcall 2 fmoves (lcons (xvE 0) (lcons (xvE 1) lnil))) [.dat (encB b), .dat (encS t), .dat (.int m), .dat (.tuple ps), .un, .un, .un] = .nx [.dat (encB b), .dat (encS t), .dat (.int m), .dat (.tuple ps), .dat (.tuple ((movesT b t).map e3)), .un, .un] := by
      generalize fmoves = F2 at hmv ⊢
      simp [hmv]
    rw [e2, then_nx, sseq_ev]
    show _ = Fl.rt (.bool (if false = true then ps.isEmpty else decide (ps.length = (movesT b t).length) && ((movesT b t).zip ps).all (pairB P t m)))
    rw [if_neg Bool.false_ne_true]
    by_cases hl : ps.length = (movesT b t).length
    rotate_left
    · rw [decide_eq_false hl, Bool.false_and]
      have : ¬ (ps.length : Int) = ((movesT b t).length : Int) := by omega
      rw [sif_t (by simp [this])]
      simp
    rw [decide_eq_true hl, Bool.true_and]
    have t3 : (xbl (bin neD (un1 lenD (xvV 3)) (un1 lenD (xvV 4)))) [.dat (encB b), .dat (encS t), .dat (.int m), .dat (.tuple ps), .dat (.tuple ((movesT b t).map e3)), .un, .un] = .ok false := by
      have : (ps.length : Int) = ((movesT b t).length : Int) := by omega
      simp [this]
    rw [sif_f t3, snil_ev, then_nx, sseq_ev]
    have hloop := forL_all (enc := fun q : (Int × Int × Int) × D => pairD (e3 q.1) q.2) (f := gtup (gcons (gn 5) (gcons (gn 6) gnil))) (B := lbis_answers_1 Fp) (fun e => ∃ s5 s6, e = [.dat (encB b), .dat (encS t), .dat (.int m), .dat (.tuple ps), .dat (.tuple ((movesT b t).map e3)), s5, s6]) (pairB P t m) (.bool false) ((movesT b t).zip ps)
      [.dat (encB b), .dat (encS t), .dat (.int m), .dat (.tuple ps), .dat (.tuple ((movesT b t).map e3)), .un, .un] ⟨_, _, rfl⟩ fun q e hq ⟨s5, s6, he⟩ => by
        subst he
        have h1 := List.of_mem_zip (a := q.1) (b := q.2) hq
        have := lbans_ev hb ht (Fp := Fp) (P := P) (m := m) h1.1 (hd.tuple.2 q.2 h1.2) hj (hP q.1 h1.1) (s3 := .dat (.tuple ps)) (s4 := .dat (.tuple ((movesT b t).map e3)))
        exact ⟨_, rfl, fun z => ⟨_, .inl (this.1 z), _, _, rfl⟩, this.2⟩
    rw [← zipL_moves] at hloop
    have hL : (izip (xvE 4) (xvE 3)) [.dat (encB b), .dat (encS t), .dat (.int m), .dat (.tuple ps), .dat (.tuple ((movesT b t).map e3)), .un, .un] = .ok (zipL ((movesT b t).map e3) ps) := rfl
    cases hall : ((movesT b t).zip ps).all (pairB P t m) with
    | false =>
      have : lis_answers_1 Fp [.dat (encB b), .dat (encS t), .dat (.int m), .dat (.tuple ps), .dat (.tuple ((movesT b t).map e3)), .un, .un] = .rt (.bool false) := sfor_is hL (hloop.2 hall)
      rw [this]
      rfl
    | true =>
      obtain ⟨e', h1, s5, s6, rfl⟩ := hloop.1 hall
      have : lis_answers_1 Fp [.dat (encB b), .dat (encS t), .dat (.int m), .dat (.tuple ps), .dat (.tuple ((movesT b t).map e3)), .un, .un] = .nx _ := sfor_is hL h1
      rw [this, then_nx]
      simp
theorem pap_ev (hb : b.Ok) (hs : s.Wk b.n) {Fa : List D → R D} {P : Sd → Int → D → Bool} {j : Nat} (hj : j ≤ 60)
    (hA : 1 ≤ m → ∀ mv ∈ movesT b s, ∀ y, TOk (j + 2) y → Fa [encB b, encS (doneT s mv), .int (m - 2), y] = .ok (.bool (ansB b P (doneT s mv) (m - 2) y))) {d : D} (hd : TOk (j + 3) d) :
    runD 4 (bis_paper Fa) [encB b, encS s, .int m, d] = .ok (.bool (papB b P s m d)) := by
  apply runD_rt
  unfold bis_paper
  have hi := hd.isi
  have hmv := moves_ok hb hs
  by_cases h1 : m < 1
  · have h2 : papB b P s m d = false := by
      unfold papB
      split
      · rw [decide_eq_false (by omega)]; rfl
      · rfl
    rw [h2]
    generalize fis_move = F1
    generalize fmoves = F2
    generalize fdone = F3
    simp [startE, h1]
  by_cases hx : ∃ x y, d = .tuple [x, y]
  rotate_left
  · have h2 : papB b P s m d = false := by
      unfold papB
      split
      · rename_i x y; exact absurd ⟨x, y, rfl⟩ hx
      · rfl
    rw [h2]
    generalize fis_move = F1
    generalize fmoves = F2
    generalize fdone = F3
    by_cases hT : ∃ ds, d = .tuple ds
    · obtain ⟨ds, rfl⟩ := hT
      have hl : ¬ (ds.length : Int) = 2 := fun z => by
        match ds, z with
        | [x, y], _ => exact hx ⟨x, y, rfl⟩
        | [], z => simp at z
        | [_], z => simp at z
        | _ :: _ :: _ :: _, z => simp at z; omega
      simp [startE, h1, hl]
    · have : isTup d = false := by rw [Bool.eq_false_iff]; exact fun z => hT (isTup_iff.mp z)
      rw [this] at hi
      simp [startE, h1, hi]
  obtain ⟨x, y, rfl⟩ := hx
  have hx := hd.tuple.2 x (by simp)
  have hy := hd.tuple.2 y (by simp)
  have im := is_move_ev hx
  have i0 : ixD (.tuple [x, y]) (.int 0) = some x := rfl
  have i1 : ixD (.tuple [x, y]) (.int 1) = some y := rfl
  have hdn := fun mv hm => done_ev hs.turn (moves_mem (m := mv) hb hs hm).2
  have hA := hA (by omega)
  have ep : papB b P s m (.tuple [x, y]) = match mvOf x with
    | some mv => decide (mv ∈ movesT b s) && ansB b P (doneT s mv) (m - 2) y
    | none => false := by
    show (decide (1 ≤ m) && _) = _
    rw [decide_eq_true (by omega), Bool.true_and]
  rw [ep]
  show sseq _ _ [.dat (encB b), .dat (encS s), .dat (.int m), .dat (.tuple [x, y])] = _
  cases hm : isMv x with
  | false =>
    rw [hm] at im
    have h2 : (match mvOf x with
      | some mv => decide (mv ∈ movesT b s) && ansB b P (doneT s mv) (m - 2) y
      | none => false) = false := by
      cases hq : mvOf x with
      | none => rfl
      | some mv =>
        have ex := mvOf_some hq
        subst ex
        by_cases hin : mv ∈ movesT b s
        · rw [isMv_mem hb hs hin] at hm; cases hm
        · show (decide (mv ∈ movesT b s) && _) = false
          rw [decide_eq_false hin]; rfl
    rw [h2]
    generalize fis_move = F1 at im ⊢
    generalize fmoves = F2
    generalize fdone = F3
    simp [h1, i0, im]
  | true =>
    rw [hm] at im
    obtain ⟨mv, rfl⟩ := isMv_some hm
    rw [mvOf_e3]
    have t1 : (tor (xbl (bin ltD (xvV 2) (xc (.int 1)))) (tor (tnot (xtru (un1 (isiD "tuple") (xvV 3)))) (tor (xbl (bin neD (un1 lenD (xvV 3)) (xc (.int 2)))) (tnot (xtru (xcall 1 fis_move (lcons (bin ixD (xvV 3) (xc (.int 0))) lnil))))))) [.dat (encB b), .dat (encS s), .dat (.int m), .dat (.tuple [e3 mv, y])] = .ok false := by
      generalize fis_move = F1 at im ⊢
      simp [h1, i0, im]
    rw [sseq_ev, sif_f t1, snil_ev, then_nx, sseq_ev]
    have hn := notIn_moves mv (movesT b s)
    have t2 : (xbl (bin notInD (bin ixD (xvV 3) (xc (.int 0))) (xcall 2 fmoves (lcons (xvE 0) (lcons (xvE 1) lnil))))) [.dat (encB b), .dat (encS s), .dat (.int m), .dat (.tuple [e3 mv, y])] = .ok (!decide (mv ∈ movesT b s)) := by
      generalize fmoves = F2 at hmv ⊢
      generalize (movesT b s).map e3 = L at hmv hn
      simp [i0, hmv, hn]
    show _ = Fl.rt (.bool (decide (mv ∈ movesT b s) && ansB b P (doneT s mv) (m - 2) y))
    by_cases hin : mv ∈ movesT b s
    · rw [decide_eq_true hin] at t2 ⊢
      rw [Bool.true_and, sif_f t2, snil_ev, then_nx]
      have hd := hdn mv hin
      have ha := hA mv hin y hy
      generalize fdone = F3 at hd ⊢
      simp [i0, i1, hd, ha]
    · rw [decide_eq_false hin] at t2 ⊢
      rw [sif_t t2]
      simp
theorem is_paper_ev (hb : b.Ok) : ∀ (k n : Nat) (s : Sd) (m : Int) (d : D) (J : Nat), 2 * k + 1 ≤ n → m ≤ 2 * k → 3 * k ≤ J → J ≤ 60 → s.Wk b.n → TOk J d → fis_paper n [encB b, encS s, .int m, d] = .ok (.bool (paperB b k s m d))
  | 0, n + 1, s, m, d, J, hn, hm, hJ, hJ2, hs, hd => by
    have h1 : m < 1 := by omega
    rw [paperB_low 0 s m d h1]
    show runD 4 (bis_paper (fis_answers n)) [encB b, encS s, .int m, d] = _
    apply runD_rt
    unfold bis_paper
    generalize fis_move = F1
    generalize fmoves = F2
    generalize fdone = F3
    generalize fis_answers n = F4
    simp [startE, h1]
  | k + 1, n + 2, s, m, d, J, hn, hm, hJ, hJ2, hs, hd => by
    obtain ⟨j, rfl⟩ : ∃ j, J = j + 3 := ⟨J - 3, by omega⟩
    show runD 4 (bis_paper (fis_answers (n + 1))) [encB b, encS s, .int m, d] = .ok (.bool (papB b (paperB b k) s m d))
    refine pap_ev hb hs (j := j) (by omega) (fun _ mv hmv y hy => ?_) hd
    show runD 7 (bis_answers (fis_paper n)) _ = _
    refine is_answers_ev hb (done_wk hs) (j := j) (by omega) (fun a ha z hz => ?_) hy
    exact is_paper_ev hb k n _ _ z j (by omega) (by omega) (by omega) (by omega) (done_wk (done_wk hs)) hz
end
end Pf
/-! Pq: forced -/
namespace Pf
open PySem L2 Pu
def ansC (b : Bd) (C : Sd → Int → Bool) (t : Sd) (m : Int) : Bool := (winT b t).isSome || (movesT b t).all fun a => C (doneT t a) m
def canB (b : Bd) : Nat → Sd → Int → Bool
  | 0 => fun _ _ => false
  | k + 1 => fun s m => decide (1 ≤ m) && (movesT b s).any fun mv => ansC b (canB b k) (doneT s mv) (m - 2)
theorem canB_low {b : Bd} : ∀ (k : Nat) (s : Sd) (m : Int), m < 1 → canB b k s m = false
  | 0, _, _, _ => rfl
  | k + 1, s, m, h => by
    unfold canB
    rw [decide_eq_false (by omega)]; rfl
section
variable {b : Bd} {s t : Sd} {m : Int}
/-- answers_to -/
theorem answers_ev (hb : b.Ok) (ht : t.Wk b.n) {Ff : List D → R D} {C : Sd → Int → Bool} {P : Sd → Int → D → Bool}
    (hF : ∀ a ∈ movesT b t, ∃ r, Ff [encB b, encS (doneT t a), .int m] = .ok r ∧ ((r = .none ∧ C (doneT t a) m = false) ∨ (isNoneD r = false ∧ C (doneT t a) m = true ∧ P (doneT t a) m r = true))) :
    ∃ r, runD 6 (banswers_to Ff) [encB b, encS t, .int m] = .ok r ∧ ((r = .none ∧ ansC b C t m = false) ∨ (isNoneD r = false ∧ ansC b C t m = true ∧ ansB b P t m r = true)) := by
  have hmv := moves_ok hb ht
  have hwn := winner_ok hb ht
  have hlen := moves_len hb ht
  cases hw : winT b t with
  | some w =>
    rw [hw] at hwn
    refine ⟨.tuple [], runD_rt ?_, .inr ⟨rfl, ?_, ?_⟩⟩
    · unfold banswers_to
      generalize fwinner = F1 at hwn ⊢
      rw [sseq_ev, sif_t (by simp [startE, hwn])]
      simp
    · unfold ansC; rw [hw]; rfl
    · simp only [ansB, hw]; rfl
  | none =>
    rw [hw] at hwn
    have ec : ansC b C t m = (movesT b t).all fun a => C (doneT t a) m := by unfold ansC; rw [hw]; rfl
    rw [ec]
    have e1 : sif (xbl (bin isNotD (xcall 2 fwinner (lcons (xvE 0) (lcons (xvE 1) lnil))) (xc .none))) (sret (xtup lnil)) snil (startE 6 [encB b, encS t, .int m]) = .nx [.dat (encB b), .dat (encS t), .dat (.int m), .un, .un, .un] := by
      generalize fwinner = F1 at hwn ⊢
      rw [sif_f (by simp [startE, hwn])]
      rfl
    have e2 : sasgN 3 (xlst lnil) [.dat (encB b), .dat (encS t), .dat (.int m), .un, .un, .un] = .nx [.dat (encB b), .dat (encS t), .dat (.int m), .own [], .un, .un] := by simp
    have hL : (iseq (xcall 2 fmoves (lcons (xvE 0) (lcons (xvE 1) lnil)))) [.dat (encB b), .dat (encS t), .dat (.int m), .own [], .un, .un] = .ok ((movesT b t).map e3) := by
      generalize fmoves = F2 at hmv ⊢
      simp [hmv]
    have hloop := forL_try (enc := e3) (f := gn 4) (B := lbanswers_to_1 Ff)
      (fun p e => ∃ (zs : List D) (s4 s5 : Sl), e = [.dat (encB b), .dat (encS t), .dat (.int m), .own ((p.zip zs).map fun q => PyData.tuple [e3 q.1, q.2]), s4, s5] ∧ zs.length = p.length ∧ ∀ q ∈ p.zip zs, C (doneT t q.1) m = true ∧ P (doneT t q.1) m q.2 = true)
      (fun p a r => r = .rt .none ∧ C (doneT t a) m = false) (movesT b t) [] [.dat (encB b), .dat (encS t), .dat (.int m), .own [], .un, .un] ⟨[], _, _, rfl, rfl, fun q hq => nomatch hq⟩
      fun p a r e hpr ⟨zs, s4, s5, he, hz, hall⟩ => by
        rw [List.nil_append] at hpr
        subst he
        have ha : a ∈ movesT b t := by rw [hpr]; simp
        have hd := done_ev ht.turn (moves_mem hb ht ha).2
        obtain ⟨z, hz1, hz2⟩ := hF a ha
        refine ⟨_, rfl, ?_⟩
        show (∃ e2, (lbanswers_to_1 Ff [.dat (encB b), .dat (encS t), .dat (.int m), .own ((p.zip zs).map fun q => PyData.tuple [e3 q.1, q.2]), .dat (e3 a), s5] = .nx e2 ∨ _) ∧ _) ∨ _
        have b1 : sasg 5 (xcall 3 Ff (lcons (xvE 0) (lcons (xcall 2 fdone (lcons (xvE 1) (lcons (xvE 4) lnil))) (lcons (xvE 2) lnil)))) [.dat (encB b), .dat (encS t), .dat (.int m), .own ((p.zip zs).map fun q => PyData.tuple [e3 q.1, q.2]), .dat (e3 a), s5] = .nx [.dat (encB b), .dat (encS t), .dat (.int m), .own ((p.zip zs).map fun q => PyData.tuple [e3 q.1, q.2]), .dat (e3 a), .dat z] := by
          generalize fdone = F1 at hd ⊢
          simp [hd, hz1]
        rcases hz2 with ⟨rfl, hc⟩ | ⟨hn, hc, hp⟩
        · right
          have : lbanswers_to_1 Ff [.dat (encB b), .dat (encS t), .dat (.int m), .own ((p.zip zs).map fun q => PyData.tuple [e3 q.1, q.2]), .dat (e3 a), s5] = .rt .none := by
            unfold lbanswers_to_1
            rw [sseq_ev, b1, then_nx, sseq_ev, sif_t (by simp)]
            simp
          exact ⟨.inl ⟨_, this⟩, this, hc⟩
        · left
          have hpl : p.length ≤ 230400 := by
            have : (movesT b t).length = p.length + (r.length + 1) := by rw [hpr, List.length_append, List.length_cons]
            omega
          have b3 : sapp 3 (xtup (lcons (xvE 4) (lcons (xvE 5) lnil))) [.dat (encB b), .dat (encS t), .dat (.int m), .own ((p.zip zs).map fun q => PyData.tuple [e3 q.1, q.2]), .dat (e3 a), .dat z] = .nx [.dat (encB b), .dat (encS t), .dat (.int m), .own (((p ++ [a]).zip (zs ++ [z])).map fun q => PyData.tuple [e3 q.1, q.2]), .dat (e3 a), .dat z] := by
            rw [sapp_ev (d := .tuple [e3 a, z]) (ds := (p.zip zs).map fun q => PyData.tuple [e3 q.1, q.2]) rfl (by simp) (by simp; omega), List.zip_append hz.symm, List.map_append]
            rfl
          have : lbanswers_to_1 Ff [.dat (encB b), .dat (encS t), .dat (.int m), .own ((p.zip zs).map fun q => PyData.tuple [e3 q.1, q.2]), .dat (e3 a), s5] = .nx [.dat (encB b), .dat (encS t), .dat (.int m), .own (((p ++ [a]).zip (zs ++ [z])).map fun q => PyData.tuple [e3 q.1, q.2]), .dat (e3 a), .dat z] := by
            unfold lbanswers_to_1
            rw [sseq_ev, b1, then_nx, sseq_ev, sif_f (by simp [hn]), snil_ev, then_nx, b3]
          refine ⟨_, .inl this, zs ++ [z], _, _, rfl, by simp [hz], fun q hq => ?_⟩
          rw [List.zip_append hz.symm] at hq
          rcases List.mem_append.mp hq with hq | hq
          · exact hall q hq
          · simp only [List.zip_cons_cons, List.zip_nil_left, List.mem_singleton] at hq
            subst hq
            exact ⟨hc, hp⟩
    rw [List.nil_append] at hloop
    rcases hloop with ⟨e', h1, zs, s4, s5, rfl, hz, hall⟩ | ⟨p, a, r, hpr, h1, hc⟩
    · refine ⟨.tuple (((movesT b t).zip zs).map fun q => PyData.tuple [e3 q.1, q.2]), runD_rt ?_, .inr ⟨rfl, ?_, ?_⟩⟩
      · unfold banswers_to
        have hl : lanswers_to_1 Ff [.dat (encB b), .dat (encS t), .dat (.int m), .own [], .un, .un] = .nx _ := sfor_is hL h1
        rw [sseq_ev, e1, then_nx, sseq_ev, e2, then_nx, sseq_ev, hl, then_nx]
        simp
      · rw [List.all_eq_true]
        intro a ha
        obtain ⟨i, hi, rfl⟩ := List.mem_iff_getElem.mp ha
        exact (hall ((movesT b t)[i], zs[i]'(by omega)) (List.mem_iff_getElem.mpr ⟨i, by simp; omega, by simp⟩)).1
      · simp only [ansB, hw]
        show (if false = true then _ else _) = true
        rw [if_neg Bool.false_ne_true, Bool.and_eq_true, decide_eq_true_eq, List.all_eq_true]
        refine ⟨by simp [hz], fun q hq => ?_⟩
        obtain ⟨i, hi, e⟩ := List.mem_iff_getElem.mp hq
        have hi2 : i < (movesT b t).length := by simp at hi; omega
        have := (hall ((movesT b t)[i], zs[i]'(by omega)) (List.mem_iff_getElem.mpr ⟨i, by simp; omega, by simp⟩)).2
        simp only [List.getElem_zip, List.getElem_map] at e
        rw [← e]
        unfold pairB
        simp only [mvOf_e3, Bool.and_eq_true, decide_eq_true_eq]
        exact ⟨trivial, this⟩
    · refine ⟨.none, runD_rt ?_, .inl ⟨rfl, ?_⟩⟩
      · unfold banswers_to
        have hl : lanswers_to_1 Ff [.dat (encB b), .dat (encS t), .dat (.int m), .own [], .un, .un] = .rt .none := sfor_is hL h1
        rw [sseq_ev, e1, then_nx, sseq_ev, e2, then_nx, sseq_ev, hl]
        rfl
      · rw [List.all_eq_false]
        exact ⟨a, by rw [hpr]; simp, by rw [hc]; exact Bool.false_ne_true⟩
/-- forced -/
theorem forced1_ev (hb : b.Ok) (hs : s.Wk b.n) {Fa : List D → R D} {C : Sd → Int → Bool} {P : Sd → Int → D → Bool}
    (hF : 1 ≤ m → ∀ a ∈ movesT b s, ∃ r, Fa [encB b, encS (doneT s a), .int (m - 2)] = .ok r ∧ ((r = .none ∧ ansC b C (doneT s a) (m - 2) = false) ∨ (isNoneD r = false ∧ ansC b C (doneT s a) (m - 2) = true ∧ ansB b P (doneT s a) (m - 2) r = true))) :
    ∃ r, runD 5 (bforced Fa) [encB b, encS s, .int m] = .ok r ∧ ((r = .none ∧ (decide (1 ≤ m) && (movesT b s).any fun mv => ansC b C (doneT s mv) (m - 2)) = false) ∨ (isNoneD r = false ∧ (decide (1 ≤ m) && (movesT b s).any fun mv => ansC b C (doneT s mv) (m - 2)) = true ∧ papB b P s m r = true)) := by
  by_cases h1 : m < 1
  · refine ⟨.none, runD_rt ?_, .inl ⟨rfl, by rw [decide_eq_false (by omega)]; rfl⟩⟩
    unfold bforced
    generalize lforced_1 Fa = L
    rw [sseq_ev, sif_t (by simp [startE, h1])]
    simp
  have h1' : 1 ≤ m := by omega
  rw [decide_eq_true h1', Bool.true_and]
  have hF := hF h1'
  have hmv := moves_ok hb hs
  have e1 : sif (xbl (bin ltD (xvV 2) (xc (.int 1)))) (sret (xc .none)) snil (startE 5 [encB b, encS s, .int m]) = .nx [.dat (encB b), .dat (encS s), .dat (.int m), .un, .un] := by
    rw [sif_f (by simp [startE, h1])]
    rfl
  have hL : (iseq (xcall 2 fmoves (lcons (xvE 0) (lcons (xvE 1) lnil)))) [.dat (encB b), .dat (encS s), .dat (.int m), .un, .un] = .ok ((movesT b s).map e3) := by
    generalize fmoves = F2 at hmv ⊢
    simp [hmv]
  have hloop := forL_try (enc := e3) (f := gn 3) (B := lbforced_1 Fa)
    (fun p e => ∃ (s3 s4 : Sl), e = [.dat (encB b), .dat (encS s), .dat (.int m), s3, s4] ∧ ∀ a ∈ p, ansC b C (doneT s a) (m - 2) = false)
    (fun p a r => ∃ z, r = .rt (.tuple [e3 a, z]) ∧ ansC b C (doneT s a) (m - 2) = true ∧ ansB b P (doneT s a) (m - 2) z = true) (movesT b s) [] [.dat (encB b), .dat (encS s), .dat (.int m), .un, .un] ⟨_, _, rfl, fun q hq => nomatch hq⟩
    fun p a r e hpr ⟨s3, s4, he, hall⟩ => by
      rw [List.nil_append] at hpr
      subst he
      have ha : a ∈ movesT b s := by rw [hpr]; simp
      have hd := done_ev hs.turn (moves_mem hb hs ha).2
      obtain ⟨z, hz1, hz2⟩ := hF a ha
      refine ⟨_, rfl, ?_⟩
      show (∃ e2, (lbforced_1 Fa [.dat (encB b), .dat (encS s), .dat (.int m), .dat (e3 a), s4] = .nx e2 ∨ _) ∧ _) ∨ _
      have b1 : sasg 4 (xcall 3 Fa (lcons (xvE 0) (lcons (xcall 2 fdone (lcons (xvE 1) (lcons (xvE 3) lnil))) (lcons (bin subD (xvE 2) (xc (.int 2))) lnil)))) [.dat (encB b), .dat (encS s), .dat (.int m), .dat (e3 a), s4] = .nx [.dat (encB b), .dat (encS s), .dat (.int m), .dat (e3 a), .dat z] := by
        generalize fdone = F1 at hd ⊢
        simp [hd, hz1]
      rcases hz2 with ⟨rfl, hc⟩ | ⟨hn, hc, hp⟩
      · left
        have : lbforced_1 Fa [.dat (encB b), .dat (encS s), .dat (.int m), .dat (e3 a), s4] = .nx [.dat (encB b), .dat (encS s), .dat (.int m), .dat (e3 a), .dat .none] := by
          unfold lbforced_1
          rw [sseq_ev, b1, then_nx, sif_f (by simp)]
          rfl
        refine ⟨_, .inl this, _, _, rfl, fun q hq => ?_⟩
        rcases List.mem_append.mp hq with hq | hq
        · exact hall q hq
        · rw [List.mem_singleton.mp hq]; exact hc
      · right
        have : lbforced_1 Fa [.dat (encB b), .dat (encS s), .dat (.int m), .dat (e3 a), s4] = .rt (.tuple [e3 a, z]) := by
          unfold lbforced_1
          rw [sseq_ev, b1, then_nx, sif_t (by simp [hn])]
          simp
        exact ⟨.inl ⟨_, this⟩, z, this, hc, hp⟩
  rw [List.nil_append] at hloop
  rcases hloop with ⟨e', h2, s3, s4, rfl, hall⟩ | ⟨p, a, r, hpr, z, h2, hc, hp⟩
  · refine ⟨.none, runD_rt ?_, .inl ⟨rfl, ?_⟩⟩
    · unfold bforced
      have hl : lforced_1 Fa [.dat (encB b), .dat (encS s), .dat (.int m), .un, .un] = .nx _ := sfor_is hL h2
      rw [sseq_ev, e1, then_nx, sseq_ev, hl, then_nx]
      simp
    · rw [List.any_eq_false]
      intro a ha
      rw [hall a ha]
      exact Bool.false_ne_true
  · have ha : a ∈ movesT b s := by rw [hpr]; simp
    refine ⟨.tuple [e3 a, z], runD_rt ?_, .inr ⟨rfl, ?_, ?_⟩⟩
    · unfold bforced
      have hl : lforced_1 Fa [.dat (encB b), .dat (encS s), .dat (.int m), .un, .un] = .rt (.tuple [e3 a, z]) := sfor_is hL h2
      rw [sseq_ev, e1, then_nx, sseq_ev, hl]
      rfl
    · rw [List.any_eq_true]
      exact ⟨a, ha, hc⟩
    · simp only [papB, mvOf_e3, decide_eq_true h1', decide_eq_true ha, hp]
      rfl
theorem forced_ev (hb : b.Ok) : ∀ (k n : Nat) (s : Sd) (m : Int), 2 * k + 1 ≤ n → m ≤ 2 * k → s.Wk b.n →
    ∃ r, fforced n [encB b, encS s, .int m] = .ok r ∧ ((r = .none ∧ canB b k s m = false) ∨ (isNoneD r = false ∧ canB b k s m = true ∧ paperB b k s m r = true))
  | 0, n + 1, s, m, hn, hm, hs => by
    refine ⟨.none, ?_, .inl ⟨rfl, canB_low 0 s m (by omega)⟩⟩
    show runD 5 (bforced (fanswers_to n)) [encB b, encS s, .int m] = _
    apply runD_rt
    unfold bforced
    have h1 : m < 1 := by omega
    generalize lforced_1 (fanswers_to n) = L
    rw [sseq_ev, sif_t (by simp [startE, h1])]
    simp
  | k + 1, n + 2, s, m, hn, hm, hs => by
    show ∃ r, runD 5 (bforced (fanswers_to (n + 1))) [encB b, encS s, .int m] = .ok r ∧ ((r = .none ∧ (decide (1 ≤ m) && (movesT b s).any fun mv => ansC b (canB b k) (doneT s mv) (m - 2)) = false) ∨ (isNoneD r = false ∧ (decide (1 ≤ m) && (movesT b s).any fun mv => ansC b (canB b k) (doneT s mv) (m - 2)) = true ∧ papB b (paperB b k) s m r = true))
    refine forced1_ev hb hs fun _ a ha => ?_
    show ∃ r, runD 6 (banswers_to (fforced n)) _ = .ok r ∧ _
    refine answers_ev hb (done_wk hs) fun c hc => ?_
    exact forced_ev hb k n _ _ (by omega) (by omega) (done_wk (done_wk hs))
end
end Pf
/-! Pr: the laws' own search and look at papers -/
namespace Pf
open PySem L2 Pu
section
variable {b : Bd} {s t : Sd} {m : Int}
theorem can1_ev (hb : b.Ok) (hs : s.Wk b.n) {Fc : List D → R D} {C : Sd → Int → Bool} (low : ∀ s m, m < 1 → C s m = false)
    (hF : 2 < m → ∀ s', s'.Wk b.n → Fc [encB b, encS s', .int (m - 2)] = .ok (.bool (C s' (m - 2)))) :
    runD 7 (b_law_can Fc) [encB b, encS s, .int m] = .ok (.bool (decide (1 ≤ m) && (movesT b s).any fun mv => ansC b C (doneT s mv) (m - 2))) := by
  apply runD_rt
  unfold b_law_can
  by_cases h1 : m < 1
  · rw [decide_eq_false (by omega), Bool.false_and]
    generalize l_law_can_1 Fc = L
    rw [sseq_ev, sif_t (by simp [startE, h1])]
    simp
  have h1' : 1 ≤ m := by omega
  rw [decide_eq_true h1', Bool.true_and]
  have hmv := lmoves_ok hb hs
  have e1 : sif (xbl (bin ltD (xvV 2) (xc (.int 1)))) (sret (xc (.bool false))) snil (startE 7 [encB b, encS s, .int m]) = .nx [.dat (encB b), .dat (encS s), .dat (.int m), .un, .un, .un, .un] := by
    rw [sif_f (by simp [startE, h1])]
    rfl
  rw [sseq_ev, e1, then_nx, sseq_ev]
  have hL : (iseq (xcall 2 f_law_moves (lcons (xvE 0) (lcons (xvE 1) lnil)))) [.dat (encB b), .dat (encS s), .dat (.int m), .un, .un, .un, .un] = .ok ((movesT b s).map e3) := by
    generalize f_law_moves = F2 at hmv ⊢
    simp [hmv]
  have hloop := forL_try (enc := e3) (f := gn 3) (B := lb_law_can_1 Fc)
    (fun p e => ∃ (s3 s4 s5 : Sl), e = [.dat (encB b), .dat (encS s), .dat (.int m), s3, s4, s5, .un] ∧ ∀ a ∈ p, ansC b C (doneT s a) (m - 2) = false)
    (fun p a r => r = .rt (.bool true) ∧ ansC b C (doneT s a) (m - 2) = true) (movesT b s) [] [.dat (encB b), .dat (encS s), .dat (.int m), .un, .un, .un, .un] ⟨_, _, _, rfl, fun q hq => nomatch hq⟩
    fun p a r e hpr ⟨s3, s4, s5, he, hall⟩ => by
      rw [List.nil_append] at hpr
      subst he
      have ha : a ∈ movesT b s := by rw [hpr]; simp
      have hl := hs.len
      have h24 := hb.hi
      have hd := lafter_ev hs.turn (by omega) (moves_mem hb hs ha).2
      have ht : (doneT s a).Wk b.n := done_wk hs
      have hwn := lwinner_ok hb ht
      have hmt := lmoves_ok hb ht
      have hlt := moves_len hb ht
      have hdt : ∀ c ∈ movesT b (doneT s a), f_law_after [encS (doneT s a), e3 c] = .ok (encS (doneT (doneT s a) c)) := fun c hc => lafter_ev ht.turn (by have := ht.len; omega) (moves_mem hb ht hc).2
      have ec : ansC b C (doneT s a) (m - 2) = ((winT b (doneT s a)).isSome || (movesT b (doneT s a)).all fun c => C (doneT (doneT s a) c) (m - 2)) := rfl
      refine ⟨_, rfl, ?_⟩
      show (∃ e2, (lb_law_can_1 Fc [.dat (encB b), .dat (encS s), .dat (.int m), .dat (e3 a), s4, s5, .un] = .nx e2 ∨ _) ∧ _) ∨ _
      rw [ec]
      have ht1 : ∀ c ∈ movesT b (doneT s a), (doneT (doneT s a) c).Wk b.n := fun c _ => done_wk ht
      have hne := moves_ne (b := b) (s := doneT s a)
      generalize hT : doneT s a = t at hd ht hwn hmt hlt hdt ec ht1 hne ⊢
      have b1 : sasg 4 (xcall 2 f_law_after (lcons (xvE 1) (lcons (xvE 3) lnil))) [.dat (encB b), .dat (encS s), .dat (.int m), .dat (e3 a), s4, s5, .un] = .nx [.dat (encB b), .dat (encS s), .dat (.int m), .dat (e3 a), .dat (encS t), s5, .un] := by
        generalize f_law_after = F1 at hd ⊢
        simp [hd]
      cases hw : winT b t with
      | some w =>
        rw [hw] at hwn
        right
        have : lb_law_can_1 Fc [.dat (encB b), .dat (encS s), .dat (.int m), .dat (e3 a), s4, s5, .un] = .rt (.bool true) := by
          unfold lb_law_can_1
          generalize f_law_winner = F3 at hwn ⊢
          rw [sseq_ev, b1, then_nx, sseq_ev, sif_t (by simp [hwn])]
          simp
        exact ⟨.inl ⟨_, this⟩, this, rfl⟩
      | none =>
        rw [hw] at hwn
        have hne := hne hw
        rw [show ((none : Option Int).isSome || (movesT b t).all fun c => C (doneT t c) (m - 2)) = (movesT b t).all fun c => C (doneT t c) (m - 2) from rfl]
        have b2 : sif (xbl (bin isNotD (xcall 2 f_law_winner (lcons (xvE 0) (lcons (xvE 4) lnil))) (xc .none))) (sret (xc (.bool true))) snil [.dat (encB b), .dat (encS s), .dat (.int m), .dat (e3 a), .dat (encS t), s5, .un] = .nx [.dat (encB b), .dat (encS s), .dat (.int m), .dat (e3 a), .dat (encS t), s5, .un] := by
          generalize f_law_winner = F3 at hwn ⊢
          rw [sif_f (by simp [hwn])]
          rfl
        have q1 : q_law_can_1 [.dat (encB b), .dat (encS s), .dat (.int m), .dat (e3 a), .dat (encS t), s5, .un] = .ok ((movesT b t).map fun c => encS (doneT t c)) := by
          unfold q_law_can_1
          generalize f_law_after = F1 at hdt ⊢
          generalize f_law_moves = F2 at hmt ⊢
          refine xlc_all (enc := e3) (xs := movesT b t) (fun c => encS (doneT t c)) (by simp [hmt]) (by omega) fun c hc => ⟨[.dat (encB b), .dat (encS s), .dat (.int m), .dat (e3 a), .dat (encS t), s5, .dat (e3 c)], rfl, rfl, by simp [hdt c hc]⟩
        have b3 : sasg 5 (asL q_law_can_1) [.dat (encB b), .dat (encS s), .dat (.int m), .dat (e3 a), .dat (encS t), s5, .un] = .nx [.dat (encB b), .dat (encS s), .dat (.int m), .dat (e3 a), .dat (encS t), .dat (.list ((movesT b t).map fun c => encS (doneT t c))), .un] := by
          rw [sasg_ev, asL_ev, q1]
          rfl
        by_cases h2 : 2 < m
        · have hF := hF h2
          have q2 : q_law_can_2 Fc [.dat (encB b), .dat (encS s), .dat (.int m), .dat (e3 a), .dat (encS t), .dat (.list ((movesT b t).map fun c => encS (doneT t c))), .un] = .ok (((movesT b t).map fun c => C (doneT t c) (m - 2)).map PyData.bool) := by
            unfold q_law_can_2
            rw [xlc_all (enc := fun c => encS (doneT t c)) (xs := movesT b t) (fun c => .bool (C (doneT t c) (m - 2))) (by simp) (by omega) fun c hc => ⟨[.dat (encB b), .dat (encS s), .dat (.int m), .dat (e3 a), .dat (encS t), .dat (.list ((movesT b t).map fun c => encS (doneT t c))), .dat (encS (doneT t c))], rfl, rfl, by simp [hF _ (ht1 c hc)]⟩]
            rw [List.map_map]
            rfl
          have ha2 := all_bools ((movesT b t).map fun c => C (doneT t c) (m - 2))
          have ea : (((movesT b t).map fun c => C (doneT t c) (m - 2)).all id) = (movesT b t).all fun c => C (doneT t c) (m - 2) := by rw [List.all_map]; rfl
          rw [ea] at ha2
          have t4 : (tand (xbl (bin gtD (xvV 2) (xc (.int 2)))) (xtru (un1 allD (asL (q_law_can_2 Fc))))) [.dat (encB b), .dat (encS s), .dat (.int m), .dat (e3 a), .dat (encS t), .dat (.list ((movesT b t).map fun c => encS (doneT t c))), .un] = .ok ((movesT b t).all fun c => C (doneT t c) (m - 2)) := by
            generalize q_law_can_2 Fc = Q at q2 ⊢
            generalize ((movesT b t).map fun c => C (doneT t c) (m - 2)).map PyData.bool = L at q2 ha2
            simp [h2, q2, ha2]
          cases hv : (movesT b t).all fun c => C (doneT t c) (m - 2) with
          | true =>
            rw [hv] at t4
            right
            have : lb_law_can_1 Fc [.dat (encB b), .dat (encS s), .dat (.int m), .dat (e3 a), s4, s5, .un] = .rt (.bool true) := by
              unfold lb_law_can_1
              rw [sseq_ev, b1, then_nx, sseq_ev, b2, then_nx, sseq_ev, b3, then_nx, sif_t t4]
              simp
            exact ⟨.inl ⟨_, this⟩, this, rfl⟩
          | false =>
            rw [hv] at t4
            left
            have : lb_law_can_1 Fc [.dat (encB b), .dat (encS s), .dat (.int m), .dat (e3 a), s4, s5, .un] = .nx [.dat (encB b), .dat (encS s), .dat (.int m), .dat (e3 a), .dat (encS t), .dat (.list ((movesT b t).map fun c => encS (doneT t c))), .un] := by
              unfold lb_law_can_1
              rw [sseq_ev, b1, then_nx, sseq_ev, b2, then_nx, sseq_ev, b3, then_nx, sif_f t4]
              rfl
            refine ⟨_, .inl this, _, _, _, rfl, fun q hq => ?_⟩
            rcases List.mem_append.mp hq with hq | hq
            · exact hall q hq
            · rw [List.mem_singleton.mp hq, hT, ec, hw, ← hv]; rfl
        · have hv : ((movesT b t).all fun c => C (doneT t c) (m - 2)) = false := by
            cases hmm : movesT b t with
            | nil => exact absurd hmm hne
            | cons c r =>
              rw [List.all_cons, low _ _ (by omega)]
              rfl
          have t4 : (tand (xbl (bin gtD (xvV 2) (xc (.int 2)))) (xtru (un1 allD (asL (q_law_can_2 Fc))))) [.dat (encB b), .dat (encS s), .dat (.int m), .dat (e3 a), .dat (encS t), .dat (.list ((movesT b t).map fun c => encS (doneT t c))), .un] = .ok false := by
            generalize q_law_can_2 Fc = Q
            simp [h2]
          left
          have : lb_law_can_1 Fc [.dat (encB b), .dat (encS s), .dat (.int m), .dat (e3 a), s4, s5, .un] = .nx [.dat (encB b), .dat (encS s), .dat (.int m), .dat (e3 a), .dat (encS t), .dat (.list ((movesT b t).map fun c => encS (doneT t c))), .un] := by
            unfold lb_law_can_1
            rw [sseq_ev, b1, then_nx, sseq_ev, b2, then_nx, sseq_ev, b3, then_nx, sif_f t4]
            rfl
          refine ⟨_, .inl this, _, _, _, rfl, fun q hq => ?_⟩
          rcases List.mem_append.mp hq with hq | hq
          · exact hall q hq
          · rw [List.mem_singleton.mp hq, hT, ec, hw, ← hv]; rfl
  rw [List.nil_append] at hloop
  rcases hloop with ⟨e', h2, s3, s4, s5, rfl, hall⟩ | ⟨p, a, r, hpr, h2, hc⟩
  · have hl : l_law_can_1 Fc [.dat (encB b), .dat (encS s), .dat (.int m), .un, .un, .un, .un] = .nx _ := sfor_is hL h2
    have : ((movesT b s).any fun mv => ansC b C (doneT s mv) (m - 2)) = false := by
      rw [List.any_eq_false]
      intro a ha
      rw [hall a ha]
      exact Bool.false_ne_true
    rw [this, hl, then_nx]
    simp
  · have hl : l_law_can_1 Fc [.dat (encB b), .dat (encS s), .dat (.int m), .un, .un, .un, .un] = .rt (.bool true) := sfor_is hL h2
    have : ((movesT b s).any fun mv => ansC b C (doneT s mv) (m - 2)) = true := by
      rw [List.any_eq_true]
      exact ⟨a, by rw [hpr]; simp, hc⟩
    rw [this, hl]
    rfl
theorem can_ev (hb : b.Ok) : ∀ (k n : Nat) (s : Sd) (m : Int), k + 1 ≤ n → m ≤ 2 * k → s.Wk b.n → f_law_can n [encB b, encS s, .int m] = .ok (.bool (canB b k s m))
  | 0, n + 1, s, m, hn, hm, hs => by
    have h1 : m < 1 := by omega
    rw [canB_low 0 s m h1]
    show runD 7 (b_law_can (f_law_can n)) _ = _
    apply runD_rt
    unfold b_law_can
    generalize l_law_can_1 (f_law_can n) = L
    rw [sseq_ev, sif_t (by simp [startE, h1])]
    simp
  | k + 1, n + 1, s, m, hn, hm, hs => by
    show runD 7 (b_law_can (f_law_can n)) _ = .ok (.bool (decide (1 ≤ m) && (movesT b s).any fun mv => ansC b (canB b k) (doneT s mv) (m - 2)))
    exact can1_ev hb hs (canB_low k) fun _ s' hs' => can_ev hb k n s' (m - 2) (by omega) (by omega) hs'
end
end Pf
/-! Ps: the laws' own look at papers -/
namespace Pf
open PySem L2 Pu
def isPair : D → Bool
  | .tuple ds => decide (ds.length = 2)
  | _ => false
def fstD : D → D
  | .tuple (x :: _) => x
  | d => d
theorem isPair_iff {d : D} : isPair d = true ↔ ∃ x z, d = .tuple [x, z] := by
  constructor
  · intro h
    unfold isPair at h
    split at h
    · rename_i ds
      match ds, of_decide_eq_true h with
      | [x, z], _ => exact ⟨x, z, rfl⟩
    · cases h
  · rintro ⟨x, z, rfl⟩; rfl
section
variable {b : Bd} {s t : Sd} {m : Int}
theorem split_no {P : Sd → Int → D → Bool} : ∀ (ms : List (Int × Int × Int)) (ps : List D), ps.length = ms.length → ps.all isPair = false → (ms.zip ps).all (pairB P t m) = false
  | [], [], _, h => by simp at h
  | a :: ms, p :: ps, hl, h => by
    rw [List.zip_cons_cons, List.all_cons]
    rw [List.all_cons] at h
    cases hp : isPair p with
    | false =>
      have : pairB P t m (a, p) = false := by
        unfold pairB
        split
        · rename_i x z e
          simp only at e
          subst e
          cases hp
        · rfl
      rw [this]; rfl
    | true =>
      rw [hp, Bool.true_and] at h
      rw [split_no ms ps (by simpa using hl) h, Bool.and_false]
theorem split_ne {P : Sd → Int → D → Bool} : ∀ (ms : List (Int × Int × Int)) (ps : List D), ps.length = ms.length → ps.all isPair = true → ps.map fstD ≠ ms.map e3 → (ms.zip ps).all (pairB P t m) = false
  | [], [], _, _, h => absurd rfl h
  | a :: ms, p :: ps, hl, h, hn => by
    rw [List.zip_cons_cons, List.all_cons]
    rw [List.all_cons, Bool.and_eq_true] at h
    obtain ⟨x, z, rfl⟩ := isPair_iff.mp h.1
    by_cases hx : x = e3 a
    · subst hx
      have : ps.map fstD ≠ ms.map e3 := fun e => hn (by rw [List.map_cons, List.map_cons, e]; rfl)
      rw [split_ne ms ps (by simpa using hl) h.2 this, Bool.and_false]
    · have : pairB P t m (a, .tuple [x, z]) = false := by
        show (decide (mvOf x = some a) && _) = false
        rw [decide_eq_false (fun q => hx (mvOf_some q))]
        rfl
      rw [this]; rfl
theorem split_is : ∀ (ms : List (Int × Int × Int)) (ps : List D), ps.all isPair = true → ps.map fstD = ms.map e3 → ∃ zs : List D, zs.length = ms.length ∧ ps = (ms.zip zs).map fun q => PyData.tuple [e3 q.1, q.2]
  | [], [], _, _ => ⟨[], rfl, rfl⟩
  | [], p :: ps, _, h => by simp at h
  | a :: ms, [], _, h => by simp at h
  | a :: ms, p :: ps, h, e => by
    rw [List.all_cons, Bool.and_eq_true] at h
    obtain ⟨x, z, rfl⟩ := isPair_iff.mp h.1
    rw [List.map_cons, List.map_cons] at e
    injection e with e1 e2
    have e1 : x = e3 a := e1
    subst e1
    obtain ⟨zs, hz, rfl⟩ := split_is ms ps h.2 e2
    exact ⟨z :: zs, by simp [hz], by simp⟩
theorem all_is {P : Sd → Int → D → Bool} : ∀ (ms : List (Int × Int × Int)) (zs : List D), zs.length = ms.length → (ms.zip ((ms.zip zs).map fun q => PyData.tuple [e3 q.1, q.2])).all (pairB P t m) = (ms.zip zs).all fun q => P (doneT t q.1) m q.2
  | [], [], _ => rfl
  | a :: ms, z :: zs, h => by
    rw [List.zip_cons_cons, List.map_cons, List.zip_cons_cons, List.all_cons, List.all_cons, all_is ms zs (by simpa using h)]
    congr 1
    show (decide (mvOf (e3 a) = some a) && P (doneT t a) m z) = _
    rw [mvOf_e3, decide_eq_true rfl, Bool.true_and]
theorem zip_is : ∀ (ms : List (Int × Int × Int)) (zs : List D), zs.length = ms.length → zipL (ms.map e3) ((ms.zip zs).map fun q => PyData.tuple [e3 q.1, q.2]) = (ms.zip zs).map fun q => pairD (e3 q.1) (.tuple [e3 q.1, q.2])
  | [], [], _ => rfl
  | a :: ms, z :: zs, h => by
    have ih := zip_is ms zs (by simpa using h)
    unfold zipL at ih ⊢
    rw [List.zip_cons_cons, List.map_cons, List.map_cons, List.zipWith_cons_cons, ih, List.map_cons]
theorem eqv_dec {x y : D} (hx : plD x = true) (hy : plD y = true) [Decidable (x = y)] : PyData.eqv x y = decide (x = y) := by
  by_cases h : x = y
  · rw [decide_eq_true h]; exact (eqv_iff hx hy).mpr h
  · rw [decide_eq_false h]; exact Bool.eq_false_iff.mpr fun z => h ((eqv_iff hx hy).mp z)
theorem wins1_ev (hb : b.Ok) (hs : s.Wk b.n) {Fw : List D → R D} {P : Sd → Int → D → Bool} {j : Nat} (hj : j ≤ 60)
    (hF : 1 ≤ m → ∀ s', s'.Wk b.n → ∀ z, plnD z = true → TOk j z → Fw [encB b, encS s', .int (m - 2), z] = .ok (.bool (P s' (m - 2) z))) {d : D} (hd : TOk (j + 3) d) (hp : plnD d = true) :
    runD 8 (b_law_wins Fw) [encB b, encS s, .int m, d] = .ok (.bool (papB b P s m d)) := by
  haveI : DecidableEq D := fun a b => Classical.propDecidable (a = b)
  apply runD_rt
  unfold b_law_wins
  have hi := hd.isi
  have hmv := lmoves_ok hb hs
  by_cases h1 : m < 1
  · have h2 : papB b P s m d = false := by
      unfold papB
      split
      · rw [decide_eq_false (by omega)]; rfl
      · rfl
    rw [h2]
    generalize f_law_moves = F2
    rw [sseq_ev, sif_t (by simp [startE, h1])]
    simp
  by_cases hx : ∃ x y, d = .tuple [x, y]
  rotate_left
  · have h2 : papB b P s m d = false := by
      unfold papB
      split
      · rename_i x y; exact absurd ⟨x, y, rfl⟩ hx
      · rfl
    rw [h2]
    generalize f_law_moves = F2
    by_cases hT : ∃ ds, d = .tuple ds
    · obtain ⟨ds, rfl⟩ := hT
      have hl : ¬ (ds.length : Int) = 2 := fun z => by
        match ds, z with
        | [x, y], _ => exact hx ⟨x, y, rfl⟩
        | [], z => simp at z
        | [_], z => simp at z
        | _ :: _ :: _ :: _, z => simp at z; omega
      rw [sseq_ev, sif_t (by simp [startE, h1, hl])]
      simp
    · have : isTup d = false := by rw [Bool.eq_false_iff]; exact fun z => hT (isTup_iff.mp z)
      rw [this] at hi
      rw [sseq_ev, sif_t (by simp [startE, h1, hi])]
      simp
  obtain ⟨x, y, rfl⟩ := hx
  have hxt := hd.tuple.2 x (by simp)
  have hyt := hd.tuple.2 y (by simp)
  have hpp : plnD x = true ∧ plnD y = true := by
    simp only [plnD, plnAll, Bool.and_eq_true, Bool.and_true] at hp
    exact hp
  have h1' : 1 ≤ m := by omega
  have hF := hF h1'
  have i0 : ixD (.tuple [x, y]) (.int 0) = some x := rfl
  have i1 : ixD (.tuple [x, y]) (.int 1) = some y := rfl
  have ep : papB b P s m (.tuple [x, y]) = match mvOf x with
    | some mv => decide (mv ∈ movesT b s) && ansB b P (doneT s mv) (m - 2) y
    | none => false := by
    show (decide (1 ≤ m) && _) = _
    rw [decide_eq_true (by omega), Bool.true_and]
    try (cases mvOf x <;> rfl)
  rw [ep]
  show sseq _ _ [.dat (encB b), .dat (encS s), .dat (.int m), .dat (.tuple [x, y]), .un, .un, .un, .un] = _
  have hin : notInD x (.tuple ((movesT b s).map e3)) = some (.bool (!decide (∃ mv ∈ movesT b s, x = e3 mv))) := by
    unfold notInD
    have : inB x (.tuple ((movesT b s).map e3)) = some (decide (∃ mv ∈ movesT b s, x = e3 mv)) := by
      show (if SeqAt.shaped x && SeqAt.shaped (.tuple ((movesT b s).map e3)) then some (((movesT b s).map e3).any fun z => PyData.eqv z x) else none) = _
      rw [hxt.shp.shaped (by omega), (shp_tup (k := 1) (ds := (movesT b s).map e3) fun d hd => by obtain ⟨y, _, rfl⟩ := List.mem_map.mp hd; exact tJ_shp _).shaped, if_pos (show (true && true) = true from rfl)]
      congr 1
      rw [Bool.eq_iff_iff, List.any_eq_true, decide_eq_true_eq]
      constructor
      · rintro ⟨z, hz, e⟩
        obtain ⟨mv, hmv, rfl⟩ := List.mem_map.mp hz
        exact ⟨mv, hmv, ((eqv_iff (tJ_pl _) (pl_of_pln _ hpp.1)).mp e).symm⟩
      · rintro ⟨mv, hmv, rfl⟩
        exact ⟨e3 mv, List.mem_map.mpr ⟨mv, hmv, rfl⟩, eqv_self _ (tJ_pl _)⟩
    rw [this]
    rfl
  have t1 : (tor (xbl (bin ltD (xvV 2) (xc (.int 1)))) (tor (tnot (xtru (un1 (isiD "tuple") (xvV 3)))) (tor (xbl (bin neD (un1 lenD (xvV 3)) (xc (.int 2)))) (xbl (bin notInD (bin ixD (xvV 3) (xc (.int 0))) (xcall 2 f_law_moves (lcons (xvE 0) (lcons (xvE 1) lnil)))))))) [.dat (encB b), .dat (encS s), .dat (.int m), .dat (.tuple [x, y]), .un, .un, .un, .un] = .ok (!decide (∃ mv ∈ movesT b s, x = e3 mv)) := by
    generalize f_law_moves = F2 at hmv ⊢
    generalize (movesT b s).map e3 = L at hmv hin
    simp [h1, i0, hmv, hin]
  by_cases hq : ∃ mv ∈ movesT b s, x = e3 mv
  rotate_left
  · rw [decide_eq_false hq] at t1
    rw [sseq_ev, sif_t t1]
    have h2 : (match mvOf x with
      | some mv => decide (mv ∈ movesT b s) && ansB b P (doneT s mv) (m - 2) y
      | none => false) = false := by
      cases he : mvOf x with
      | none => rfl
      | some mv =>
        show (decide (mv ∈ movesT b s) && _) = false
        rw [decide_eq_false (fun h => hq ⟨mv, h, mvOf_some he⟩)]; rfl
    rw [h2]
    simp
  rw [decide_eq_true hq] at t1
  obtain ⟨mv, hmem, rfl⟩ := hq
  rw [mvOf_e3, sseq_ev, sif_f t1, snil_ev, then_nx, sseq_ev]
  show _ = Fl.rt (.bool (decide (mv ∈ movesT b s) && ansB b P (doneT s mv) (m - 2) y))
  rw [decide_eq_true hmem, Bool.true_and]
  have hl := hs.len
  have h24 := hb.hi
  have hdn := lafter_ev hs.turn (by omega) (moves_mem hb hs hmem).2
  have ht : (doneT s mv).Wk b.n := done_wk hs
  generalize doneT s mv = t at hdn ht ⊢
  have hwn := lwinner_ok hb ht
  have hmt := lmoves_ok hb ht
  have hlt := moves_len hb ht
  have hdt : ∀ c ∈ movesT b t, f_law_after [encS t, e3 c] = .ok (encS (doneT t c)) := fun c hc => lafter_ev ht.turn (by have := ht.len; omega) (moves_mem hb ht hc).2
  have b1 : sasg 4 (xcall 2 f_law_after (lcons (xvE 1) (lcons (bin ixD (xvV 3) (xc (.int 0))) lnil))) [.dat (encB b), .dat (encS s), .dat (.int m), .dat (.tuple [e3 mv, y]), .un, .un, .un, .un] = .nx [.dat (encB b), .dat (encS s), .dat (.int m), .dat (.tuple [e3 mv, y]), .dat (encS t), .un, .un, .un] := by
    generalize f_law_after = F1 at hdn ⊢
    simp [i0, hdn]
  have b2 : sasg 5 (xcall 2 f_law_moves (lcons (xvE 0) (lcons (xvE 4) lnil))) [.dat (encB b), .dat (encS s), .dat (.int m), .dat (.tuple [e3 mv, y]), .dat (encS t), .un, .un, .un] = .nx [.dat (encB b), .dat (encS s), .dat (.int m), .dat (.tuple [e3 mv, y]), .dat (encS t), .dat (.tuple ((movesT b t).map e3)), .un, .un] := by
    generalize f_law_moves = F1 at hmt ⊢
    simp [hmt]
  rw [b1, then_nx, sseq_ev, b2, then_nx, sseq_ev]
  have hit := hyt.isi
  cases hw : winT b t with
  | some w =>
    rw [hw] at hwn
    have he : eqD y (.tuple []) = some (.bool (ansB b P t (m - 2) y)) := by
      rw [eq_ev (hyt.shp.shaped (by omega)) ((shp_tup (k := 0) (ds := []) (by simp)).shaped)]
      congr 2
      cases y with
      | tuple ps =>
        simp only [ansB, hw]
        cases ps <;> simp [PyData.eqv, PyData.eqvAll]
      | int i => simp [PyData.eqv, ansB]
      | _ => simp [plnD] at hpp
    have e1 : sif (xbl (bin isNotD (xcall 2 f_law_winner (lcons (xvE 0) (lcons (xvE 4) lnil))) (xc .none))) (sret (bin eqD (bin ixD (xvV 3) (xc (.int 1))) (xtup lnil))) snil [.dat (encB b), .dat (encS s), .dat (.int m), .dat (.tuple [e3 mv, y]), .dat (encS t), .dat (.tuple ((movesT b t).map e3)), .un, .un] = .rt (.bool (ansB b P t (m - 2) y)) := by
      generalize f_law_winner = F1 at hwn ⊢
      rw [sif_t (by simp [hwn])]
      simp [i1, he]
    rw [e1]
    rfl
  | none =>
    rw [hw] at hwn
    have e1 : sif (xbl (bin isNotD (xcall 2 f_law_winner (lcons (xvE 0) (lcons (xvE 4) lnil))) (xc .none))) (sret (bin eqD (bin ixD (xvV 3) (xc (.int 1))) (xtup lnil))) snil [.dat (encB b), .dat (encS s), .dat (.int m), .dat (.tuple [e3 mv, y]), .dat (encS t), .dat (.tuple ((movesT b t).map e3)), .un, .un] = .nx [.dat (encB b), .dat (encS s), .dat (.int m), .dat (.tuple [e3 mv, y]), .dat (encS t), .dat (.tuple ((movesT b t).map e3)), .un, .un] := by
      generalize f_law_winner = F1 at hwn ⊢
      rw [sif_f (by simp [hwn])]
      rfl
    rw [e1, then_nx, sseq_ev]
    by_cases hT : ∃ ps, y = .tuple ps
    rotate_left
    · have : isTup y = false := by rw [Bool.eq_false_iff]; exact fun z => hT (isTup_iff.mp z)
      rw [this] at hit
      have h2 : ansB b P t (m - 2) y = false := by cases y <;> first | rfl | exact absurd ⟨_, rfl⟩ hT
      rw [h2, sif_t (by simp [i1, hit])]
      simp
    obtain ⟨ps, rfl⟩ := hT
    have ea : ansB b P t (m - 2) (.tuple ps) = (decide (ps.length = (movesT b t).length) && ((movesT b t).zip ps).all (pairB P t (m - 2))) := by
      simp only [ansB, hw]
      rfl
    rw [ea]
    by_cases hlen : ps.length = (movesT b t).length
    rotate_left
    · rw [decide_eq_false hlen, Bool.false_and]
      have : ¬ (ps.length : Int) = ((movesT b t).length : Int) := by omega
      rw [sif_t (by simp [i1, this])]
      simp
    rw [decide_eq_true hlen, Bool.true_and]
    have t3 : (tor (tnot (xtru (un1 (isiD "tuple") (bin ixD (xvV 3) (xc (.int 1)))))) (xbl (bin neD (un1 lenD (bin ixD (xvV 3) (xc (.int 1)))) (un1 lenD (xvV 5))))) [.dat (encB b), .dat (encS s), .dat (.int m), .dat (.tuple [e3 mv, .tuple ps]), .dat (encS t), .dat (.tuple ((movesT b t).map e3)), .un, .un] = .ok false := by
      have : (ps.length : Int) = ((movesT b t).length : Int) := by omega
      simp [i1, this]
    rw [sif_f t3, snil_ev, then_nx, sseq_ev]
    have q1 : q_law_wins_1 [.dat (encB b), .dat (encS s), .dat (.int m), .dat (.tuple [e3 mv, .tuple ps]), .dat (encS t), .dat (.tuple ((movesT b t).map e3)), .un, .un] = .ok ((ps.map isPair).map PyData.bool) := by
      unfold q_law_wins_1
      rw [xlc_all (enc := id) (xs := ps) (fun p => .bool (isPair p)) (by simp [i1]) (by omega) fun p hp => ⟨[.dat (encB b), .dat (encS s), .dat (.int m), .dat (.tuple [e3 mv, .tuple ps]), .dat (encS t), .dat (.tuple ((movesT b t).map e3)), .dat p, .un], rfl, rfl, ?_⟩]
      · rw [List.map_map]; rfl
      · have hpi := (hyt.tuple.2 p hp).isi
        by_cases hT : ∃ ds, p = .tuple ds
        · obtain ⟨ds, rfl⟩ := hT
          simp only [xandV_ev, un1_ev, xvV_ev, getV_s, getV_z, bind_ok, isi_tt, opt_some, tru_b, if_true, bin_ev, len_t, xc_ev, eq_ii]
          congr 2
          rw [Bool.eq_iff_iff]
          simp [isPair]
          omega
        · have h0 : isTup p = false := by rw [Bool.eq_false_iff]; exact fun z => hT (isTup_iff.mp z)
          have h2 : isPair p = false := by cases p <;> first | rfl | exact absurd ⟨_, rfl⟩ hT
          rw [h0] at hpi
          simp [hpi, h2]
    have ha1 := all_bools (ps.map isPair)
    have ea1 : ((ps.map isPair).all id) = ps.all isPair := by rw [List.all_map]; rfl
    rw [ea1] at ha1
    have t4 : (tnot (xtru (un1 allD (asL q_law_wins_1)))) [.dat (encB b), .dat (encS s), .dat (.int m), .dat (.tuple [e3 mv, .tuple ps]), .dat (encS t), .dat (.tuple ((movesT b t).map e3)), .un, .un] = .ok (!ps.all isPair) := by
      generalize q_law_wins_1 = Q at q1 ⊢
      generalize (ps.map isPair).map PyData.bool = L at q1 ha1
      generalize ps.all isPair = v at ha1 ⊢
      simp [q1, ha1]
    cases hpa : ps.all isPair with
    | false =>
      rw [hpa] at t4
      rw [sif_t t4, split_no _ _ hlen hpa]
      simp
    | true =>
    rw [hpa] at t4
    rw [sif_f t4, snil_ev, then_nx, sseq_ev]
    have hpr : ∀ p ∈ ps, ∃ x z, p = .tuple [x, z] := fun p hp => isPair_iff.mp (List.all_eq_true.mp hpa p hp)
    have q2 : q_law_wins_2 [.dat (encB b), .dat (encS s), .dat (.int m), .dat (.tuple [e3 mv, .tuple ps]), .dat (encS t), .dat (.tuple ((movesT b t).map e3)), .un, .un] = .ok (ps.map fstD) := by
      unfold q_law_wins_2
      refine xlc_all (enc := id) (xs := ps) fstD (by simp [i1]) (by omega) fun p hp => ⟨[.dat (encB b), .dat (encS s), .dat (.int m), .dat (.tuple [e3 mv, .tuple ps]), .dat (encS t), .dat (.tuple ((movesT b t).map e3)), .dat p, .un], rfl, rfl, ?_⟩
      obtain ⟨x, z, rfl⟩ := hpr p hp
      simp [fstD]
    have hpn : ∀ p ∈ ps, plnD p = true := (plnAll_iff ps).mp (by have := hpp.2; simpa [plnD] using this)
    have hsub : ∀ p ∈ ps, ∀ x z, p = .tuple [x, z] → plnD x = true ∧ plnD z = true := fun p hp x z e => by
      have := hpn p hp
      subst e
      simp only [plnD, plnAll, Bool.and_eq_true, Bool.and_true] at this
      exact this
    have sh1 : SeqAt.shaped (.list (ps.map fstD)) = true := (shp_list (k := j) (ds := ps.map fstD) fun d hd => by
      obtain ⟨p, hp, rfl⟩ := List.mem_map.mp hd
      have ho := hyt.tuple.2 p hp
      obtain ⟨x, z, rfl⟩ := hpr p hp
      exact (ho.tuple.2 x (by simp)).shp).shaped (by omega)
    have sh2 : SeqAt.shaped (.list ((movesT b t).map e3)) = true := (shp_list (k := 1) (ds := (movesT b t).map e3) fun d hd => by
      obtain ⟨y, _, rfl⟩ := List.mem_map.mp hd; exact tJ_shp _).shaped
    have pl1 : plD (.list (ps.map fstD)) = true := by
      simp only [plD]
      have : plnAll (ps.map fstD) = true := (plnAll_iff _).mpr fun d hd => by
        obtain ⟨p, hp, rfl⟩ := List.mem_map.mp hd
        have ho := hsub p hp
        obtain ⟨x, z, rfl⟩ := hpr p hp
        exact (ho x z rfl).1
      exact plAll_of_pln _ this
    have pl2 : plD (.list ((movesT b t).map e3)) = true := by
      simp only [plD]
      have : plnAll ((movesT b t).map e3) = true := (plnAll_iff _).mpr fun d hd => by
        obtain ⟨p, hp, rfl⟩ := List.mem_map.mp hd
        exact pln_tJ _
      exact plAll_of_pln _ this
    have hne : neD (.list (ps.map fstD)) (.list ((movesT b t).map e3)) = some (.bool (!decide (ps.map fstD = (movesT b t).map e3))) := by
      rw [ne_ev sh1 sh2, eqv_dec pl1 pl2]
      congr 3
      rw [decide_eq_decide]
      exact ⟨fun h => by injection h, fun h => by rw [h]⟩
    have t5 : (xbl (bin neD (asL q_law_wins_2) (asL (un1N listN (xvV 5))))) [.dat (encB b), .dat (encS s), .dat (.int m), .dat (.tuple [e3 mv, .tuple ps]), .dat (encS t), .dat (.tuple ((movesT b t).map e3)), .un, .un] = .ok (!decide (ps.map fstD = (movesT b t).map e3)) := by
      generalize q_law_wins_2 = Q at q2 ⊢
      generalize ps.map fstD = L1 at q2 hne ⊢
      generalize (movesT b t).map e3 = L2 at q2 hne ⊢
      simp [q2, hne]
    by_cases hfs : ps.map fstD = (movesT b t).map e3
    rotate_left
    · rw [decide_eq_false hfs] at t5
      rw [sif_t t5, split_ne _ _ hlen hpa hfs]
      simp
    rw [decide_eq_true hfs] at t5
    rw [sif_f t5, snil_ev, then_nx]
    obtain ⟨zs, hzl, hps⟩ := split_is _ _ hpa hfs
    have hall := all_is (P := P) (t := t) (m := m - 2) (movesT b t) zs hzl
    rw [← hps] at hall
    rw [hall]
    have hzp : ∀ q ∈ (movesT b t).zip zs, q.1 ∈ movesT b t ∧ plnD q.2 = true ∧ TOk j q.2 := fun q hq => by
      have hm : PyData.tuple [e3 q.1, q.2] ∈ ps := by rw [hps]; exact List.mem_map.mpr ⟨q, hq, rfl⟩
      exact ⟨(List.of_mem_zip (a := q.1) (b := q.2) hq).1, (hsub _ hm _ _ rfl).2, (hyt.tuple.2 _ hm).tuple.2 _ (by simp)⟩
    have hzz := zip_is (movesT b t) zs hzl
    rw [← hps] at hzz
    have q3 : q_law_wins_3 Fw (fz [.dat (encB b), .dat (encS s), .dat (.int m), .dat (.tuple [e3 mv, .tuple ps]), .dat (encS t), .dat (.tuple ((movesT b t).map e3)), .un, .un]) = .ok ((((movesT b t).zip zs).map fun q => P (doneT t q.1) (m - 2) q.2).map PyData.bool) := by
      show q_law_wins_3 Fw [.dat (encB b), .dat (encS s), .dat (.int m), .dat (.tuple [e3 mv, .tuple ps]), .dat (encS t), .dat (.tuple ((movesT b t).map e3)), .un, .un] = _
      unfold q_law_wins_3
      generalize f_law_after = F1 at hdt ⊢
      rw [xlc_all (enc := fun q : (Int × Int × Int) × D => pairD (e3 q.1) (.tuple [e3 q.1, q.2])) (xs := (movesT b t).zip zs) (fun q => .bool (P (doneT t q.1) (m - 2) q.2)) ?_ (by simp; omega) fun q hq => ⟨[.dat (encB b), .dat (encS s), .dat (.int m), .dat (.tuple [e3 mv, .tuple ps]), .dat (encS t), .dat (.tuple ((movesT b t).map e3)), .dat (.tuple [e3 q.1, q.2]), .dat (e3 q.1)], rfl, rfl, ?_⟩]
      · rw [List.map_map]; rfl
      · rw [← hzz]
        simp only [izip_ev, xvV_ev, getV_s, getV_z, bind_ok, bin_ev, xc_ev, i1, opt_some]
        rfl
      · have h3 := hzp q hq
        have h4 := hdt q.1 h3.1
        have h5 := hF (doneT t q.1) (done_wk ht) q.2 h3.2.1 h3.2.2
        simp [h4, h5]
    have ha3 := all_bools (((movesT b t).zip zs).map fun q => P (doneT t q.1) (m - 2) q.2)
    have ea3 : ((((movesT b t).zip zs).map fun q => P (doneT t q.1) (m - 2) q.2).all id) = ((movesT b t).zip zs).all fun q => P (doneT t q.1) (m - 2) q.2 := by rw [List.all_map]; rfl
    rw [ea3] at ha3
    rw [sret_ev, un1_ev, asL_ev, q3, bind_ok, bind_ok, ha3]
    rfl
theorem wins_ev (hb : b.Ok) : ∀ (k n : Nat) (s : Sd) (m : Int) (d : D) (J : Nat), k + 1 ≤ n → m ≤ 2 * k → 3 * k ≤ J → J ≤ 60 → s.Wk b.n → TOk J d → plnD d = true → f_law_wins n [encB b, encS s, .int m, d] = .ok (.bool (paperB b k s m d))
  | 0, n + 1, s, m, d, J, hn, hm, hJ, hJ2, hs, hd, hp => by
    have h1 : m < 1 := by omega
    rw [paperB_low 0 s m d h1]
    show runD 8 (b_law_wins (f_law_wins n)) _ = _
    apply runD_rt
    unfold b_law_wins
    generalize f_law_moves = F2
    generalize f_law_wins n = F4
    rw [sseq_ev, sif_t (by simp [startE, h1])]
    simp
  | k + 1, n + 1, s, m, d, J, hn, hm, hJ, hJ2, hs, hd, hp => by
    obtain ⟨j, rfl⟩ : ∃ j, J = j + 3 := ⟨J - 3, by omega⟩
    show runD 8 (b_law_wins (f_law_wins n)) [encB b, encS s, .int m, d] = .ok (.bool (papB b (paperB b k) s m d))
    refine wins1_ev hb hs (j := j) (by omega) (fun _ s' hs' z hz hz2 => ?_) hd hp
    exact wins_ev hb k n s' (m - 2) z j (by omega) (by omega) (by omega) (by omega) hs' hz2 hz
end
end Pf
/-! Nr: stands of few men -/
namespace Pf
open PySem L2 Pu
section
variable {b : Bd} {c : Int}
def N1 (b : Bd) (c k0 k1 : Int) (e : En) : Prop := ∃ (ms : List (Option Int)) (s4 s5 s6 : Sl), e = [.dat (encB b), .dat (.int c), .own (ms.map oM), .dat (.tuple [.int k0, .int k1]), s4, s5, s6] ∧ (ms.length : Int) = b.n ∧ (∀ m ∈ ms, ManOk m) ∧ (ms.count (some 0) : Int) ≤ k0 ∧ (ms.count (some 1) : Int) ≤ k1
theorem lbN1 (hb : 5 ≤ b.n) (h24 : b.n ≤ 24) {k0 k1 k w : Int} (hk : 0 ≤ k ∧ k ≤ 1000) (hw : w = 0 ∨ w = 1) {ms : List (Option Int)} {s5 s6 : Sl} (hl : (ms.length : Int) = b.n) (hm : ∀ m ∈ ms, ManOk m) (h0 : (ms.count (some 0) : Int) ≤ k0) (h1 : (ms.count (some 1) : Int) ≤ k1) :
    ∃ (ms' : List (Option Int)) (u6 : Sl), lb_law_near_1 [.dat (encB b), .dat (.int c), .own (ms.map oM), .dat (.tuple [.int k0, .int k1]), .dat (.int w), .dat (.int k), s6] = .nx [.dat (encB b), .dat (.int c), .own (ms'.map oM), .dat (.tuple [.int k0, .int k1]), .dat (.int w), .dat (.int k), u6] ∧ (ms'.length : Int) = b.n ∧ (∀ m ∈ ms', ManOk m) ∧ (ms'.count (some 0) : Int) ≤ k0 ∧ (ms'.count (some 1) : Int) ≤ k1 := by
  have x1 := mix_ev (c := c + 7 * k + 3 * w) (p := 9769) (m := b.n) (by decide) (by decide) (by omega)
  have a1 := mix_lo (c := c + 7 * k + 3 * w) (p := 9769) (m := b.n) (by omega)
  have a2 := mix_hi (c := c + 7 * k + 3 * w) (p := 9769) (m := b.n) (by omega)
  generalize mixI (c + 7 * k + 3 * w) 9769 b.n = p at x1 a1 a2
  have m7 : mulD (.int 7) (.int k) = some (.int (7 * k)) := mul_ii (.inl (by decide))
  have m3 : mulD (.int 3) (.int w) = some (.int (3 * w)) := mul_ii (.inl (by decide))
  have hn : ixD (encB b) (.int 0) = some (.int b.n) := rfl
  have hx : ixD (.list (ms.map oM)) (.int p) = some (oM (mAt ms p)) := atI_men a1 (by omega)
  have hkw : ixD (.tuple [.int k0, .int k1]) (.int w) = some (.int (if w = 0 then k0 else k1)) := by
    rcases hw with rfl | rfl <;> rfl
  have hcnt := xcount_ev (F := xvV 2) (G := xvV 4) (e := [.dat (encB b), .dat (.int c), .own (ms.map oM), .dat (.tuple [.int k0, .int k1]), .dat (.int w), .dat (.int k), .dat (.int p)]) rfl rfl (.inl ⟨_, rfl⟩) (count_men_l ms w)
  have e1 : sasg 6 (xcall 3 f_law_mix (lcons (bin addD (bin addD (xvE 1) (bin mulD (xc (.int 7)) (xvE 5))) (bin mulD (xc (.int 3)) (xvE 4))) (lcons (xc (.int 9769)) (lcons (bin ixD (xvV 0) (xc (.int 0))) lnil)))) [.dat (encB b), .dat (.int c), .own (ms.map oM), .dat (.tuple [.int k0, .int k1]), .dat (.int w), .dat (.int k), s6] = .nx [.dat (encB b), .dat (.int c), .own (ms.map oM), .dat (.tuple [.int k0, .int k1]), .dat (.int w), .dat (.int k), .dat (.int p)] := by
    generalize f_law_mix = F at x1 ⊢
    simp [m7, m3, hn, x1]
  have t1 : (tand (xbl (bin isD (bin ixD (xvV 2) (xvV 6)) (xc .none))) (xbl (bin ltD (xcount (xvV 2) (xvV 4)) (bin ixD (xvV 3) (xvV 4))))) [.dat (encB b), .dat (.int c), .own (ms.map oM), .dat (.tuple [.int k0, .int k1]), .dat (.int w), .dat (.int k), .dat (.int p)] = .ok ((mAt ms p).isNone && decide ((ms.count (some w) : Int) < if w = 0 then k0 else k1)) := by
    generalize xcount (xvV 2) (xvV 4) = G at hcnt ⊢
    simp only [tand_ev, xbl_ev, bin_ev, xvV_ev, getV_s, getV_o, getV_z, bind_ok, hx, opt_some, xc_ev, Pu.is_none, isNone_oM, blD_b, hcnt, hkw, lt_ii]
    cases (mAt ms p).isNone <;> simp
  unfold lb_law_near_1
  rw [sseq_ev, e1, then_nx]
  by_cases hc : ((mAt ms p).isNone && decide ((ms.count (some w) : Int) < if w = 0 then k0 else k1)) = true
  · rw [hc] at t1
    rw [sif_t t1]
    rw [Bool.and_eq_true, decide_eq_true_eq] at hc
    refine ⟨ms.set p.toNat (some w), .dat (.int p), (sput_ev (d := .int w) (n := p) (m := p.toNat) (ds := ms.map oM) (by simp) rfl (by simp) (by rw [List.length_map]; exact ixN_nat a1 (by omega))).trans ?_, by rw [List.length_set]; exact hl, set_ok hm hw, ?_, ?_⟩
    · rw [List.map_set]
      rfl
    · have := count_set_le (ms := ms) (i := p.toNat) (by omega) w 0
      rcases hw with rfl | rfl
      · simp only [if_true] at hc this; omega
      · simp at this; omega
    · have := count_set_le (ms := ms) (i := p.toNat) (by omega) w 1
      rcases hw with rfl | rfl
      · simp at this; omega
      · have h2 := hc.2; simp at h2 this; omega
  · rw [Bool.not_eq_true] at hc
    rw [hc] at t1
    rw [sif_f t1, snil_ev]
    exact ⟨ms, _, rfl, hl, hm, h0, h1⟩
theorem near_ev (hb : 5 ≤ b.n) (h24 : b.n ≤ 24) : ∃ s : Sd, s.Ok b.n ∧ (s.men.count (some 0) : Int) ≤ 4 ∧ (s.men.count (some 1) : Int) ≤ 3 ∧ s.l0 = 0 ∧ s.l1 = 0 ∧ s.turn = c % 2 ∧ f_law_near [encB b, .int c] = .ok (encS s) := by
  have x1 := mix_ev (c := c) (p := 9781) (m := 2) (by decide) (by decide) (by omega)
  have a1 := mix_lo (c := c) (p := 9781) (m := 2) (by omega)
  have a2 := mix_hi (c := c) (p := 9781) (m := 2) (by omega)
  generalize mixI c 9781 2 = q at x1 a1 a2
  have hn : ixD (encB b) (.int 0) = some (.int b.n) := rfl
  have h1 : q_law_near_1 [.dat (encB b), .dat (.int c), .un, .un, .un, .un, .un] = .ok ((List.replicate b.n.toNat (none : Option Int)).map oM) := by
    unfold q_law_near_1
    rw [xlc_all (enc := PyData.int) (xs := upto b.n.toNat) (fun _ => .none) (irng1_of (j := b.n) (by simp [hn]) (rng1_ev (by omega) (by omega))) (by rw [upto_length]; omega) fun k _ => ⟨_, rfl, rfl, rfl⟩]
    congr 1
    rw [List.map_replicate]
    exact List.eq_replicate_iff.mpr ⟨by rw [List.length_map, upto_length], fun x hx => by obtain ⟨_, _, rfl⟩ := List.mem_map.mp hx; rfl⟩
  have hc : ∃ k0 : Int, 3 ≤ k0 ∧ k0 ≤ 4 ∧ ∀ {s2 : Sl}, sif (xbl (bin eqD (bin modD (xvE 1) (xc (.int 3))) (xc (.int 0)))) (sasg 3 (xtup (lcons (xc (.int 3)) (lcons (xc (.int 3)) lnil)))) snil [.dat (encB b), .dat (.int c), s2, .dat (.tuple [.int (3 + q), .int 3]), .un, .un, .un] = .nx [.dat (encB b), .dat (.int c), s2, .dat (.tuple [.int k0, .int 3]), .un, .un, .un] := by
    have m3 : modD (.int c) (.int 3) = some (.int (c % 3)) := mod_ii (by decide)
    by_cases h : c % 3 = 0
    · exact ⟨3, by omega, by omega, fun {s2} => by rw [sif_t (by simp [m3, h])]; simp⟩
    · exact ⟨3 + q, by omega, by omega, fun {s2} => by rw [sif_f (by simp [m3, h])]; simp⟩
  obtain ⟨k0, hk0, hk1, hc⟩ := hc
  have inner : ∀ (w : Int), w = 0 ∨ w = 1 → ∀ e, N1 b c k0 3 e → ∃ e1 e2, gn 4 (.int w) e = some e1 ∧ (lb_law_near_2 e1 = .nx e2 ∨ lb_law_near_2 e1 = .ct e2) ∧ N1 b c k0 3 e2 := by
    rintro w hw e ⟨ms, s4, s5, s6, rfl, i1, i2, i3, i4⟩
    obtain ⟨e', g1, ms', t5, t6, rfl, j1, j2, j3, j4⟩ := forL_stay (enc := PyData.int) (f := gn 5) (B := lb_law_near_1) (fun e => ∃ (ms : List (Option Int)) (s5 s6 : Sl), e = [.dat (encB b), .dat (.int c), .own (ms.map oM), .dat (.tuple [.int k0, .int 3]), .dat (.int w), s5, s6] ∧ (ms.length : Int) = b.n ∧ (∀ m ∈ ms, ManOk m) ∧ (ms.count (some 0) : Int) ≤ k0 ∧ (ms.count (some 1) : Int) ≤ 3) (upto 60)
      [.dat (encB b), .dat (.int c), .own (ms.map oM), .dat (.tuple [.int k0, .int 3]), .dat (.int w), s5, s6] ⟨ms, _, _, rfl, i1, i2, i3, i4⟩ fun k e hk ⟨ms, s5, s6, he, i1, i2, i3, i4⟩ => by
        subst he
        rw [upto_mem] at hk
        obtain ⟨ms', u6, r1, r2, r3, r4, r5⟩ := lbN1 (c := c) (k := k) hb h24 (by omega) hw (s5 := s5) (s6 := s6) i1 i2 i3 i4
        exact ⟨_, _, rfl, .inl r1, ms', _, _, rfl, r2, r3, r4, r5⟩
    have hl : lb_law_near_2 [.dat (encB b), .dat (.int c), .own (ms.map oM), .dat (.tuple [.int k0, .int 3]), .dat (.int w), s5, s6] = .nx [.dat (encB b), .dat (.int c), .own (ms'.map oM), .dat (.tuple [.int k0, .int 3]), .dat (.int w), t5, t6] := by
      unfold lb_law_near_2 l_law_near_1
      exact sfor_nx (irng1_of (F := xc (.int 60)) (j := 60) rfl (rng1_ev (by decide) (by decide))) g1
    exact ⟨_, _, rfl, .inl hl, ms', _, _, _, rfl, j1, j2, j3, j4⟩
  obtain ⟨e', g1, ms', t4, t5, t6, rfl, j1, j2, j3, j4⟩ := forL_stay (enc := PyData.int) (f := gn 4) (B := lb_law_near_2) (N1 b c k0 3) [0, 1] [.dat (encB b), .dat (.int c), .own ((List.replicate b.n.toNat (none : Option Int)).map oM), .dat (.tuple [.int k0, .int 3]), .un, .un, .un]
    ⟨_, _, _, _, rfl, by rw [List.length_replicate]; omega, fun m hm => .inl (List.eq_of_mem_replicate hm), by rw [List.count_eq_zero.mpr (fun h => by have := List.eq_of_mem_replicate h; cases this)]; omega, by rw [List.count_eq_zero.mpr (fun h => by have := List.eq_of_mem_replicate h; cases this)]; omega⟩
    fun w e hw h => inner w (by simpa using hw) e h
  have hl : l_law_near_2 [.dat (encB b), .dat (.int c), .own ((List.replicate b.n.toNat (none : Option Int)).map oM), .dat (.tuple [.int k0, .int 3]), .un, .un, .un] = .nx _ := sfor_nx rfl g1
  refine ⟨⟨ms', 0, 0, c % 2⟩, ⟨j1, j2, by simp, by simp, by simp only; omega⟩, by simp only; omega, by simp only; omega, rfl, rfl, rfl, ?_⟩
  apply runD_rt
  unfold b_law_near
  have m2 : modD (.int c) (.int 2) = some (.int (c % 2)) := mod_ii (by decide)
  generalize q_law_near_1 = Q at h1 ⊢
  generalize l_law_near_2 = L at hl ⊢
  generalize f_law_mix = F at x1 ⊢
  have e1 : sasgN 2 Q (startE 7 [encB b, .int c]) = .nx [.dat (encB b), .dat (.int c), .own ((List.replicate b.n.toNat (none : Option Int)).map oM), .un, .un, .un, .un] := by
    show sasgN 2 Q [.dat (encB b), .dat (.int c), .un, .un, .un, .un, .un] = _
    rw [sasgN_ev, h1]
    rfl
  generalize (List.replicate b.n.toNat (none : Option Int)).map oM = M0 at e1 hl
  have e2 : sasg 3 (xtup (lcons (bin addD (xc (.int 3)) (xcall 3 F (lcons (xvE 1) (lcons (xc (.int 9781)) (lcons (xc (.int 2)) lnil))))) (lcons (xc (.int 3)) lnil))) [.dat (encB b), .dat (.int c), .own M0, .un, .un, .un, .un] = .nx [.dat (encB b), .dat (.int c), .own M0, .dat (.tuple [.int (3 + q), .int 3]), .un, .un, .un] := by
    simp [x1]
  rw [sseq_ev, e1, then_nx, sseq_ev, e2, then_nx, sseq_ev, hc, then_nx, sseq_ev, hl, then_nx]
  simp [m2, encS, encM]
end
end Pf
namespace M11
open PySem L2 Pu Pf
theorem plain_ev : ∀ (n : Nat) (d : D) (J : Nat), TOk J d → J + 1 ≤ n → f_law_is_plain n [d] = .ok (.bool (plnD d))
  | 0, _, _, _, h => by omega
  | n + 1, d, J, hd, hn => by
    show runD 2 (b_law_is_plain (f_law_is_plain n)) [d] = _
    apply runD_rt
    unfold b_law_is_plain
    cases hd with
    | non => simp [startE, plnD]
    | int i => simp [startE, plnD]
    | bl i => simp [startE, plnD]
    | lst _ _ => simp [startE, plnD]
    | @tup J ds hl hds =>
      have hq : q_law_is_plain_1 (f_law_is_plain n) [.dat (.tuple ds), .un] = .ok ((ds.map plnD).map PyData.bool) := by
        unfold q_law_is_plain_1
        rw [xlc_all (enc := id) (xs := ds) (fun d => .bool (plnD d)) (by simp) hl fun x hx => ⟨[.dat (.tuple ds), .dat x], rfl, rfl, ?_⟩]
        · rw [List.map_map]; rfl
        · simp [plain_ev n x J (hds x hx) (by omega)]
      have ha := all_bools (ds.map plnD)
      have ea : ((ds.map plnD).all id) = plnD (.tuple ds) := by
        rw [List.all_map]
        show ds.all plnD = plnD (.tuple ds)
        rw [Bool.eq_iff_iff, List.all_eq_true]
        simp only [plnD]
        rw [plnAll_iff]
      rw [ea] at ha
      generalize q_law_is_plain_1 (f_law_is_plain n) = Q at hq ⊢
      generalize (ds.map plnD).map PyData.bool = L at hq ha
      generalize plnD (.tuple ds) = v at ha ⊢
      rw [sseq_ev, sif_t (by simp [startE])]
      show Fl.andThen (sret _ [.dat (.tuple ds), .un]) _ = _
      simp [hq, ha]
section
variable {n : Nat}
theorem t1 {a : D} (h : TOk n a) : TOk (n + 1) (.tuple [a]) := .tup (by simp) (by simp [h])
theorem t2 {a b : D} (h : TOk n a) (h2 : TOk n b) : TOk (n + 1) (.tuple [a, b]) := .tup (by simp) (by simp [h, h2])
theorem t3 {a b c : D} (h : TOk n a) (h2 : TOk n b) (h3 : TOk n c) : TOk (n + 1) (.tuple [a, b, c]) := .tup (by simp) (by simp [h, h2, h3])
end
section
variable {b : Bd} {s : Sd} {m : Int}
theorem lb1 (hb : b.Ok) (hs : s.Wk b.n) (h4 : m ≤ 4) {d : D} (hd : TOk 8 d) {s0 s1 s2 s4 s5 s6 s7 s8 s12 s13 s14 : Sl} : ∃ t12 t13, lblaw_1 [s0, s1, s2, .dat (encB b), s4, s5, s6, s7, s8, .dat d, .dat (encS s), .dat (.int m), s12, s13, s14] = .nx [s0, s1, s2, .dat (encB b), s4, s5, s6, s7, s8, .dat d, .dat (encS s), .dat (.int m), t12, t13, s14] := by
  have hp := plain_ev 12 d 8 hd (by omega)
  have hi := is_paper_ev hb 2 8 s m d 8 (by omega) (by omega) (by omega) (by omega) hs hd
  refine ⟨.dat (.bool (paperB b 2 s m d)), .dat (.bool (paperB b 2 s m d)), ?_⟩
  have e1 : sasg 12 (xandV (xcall 1 (f_law_is_plain 12) (lcons (xvE 9) lnil)) (xcall 4 (f_law_wins 8) (lcons (xvE 3) (lcons (xvE 10) (lcons (xvE 11) (lcons (xvE 9) lnil)))))) [s0, s1, s2, .dat (encB b), s4, s5, s6, s7, s8, .dat d, .dat (encS s), .dat (.int m), s12, s13, s14] = .nx [s0, s1, s2, .dat (encB b), s4, s5, s6, s7, s8, .dat d, .dat (encS s), .dat (.int m), .dat (.bool (paperB b 2 s m d)), s13, s14] := by
    cases hpl : plnD d with
    | false =>
      have : paperB b 2 s m d = false := by
        cases hq : paperB b 2 s m d with
        | false => rfl
        | true => rw [(paperB_ok hb 2 s m d hs hq).1] at hpl; cases hpl
      rw [this]
      rw [hpl] at hp
      generalize f_law_is_plain 12 = F at hp ⊢
      generalize f_law_wins 8 = F2
      simp [hp]
    | true =>
      have hw := wins_ev hb 2 8 s m d 8 (by omega) (by omega) (by omega) (by omega) hs hd hpl
      rw [hpl] at hp
      generalize f_law_is_plain 12 = F at hp ⊢
      generalize f_law_wins 8 = F2 at hw ⊢
      simp [hp, hw]
  have e2 : sasg 13 (xcall 4 (fis_paper 8) (lcons (xvE 3) (lcons (xvE 10) (lcons (xvE 11) (lcons (xvE 9) lnil))))) [s0, s1, s2, .dat (encB b), s4, s5, s6, s7, s8, .dat d, .dat (encS s), .dat (.int m), .dat (.bool (paperB b 2 s m d)), s13, s14] = .nx [s0, s1, s2, .dat (encB b), s4, s5, s6, s7, s8, .dat d, .dat (encS s), .dat (.int m), .dat (.bool (paperB b 2 s m d)), .dat (.bool (paperB b 2 s m d)), s14] := by
    generalize fis_paper 8 = F at hi ⊢
    simp [hi]
  unfold lblaw_1
  rw [sseq_ev, e1, then_nx, sseq_ev, e2, then_nx]
  generalize paperB b 2 s m d = v
  cases v <;> simp
theorem ll1 (hb : b.Ok) {o : Sd} (hs : s.Wk b.n) (ho : o.Wk b.n) (h4 : m ≤ 3) {d : D} (hd : TOk 8 d) {s0 s1 s2 s7 s8 s10 s11 s12 s13 s14 : Sl} : ∃ t10 t11 t12 t13, llaw_1 [s0, s1, s2, .dat (encB b), .dat (encS s), .dat (encS o), .dat (.int m), s7, s8, .dat d, s10, s11, s12, s13, s14] = .nx [s0, s1, s2, .dat (encB b), .dat (encS s), .dat (encS o), .dat (.int m), s7, s8, .dat d, t10, t11, t12, t13, s14] := by
  obtain ⟨e', h1, t10, t11, t12, t13, rfl⟩ := forL_stay (enc := fun q : Sd × Int => .tuple [encS q.1, .int q.2]) (f := gtup (gcons (gn 10) (gcons (gn 11) gnil))) (B := lblaw_1) (fun e => ∃ t10 t11 t12 t13, e = [s0, s1, s2, .dat (encB b), .dat (encS s), .dat (encS o), .dat (.int m), s7, s8, .dat d, t10, t11, t12, t13, s14]) [(s, m), (s, m - 1), (s, m + 1), (o, m)]
    [s0, s1, s2, .dat (encB b), .dat (encS s), .dat (encS o), .dat (.int m), s7, s8, .dat d, s10, s11, s12, s13, s14] ⟨_, _, _, _, rfl⟩ fun q e hq ⟨t10, t11, t12, t13, he⟩ => by
      subst he
      have hq2 : q.1.Wk b.n ∧ q.2 ≤ 4 := by
        simp only [List.mem_cons, List.not_mem_nil, or_false] at hq
        rcases hq with rfl | rfl | rfl | rfl
        · exact ⟨hs, by simp only; omega⟩
        · exact ⟨hs, by simp only; omega⟩
        · exact ⟨hs, by simp only; omega⟩
        · exact ⟨ho, by simp only; omega⟩
      obtain ⟨u12, u13, h⟩ := lb1 hb hq2.1 hq2.2 hd (s0 := s0) (s1 := s1) (s2 := s2) (s4 := .dat (encS s)) (s5 := .dat (encS o)) (s6 := .dat (.int m)) (s7 := s7) (s8 := s8) (s12 := t12) (s13 := t13) (s14 := s14)
      exact ⟨_, _, rfl, .inl h, _, _, _, _, rfl⟩
  exact ⟨t10, t11, t12, t13, sfor_nx (by simp) h1⟩
theorem ll2 (hb : b.Ok) {o : Sd} (hs : s.Wk b.n) (ho : o.Wk b.n) (h4 : m ≤ 3) {L : List D} (hL : ∀ d ∈ L, TOk 8 d) {s0 s1 s2 s7 s9 s10 s11 s12 s13 s14 : Sl} : ∃ t9 t10 t11 t12 t13, llaw_2 [s0, s1, s2, .dat (encB b), .dat (encS s), .dat (encS o), .dat (.int m), s7, .dat (.list L), s9, s10, s11, s12, s13, s14] = .nx [s0, s1, s2, .dat (encB b), .dat (encS s), .dat (encS o), .dat (.int m), s7, .dat (.list L), t9, t10, t11, t12, t13, s14] := by
  obtain ⟨e', h1, t9, t10, t11, t12, t13, rfl⟩ := forL_stay (enc := id) (f := gn 9) (B := lblaw_2) (fun e => ∃ t9 t10 t11 t12 t13, e = [s0, s1, s2, .dat (encB b), .dat (encS s), .dat (encS o), .dat (.int m), s7, .dat (.list L), t9, t10, t11, t12, t13, s14]) L
    [s0, s1, s2, .dat (encB b), .dat (encS s), .dat (encS o), .dat (.int m), s7, .dat (.list L), s9, s10, s11, s12, s13, s14] ⟨_, _, _, _, _, rfl⟩ fun d e hd ⟨t9, t10, t11, t12, t13, he⟩ => by
      subst he
      obtain ⟨u10, u11, u12, u13, h⟩ := ll1 hb hs ho h4 (hL d hd) (s0 := s0) (s1 := s1) (s2 := s2) (s7 := s7) (s8 := .dat (.list L)) (s10 := t10) (s11 := t11) (s12 := t12) (s13 := t13) (s14 := s14)
      exact ⟨_, _, rfl, .inl h, _, _, _, _, _, rfl⟩
  rw [List.map_id] at h1
  exact ⟨t9, t10, t11, t12, t13, sfor_nx (by simp) h1⟩
/-! ### the spoilt ones -/
theorem add6 {G : En → R D} {rest : En → Fl} {s0 s1 s2 s3 s4 s5 s7 s8 : Sl} {X Y : List D} (hX : X.length ≤ 100) (hXk : ∀ d ∈ X, TOk 8 d) (hG : ∀ s6, G [s0, s1, s2, s3, s4, s5, s6, s7, s8] = .ok (.list Y)) (hY : Y.length ≤ 20) (hYk : ∀ d ∈ Y, TOk 8 d) :
    sseq (sasgN 6 (binN addN (xvV 6) G)) rest [s0, s1, s2, s3, s4, s5, .own X, s7, s8] = rest [s0, s1, s2, s3, s4, s5, .own (X ++ Y), s7, s8] ∧ (X ++ Y).length = X.length + Y.length ∧ ∀ d ∈ X ++ Y, TOk 8 d := by
  refine ⟨?_, by simp, fun d hd => (List.mem_append.mp hd).elim (hXk d) (hYk d)⟩
  simp only [sseq_ev, sasgN_ev, binN_ev, xvV_ev, getV_s, getV_o, bind_ok, hG, addN_ll (show X.length + Y.length ≤ 1000000 by omega), opt_some, liftL_ok, then_nx]
  rfl
theorem rev_in {ps : List D} (h : ∀ d ∈ ps, TOk 4 d) : ∀ d ∈ ps.reverse, TOk 4 d := fun d hd => h d (List.mem_reverse.mp hd)
theorem spoilt_ev (hb : b.Ok) (hs : s.Wk b.n) {c : Int} {mv : Int × Int × Int} (hmv : mv ∈ movesT b s) {ps : List D} (hl : ps.length ≤ 230400) (hps : ∀ p ∈ ps, TOk 4 p ∧ ∃ x z, p = .tuple [x, z]) :
    ∃ L : List D, f_law_spoilt [encB b, encS s, .tuple [e3 mv, .tuple ps], .int c] = .ok (.list L) ∧ L.length ≤ 100 ∧ ∀ d ∈ L, TOk 8 d := by
  have hmo := lmoves_ok hb hs
  have hlen := moves_len hb hs
  have hne : 0 < (movesT b s).length := List.length_pos_of_mem hmv
  have x1 := mix_ev (c := c) (p := 9767) (m := ((movesT b s).length : Int)) (by decide) (by decide) (by omega)
  have a1 := mix_lo (c := c) (p := 9767) (m := ((movesT b s).length : Int)) (by omega)
  have a2 := mix_hi (c := c) (p := 9767) (m := ((movesT b s).length : Int)) (by omega)
  generalize mixI c 9767 ((movesT b s).length : Int) = i at x1 a1 a2
  obtain ⟨mw, hmw⟩ : ∃ mw, ixD (.tuple ((movesT b s).map e3)) (.int i) = some (e3 mw) := by
    refine ⟨(movesT b s)[i.toNat]'(by omega), ?_⟩
    rw [ix_t]
    apply atI_some a1
    rw [List.getElem?_map, List.getElem?_eq_getElem (by omega)]
    rfl
  have hM : TOk 4 (e3 mv) := tok_e3 mv
  have hW : TOk 4 (e3 mw) := tok_e3 mw
  have hpk : ∀ p ∈ ps, TOk 4 p := fun p hp => (hps p hp).1
  have hA : TOk 5 (.tuple ps) := .tup (by omega) hpk
  have hAl : TOk 5 (.list ps) := .lst (by omega) hpk
  obtain ⟨x, y, t⟩ := mv
  have eM : e3 (x, y, t) = .tuple [.int x, .int y, .int t] := rfl
  have hMl : TOk 4 (.list [.int x, .int y, .int t]) := .lst (by simp) (by simp [TOk.int])
  have w1 : listN (e3 (x, y, t)) = some [.int x, .int y, .int t] := rfl
  have i0 : ixD (e3 (x, y, t)) (.int 0) = some (.int x) := rfl
  have i1 : ixD (e3 (x, y, t)) (.int 1) = some (.int y) := rfl
  have i2 : ixD (e3 (x, y, t)) (.int 2) = some (.int t) := rfl
  have hA0 : TOk 5 (.tuple (ps ++ [.int 0])) := .tup (by simp; omega) fun d hd => by
    rcases List.mem_append.mp hd with hd | hd
    · exact hpk d hd
    · rw [List.mem_singleton.mp hd]; exact .int 0
  have ad0 : addD (.tuple ps) (.tuple [.int 0]) = some (.tuple (ps ++ [.int 0])) := add_tt (by simp; omega)
  have l3 : lenD (.tuple ((movesT b s).map e3)) = some (.int ((movesT b s).length : Int)) := by simp
  -- the first ones
  have G1 : ∀ {s0 s1 s2 s3 s6 s7 s8 : Sl}, xlst (lcons (xc .none) (lcons (xtup lnil) (lcons (xtup (lcons (xvE 4) lnil)) (lcons (xtup (lcons (xvE 4) (lcons (xvE 5) (lcons (xc (.int 0)) lnil)))) lnil)))) [s0, s1, s2, s3, .dat (e3 (x, y, t)), .dat (.tuple ps), s6, s7, s8] = .ok [.none, .tuple [], .tuple [e3 (x, y, t)], .tuple [e3 (x, y, t), .tuple ps, .int 0]] := by
    intros; simp
  have K1 : ∀ d ∈ ([.none, .tuple [], .tuple [e3 (x, y, t)], .tuple [e3 (x, y, t), .tuple ps, .int 0]] : List D), TOk 8 d := fun d hd => by
    simp only [List.mem_cons, List.not_mem_nil, or_false] at hd
    rcases hd with rfl | rfl | rfl | rfl
    · exact .non
    · exact .tup (by simp) (by simp)
    · exact (t1 hM).le (by decide)
    · exact (t3 (hM.le (by decide)) hA (.int 0)).le (by decide)
  have G2 : ∀ {s0 s1 s2 s3 s7 s8 : Sl} (s6 : Sl), asL (xlst (lcons (asL (xlst (lcons (xvE 4) (lcons (xvE 5) lnil)))) (lcons (xtup (lcons (asL (un1N listN (xvV 4))) (lcons (xvE 5) lnil))) (lcons (xtup (lcons (xvE 4) (lcons (asL (un1N listN (xvV 5))) lnil))) (lcons (xtup (lcons (xvE 5) (lcons (xvE 4) lnil))) lnil))))) [s0, s1, s2, s3, .dat (e3 (x, y, t)), .dat (.tuple ps), s6, s7, s8] = .ok (.list [.list [e3 (x, y, t), .tuple ps], .tuple [.list [.int x, .int y, .int t], .tuple ps], .tuple [e3 (x, y, t), .list ps], .tuple [.tuple ps, e3 (x, y, t)]]) := by
    intros; simp [w1]
  have K2 : ∀ d ∈ ([.list [e3 (x, y, t), .tuple ps], .tuple [.list [.int x, .int y, .int t], .tuple ps], .tuple [e3 (x, y, t), .list ps], .tuple [.tuple ps, e3 (x, y, t)]] : List D), TOk 8 d := fun d hd => by
    simp only [List.mem_cons, List.not_mem_nil, or_false] at hd
    rcases hd with rfl | rfl | rfl | rfl
    · exact .lst (by simp) (by simp [hM.le (show 4 ≤ 7 by decide), hA.le (show 5 ≤ 7 by decide)])
    · exact (t2 (hMl.le (by decide)) hA).le (by decide)
    · exact (t2 (hM.le (by decide)) hAl).le (by decide)
    · exact (t2 hA (hM.le (by decide))).le (by decide)
  have G3 : ∀ {s0 s1 s2 s8 : Sl} (s6 : Sl), asL (xlst (lcons (xtup (lcons (bin ixD (xvV 7) (xcall 3 f_law_mix (lcons (xvE 3) (lcons (xc (.int 9767)) (lcons (un1 lenD (xvV 7)) lnil))))) (lcons (xvE 5) lnil))) (lcons (xtup (lcons (xvE 4) (lcons (xc .none) lnil))) (lcons (xtup (lcons (xvE 4) (lcons (bin addD (xvE 5) (xtup (lcons (xc (.int 0)) lnil))) lnil))) lnil)))) [s0, s1, s2, .dat (.int c), .dat (e3 (x, y, t)), .dat (.tuple ps), s6, .dat (.tuple ((movesT b s).map e3)), s8] = .ok (.list [.tuple [e3 mw, .tuple ps], .tuple [e3 (x, y, t), .none], .tuple [e3 (x, y, t), .tuple (ps ++ [.int 0])]]) := by
    intros
    generalize f_law_mix = F at x1 ⊢
    generalize hV : PyData.tuple ((movesT b s).map e3) = V at hmw l3 ⊢
    simp [x1, hmw, l3, ad0]
  have K3 : ∀ d ∈ ([.tuple [e3 mw, .tuple ps], .tuple [e3 (x, y, t), .none], .tuple [e3 (x, y, t), .tuple (ps ++ [.int 0])]] : List D), TOk 8 d := fun d hd => by
    simp only [List.mem_cons, List.not_mem_nil, or_false] at hd
    rcases hd with rfl | rfl | rfl
    · exact (t2 (hW.le (by decide)) hA).le (by decide)
    · exact (t2 hM .non).le (by decide)
    · exact (t2 (hM.le (by decide)) hA0).le (by decide)
  have G4 : ∀ {s0 s1 s2 s3 s7 s8 : Sl} (s6 : Sl), asL (xlst (lcons (xtup (lcons (xc .none) (lcons (xvE 5) lnil))) (lcons (xc (.int 5)) lnil))) [s0, s1, s2, s3, .dat (e3 (x, y, t)), .dat (.tuple ps), s6, s7, s8] = .ok (.list [.tuple [.none, .tuple ps], .int 5]) := by
    intros; simp
  have K4 : ∀ d ∈ ([.tuple [.none, .tuple ps], .int 5] : List D), TOk 8 d := fun d hd => by
    simp only [List.mem_cons, List.not_mem_nil, or_false] at hd
    rcases hd with rfl | rfl
    · exact (t2 .non hA).le (by decide)
    · exact .int 5
  have G5 : ∀ {s0 s1 s2 s3 s7 s8 : Sl} (s6 : Sl), asL (xlst (lcons (xtup (lcons (xtup (lcons (bin ixD (xvV 4) (xc (.int 0))) (lcons (bin ixD (xvV 4) (xc (.int 1))) (lcons (bin subD (bin ixD (xvV 4) (xc (.int 2))) (xc (.int 1))) lnil)))) (lcons (xvE 5) lnil))) (lcons (xtup (lcons (xtup (lcons (bin ixD (xvV 4) (xc (.int 0))) (lcons (xc (.bool true)) (lcons (bin ixD (xvV 4) (xc (.int 2))) lnil)))) (lcons (xvE 5) lnil))) lnil))) [s0, s1, s2, s3, .dat (e3 (x, y, t)), .dat (.tuple ps), s6, s7, s8] = .ok (.list [.tuple [.tuple [.int x, .int y, .int (t - 1)], .tuple ps], .tuple [.tuple [.int x, .bool true, .int t], .tuple ps]]) := by
    intros; simp [i0, i1, i2]
  have K5 : ∀ d ∈ ([.tuple [.tuple [.int x, .int y, .int (t - 1)], .tuple ps], .tuple [.tuple [.int x, .bool true, .int t], .tuple ps]] : List D), TOk 8 d := fun d hd => by
    simp only [List.mem_cons, List.not_mem_nil, or_false] at hd
    rcases hd with rfl | rfl
    · exact (t2 (t3 (.int _) (.int _) (.int _)) hA).le (by decide)
    · exact (t2 (t3 (.int _) (.bl _) (.int _)) hA).le (by decide)
  have G6 : ∀ {s0 s1 s2 s3 s7 s8 : Sl} (s6 : Sl), asL (xlst (lcons (xtup (lcons (xvE 4) (lcons (xtup (lcons (xtup (lcons (xtup (lcons (xc (.int 0)) (lcons (xc (.int 0)) (lcons (xc (.int 0)) lnil)))) (lcons (xtup lnil) lnil))) lnil)) lnil))) lnil)) [s0, s1, s2, s3, .dat (e3 (x, y, t)), .dat (.tuple ps), s6, s7, s8] = .ok (.list [.tuple [e3 (x, y, t), .tuple [.tuple [.tuple [.int 0, .int 0, .int 0], .tuple []]]]]) := by
    intros; simp
  have K6 : ∀ d ∈ ([.tuple [e3 (x, y, t), .tuple [.tuple [.tuple [.int 0, .int 0, .int 0], .tuple []]]]] : List D), TOk 8 d := fun d hd => by
    simp only [List.mem_cons, List.not_mem_nil, or_false] at hd
    subst hd
    exact (t2 (hM.le (show 4 ≤ 7 by decide)) (t1 (t2 (n := 5) (t3 (.int _) (.int _) (.int _)) (.tup (by simp) (by simp))))).le (by decide)
  have eu : gtup (gcons (gn 4) (gcons (gn 5) gnil)) (.tuple [e3 (x, y, t), .tuple ps]) (startE 9 [encB b, encS s, .tuple [e3 (x, y, t), .tuple ps], .int c]) = some [.dat (encB b), .dat (encS s), .dat (.tuple [e3 (x, y, t), .tuple ps]), .dat (.int c), .dat (e3 (x, y, t)), .dat (.tuple ps), .un, .un, .un] := rfl
  unfold f_law_spoilt b_law_spoilt
  suffices H : ∃ L : List D, L.length ≤ 100 ∧ (∀ d ∈ L, TOk 8 d) ∧ ∃ s8, (b_law_spoilt (startE 9 [encB b, encS s, .tuple [e3 (x, y, t), .tuple ps], .int c])) = sret (xvE 6) [.dat (encB b), .dat (encS s), .dat (.tuple [e3 (x, y, t), .tuple ps]), .dat (.int c), .dat (e3 (x, y, t)), .dat (.tuple ps), .own L, .dat (.tuple ((movesT b s).map e3)), s8] by
    obtain ⟨L, hL1, hL2, s8, H⟩ := H
    refine ⟨L, runD_rt (H.trans ?_), hL1, hL2⟩
    simp
  unfold b_law_spoilt
  have ea : sasgT (gtup (gcons (gn 4) (gcons (gn 5) gnil))) (xvE 2) (startE 9 [encB b, encS s, .tuple [e3 (x, y, t), .tuple ps], .int c]) = .nx [.dat (encB b), .dat (encS s), .dat (.tuple [e3 (x, y, t), .tuple ps]), .dat (.int c), .dat (e3 (x, y, t)), .dat (.tuple ps), .un, .un, .un] := rfl
  generalize PyData.tuple [e3 (x, y, t), .tuple ps] = P at ea ⊢
  rw [sseq_ev, ea, then_nx, sseq_ev, sasgN_ev, G1, liftL_ok, then_nx]
  show ∃ L, _ ∧ _ ∧ ∃ s8, sseq _ _ [.dat (encB b), .dat (encS s), .dat P, .dat (.int c), .dat (e3 (x, y, t)), .dat (.tuple ps), .own [.none, .tuple [], .tuple [e3 (x, y, t)], .tuple [e3 (x, y, t), .tuple ps, .int 0]], .un, .un] = _
  obtain ⟨X2, n2, k2⟩ := add6 (rest := _) (by simp) K1 (G2 (s0 := .dat (encB b)) (s1 := .dat (encS s)) (s2 := .dat P) (s3 := .dat (.int c)) (s7 := .un) (s8 := .un)) (by simp) K2
  rw [X2, sseq_ev]
  generalize ([.none, .tuple [], .tuple [e3 (x, y, t)], .tuple [e3 (x, y, t), .tuple ps, .int 0]] : List D) ++ [.list [e3 (x, y, t), .tuple ps], .tuple [.list [.int x, .int y, .int t], .tuple ps], .tuple [e3 (x, y, t), .list ps], .tuple [.tuple ps, e3 (x, y, t)]] = L2 at n2 k2 ⊢
  have n2 : L2.length = 8 := n2
  have e7 : sasg 7 (xcall 2 f_law_moves (lcons (xvE 0) (lcons (xvE 1) lnil))) [.dat (encB b), .dat (encS s), .dat P, .dat (.int c), .dat (e3 (x, y, t)), .dat (.tuple ps), .own L2, .un, .un] = .nx [.dat (encB b), .dat (encS s), .dat P, .dat (.int c), .dat (e3 (x, y, t)), .dat (.tuple ps), .own L2, .dat (.tuple ((movesT b s).map e3)), .un] := by
    generalize f_law_moves = F at hmo ⊢
    simp [hmo]
  rw [e7, then_nx]
  obtain ⟨X3, n3, k3⟩ := add6 (rest := _) (by omega) k2 (G3 (s0 := .dat (encB b)) (s1 := .dat (encS s)) (s2 := .dat P) (s8 := .un)) (by simp) K3
  rw [X3]
  generalize L2 ++ _ = L3 at n3 k3 ⊢
  have n3 : L3.length = L2.length + 3 := n3
  obtain ⟨X4, n4, k4⟩ := add6 (rest := _) (by omega) k3 (G4 (s0 := .dat (encB b)) (s1 := .dat (encS s)) (s2 := .dat P) (s3 := .dat (.int c)) (s7 := .dat (.tuple ((movesT b s).map e3))) (s8 := .un)) (by simp) K4
  rw [X4]
  generalize L3 ++ _ = L4 at n4 k4 ⊢
  have n4 : L4.length = L3.length + 2 := n4
  obtain ⟨X5, n5, k5⟩ := add6 (rest := _) (by omega) k4 (G5 (s0 := .dat (encB b)) (s1 := .dat (encS s)) (s2 := .dat P) (s3 := .dat (.int c)) (s7 := .dat (.tuple ((movesT b s).map e3))) (s8 := .un)) (by simp) K5
  rw [X5]
  generalize L4 ++ _ = L5 at n5 k5 ⊢
  have n5 : L5.length = L4.length + 2 := n5
  obtain ⟨X6, n6, k6⟩ := add6 (rest := _) (by omega) k5 (G6 (s0 := .dat (encB b)) (s1 := .dat (encS s)) (s2 := .dat P) (s3 := .dat (.int c)) (s7 := .dat (.tuple ((movesT b s).map e3))) (s8 := .un)) (by simp) K6
  rw [X6]
  generalize L5 ++ _ = L6 at n6 k6 ⊢
  have n6 : L6.length = L5.length + 1 := n6
  rw [sseq_ev]
  by_cases hem : ps = []
  · subst hem
    rw [sif_f (by simp), snil_ev, then_nx]
    exact ⟨L6, by omega, k6, _, rfl⟩
  have hpos : 0 < ps.length := List.length_pos_iff.mpr hem
  have hempf : (!ps.isEmpty) = true := by cases ps with
    | nil => exact absurd rfl hem
    | cons _ _ => rfl
  have tT : xtru (xvV 5) [.dat (encB b), .dat (encS s), .dat P, .dat (.int c), .dat (e3 (x, y, t)), .dat (.tuple ps), .own L6, .dat (.tuple ((movesT b s).map e3)), .un] = .ok true := by
    simp only [xtru_ev, xvV_ev, getV_s, getV_z, bind_ok, tru_t, hempf, opt_some]
  rw [sif_t tT, sseq_ev]
  have y1 := mix_ev (c := c) (p := 9749) (m := (ps.length : Int)) (by decide) (by decide) (by omega)
  have c1 := mix_lo (c := c) (p := 9749) (m := (ps.length : Int)) (by omega)
  have c2 := mix_hi (c := c) (p := 9749) (m := (ps.length : Int)) (by omega)
  generalize mixI c 9749 (ps.length : Int) = a at y1 c1 c2
  have e8 : sasg 8 (xcall 3 f_law_mix (lcons (xvE 3) (lcons (xc (.int 9749)) (lcons (un1 lenD (xvV 5)) lnil)))) [.dat (encB b), .dat (encS s), .dat P, .dat (.int c), .dat (e3 (x, y, t)), .dat (.tuple ps), .own L6, .dat (.tuple ((movesT b s).map e3)), .un] = .nx [.dat (encB b), .dat (encS s), .dat P, .dat (.int c), .dat (e3 (x, y, t)), .dat (.tuple ps), .own L6, .dat (.tuple ((movesT b s).map e3)), .dat (.int a)] := by
    generalize f_law_mix = F at y1 ⊢
    simp [y1]
  rw [e8, then_nx]
  -- slices
  have d1 : cutD ps (some 1) none = ps.drop 1 := cut_from ps (by decide)
  have d2 : cutD ps none (some a) = ps.take a.toNat := cut_to ps c1
  have d3 : cutD ps (some (a + 1)) none = ps.drop (a + 1).toNat := cut_from ps (by omega)
  have d4 : cutD ps none (some (a + 1)) = ps.take (a + 1).toNat := cut_to ps (by omega)
  have d5 : cutD ps (some a) none = ps.drop a.toNat := cut_from ps c1
  have q1 : ∀ d ∈ ps.drop 1, TOk 4 d := fun d hd => hpk d (List.mem_of_mem_drop hd)
  have q2 : ∀ d ∈ ps.take a.toNat, TOk 4 d := fun d hd => hpk d (List.mem_of_mem_take hd)
  have q3 : ∀ d ∈ ps.drop (a + 1).toNat, TOk 4 d := fun d hd => hpk d (List.mem_of_mem_drop hd)
  have q4 : ∀ d ∈ ps.take (a + 1).toNat, TOk 4 d := fun d hd => hpk d (List.mem_of_mem_take hd)
  have q5 : ∀ d ∈ ps.drop a.toNat, TOk 4 d := fun d hd => hpk d (List.mem_of_mem_drop hd)
  have g1 : (ps.drop 1).length ≤ 230400 := by simp; omega
  have g2 : (ps.take a.toNat).length ≤ 230400 := by simp; omega
  have g3 : (ps.drop (a + 1).toNat).length ≤ 230400 := by simp; omega
  have g4 : (ps.take (a + 1).toNat).length ≤ 230400 := by simp; omega
  have g5 : (ps.drop a.toNat).length ≤ 230400 := by simp; omega
  have two : ∀ {u v : List D}, (∀ d ∈ u, TOk 4 d) → (∀ d ∈ v, TOk 4 d) → u.length ≤ 230400 → v.length ≤ 230400 → TOk 5 (.tuple (u ++ v)) ∧ addD (.tuple u) (.tuple v) = some (.tuple (u ++ v)) := fun hu hv lu lv =>
    ⟨.tup (by rw [List.length_append]; omega) fun d hd => (List.mem_append.mp hd).elim (hu d) (hv d), add_tt (by omega)⟩
  obtain ⟨pa, hpa1, hpa2⟩ : ∃ p, p ∈ ps ∧ ixD (.tuple ps) (.int a) = some p := by
    refine ⟨ps[a.toNat]'(by omega), List.getElem_mem _, ?_⟩
    rw [ix_t]
    apply atI_some c1
    rw [List.getElem?_eq_getElem (by omega)]
  obtain ⟨hpk4, xa, za, rfl⟩ := hps pa hpa1
  have hxa := hpk4.tuple.2 xa (by simp)
  have hza := hpk4.tuple.2 za (by simp)
  have ixa : ixD (.tuple [xa, za]) (.int 0) = some xa := rfl
  have r8 := two q2 q3 g2 g3
  have r9 := two q4 q5 g4 g5
  have three : ∀ {w : D}, TOk 4 w → ∃ L : List D, addD (.tuple (ps.take a.toNat)) (.tuple [w]) = some (.tuple (ps.take a.toNat ++ [w])) ∧ addD (.tuple (ps.take a.toNat ++ [w])) (.tuple (ps.drop (a + 1).toNat)) = some (.tuple L) ∧ TOk 5 (.tuple L) := fun {w} hw =>
    ⟨ps.take a.toNat ++ [w] ++ ps.drop (a + 1).toNat, add_tt (by simp; omega), add_tt (by simp; omega), .tup (by simp; omega) fun d hd => by
      rcases List.mem_append.mp hd with hd | hd
      · rcases List.mem_append.mp hd with hd | hd
        · exact q2 d hd
        · rw [List.mem_singleton.mp hd]; exact hw
      · exact q3 d hd⟩
  obtain ⟨L10, u10, v10, w10⟩ := three (w := .tuple [xa, .none]) (t2 hxa .non)
  obtain ⟨L11, u11, v11, w11⟩ := three (w := .list [xa, za]) (.lst (by simp) (by simp [hxa, hza]))
  obtain ⟨L12, u12, v12, w12⟩ := three (w := .tuple [xa, za, .int 0]) (t3 hxa hza (.int 0))
  have az : addD (.tuple [xa, za]) (.tuple [.int 0]) = some (.tuple [xa, za, .int 0]) := add_tt (by simp)
  have G7 : ∀ (s6 : Sl), asL (xlst (lcons (xtup (lcons (xvE 4) (lcons (xtup lnil) lnil))) (lcons (xtup (lcons (xvE 4) (lcons (xsl (xvV 5) (osome (xc (.int 1))) onone) lnil))) lnil))) [.dat (encB b), .dat (encS s), .dat P, .dat (.int c), .dat (e3 (x, y, t)), .dat (.tuple ps), s6, .dat (.tuple ((movesT b s).map e3)), .dat (.int a)] = .ok (.list [.tuple [e3 (x, y, t), .tuple []], .tuple [e3 (x, y, t), .tuple (ps.drop 1)]]) := by
    have h : sliceD (.tuple ps) (some 1) none = some (.tuple (ps.drop 1)) := by rw [← d1]; rfl
    intros; simp [h]
  have K7 : ∀ d ∈ ([.tuple [e3 (x, y, t), .tuple []], .tuple [e3 (x, y, t), .tuple (ps.drop 1)]] : List D), TOk 8 d := fun d hd => by
    simp only [List.mem_cons, List.not_mem_nil, or_false] at hd
    rcases hd with rfl | rfl
    · exact (t2 hM (.tup (n := 3) (by simp) (by simp))).le (by decide)
    · exact (t2 (hM.le (show 4 ≤ 5 by decide)) (.tup (by omega) q1)).le (by decide)
  have s2' : sliceD (.tuple ps) none (some a) = some (.tuple (ps.take a.toNat)) := by rw [← d2]; rfl
  have s3' : sliceD (.tuple ps) (some (a + 1)) none = some (.tuple (ps.drop (a + 1).toNat)) := by rw [← d3]; rfl
  have s4' : sliceD (.tuple ps) none (some (a + 1)) = some (.tuple (ps.take (a + 1).toNat)) := by rw [← d4]; rfl
  have s5' : sliceD (.tuple ps) (some a) none = some (.tuple (ps.drop a.toNat)) := by rw [← d5]; rfl
  have G8 : ∀ (s6 : Sl), asL (xlst (lcons (xtup (lcons (xvE 4) (lcons (bin addD (xsl (xvV 5) onone (osome (xvE 8))) (xsl (xvV 5) (osome (bin addD (xvE 8) (xc (.int 1)))) onone)) lnil))) (lcons (xtup (lcons (xvE 4) (lcons (un1 revD (xvV 5)) lnil))) lnil))) [.dat (encB b), .dat (encS s), .dat P, .dat (.int c), .dat (e3 (x, y, t)), .dat (.tuple ps), s6, .dat (.tuple ((movesT b s).map e3)), .dat (.int a)] = .ok (.list [.tuple [e3 (x, y, t), .tuple (ps.take a.toNat ++ ps.drop (a + 1).toNat)], .tuple [e3 (x, y, t), .tuple ps.reverse]]) := by
    intros; simp [s2', s3', r8.2]
  have K8 : ∀ d ∈ ([.tuple [e3 (x, y, t), .tuple (ps.take a.toNat ++ ps.drop (a + 1).toNat)], .tuple [e3 (x, y, t), .tuple ps.reverse]] : List D), TOk 8 d := fun d hd => by
    simp only [List.mem_cons, List.not_mem_nil, or_false] at hd
    rcases hd with rfl | rfl
    · exact (t2 (hM.le (show 4 ≤ 5 by decide)) r8.1).le (by decide)
    · exact (t2 (hM.le (show 4 ≤ 5 by decide)) (.tup (by rw [List.length_reverse]; omega) (rev_in hpk))).le (by decide)
  have G9 : ∀ (s6 : Sl), asL (xlst (lcons (xtup (lcons (xvE 4) (lcons (bin addD (xsl (xvV 5) onone (osome (bin addD (xvE 8) (xc (.int 1))))) (xsl (xvV 5) (osome (xvE 8)) onone)) lnil))) lnil)) [.dat (encB b), .dat (encS s), .dat P, .dat (.int c), .dat (e3 (x, y, t)), .dat (.tuple ps), s6, .dat (.tuple ((movesT b s).map e3)), .dat (.int a)] = .ok (.list [.tuple [e3 (x, y, t), .tuple (ps.take (a + 1).toNat ++ ps.drop a.toNat)]]) := by
    intros; simp [s4', s5', r9.2]
  have K9 : ∀ d ∈ ([.tuple [e3 (x, y, t), .tuple (ps.take (a + 1).toNat ++ ps.drop a.toNat)]] : List D), TOk 8 d := fun d hd => by
    rw [List.mem_singleton.mp hd]
    exact (t2 (hM.le (show 4 ≤ 5 by decide)) r9.1).le (by decide)
  have G10 : ∀ (s6 : Sl), asL (xlst (lcons (xtup (lcons (xvE 4) (lcons (bin addD (bin addD (xsl (xvV 5) onone (osome (xvE 8))) (xtup (lcons (xtup (lcons (bin ixD (bin ixD (xvV 5) (xvV 8)) (xc (.int 0))) (lcons (xc .none) lnil))) lnil))) (xsl (xvV 5) (osome (bin addD (xvE 8) (xc (.int 1)))) onone)) lnil))) lnil)) [.dat (encB b), .dat (encS s), .dat P, .dat (.int c), .dat (e3 (x, y, t)), .dat (.tuple ps), s6, .dat (.tuple ((movesT b s).map e3)), .dat (.int a)] = .ok (.list [.tuple [e3 (x, y, t), .tuple L10]]) := by
    rw [ix_t] at hpa2
    intros; simp [s2', s3', hpa2, u10, v10]
  have K10 : ∀ d ∈ ([.tuple [e3 (x, y, t), .tuple L10]] : List D), TOk 8 d := fun d hd => by
    rw [List.mem_singleton.mp hd]
    exact (t2 (hM.le (show 4 ≤ 5 by decide)) w10).le (by decide)
  obtain ⟨X7, n7, k7⟩ := add6 (rest := _) (by omega) k6 G7 (by simp) K7
  rw [X7]
  generalize L6 ++ _ = L7 at n7 k7 ⊢
  have n7 : L7.length = L6.length + 2 := n7
  obtain ⟨X8, n8, k8⟩ := add6 (rest := _) (by omega) k7 G8 (by simp) K8
  rw [X8]
  generalize L7 ++ _ = L8 at n8 k8 ⊢
  have n8 : L8.length = L7.length + 2 := n8
  obtain ⟨X9, n9, k9⟩ := add6 (rest := _) (by omega) k8 G9 (by simp) K9
  rw [X9]
  generalize L8 ++ _ = L9 at n9 k9 ⊢
  have n9 : L9.length = L8.length + 1 := n9
  obtain ⟨X10, n10, k10⟩ := add6 (rest := _) (by omega) k9 G10 (by simp) K10
  rw [X10]
  generalize L9 ++ _ = LA at n10 k10 ⊢
  have n10 : LA.length = L9.length + 1 := n10
  have hpa3 := hpa2
  rw [ix_t] at hpa3
  have F11 : ∀ (s6 : Sl), xtup (lcons (xvE 4) (lcons (bin addD (bin addD (xsl (xvV 5) onone (osome (xvE 8))) (xtup (lcons (asL (un1N listN (bin ixD (xvV 5) (xvV 8)))) lnil))) (xsl (xvV 5) (osome (bin addD (xvE 8) (xc (.int 1)))) onone)) lnil)) [.dat (encB b), .dat (encS s), .dat P, .dat (.int c), .dat (e3 (x, y, t)), .dat (.tuple ps), s6, .dat (.tuple ((movesT b s).map e3)), .dat (.int a)] = .ok (.tuple [e3 (x, y, t), .tuple L11]) := by
    intros; simp [s2', s3', hpa3, u11, v11]
  have F12 : ∀ (s6 : Sl), xtup (lcons (xvE 4) (lcons (bin addD (bin addD (xsl (xvV 5) onone (osome (xvE 8))) (xtup (lcons (bin addD (bin ixD (xvV 5) (xvV 8)) (xtup (lcons (xc (.int 0)) lnil))) lnil))) (xsl (xvV 5) (osome (bin addD (xvE 8) (xc (.int 1)))) onone)) lnil)) [.dat (encB b), .dat (encS s), .dat P, .dat (.int c), .dat (e3 (x, y, t)), .dat (.tuple ps), s6, .dat (.tuple ((movesT b s).map e3)), .dat (.int a)] = .ok (.tuple [e3 (x, y, t), .tuple L12]) := by
    intros; simp [s2', s3', hpa3, az, u12, v12]
  refine ⟨LA ++ [.tuple [e3 (x, y, t), .tuple L11]] ++ [.tuple [e3 (x, y, t), .tuple L12]], by simp; omega, fun d hd => ?_, .dat (.int a), ?_⟩
  · rcases List.mem_append.mp hd with hd | hd
    · rcases List.mem_append.mp hd with hd | hd
      · exact k10 d hd
      · rw [List.mem_singleton.mp hd]; exact (t2 (hM.le (show 4 ≤ 5 by decide)) w11).le (by decide)
    · rw [List.mem_singleton.mp hd]; exact (t2 (hM.le (show 4 ≤ 5 by decide)) w12).le (by decide)
  · rw [sseq_ev, sapp_ev (ds := LA) rfl (F11 _) (by omega), then_nx]
    show Fl.andThen (sapp 6 _ [.dat (encB b), .dat (encS s), .dat P, .dat (.int c), .dat (e3 (x, y, t)), .dat (.tuple ps), .own (LA ++ [.tuple [e3 (x, y, t), .tuple L11]]), .dat (.tuple ((movesT b s).map e3)), .dat (.int a)]) _ = _
    rw [sapp_ev (ds := LA ++ [.tuple [e3 (x, y, t), .tuple L11]]) rfl (F12 _) (by simp; omega), then_nx]
    rfl

theorem paper_shape (hb : b.Ok) (hs : s.Wk b.n) {d : D} (h : paperB b 2 s m d = true) : ∃ mv ps, d = .tuple [e3 mv, .tuple ps] ∧ mv ∈ movesT b s ∧ ps.length ≤ 230400 ∧ ∀ p ∈ ps, TOk 4 p ∧ ∃ x z, p = .tuple [x, z] := by
  have hk := (paperB_ok hb 2 s m d hs h).2
  unfold paperB papB at h
  split at h
  · rename_i x y
    rw [Bool.and_eq_true] at h
    have h2 := h.2
    split at h2
    · rename_i mv hx
      have ex := mvOf_some hx
      subst ex
      rw [Bool.and_eq_true, decide_eq_true_eq] at h2
      obtain ⟨hm, ha⟩ := h2
      have hy := (show TOk 6 (.tuple [e3 mv, y]) from hk).tuple.2 y (by simp)
      unfold ansB at ha
      split at ha
      · rename_i ps
        have hml := moves_len hb (done_wk (m := mv) hs)
        split at ha
        · rw [List.isEmpty_iff] at ha; subst ha
          exact ⟨mv, [], rfl, hm, by simp, fun p hp => nomatch hp⟩
        · rw [Bool.and_eq_true, decide_eq_true_eq, List.all_eq_true] at ha
          refine ⟨mv, ps, rfl, hm, by omega, fun p hp => ⟨hy.tuple.2 p hp, ?_⟩⟩
          obtain ⟨i, hi, e⟩ := List.mem_iff_getElem.mp hp
          have hi2 : i < (movesT b (doneT s mv)).length := by omega
          have hz := ha.2 ((movesT b (doneT s mv))[i], p) (List.mem_iff_getElem.mpr ⟨i, by simp; omega, by simp [e]⟩)
          unfold pairB at hz
          split at hz
          · rename_i x z e1
            exact ⟨x, z, e1⟩
          · cases hz
      · cases ha
    · cases h2
  · cases h
theorem lb3 (hb : b.Ok) {o : Sd} (hs : s.Wk b.n) (ho : o.Wk b.n) (h0 : 0 ≤ m) (h3 : m ≤ 3) {ns : List Int} {k : Int} {s2 s7 s8 s9 s10 s11 s12 s13 : Sl} : ∃ t7 t8 t9 t10 t11 t12 t13, lblaw_3 [.dat (scrD ns), .dat (.int k), s2, .dat (encB b), .dat (encS s), .dat (encS o), .dat (.int m), s7, s8, s9, s10, s11, s12, s13, .un] = .nx [.dat (scrD ns), .dat (.int k), s2, .dat (encB b), .dat (encS s), .dat (encS o), .dat (.int m), t7, t8, t9, t10, t11, t12, t13, .un] := by
  obtain ⟨r, hr, hr2⟩ := forced_ev hb 2 8 s m (by omega) (by omega) hs
  have hmo := lmoves_ok hb hs
  have hlen := moves_len hb hs
  have hc6 := cell_ev (ns := ns) (k := 6) (by decide)
  generalize cellI ns 6 = c6 at hc6
  have e1 : sasg 7 (xcall 3 (fforced 8) (lcons (xvE 3) (lcons (xvE 4) (lcons (xvE 6) lnil)))) [.dat (scrD ns), .dat (.int k), s2, .dat (encB b), .dat (encS s), .dat (encS o), .dat (.int m), s7, s8, s9, s10, s11, s12, s13, .un] = .nx [.dat (scrD ns), .dat (.int k), s2, .dat (encB b), .dat (encS s), .dat (encS o), .dat (.int m), .dat r, s8, s9, s10, s11, s12, s13, .un] := by
    generalize fforced 8 = F at hr ⊢
    simp [hr]
  have hcut : cutD ((movesT b s).map e3) none (some 5) = ((movesT b s).take 5).map e3 := by rw [cut_to _ (by decide), List.map_take]; rfl
  have hsl : sliceD (.tuple ((movesT b s).map e3)) none (some 5) = some (.tuple (((movesT b s).take 5).map e3)) := by rw [← hcut]; rfl
  have q1 : qlaw_1 [.dat (scrD ns), .dat (.int k), s2, .dat (encB b), .dat (encS s), .dat (encS o), .dat (.int m), .dat r, s8, s9, s10, s11, s12, s13, .un] = .ok (((movesT b s).take 5).map fun mv => PyData.tuple [e3 mv, .tuple []]) := by
    unfold qlaw_1
    have h5 : ((movesT b s).take 5).length ≤ 1000000 := by simp; omega
    generalize f_law_moves = F at hmo ⊢
    generalize (movesT b s).take 5 = M5 at hsl h5 ⊢
    generalize (movesT b s).map e3 = ME at hmo hsl
    exact xlc_all (enc := e3) (fun mv => PyData.tuple [e3 mv, .tuple []]) (by simp [hmo, hsl]) h5 fun mv _ => ⟨[.dat (scrD ns), .dat (.int k), s2, .dat (encB b), .dat (encS s), .dat (encS o), .dat (.int m), .dat r, s8, s9, s10, s11, s12, s13, .dat (e3 mv)], rfl, rfl, by simp⟩
  generalize hZ : ((movesT b s).take 5).map (fun mv => PyData.tuple [e3 mv, .tuple []]) = Z at q1
  have hZl : Z.length ≤ 5 := by rw [← hZ]; simp; omega
  have hZk : ∀ d ∈ Z, TOk 8 d := fun d hd => by
    rw [← hZ] at hd
    obtain ⟨mv, _, rfl⟩ := List.mem_map.mp hd
    exact t2 (tok_e3 mv) (.tup (by simp) (by simp))
  let A0 : List D := [.none, .tuple [], .int 0, .tuple [.tuple [.int (-1), .int 0, .int (-1)], .tuple []]]
  have hA0 : ∀ d ∈ A0, TOk 8 d := fun d hd => by
    simp only [A0, List.mem_cons, List.not_mem_nil, or_false] at hd
    rcases hd with rfl | rfl | rfl | rfl
    · exact .non
    · exact .tup (by simp) (by simp)
    · exact .int 0
    · exact (t2 (n := 5) (t3 (.int _) (.int _) (.int _)) (.tup (by simp) (by simp))).le (by decide)
  have a1 : addD (.list A0) (.list Z) = some (.list (A0 ++ Z)) := add_ll (by simp [A0]; omega)
  have e2 : sasg 8 (bin addD (asL (xlst (lcons (xc .none) (lcons (xtup lnil) (lcons (xc (.int 0)) (lcons (xtup (lcons (xtup (lcons (un1 negD (xc (.int 1))) (lcons (xc (.int 0)) (lcons (un1 negD (xc (.int 1))) lnil)))) (lcons (xtup lnil) lnil))) lnil)))))) (asL qlaw_1)) [.dat (scrD ns), .dat (.int k), s2, .dat (encB b), .dat (encS s), .dat (encS o), .dat (.int m), .dat r, s8, s9, s10, s11, s12, s13, .un] = .nx [.dat (scrD ns), .dat (.int k), s2, .dat (encB b), .dat (encS s), .dat (encS o), .dat (.int m), .dat r, .dat (.list (A0 ++ Z)), s9, s10, s11, s12, s13, .un] := by
    generalize qlaw_1 = Q at q1 ⊢
    have g : asL (xlst (lcons (xc .none) (lcons (xtup lnil) (lcons (xc (.int 0)) (lcons (xtup (lcons (xtup (lcons (un1 negD (xc (.int 1))) (lcons (xc (.int 0)) (lcons (un1 negD (xc (.int 1))) lnil)))) (lcons (xtup lnil) lnil))) lnil))))) [.dat (scrD ns), .dat (.int k), s2, .dat (encB b), .dat (encS s), .dat (encS o), .dat (.int m), .dat r, s8, s9, s10, s11, s12, s13, .un] = .ok (.list A0) := by simp [A0]
    simp only [sasg_ev, bin_ev, g, bind_ok, asL_ev, q1, a1, opt_some, liftE_ok]
    rfl
  unfold lblaw_3
  rw [sseq_ev, e1, then_nx, sseq_ev, e2, then_nx, sseq_ev]
  rcases hr2 with ⟨rfl, _⟩ | ⟨hn, _, hp⟩
  · rw [sif_f (by simp), snil_ev, then_nx]
    obtain ⟨t9, t10, t11, t12, t13, h⟩ := ll2 hb hs ho h3 (L := A0 ++ Z) (fun d hd => (List.mem_append.mp hd).elim (hA0 d) (hZk d)) (s0 := .dat (scrD ns)) (s1 := .dat (.int k)) (s2 := s2) (s7 := .dat .none) (s9 := s9) (s10 := s10) (s11 := s11) (s12 := s12) (s13 := s13) (s14 := .un)
    exact ⟨_, _, t9, t10, t11, t12, t13, h⟩
  · obtain ⟨mv, ps, rfl, hmv, hpl, hpk⟩ := paper_shape hb hs hp
    have hk6 := (paperB_ok hb 2 s m _ hs hp).2
    obtain ⟨L, eL, hLl, hLk⟩ := spoilt_ev hb hs (c := c6 + k) hmv hpl hpk
    have a2 : addD (.list (A0 ++ Z)) (.list [.tuple [e3 mv, .tuple ps]]) = some (.list (A0 ++ Z ++ [.tuple [e3 mv, .tuple ps]])) := add_ll (by simp [A0]; omega)
    have a3 : addD (.list (A0 ++ Z ++ [.tuple [e3 mv, .tuple ps]])) (.list L) = some (.list (A0 ++ Z ++ [.tuple [e3 mv, .tuple ps]] ++ L)) := add_ll (by simp [A0]; omega)
    have e3' : sasg 8 (bin addD (bin addD (xvE 8) (asL (xlst (lcons (xvE 7) lnil)))) (xcall 4 f_law_spoilt (lcons (xvE 3) (lcons (xvE 4) (lcons (xvE 7) (lcons (bin addD (xcall 2 f_law_cell (lcons (xvE 0) (lcons (xc (.int 6)) lnil))) (xvE 1)) lnil)))))) [.dat (scrD ns), .dat (.int k), s2, .dat (encB b), .dat (encS s), .dat (encS o), .dat (.int m), .dat (.tuple [e3 mv, .tuple ps]), .dat (.list (A0 ++ Z)), s9, s10, s11, s12, s13, .un] = .nx [.dat (scrD ns), .dat (.int k), s2, .dat (encB b), .dat (encS s), .dat (encS o), .dat (.int m), .dat (.tuple [e3 mv, .tuple ps]), .dat (.list (A0 ++ Z ++ [.tuple [e3 mv, .tuple ps]] ++ L)), s9, s10, s11, s12, s13, .un] := by
      generalize f_law_spoilt = F1 at eL ⊢
      generalize f_law_cell = F2 at hc6 ⊢
      generalize A0 ++ Z = AZ at a2 a3 ⊢
      generalize AZ ++ [PyData.tuple [e3 mv, .tuple ps]] = AP at a2 a3 ⊢
      generalize AP ++ L = AL at a3 ⊢
      simp [hc6, eL, a2, a3]
    rw [sif_t (by simp), e3', then_nx]
    obtain ⟨t9, t10, t11, t12, t13, h⟩ := ll2 hb hs ho h3 (L := A0 ++ Z ++ [.tuple [e3 mv, .tuple ps]] ++ L) (fun d hd => by
      rcases List.mem_append.mp hd with hd | hd
      · rcases List.mem_append.mp hd with hd | hd
        · exact (List.mem_append.mp hd).elim (hA0 d) (hZk d)
        · rw [List.mem_singleton.mp hd]; exact hk6.le (by decide)
      · exact hLk d hd) (s0 := .dat (scrD ns)) (s1 := .dat (.int k)) (s2 := s2) (s7 := .dat (.tuple [e3 mv, .tuple ps])) (s9 := s9) (s10 := s10) (s11 := s11) (s12 := s12) (s13 := s13) (s14 := .un)
    exact ⟨_, _, t9, t10, t11, t12, t13, h⟩
theorem ll3 (hb : b.Ok) {o : Sd} (hs : s.Wk b.n) (ho : o.Wk b.n) {ns : List Int} {k : Int} {s2 s6 s7 s8 s9 s10 s11 s12 s13 : Sl} : ∃ t6 t7 t8 t9 t10 t11 t12 t13, llaw_3 [.dat (scrD ns), .dat (.int k), s2, .dat (encB b), .dat (encS s), .dat (encS o), s6, s7, s8, s9, s10, s11, s12, s13, .un] = .nx [.dat (scrD ns), .dat (.int k), s2, .dat (encB b), .dat (encS s), .dat (encS o), t6, t7, t8, t9, t10, t11, t12, t13, .un] := by
  obtain ⟨e', h1, t6, t7, t8, t9, t10, t11, t12, t13, rfl⟩ := forL_stay (enc := PyData.int) (f := gn 6) (B := lblaw_3) (fun e => ∃ t6 t7 t8 t9 t10 t11 t12 t13, e = [.dat (scrD ns), .dat (.int k), s2, .dat (encB b), .dat (encS s), .dat (encS o), t6, t7, t8, t9, t10, t11, t12, t13, .un]) [1, 3]
    [.dat (scrD ns), .dat (.int k), s2, .dat (encB b), .dat (encS s), .dat (encS o), s6, s7, s8, s9, s10, s11, s12, s13, .un] ⟨_, _, _, _, _, _, _, _, rfl⟩ fun m e hm ⟨t6, t7, t8, t9, t10, t11, t12, t13, he⟩ => by
      subst he
      simp only [List.mem_cons, List.not_mem_nil, or_false] at hm
      obtain ⟨u7, u8, u9, u10, u11, u12, u13, h⟩ := lb3 hb hs ho (m := m) (by omega) (by omega) (ns := ns) (k := k) (s2 := s2) (s7 := t7) (s8 := t8) (s9 := t9) (s10 := t10) (s11 := t11) (s12 := t12) (s13 := t13)
      exact ⟨_, _, rfl, .inl h, _, _, _, _, _, _, _, _, rfl⟩
  exact ⟨t6, t7, t8, t9, t10, t11, t12, t13, sfor_nx (ds := [1, 3].map PyData.int) rfl h1⟩
def bX : Bd := ⟨9, [], [(0, 1, 2), (0, 3, 4)]⟩
def sX : Sd := ⟨[none, some 0, none, some 0, none, some 1, some 1, some 1, some 0], 0, 0, 0⟩
theorem bX_ok : bX.Ok := ⟨by decide, by decide, by decide, by decide, by decide, by decide, by decide, by decide⟩
theorem sX_wk : sX.Wk bX.n := ⟨by decide, by decide⟩
theorem lb4 {ns : List Int} {k : Int} (hk : 0 ≤ k) {s2 s3 s4 s5 s6 s7 s8 s9 s10 s11 s12 s13 : Sl} : ∃ t2 t3 t4 t5 t6 t7 t8 t9 t10 t11 t12 t13, lblaw_4 [.dat (scrD ns), .dat (.int k), s2, s3, s4, s5, s6, s7, s8, s9, s10, s11, s12, s13, .un] = .nx [.dat (scrD ns), .dat (.int k), t2, t3, t4, t5, t6, t7, t8, t9, t10, t11, t12, t13, .un] := by
  have hc := cell_ev (ns := ns) (k := k) hk
  generalize cellI ns k = c0 at hc
  have hc4 := cell_ev (ns := ns) (k := 4) (by decide)
  generalize cellI ns 4 = c4 at hc4
  have hc5 := cell_ev (ns := ns) (k := 5) (by decide)
  generalize cellI ns 5 = c5 at hc5
  have m3 : mulD (.int 3) (.int k) = some (.int (3 * k)) := mul_ii (.inl (by decide))
  have m5 : mulD (.int 5) (.int k) = some (.int (5 * k)) := mul_ii (.inl (by decide))
  have m7 : mulD (.int 7) (.int k) = some (.int (7 * k)) := mul_ii (.inl (by decide))
  have m2 : modD (.int (c0 + 3 * k)) (.int 2) = some (.int ((c0 + 3 * k) % 2)) := mod_ii (by decide)
  have hbd : ∃ b : Bd, b.Ok ∧ 5 ≤ b.n ∧ ∀ {s4 s5 s6 s7 s8 s9 s10 s11 s12 s13 s14 : Sl}, sif (xbl (bin eqD (bin modD (xvE 2) (xc (.int 2))) (xc (.int 0)))) (sasg 3 (xcall 2 f_law_drawn_board (lcons (xvE 2) (lcons (xc (.int 8)) lnil)))) snil [.dat (scrD ns), .dat (.int k), .dat (.int (c0 + 3 * k)), .dat (encB gridB), s4, s5, s6, s7, s8, s9, s10, s11, s12, s13, s14] = .nx [.dat (scrD ns), .dat (.int k), .dat (.int (c0 + 3 * k)), .dat (encB b), s4, s5, s6, s7, s8, s9, s10, s11, s12, s13, s14] := by
    by_cases h : (c0 + 3 * k) % 2 = 0
    · obtain ⟨b, hb, h5, _, eb⟩ := drawn_ev (c := c0 + 3 * k) (most := 8) (by decide) (by decide)
      refine ⟨b, hb, h5, fun {s4 s5 s6 s7 s8 s9 s10 s11 s12 s13 s14} => ?_⟩
      generalize f_law_drawn_board = F at eb ⊢
      rw [sif_t (by simp [m2, h])]
      simp [eb]
    · refine ⟨gridB, grid_ok, by decide, fun {s4 s5 s6 s7 s8 s9 s10 s11 s12 s13 s14} => ?_⟩
      rw [sif_f (by simp [m2, h])]
      rfl
  obtain ⟨b, hb, h5, hif⟩ := hbd
  obtain ⟨s, hs, _, _, _, _, _, es⟩ := near_ev (b := b) (c := c4 + 5 * k) h5 hb.hi
  have hg := grid_ev
  unfold lblaw_4
  have e1 : sasg 2 (bin addD (xcall 2 f_law_cell (lcons (xvE 0) (lcons (xvE 1) lnil))) (bin mulD (xc (.int 3)) (xvE 1))) [.dat (scrD ns), .dat (.int k), s2, s3, s4, s5, s6, s7, s8, s9, s10, s11, s12, s13, .un] = .nx [.dat (scrD ns), .dat (.int k), .dat (.int (c0 + 3 * k)), s3, s4, s5, s6, s7, s8, s9, s10, s11, s12, s13, .un] := by
    generalize f_law_cell = F at hc ⊢
    simp [hc, m3]
  have e2 : sasg 3 (xcall 0 f_law_grid_board lnil) [.dat (scrD ns), .dat (.int k), .dat (.int (c0 + 3 * k)), s3, s4, s5, s6, s7, s8, s9, s10, s11, s12, s13, .un] = .nx [.dat (scrD ns), .dat (.int k), .dat (.int (c0 + 3 * k)), .dat (encB gridB), s4, s5, s6, s7, s8, s9, s10, s11, s12, s13, .un] := by
    generalize f_law_grid_board = F at hg ⊢
    simp [hg]
  have e4 : sasg 4 (xcall 2 f_law_near (lcons (xvE 3) (lcons (bin addD (xcall 2 f_law_cell (lcons (xvE 0) (lcons (xc (.int 4)) lnil))) (bin mulD (xc (.int 5)) (xvE 1))) lnil))) [.dat (scrD ns), .dat (.int k), .dat (.int (c0 + 3 * k)), .dat (encB b), s4, s5, s6, s7, s8, s9, s10, s11, s12, s13, .un] = .nx [.dat (scrD ns), .dat (.int k), .dat (.int (c0 + 3 * k)), .dat (encB b), .dat (encS s), s5, s6, s7, s8, s9, s10, s11, s12, s13, .un] := by
    generalize f_law_cell = F at hc4 ⊢
    generalize f_law_near = F2 at es ⊢
    simp [hc4, m5, es]
  rw [sseq_ev, e1, then_nx, sseq_ev, e2, then_nx, sseq_ev, hif, then_nx, sseq_ev, e4, then_nx, sseq_ev]
  have tail : ∀ (b : Bd) (s : Sd), b.Ok → 5 ≤ b.n → s.Wk b.n → ∃ t2 t3 t4 t5 t6 t7 t8 t9 t10 t11 t12 t13, (sseq (sasg 5 (xcall 2 f_law_near (lcons (xvE 3) (lcons (bin addD (xcall 2 f_law_cell (lcons (xvE 0) (lcons (xc (.int 5)) lnil))) (bin mulD (xc (.int 7)) (xvE 1))) lnil)))) llaw_3) [.dat (scrD ns), .dat (.int k), .dat (.int (c0 + 3 * k)), .dat (encB b), .dat (encS s), s5, s6, s7, s8, s9, s10, s11, s12, s13, .un] = .nx [.dat (scrD ns), .dat (.int k), t2, t3, t4, t5, t6, t7, t8, t9, t10, t11, t12, t13, .un] := fun b s hb h5 hs => by
    obtain ⟨o, ho, _, _, _, _, _, eo⟩ := near_ev (b := b) (c := c5 + 7 * k) h5 hb.hi
    have e5 : sasg 5 (xcall 2 f_law_near (lcons (xvE 3) (lcons (bin addD (xcall 2 f_law_cell (lcons (xvE 0) (lcons (xc (.int 5)) lnil))) (bin mulD (xc (.int 7)) (xvE 1))) lnil))) [.dat (scrD ns), .dat (.int k), .dat (.int (c0 + 3 * k)), .dat (encB b), .dat (encS s), s5, s6, s7, s8, s9, s10, s11, s12, s13, .un] = .nx [.dat (scrD ns), .dat (.int k), .dat (.int (c0 + 3 * k)), .dat (encB b), .dat (encS s), .dat (encS o), s6, s7, s8, s9, s10, s11, s12, s13, .un] := by
      generalize f_law_cell = F at hc5 ⊢
      generalize f_law_near = F2 at eo ⊢
      simp [hc5, m7, eo]
    obtain ⟨t6, t7, t8, t9, t10, t11, t12, t13, hl⟩ := ll3 hb hs ho.wk (ns := ns) (k := k) (s2 := .dat (.int (c0 + 3 * k))) (s6 := s6) (s7 := s7) (s8 := s8) (s9 := s9) (s10 := s10) (s11 := s11) (s12 := s12) (s13 := s13)
    refine ⟨.dat (.int (c0 + 3 * k)), .dat (encB b), .dat (encS s), .dat (encS o), t6, t7, t8, t9, t10, t11, t12, t13, ?_⟩
    rw [sseq_ev, e5, then_nx]
    exact hl
  by_cases h3 : k = 4
  · rw [sif_t (by simp [h3])]
    have e5 : ∀ G, sasgT G (xtup (lcons (xtup (lcons (xc (.int 9)) (lcons (xtup lnil) (lcons (xtup (lcons (xtup (lcons (xc (.int 0)) (lcons (xc (.int 1)) (lcons (xc (.int 2)) lnil)))) (lcons (xtup (lcons (xc (.int 0)) (lcons (xc (.int 3)) (lcons (xc (.int 4)) lnil)))) lnil))) lnil)))) (lcons (xtup (lcons (xtup (lcons (xc .none) (lcons (xc (.int 0)) (lcons (xc .none) (lcons (xc (.int 0)) (lcons (xc .none) (lcons (xc (.int 1)) (lcons (xc (.int 1)) (lcons (xc (.int 1)) (lcons (xc (.int 0)) lnil)))))))))) (lcons (xtup (lcons (xc (.int 0)) (lcons (xc (.int 0)) lnil))) (lcons (xc (.int 0)) lnil)))) lnil))) [.dat (scrD ns), .dat (.int k), .dat (.int (c0 + 3 * k)), .dat (encB b), .dat (encS s), s5, s6, s7, s8, s9, s10, s11, s12, s13, .un] = optF (G (.tuple [encB bX, encS sX]) [.dat (scrD ns), .dat (.int k), .dat (.int (c0 + 3 * k)), .dat (encB b), .dat (encS s), s5, s6, s7, s8, s9, s10, s11, s12, s13, .un]) := fun G => by
      rw [sasgT_ev]
      rfl
    rw [e5]
    exact tail bX sX bX_ok (by decide) sX_wk
  · rw [sif_f (by simp [h3]), snil_ev, then_nx]
    exact tail b s hb h5 hs.wk
theorem law_true : ∀ ns : List Int, ns.length ≤ 63 → flaw [scrD ns] = .ok (.bool true) := fun ns _ => by
  obtain ⟨e', h1, s1, s2, s3, s4, s5, s6, s7, s8, s9, s10, s11, s12, s13, rfl⟩ := forL_stay (enc := PyData.int) (f := gn 1) (B := lblaw_4) (fun e => ∃ s1 s2 s3 s4 s5 s6 s7 s8 s9 s10 s11 s12 s13, e = [.dat (scrD ns), s1, s2, s3, s4, s5, s6, s7, s8, s9, s10, s11, s12, s13, .un]) (upto 5)
    [.dat (scrD ns), .un, .un, .un, .un, .un, .un, .un, .un, .un, .un, .un, .un, .un, .un] ⟨_, _, _, _, _, _, _, _, _, _, _, _, _, rfl⟩ fun k e hk ⟨s1, s2, s3, s4, s5, s6, s7, s8, s9, s10, s11, s12, s13, he⟩ => by
      subst he
      rw [upto_mem] at hk
      obtain ⟨t2, t3, t4, t5, t6, t7, t8, t9, t10, t11, t12, t13, h⟩ := lb4 (ns := ns) (k := k) hk.1 (s2 := s2) (s3 := s3) (s4 := s4) (s5 := s5) (s6 := s6) (s7 := s7) (s8 := s8) (s9 := s9) (s10 := s10) (s11 := s11) (s12 := s12) (s13 := s13)
      exact ⟨_, _, rfl, .inl h, _, _, _, _, _, _, _, _, _, _, _, _, _, rfl⟩
  have hll : llaw_4 [.dat (scrD ns), .un, .un, .un, .un, .un, .un, .un, .un, .un, .un, .un, .un, .un, .un] = .nx _ := sfor_nx (irng1_of (F := xc (.int 5)) (j := 5) rfl (rng1_ev (by decide) (by decide))) h1
  apply runD_rt
  unfold blaw
  generalize llaw_4 = L at hll ⊢
  rw [sseq_ev]
  show Fl.andThen (L [.dat (scrD ns), .un, .un, .un, .un, .un, .un, .un, .un, .un, .un, .un, .un, .un, .un]) _ = _
  rw [hll, then_nx]
  simp
end
end M11
namespace M11
open PySem L2 Pu Pf
def top (i : Nat) : Stmt := PySem.Challenge.pw_millrows_k11_papers_looked_at.main.body.getD i (.Pass ⟨0, 0, 0, 0⟩)
abbrev st__law_grid_board : Stmt := top 24
abbrev st__law_mix : Stmt := top 23
abbrev st__law_near : Stmt := top 33
abbrev st__law_cell : Stmt := top 22
abbrev st__law_drawn_board : Stmt := top 25
abbrev st_points_of : Stmt := top 3
abbrev st_count : Stmt := top 5
abbrev st_neighbours : Stmt := top 7
abbrev st_steps : Stmt := top 8
abbrev st_winner : Stmt := top 12
abbrev st_full_rows : Stmt := top 4
abbrev st_takings : Stmt := top 10
abbrev st_with_step : Stmt := top 9
abbrev st_all_moves : Stmt := top 11
abbrev st_moves : Stmt := top 13
abbrev st_done : Stmt := top 14
abbrev st_forced : Stmt := top 17
abbrev st_answers_to : Stmt := top 16
abbrev st__law_steps : Stmt := top 27
abbrev st__law_winner : Stmt := top 29
abbrev st__law_rows_of : Stmt := top 26
abbrev st__law_moves : Stmt := top 28
abbrev st__law_spoilt : Stmt := top 34
abbrev st_is_whole : Stmt := top 1
abbrev st_is_move : Stmt := top 18
abbrev st_is_paper : Stmt := top 20
abbrev st_is_answers : Stmt := top 19
abbrev st__law_is_plain : Stmt := top 35
abbrev st__law_after : Stmt := top 30
abbrev st__law_wins : Stmt := top 32
abbrev st_law : Stmt := top 36
structure Top (w : World) (K : PySem.W.Frag) (mg : Str → Option Value) : Prop where
  d__law_grid_board : Def K mg "_law_grid_board" st__law_grid_board []
  d__law_mix : Def K mg "_law_mix" st__law_mix ["cell", "prime", "many"]
  d__law_near : Def K mg "_law_near" st__law_near ["board", "cell"]
  d__law_cell : Def K mg "_law_cell" st__law_cell ["script", "k"]
  d__law_drawn_board : Def K mg "_law_drawn_board" st__law_drawn_board ["cell", "most"]
  d_points_of : Def K mg "points_of" st_points_of ["stand", "who"]
  d_count : Def K mg "count" st_count ["stand", "who"]
  d_neighbours : Def K mg "neighbours" st_neighbours ["board", "point"]
  d_steps : Def K mg "steps" st_steps ["board", "stand"]
  d_winner : Def K mg "winner" st_winner ["board", "stand"]
  d_full_rows : Def K mg "full_rows" st_full_rows ["board", "men", "who"]
  d_takings : Def K mg "takings" st_takings ["board", "men", "goal", "who"]
  d_with_step : Def K mg "with_step" st_with_step ["men", "begin", "goal", "who"]
  d_all_moves : Def K mg "all_moves" st_all_moves ["board", "stand"]
  d_moves : Def K mg "moves" st_moves ["board", "stand"]
  d_done : Def K mg "done" st_done ["stand", "move"]
  d_forced : Def K mg "forced" st_forced ["board", "stand", "many"]
  d_answers_to : Def K mg "answers_to" st_answers_to ["board", "stand", "many"]
  d__law_steps : Def K mg "_law_steps" st__law_steps ["board", "stand"]
  d__law_winner : Def K mg "_law_winner" st__law_winner ["board", "stand"]
  d__law_rows_of : Def K mg "_law_rows_of" st__law_rows_of ["board", "men", "who"]
  d__law_moves : Def K mg "_law_moves" st__law_moves ["board", "stand"]
  d__law_spoilt : Def K mg "_law_spoilt" st__law_spoilt ["board", "stand", "paper", "cell"]
  d_is_whole : Def K mg "is_whole" st_is_whole ["thing", "low", "high"]
  d_is_move : Def K mg "is_move" st_is_move ["thing"]
  d_is_paper : Def K mg "is_paper" st_is_paper ["board", "stand", "many", "thing"]
  d_is_answers : Def K mg "is_answers" st_is_answers ["board", "stand", "many", "thing"]
  d__law_is_plain : Def K mg "_law_is_plain" st__law_is_plain ["thing"]
  d__law_after : Def K mg "_law_after" st__law_after ["stand", "move"]
  d__law_wins : Def K mg "_law_wins" st__law_wins ["board", "stand", "many", "paper"]
  d_law : Def K mg "law" st_law ["script"]
  m_all : mg "all" = none
  m_any : mg "any" = none
  m_bool : mg "bool" = none
  m_enumerate : mg "enumerate" = none
  m_int : mg "int" = none
  m_isinstance : mg "isinstance" = none
  m_len : mg "len" = none
  m_list : mg "list" = none
  m_max : mg "max" = none
  m_min : mg "min" = none
  m_range : mg "range" = none
  m_set : mg "set" = none
  m_sorted : mg "sorted" = none
  m_tuple : mg "tuple" = none
  m_zip : mg "zip" = none
theorem sc__law_grid_board : FnScope ["ties", "one", "other", "rows"] [] (defScope st__law_grid_board) := ⟨rfl, rfl, rfl, by decide +kernel, rfl, by decide +kernel, by decide +kernel⟩
theorem sc__law_mix : FnScope ["cell", "prime", "many", "blend"] ["cell", "prime", "many"] (defScope st__law_mix) := ⟨rfl, rfl, rfl, by decide +kernel, rfl, by decide +kernel, by decide +kernel⟩
theorem sc__law_near : FnScope ["board", "cell", "men", "counts", "who", "k", "point"] ["board", "cell"] (defScope st__law_near) := ⟨rfl, rfl, rfl, by decide +kernel, rfl, by decide +kernel, by decide +kernel⟩
theorem sc__law_cell : FnScope ["script", "k"] ["script", "k"] (defScope st__law_cell) := ⟨rfl, rfl, rfl, by decide +kernel, rfl, by decide +kernel, by decide +kernel⟩
theorem sc__law_drawn_board : FnScope ["cell", "most", "many", "ties", "k", "one", "other", "rows", "some", "j"] ["cell", "most"] (defScope st__law_drawn_board) := ⟨rfl, rfl, rfl, by decide +kernel, rfl, by decide +kernel, by decide +kernel⟩
theorem sc_points_of : FnScope ["stand", "who", "p", "man"] ["stand", "who"] (defScope st_points_of) := ⟨rfl, rfl, rfl, by decide +kernel, rfl, by decide +kernel, by decide +kernel⟩
theorem sc_count : FnScope ["stand", "who"] ["stand", "who"] (defScope st_count) := ⟨rfl, rfl, rfl, by decide +kernel, rfl, by decide +kernel, by decide +kernel⟩
theorem sc_neighbours : FnScope ["board", "point", "found", "one", "other"] ["board", "point"] (defScope st_neighbours) := ⟨rfl, rfl, rfl, by decide +kernel, rfl, by decide +kernel, by decide +kernel⟩
theorem sc_steps : FnScope ["board", "stand", "men", "left", "turn", "empty", "mine", "found", "begin", "goals", "p", "man", "goal"] ["board", "stand"] (defScope st_steps) := ⟨rfl, rfl, rfl, by decide +kernel, rfl, by decide +kernel, by decide +kernel⟩
theorem sc_winner : FnScope ["board", "stand", "turn"] ["board", "stand"] (defScope st_winner) := ⟨rfl, rfl, rfl, by decide +kernel, rfl, by decide +kernel, by decide +kernel⟩
theorem sc_full_rows : FnScope ["board", "men", "who", "row", "p"] ["board", "men", "who"] (defScope st_full_rows) := ⟨rfl, rfl, rfl, by decide +kernel, rfl, by decide +kernel, by decide +kernel⟩
theorem sc_takings : FnScope ["board", "men", "goal", "who", "other", "rows", "free", "p", "man", "row"] ["board", "men", "goal", "who"] (defScope st_takings) := ⟨rfl, rfl, rfl, by decide +kernel, rfl, by decide +kernel, by decide +kernel⟩
theorem sc_with_step : FnScope ["men", "begin", "goal", "who", "found"] ["men", "begin", "goal", "who"] (defScope st_with_step) := ⟨rfl, rfl, rfl, by decide +kernel, rfl, by decide +kernel, by decide +kernel⟩
theorem sc_all_moves : FnScope ["board", "stand", "men", "left", "turn", "found", "begin", "goal", "taken", "one"] ["board", "stand"] (defScope st_all_moves) := ⟨rfl, rfl, rfl, by decide +kernel, rfl, by decide +kernel, by decide +kernel⟩
theorem sc_moves : FnScope ["board", "stand"] ["board", "stand"] (defScope st_moves) := ⟨rfl, rfl, rfl, by decide +kernel, rfl, by decide +kernel, by decide +kernel⟩
theorem sc_done : FnScope ["stand", "move", "men", "left", "turn", "begin", "goal", "taken", "found", "less"] ["stand", "move"] (defScope st_done) := ⟨rfl, rfl, rfl, by decide +kernel, rfl, by decide +kernel, by decide +kernel⟩
theorem sc_forced : FnScope ["board", "stand", "many", "move", "answers"] ["board", "stand", "many"] (defScope st_forced) := ⟨rfl, rfl, rfl, by decide +kernel, rfl, by decide +kernel, by decide +kernel⟩
theorem sc_answers_to : FnScope ["board", "stand", "many", "found", "answer", "paper"] ["board", "stand", "many"] (defScope st_answers_to) := ⟨rfl, rfl, rfl, by decide +kernel, rfl, by decide +kernel, by decide +kernel⟩
theorem sc__law_steps : FnScope ["board", "stand", "men", "left", "turn", "empty", "mine", "found", "begin", "goal", "p"] ["board", "stand"] (defScope st__law_steps) := ⟨rfl, rfl, rfl, by decide +kernel, rfl, by decide +kernel, by decide +kernel⟩
theorem sc__law_winner : FnScope ["board", "stand", "men", "left", "turn"] ["board", "stand"] (defScope st__law_winner) := ⟨rfl, rfl, rfl, by decide +kernel, rfl, by decide +kernel, by decide +kernel⟩
theorem sc__law_rows_of : FnScope ["board", "men", "who", "row", "p"] ["board", "men", "who"] (defScope st__law_rows_of) := ⟨rfl, rfl, rfl, by decide +kernel, rfl, by decide +kernel, by decide +kernel⟩
theorem sc__law_moves : FnScope ["board", "stand", "men", "left", "turn", "found", "begin", "goal", "new", "taken", "held", "row", "other", "free", "p", "man", "one"] ["board", "stand"] (defScope st__law_moves) := ⟨rfl, rfl, rfl, by decide +kernel, rfl, by decide +kernel, by decide +kernel⟩
theorem sc__law_spoilt : FnScope ["board", "stand", "paper", "cell", "move", "answers", "some", "every", "at"] ["board", "stand", "paper", "cell"] (defScope st__law_spoilt) := ⟨rfl, rfl, rfl, by decide +kernel, rfl, by decide +kernel, by decide +kernel⟩
theorem sc_is_whole : FnScope ["thing", "low", "high"] ["thing", "low", "high"] (defScope st_is_whole) := ⟨rfl, rfl, rfl, by decide +kernel, rfl, by decide +kernel, by decide +kernel⟩
theorem sc_is_move : FnScope ["thing", "one"] ["thing"] (defScope st_is_move) := ⟨rfl, rfl, rfl, by decide +kernel, rfl, by decide +kernel, by decide +kernel⟩
theorem sc_is_paper : FnScope ["board", "stand", "many", "thing"] ["board", "stand", "many", "thing"] (defScope st_is_paper) := ⟨rfl, rfl, rfl, by decide +kernel, rfl, by decide +kernel, by decide +kernel⟩
theorem sc_is_answers : FnScope ["board", "stand", "many", "thing", "some", "answer", "pair"] ["board", "stand", "many", "thing"] (defScope st_is_answers) := ⟨rfl, rfl, rfl, by decide +kernel, rfl, by decide +kernel, by decide +kernel⟩
theorem sc__law_is_plain : FnScope ["thing", "one"] ["thing"] (defScope st__law_is_plain) := ⟨rfl, rfl, rfl, by decide +kernel, rfl, by decide +kernel, by decide +kernel⟩
theorem sc__law_after : FnScope ["stand", "move", "men", "left", "turn", "begin", "goal", "taken", "new", "p", "man"] ["stand", "move"] (defScope st__law_after) := ⟨rfl, rfl, rfl, by decide +kernel, rfl, by decide +kernel, by decide +kernel⟩
theorem sc__law_wins : FnScope ["board", "stand", "many", "paper", "new", "some", "pair", "one"] ["board", "stand", "many", "paper"] (defScope st__law_wins) := ⟨rfl, rfl, rfl, by decide +kernel, rfl, by decide +kernel, by decide +kernel⟩
theorem sc_law : FnScope ["script", "k", "cell", "board", "stand", "other", "many", "paper", "some", "thing", "one", "most", "due", "said", "move"] ["script"] (defScope st_law) := ⟨rfl, rfl, rfl, by decide +kernel, rfl, by decide +kernel, by decide +kernel⟩
section
variable {P : Program} {w : World} {K : PySem.W.Frag} {mg : Str → Option Value} {base : Heap}
theorem ok__law_grid_board (T : Top w K mg) : OkF P w K mg base "_law_grid_board" [] 1 f_law_grid_board :=
  okO T.d__law_grid_board sc__law_grid_board fun f cdv A outer s H E z =>
  (sCons (sLetN 0 z (xLst aNil))
  (sCons (sFor z.po z.calm (iRange1 (by rfl) T.m_range xInt) (gN 1 z) (sOne (sFor z.po z.calm (iRange2 (by rfl) T.m_range (xBin op_addB (pxE 1 (pv 1)) xInt) xInt) (gN 2 z) (sOne (sIf (tW (tOr (tCmp (op_eqB z.rm) (e2v (xBin op_subB (pxE 2 (pv 2)) (pxE 1 (pv 1)))) (e2v xInt) (nomark _)) (tOr1 (tW (tAnd (tCmp (op_eqB z.rm) (e2v (xBin op_subB (pxE 2 (pv 2)) (pxE 1 (pv 1)))) (e2v xInt) (nomark _)) (tAnd1 (tCmp op_gtB (e2v (xBin op_modB (pxE 2 (pv 2)) xInt)) (e2v xInt) (nomark _)))))))) (sOne (sAppend 0 (pv 0) (xTup (aCons (pxE 1 (pv 1)) (aCons (pxE 2 (pv 2)) aNil))))) sNil)))))
  (sCons (sLet 3 z (xTup (aCons (xTup (aCons xInt (aCons xInt (aCons xInt aNil)))) (aCons (xTup (aCons xInt (aCons xInt (aCons xInt aNil)))) (aCons (xTup (aCons xInt (aCons xInt (aCons xInt aNil)))) (aCons (xTup (aCons xInt (aCons xInt (aCons xInt aNil)))) (aCons (xTup (aCons xInt (aCons xInt (aCons xInt aNil)))) (aCons (xTup (aCons xInt (aCons xInt (aCons xInt aNil)))) aNil))))))))
  (sOne (sRet (xTup (aCons xInt (aCons (xTuple T.m_tuple (pxV 0 (pv 0))) (aCons (pxE 3 (pv 3)) aNil)))))))))
theorem ok__law_mix (T : Top w K mg) : OkF P w K mg base "_law_mix" ["cell", "prime", "many"] 1 f_law_mix :=
  okO T.d__law_mix sc__law_mix fun f cdv A outer s H E z =>
  (sCons (sLet 3 z (xBin op_modB (xBin op_mulB (pxE 0 (pv 0)) xInt) (pxE 1 (pv 1))))
  (sOne (sRet (xBin op_modB (xBin op_modB (xBin op_mulB (pxE 3 (pv 3)) (xBin op_addB (pxE 3 (pv 3)) xInt)) (pxE 1 (pv 1))) (pxE 2 (pv 2))))))
theorem ok__law_near (T : Top w K mg) : OkF P w K mg base "_law_near" ["board", "cell"] 2 f_law_near :=
  okO T.d__law_near sc__law_near fun f cdv A outer s H E z =>
  (sCons (sLc (i := 2) (own := [("point", 6)]) z.calm z.nd rfl rfl (by rfl) (iRange1 (by rfl) T.m_range (xIx (pxV 0 (pv 0)) (e2v xInt) (fun _ _ => rfl))) (blkOk_by (by kernel_rfl)) (by decide) (fun _ _ _ _ _ => (gN 6 (z.blk _ _ _ _ _))) (fun _ _ _ _ _ => tsNil) (fun _ _ _ _ _ => xNone))
  (sCons (sLet 3 z (xTup (aCons (xBin op_addB xInt (xC1 z (ok__law_mix T) (by decide) (aCons (pxE 1 (pv 1)) (aCons xInt (aCons xInt aNil))))) (aCons xInt aNil))))
  (sCons (sIf (tCmp (op_eqB z.rm) (e2v (xBin op_modB (pxE 1 (pv 1)) xInt)) (e2v xInt) (nomark _)) (sOne (sLet 3 z (xTup (aCons xInt (aCons xInt aNil))))) sNil)
  (sCons (sFor z.po z.calm (iSeqF (xTup (aCons xInt (aCons xInt aNil)))) (gN 4 z) (sOne (sFor z.po z.calm (iRange1 (by rfl) T.m_range xInt) (gN 5 z) (sCons (sLet 6 z (xC1 z (ok__law_mix T) (by decide) (aCons (xBin op_addB (xBin op_addB (pxE 1 (pv 1)) (xBin op_mulB xInt (pxE 5 (pv 5)))) (xBin op_mulB xInt (pxE 4 (pv 4)))) (aCons xInt (aCons (xIx (pxV 0 (pv 0)) (e2v xInt) (fun _ _ => rfl)) aNil)))))
  (sOne (sIf (tW (tAnd (tCmp op_isB (e2v (xIx (pxV 2 (pv 2)) (pxV 6 (pv 6)) (fun _ _ => rfl))) (e2v xNone) (nomark _)) (tAnd1 (tCmp (op_ltB z.rm) (e2v (xCount z.rm (pxV 2 (pv 2)) (pxV 4 (pv 4)))) (e2v (xIx (pxV 3 (pv 3)) (pxV 4 (pv 4)) (fun _ _ => rfl))) (nomark _))))) (sOne (sSet 2 (pxE 4 (pv 4)) (pv 2) (pxE 6 (pv 6)))) sNil))))))
  (sOne (sRet (xTup (aCons (xTuple T.m_tuple (pxV 2 (pv 2))) (aCons (xTup (aCons xInt (aCons xInt aNil))) (aCons (xBin op_modB (pxE 1 (pv 1)) xInt) aNil))))))))))
theorem ok__law_cell (T : Top w K mg) : OkF P w K mg base "_law_cell" ["script", "k"] 1 f_law_cell :=
  okO T.d__law_cell sc__law_cell fun f cdv A outer s H E z =>
  (sCons (sIf (tCmp (op_ltB z.rm) (pxV 1 (pv 1)) (e2v (xLen T.m_len (pxV 0 (pv 0)))) (nomark _)) (sOne (sRet (xIx (pxV 0 (pv 0)) (pxV 1 (pv 1)) (fun _ _ => rfl)))) sNil)
  (sOne (sRet xInt)))
theorem ok__law_drawn_board (T : Top w K mg) : OkF P w K mg base "_law_drawn_board" ["cell", "most"] 2 f_law_drawn_board :=
  okO T.d__law_drawn_board sc__law_drawn_board fun f cdv A outer s H E z =>
  (sCons (sLet 2 z (xBin op_addB xInt (xC1 z (ok__law_mix T) (by decide) (aCons (pxE 0 (pv 0)) (aCons xInt (aCons (xBin op_subB (pxE 1 (pv 1)) xInt) aNil))))))
  (sCons (sLetD 3 z)
  (sCons (sFor z.po z.calm (iRange1 (by rfl) T.m_range (xC1 z (ok__law_mix T) (by decide) (aCons (pxE 0 (pv 0)) (aCons xInt (aCons (xBin op_mulB xInt (pxE 2 (pv 2))) aNil))))) (gN 4 z) (sCons (sLet 5 z (xC1 z (ok__law_mix T) (by decide) (aCons (xBin op_addB (pxE 0 (pv 0)) (xBin op_mulB xInt (pxE 4 (pv 4)))) (aCons xInt (aCons (pxE 2 (pv 2)) aNil)))))
  (sCons (sLet 6 z (xC1 z (ok__law_mix T) (by decide) (aCons (xBin op_addB (pxE 0 (pv 0)) (xBin op_mulB xInt (pxE 4 (pv 4)))) (aCons xInt (aCons (pxE 2 (pv 2)) aNil)))))
  (sOne (sIf (tCmp (op_neB z.rm) (pxV 5 (pv 5)) (pxV 6 (pv 6)) (nomark _)) (sOne (sDSet 3 z xBool (pv 3) (xTup (aCons (xMin2 z T.m_min (pxV 5 (pv 5)) (pxV 6 (pv 6))) (aCons (xMax2 z T.m_max (pxV 5 (pv 5)) (pxV 6 (pv 6))) aNil))))) sNil)))))
  (sCons (sLetD 7 z)
  (sCons (sFor z.po z.calm (iRange1 (by rfl) T.m_range (xC1 z (ok__law_mix T) (by decide) (aCons (pxE 0 (pv 0)) (aCons xInt (aCons xInt aNil))))) (gN 4 z) (sCons (sLet 8 z (n2e (xSSet z T.m_sorted T.m_set (e2v (n2e (xLc (own := [("j", 9)]) z.calm z.nd (iRange1 (by rfl) T.m_range xInt) (blkOk_by (by kernel_rfl)) (by decide) (fun _ _ _ _ _ => (gN 9 (z.blk _ _ _ _ _))) (fun _ _ _ _ _ => tsNil) (fun _ _ _ _ _ => (xC1 (z.blk _ _ _ _ _) (ok__law_mix T) (by decide) (aCons (xBin op_addB (xBin op_addB (pxE 0 (pv 0)) (xBin op_mulB xInt (pxE 4 (pv 4)))) (pxE 9 (pv 9))) (aCons xInt (aCons (pxE 2 (pv 2)) aNil)))))))))))
  (sOne (sIf (tCmp (op_eqB z.rm) (e2v (xLen T.m_len (pxV 8 (pv 8)))) (e2v xInt) (nomark _)) (sOne (sDSet 7 z xBool (pv 7) (xTuple T.m_tuple (pxV 8 (pv 8))))) sNil))))
  (sOne (sRet (xTup (aCons (pxE 2 (pv 2)) (aCons (xTuple T.m_tuple (e2v (n2e (xSorted z T.m_sorted (pxV 3 (pv 3)))))) (aCons (xTuple T.m_tuple (e2v (n2e (xSorted z T.m_sorted (pxV 7 (pv 7)))))) aNil)))))))))))
theorem ok_points_of (T : Top w K mg) : OkF P w K mg base "points_of" ["stand", "who"] 1 fpoints_of :=
  okO T.d_points_of sc_points_of fun f cdv A outer s H E z =>
  (sOne (sRet (n2e (xLc (own := [("p", 2), ("man", 3)]) z.calm z.nd (iEnumV (by rfl) T.m_enumerate (e2v (xIx (pxV 0 (pv 0)) (e2v xInt) (fun _ _ => rfl)))) (blkOk_by (by kernel_rfl)) (by decide) (fun _ _ _ _ _ => (gT (z.blk _ _ _ _ _) (gcons_len (gcons_len gnil_len)) (gC (gN 2 (z.blk _ _ _ _ _)) (gC (gN 3 (z.blk _ _ _ _ _)) gNil')))) (fun _ _ _ _ _ => (tsOne (tCmp (op_eqB (z.blk _ _ _ _ _).rm) (pxV 3 (pv 3)) (pxV 1 (pv 1)) (nomark _)))) (fun _ _ _ _ _ => (pxE 2 (pv 2)))))))
theorem ok_count (T : Top w K mg) : OkF P w K mg base "count" ["stand", "who"] 2 fcount :=
  okO T.d_count sc_count fun f cdv A outer s H E z =>
  (sOne (sRet (xBin op_addB (xLen T.m_len (e2v (xC1 z (ok_points_of T) (by decide) (aCons (pxE 0 (pv 0)) (aCons (pxE 1 (pv 1)) aNil))))) (xIx (e2v (xIx (pxV 0 (pv 0)) (e2v xInt) (fun _ _ => rfl))) (pxV 1 (pv 1)) (fun _ _ => rfl)))))
theorem ok_neighbours (T : Top w K mg) : OkF P w K mg base "neighbours" ["board", "point"] 1 fneighbours :=
  okO T.d_neighbours sc_neighbours fun f cdv A outer s H E z =>
  (sCons (sLetN 2 z (xLst aNil))
  (sCons (sFor z.po z.calm (iSeqF (xIx (pxV 0 (pv 0)) (e2v xInt) (fun _ _ => rfl))) (gT z (gcons_len (gcons_len gnil_len)) (gC (gN 3 z) (gC (gN 4 z) gNil'))) (sCons (sIf (tCmp (op_eqB z.rm) (pxV 3 (pv 3)) (pxV 1 (pv 1)) (nomark _)) (sOne (sAppend 2 (pv 2) (pxE 4 (pv 4)))) sNil)
  (sOne (sIf (tCmp (op_eqB z.rm) (pxV 4 (pv 4)) (pxV 1 (pv 1)) (nomark _)) (sOne (sAppend 2 (pv 2) (pxE 3 (pv 3)))) sNil))))
  (sOne (sRet (pxE 2 (pv 2))))))
theorem ok_steps (T : Top w K mg) : OkF P w K mg base "steps" ["board", "stand"] 2 fsteps :=
  okO T.d_steps sc_steps fun f cdv A outer s H E z =>
  (sCons (sUnp (pxE 1 (pv 1)) (gT z (gcons_len (gcons_len (gcons_len gnil_len))) (gC (gN 2 z) (gC (gN 3 z) (gC (gN 4 z) gNil')))))
  (sCons (sLcF (sLc (i := 5) (own := [("p", 10), ("man", 11)]) z.calm z.nd rfl rfl (by rfl) (iEnumV (by rfl) T.m_enumerate (pxV 2 (pv 2))) (blkOk_by (by kernel_rfl)) (by decide) (fun _ _ _ _ _ => (gT (z.blk _ _ _ _ _) (gcons_len (gcons_len gnil_len)) (gC (gN 10 (z.blk _ _ _ _ _)) (gC (gN 11 (z.blk _ _ _ _ _)) gNil')))) (fun _ _ _ _ _ => (tsOne (tCmp op_isB (pxV 11 (pv 11)) (e2v xNone) (nomark _)))) (fun _ _ _ _ _ => (pxE 10 (pv 10)))))
  (sCons (sIf (tCmp op_gtB (e2v (xIx (pxV 3 (pv 3)) (pxV 4 (pv 4)) (fun _ _ => rfl))) (e2v xInt) (nomark _)) (sOne (sRet (n2e (xLc (own := [("goal", 12)]) z.calm z.nd (iSeqV (pxV 5 (pv 5))) (blkOk_by (by kernel_rfl)) (by decide) (fun _ _ _ _ _ => (gN 12 (z.blk _ _ _ _ _))) (fun _ _ _ _ _ => tsNil) (fun _ _ _ _ _ => (xTup (aCons (xUn un_negB xInt) (aCons (pxE 12 (pv 12)) aNil)))))))) sNil)
  (sCons (sLet 6 z (xC1 z (ok_points_of T) (by decide) (aCons (pxE 1 (pv 1)) (aCons (pxE 4 (pv 4)) aNil))))
  (sCons (sLetN 7 z (xLst aNil))
  (sCons (sFor z.po z.calm (iSeqF (pxE 6 (pv 6))) (gN 8 z) (sCons (sLet 9 z (pxE 5 (pv 5)))
  (sCons (sIf (tCmp op_gtB (e2v (xLen T.m_len (pxV 6 (pv 6)))) (e2v xInt) (nomark _)) (sOne (sLcF (sLc (i := 9) (own := [("p", 10)]) z.calm z.nd rfl rfl (by rfl) (iSeqV (e2v (xC1 z (ok_neighbours T) (by decide) (aCons (pxE 0 (pv 0)) (aCons (pxE 8 (pv 8)) aNil))))) (blkOk_by (by kernel_rfl)) (by decide) (fun _ _ _ _ _ => (gN 10 (z.blk _ _ _ _ _))) (fun _ _ _ _ _ => (tsOne (tCmp op_isB (e2v (xIx (pxV 2 (pv 2)) (pxV 10 (pv 10)) (fun _ _ => rfl))) (e2v xNone) (nomark _)))) (fun _ _ _ _ _ => (pxE 10 (pv 10)))))) sNil)
  (sOne (sExtend 7 (pv 7) (n2e (xLc (own := [("goal", 12)]) z.calm z.nd (iSeqV (pxV 9 (pv 9))) (blkOk_by (by kernel_rfl)) (by decide) (fun _ _ _ _ _ => (gN 12 (z.blk _ _ _ _ _))) (fun _ _ _ _ _ => tsNil) (fun _ _ _ _ _ => (xTup (aCons (pxE 8 (pv 8)) (aCons (pxE 12 (pv 12)) aNil)))))))))))
  (sOne (sRet (pxE 7 (pv 7))))))))))
theorem ok_winner (T : Top w K mg) : OkF P w K mg base "winner" ["board", "stand"] 3 fwinner :=
  okO T.d_winner sc_winner fun f cdv A outer s H E z =>
  (sCons (sLet 2 z (xIx (pxV 1 (pv 1)) (e2v xInt) (fun _ _ => rfl)))
  (sCons (sIf (tW (tOr (tCmp (op_ltB z.rm) (e2v (xC1 z (ok_count T) (by decide) (aCons (pxE 1 (pv 1)) (aCons (pxE 2 (pv 2)) aNil)))) (e2v xInt) (nomark _)) (tOr1 (tNot (tTru (e2v (xC1 z (ok_steps T) (by decide) (aCons (pxE 0 (pv 0)) (aCons (pxE 1 (pv 1)) aNil))))))))) (sOne (sRet (xBin op_subB xInt (pxE 2 (pv 2))))) sNil)
  (sOne (sRet xNone))))
theorem ok_full_rows (T : Top w K mg) : OkF P w K mg base "full_rows" ["board", "men", "who"] 1 ffull_rows :=
  okO T.d_full_rows sc_full_rows fun f cdv A outer s H E z =>
  (sOne (sRet (n2e (xLc (own := [("row", 3)]) z.calm z.nd (iSeqV (e2v (xIx (pxV 0 (pv 0)) (e2v xInt) (fun _ _ => rfl)))) (blkOk_by (by kernel_rfl)) (by decide) (fun _ _ _ _ _ => (gN 3 (z.blk _ _ _ _ _))) (fun _ _ _ _ _ => (tsOne (tTru (e2v (xAll (z.blk _ _ _ _ _) T.m_all (e2v (n2e (xLc (own := [("p", 4)]) (z.blk _ _ _ _ _).calm (z.blk _ _ _ _ _).nd (iSeqV (pxV 3 (pv 3))) (blkOk_by (by kernel_rfl)) (by decide) (fun _ _ _ _ _ => (gN 4 ((z.blk _ _ _ _ _).blk _ _ _ _ _))) (fun _ _ _ _ _ => tsNil) (fun _ _ _ _ _ => (xCmp (op_eqB ((z.blk _ _ _ _ _).blk _ _ _ _ _).rm) (e2v (xIx (pxV 1 (pv 1)) (pxV 4 (pv 4)) (fun _ _ => rfl))) (pxV 2 (pv 2)) (nomark _))))))))))) (fun _ _ _ _ _ => (pxE 3 (pv 3)))))))
theorem ok_takings (T : Top w K mg) : OkF P w K mg base "takings" ["board", "men", "goal", "who"] 2 ftakings :=
  okO T.d_takings sc_takings fun f cdv A outer s H E z =>
  (sCons (sIf (tNot (tTru (e2v (xAny z T.m_any (e2v (n2e (xLc (own := [("row", 9)]) z.calm z.nd (iSeqV (e2v (xC1 z (ok_full_rows T) (by decide) (aCons (pxE 0 (pv 0)) (aCons (pxE 1 (pv 1)) (aCons (pxE 3 (pv 3)) aNil)))))) (blkOk_by (by kernel_rfl)) (by decide) (fun _ _ _ _ _ => (gN 9 (z.blk _ _ _ _ _))) (fun _ _ _ _ _ => tsNil) (fun _ _ _ _ _ => (xCmp (op_inB (z.blk _ _ _ _ _).rm) (pxV 2 (pv 2)) (pxV 9 (pv 9)) (by rfl)))))))))) (sOne (sRet (n2e (xLst (aCons (xUn un_negB xInt) aNil))))) sNil)
  (sCons (sLcF (sLc (i := 4) (own := [("p", 7), ("man", 8)]) z.calm z.nd rfl rfl (by rfl) (iEnumV (by rfl) T.m_enumerate (pxV 1 (pv 1))) (blkOk_by (by kernel_rfl)) (by decide) (fun _ _ _ _ _ => (gT (z.blk _ _ _ _ _) (gcons_len (gcons_len gnil_len)) (gC (gN 7 (z.blk _ _ _ _ _)) (gC (gN 8 (z.blk _ _ _ _ _)) gNil')))) (fun _ _ _ _ _ => (tsOne (tCmp (op_eqB (z.blk _ _ _ _ _).rm) (pxV 8 (pv 8)) (e2v (xBin op_subB xInt (pxE 3 (pv 3)))) (nomark _)))) (fun _ _ _ _ _ => (pxE 7 (pv 7)))))
  (sCons (sLet 5 z (xC1 z (ok_full_rows T) (by decide) (aCons (pxE 0 (pv 0)) (aCons (pxE 1 (pv 1)) (aCons (xBin op_subB xInt (pxE 3 (pv 3))) aNil)))))
  (sCons (sLcF (sLc (i := 6) (own := [("p", 7)]) z.calm z.nd rfl rfl (by rfl) (iSeqV (pxV 4 (pv 4))) (blkOk_by (by kernel_rfl)) (by decide) (fun _ _ _ _ _ => (gN 7 (z.blk _ _ _ _ _))) (fun _ _ _ _ _ => (tsOne (tNot (tTru (e2v (xAny (z.blk _ _ _ _ _) T.m_any (e2v (n2e (xLc (own := [("row", 9)]) (z.blk _ _ _ _ _).calm (z.blk _ _ _ _ _).nd (iSeqV (pxV 5 (pv 5))) (blkOk_by (by kernel_rfl)) (by decide) (fun _ _ _ _ _ => (gN 9 ((z.blk _ _ _ _ _).blk _ _ _ _ _))) (fun _ _ _ _ _ => tsNil) (fun _ _ _ _ _ => (xCmp (op_inB ((z.blk _ _ _ _ _).blk _ _ _ _ _).rm) (pxV 7 (pv 7)) (pxV 9 (pv 9)) (by rfl)))))))))))) (fun _ _ _ _ _ => (pxE 7 (pv 7)))))
  (sOne (sRet (xOr (pxE 6 (pv 6)) (xOr (pxE 4 (pv 4)) (xOne (n2e (xLst (aCons (xUn un_negB xInt) aNil))))))))))))
theorem ok_with_step (T : Top w K mg) : OkF P w K mg base "with_step" ["men", "begin", "goal", "who"] 1 fwith_step :=
  okO T.d_with_step sc_with_step fun f cdv A outer s H E z =>
  (sCons (sLetN 4 z (xList T.m_list (pxV 0 (pv 0))))
  (sCons (sIf (tCmp op_geB (pxV 1 (pv 1)) (e2v xInt) (nomark _)) (sOne (sSet 4 xNone (pv 4) (pxE 1 (pv 1)))) sNil)
  (sCons (sSet 4 (pxE 3 (pv 3)) (pv 4) (pxE 2 (pv 2)))
  (sOne (sRet (xTuple T.m_tuple (pxV 4 (pv 4))))))))
theorem ok_all_moves (T : Top w K mg) : OkF P w K mg base "all_moves" ["board", "stand"] 3 fall_moves :=
  okO T.d_all_moves sc_all_moves fun f cdv A outer s H E z =>
  (sCons (sUnp (pxE 1 (pv 1)) (gT z (gcons_len (gcons_len (gcons_len gnil_len))) (gC (gN 2 z) (gC (gN 3 z) (gC (gN 4 z) gNil')))))
  (sCons (sLetN 5 z (xLst aNil))
  (sCons (sFor z.po z.calm (iSeqF (xC1 z (ok_steps T) (by decide) (aCons (pxE 0 (pv 0)) (aCons (pxE 1 (pv 1)) aNil)))) (gT z (gcons_len (gcons_len gnil_len)) (gC (gN 6 z) (gC (gN 7 z) gNil'))) (sCons (sLet 8 z (xC1 z (ok_takings T) (by decide) (aCons (pxE 0 (pv 0)) (aCons (xC1 z (ok_with_step T) (by decide) (aCons (pxE 2 (pv 2)) (aCons (pxE 6 (pv 6)) (aCons (pxE 7 (pv 7)) (aCons (pxE 4 (pv 4)) aNil))))) (aCons (pxE 7 (pv 7)) (aCons (pxE 4 (pv 4)) aNil))))))
  (sOne (sExtend 5 (pv 5) (n2e (xLc (own := [("one", 9)]) z.calm z.nd (iSeqV (pxV 8 (pv 8))) (blkOk_by (by kernel_rfl)) (by decide) (fun _ _ _ _ _ => (gN 9 (z.blk _ _ _ _ _))) (fun _ _ _ _ _ => tsNil) (fun _ _ _ _ _ => (xTup (aCons (pxE 6 (pv 6)) (aCons (pxE 7 (pv 7)) (aCons (pxE 9 (pv 9)) aNil)))))))))))
  (sOne (sRet (pxE 5 (pv 5)))))))
theorem ok_moves (T : Top w K mg) : OkF P w K mg base "moves" ["board", "stand"] 4 fmoves :=
  okO T.d_moves sc_moves fun f cdv A outer s H E z =>
  (sCons (sIf (tCmp op_isNotB (e2v (xC1 z (ok_winner T) (by decide) (aCons (pxE 0 (pv 0)) (aCons (pxE 1 (pv 1)) aNil)))) (e2v xNone) (nomark _)) (sOne (sRet (xTup aNil))) sNil)
  (sOne (sRet (xTuple T.m_tuple (e2v (n2e (xSorted z T.m_sorted (e2v (xC1 z (ok_all_moves T) (by decide) (aCons (pxE 0 (pv 0)) (aCons (pxE 1 (pv 1)) aNil)))))))))))
theorem ok_done (T : Top w K mg) : OkF P w K mg base "done" ["stand", "move"] 2 fdone :=
  okO T.d_done sc_done fun f cdv A outer s H E z =>
  (sCons (sUnp (pxE 0 (pv 0)) (gT z (gcons_len (gcons_len (gcons_len gnil_len))) (gC (gN 2 z) (gC (gN 3 z) (gC (gN 4 z) gNil')))))
  (sCons (sUnp (pxE 1 (pv 1)) (gT z (gcons_len (gcons_len (gcons_len gnil_len))) (gC (gN 5 z) (gC (gN 6 z) (gC (gN 7 z) gNil')))))
  (sCons (sLetN 8 z (xList T.m_list (e2v (xC1 z (ok_with_step T) (by decide) (aCons (pxE 2 (pv 2)) (aCons (pxE 5 (pv 5)) (aCons (pxE 6 (pv 6)) (aCons (pxE 4 (pv 4)) aNil))))))))
  (sCons (sIf (tCmp op_geB (pxV 7 (pv 7)) (e2v xInt) (nomark _)) (sOne (sSet 8 xNone (pv 8) (pxE 7 (pv 7)))) sNil)
  (sCons (sIf (tCmp (op_ltB z.rm) (pxV 5 (pv 5)) (e2v xInt) (nomark _)) (sCons (sLetN 9 z (xLst (aCons (xIx (pxV 3 (pv 3)) (e2v xInt) (fun _ _ => rfl)) (aCons (xIx (pxV 3 (pv 3)) (e2v xInt) (fun _ _ => rfl)) aNil))))
  (sCons (sSet 9 (xBin op_subB (xIx (pxV 9 (pv 9)) (pxV 4 (pv 4)) (fun _ _ => rfl)) xInt) (pv 9) (pxE 4 (pv 4)))
  (sOne (sLet 3 z (xTuple T.m_tuple (pxV 9 (pv 9))))))) sNil)
  (sOne (sRet (xTup (aCons (xTuple T.m_tuple (pxV 8 (pv 8))) (aCons (pxE 3 (pv 3)) (aCons (xBin op_subB xInt (pxE 4 (pv 4))) aNil)))))))))))
theorem step_forced (T : Top w K mg) (n : Nat) {Fanswers_to : List D → R D} (Ganswers_to : OkF P w K mg base "answers_to" ["board", "stand", "many"] (4 + n) Fanswers_to) : OkF P w K mg base "forced" ["board", "stand", "many"] (4 + n + 1) (runD 5 (bforced Fanswers_to)) :=
  okO T.d_forced sc_forced fun f cdv A outer s H E z =>
  (sCons (sIf (tCmp (op_ltB z.rm) (pxV 2 (pv 2)) (e2v xInt) (nomark _)) (sOne (sRet xNone)) sNil)
  (sCons (sFor z.po z.calm (iSeqF (xC1 z (ok_moves T) (by omega) (aCons (pxE 0 (pv 0)) (aCons (pxE 1 (pv 1)) aNil)))) (gN 3 z) (sCons (sLet 4 z (xC1 z Ganswers_to (by omega) (aCons (pxE 0 (pv 0)) (aCons (xC1 z (ok_done T) (by omega) (aCons (pxE 1 (pv 1)) (aCons (pxE 3 (pv 3)) aNil))) (aCons (xBin op_subB (pxE 2 (pv 2)) xInt) aNil)))))
  (sOne (sIf (tCmp op_isNotB (pxV 4 (pv 4)) (e2v xNone) (nomark _)) (sOne (sRet (xTup (aCons (pxE 3 (pv 3)) (aCons (pxE 4 (pv 4)) aNil))))) sNil))))
  (sOne (sRet xNone))))
theorem step_answers_to (T : Top w K mg) (n : Nat) {Fforced : List D → R D} (Gforced : OkF P w K mg base "forced" ["board", "stand", "many"] (4 + n) Fforced) : OkF P w K mg base "answers_to" ["board", "stand", "many"] (4 + n + 1) (runD 6 (banswers_to Fforced)) :=
  okO T.d_answers_to sc_answers_to fun f cdv A outer s H E z =>
  (sCons (sIf (tCmp op_isNotB (e2v (xC1 z (ok_winner T) (by omega) (aCons (pxE 0 (pv 0)) (aCons (pxE 1 (pv 1)) aNil)))) (e2v xNone) (nomark _)) (sOne (sRet (xTup aNil))) sNil)
  (sCons (sLetN 3 z (xLst aNil))
  (sCons (sFor z.po z.calm (iSeqF (xC1 z (ok_moves T) (by omega) (aCons (pxE 0 (pv 0)) (aCons (pxE 1 (pv 1)) aNil)))) (gN 4 z) (sCons (sLet 5 z (xC1 z Gforced (by omega) (aCons (pxE 0 (pv 0)) (aCons (xC1 z (ok_done T) (by omega) (aCons (pxE 1 (pv 1)) (aCons (pxE 4 (pv 4)) aNil))) (aCons (pxE 2 (pv 2)) aNil)))))
  (sCons (sIf (tCmp op_isB (pxV 5 (pv 5)) (e2v xNone) (nomark _)) (sOne (sRet xNone)) sNil)
  (sOne (sAppend 3 (pv 3) (xTup (aCons (pxE 4 (pv 4)) (aCons (pxE 5 (pv 5)) aNil))))))))
  (sOne (sRet (xTuple T.m_tuple (pxV 3 (pv 3))))))))
theorem fam_forced (T : Top w K mg) : ∀ n : Nat, OkF P w K mg base "forced" ["board", "stand", "many"] (4 + n) (fforced n) ∧ OkF P w K mg base "answers_to" ["board", "stand", "many"] (4 + n) (fanswers_to n)
  | 0 => ⟨okBad T.d_forced, okBad T.d_answers_to⟩
  | n + 1 => ⟨step_forced T n (fam_forced T n).2, step_answers_to T n (fam_forced T n).1⟩
theorem ok_forced (T : Top w K mg) (n : Nat) : OkF P w K mg base "forced" ["board", "stand", "many"] (4 + n) (fforced n) := (fam_forced T n).1
theorem ok_answers_to (T : Top w K mg) (n : Nat) : OkF P w K mg base "answers_to" ["board", "stand", "many"] (4 + n) (fanswers_to n) := (fam_forced T n).2
theorem ok__law_steps (T : Top w K mg) : OkF P w K mg base "_law_steps" ["board", "stand"] 1 f_law_steps :=
  okO T.d__law_steps sc__law_steps fun f cdv A outer s H E z =>
  (sCons (sUnp (pxE 1 (pv 1)) (gT z (gcons_len (gcons_len (gcons_len gnil_len))) (gC (gN 2 z) (gC (gN 3 z) (gC (gN 4 z) gNil')))))
  (sCons (sLcF (sLc (i := 5) (own := [("p", 10)]) z.calm z.nd rfl rfl (by rfl) (iRange1 (by rfl) T.m_range (xIx (pxV 0 (pv 0)) (e2v xInt) (fun _ _ => rfl))) (blkOk_by (by kernel_rfl)) (by decide) (fun _ _ _ _ _ => (gN 10 (z.blk _ _ _ _ _))) (fun _ _ _ _ _ => (tsOne (tCmp op_isB (e2v (xIx (pxV 2 (pv 2)) (pxV 10 (pv 10)) (fun _ _ => rfl))) (e2v xNone) (nomark _)))) (fun _ _ _ _ _ => (pxE 10 (pv 10)))))
  (sCons (sIf (tCmp op_gtB (e2v (xIx (pxV 3 (pv 3)) (pxV 4 (pv 4)) (fun _ _ => rfl))) (e2v xInt) (nomark _)) (sOne (sRet (n2e (xLc (own := [("goal", 9)]) z.calm z.nd (iSeqV (pxV 5 (pv 5))) (blkOk_by (by kernel_rfl)) (by decide) (fun _ _ _ _ _ => (gN 9 (z.blk _ _ _ _ _))) (fun _ _ _ _ _ => tsNil) (fun _ _ _ _ _ => (xTup (aCons (xUn un_negB xInt) (aCons (pxE 9 (pv 9)) aNil)))))))) sNil)
  (sCons (sLcF (sLc (i := 6) (own := [("p", 10)]) z.calm z.nd rfl rfl (by rfl) (iRange1 (by rfl) T.m_range (xIx (pxV 0 (pv 0)) (e2v xInt) (fun _ _ => rfl))) (blkOk_by (by kernel_rfl)) (by decide) (fun _ _ _ _ _ => (gN 10 (z.blk _ _ _ _ _))) (fun _ _ _ _ _ => (tsOne (tCmp (op_eqB (z.blk _ _ _ _ _).rm) (e2v (xIx (pxV 2 (pv 2)) (pxV 10 (pv 10)) (fun _ _ => rfl))) (pxV 4 (pv 4)) (nomark _)))) (fun _ _ _ _ _ => (pxE 10 (pv 10)))))
  (sCons (sLetN 7 z (xLst aNil))
  (sCons (sFor z.po z.calm (iSeqF (pxE 6 (pv 6))) (gN 8 z) (sOne (sFor z.po z.calm (iSeqF (pxE 5 (pv 5))) (gN 9 z) (sOne (sIf (tW (tOr (tCmp (op_ltB z.rm) (e2v (xLen T.m_len (pxV 6 (pv 6)))) (e2v xInt) (nomark _)) (tOr1 (tCmp (op_inB z.rm) (e2v (xTup (aCons (xMin2 z T.m_min (pxV 8 (pv 8)) (pxV 9 (pv 9))) (aCons (xMax2 z T.m_max (pxV 8 (pv 8)) (pxV 9 (pv 9))) aNil)))) (e2v (xIx (pxV 0 (pv 0)) (e2v xInt) (fun _ _ => rfl))) (by rfl))))) (sOne (sAppend 7 (pv 7) (xTup (aCons (pxE 8 (pv 8)) (aCons (pxE 9 (pv 9)) aNil))))) sNil)))))
  (sOne (sRet (pxE 7 (pv 7))))))))))
theorem ok__law_winner (T : Top w K mg) : OkF P w K mg base "_law_winner" ["board", "stand"] 2 f_law_winner :=
  okO T.d__law_winner sc__law_winner fun f cdv A outer s H E z =>
  (sCons (sUnp (pxE 1 (pv 1)) (gT z (gcons_len (gcons_len (gcons_len gnil_len))) (gC (gN 2 z) (gC (gN 3 z) (gC (gN 4 z) gNil')))))
  (sCons (sIf (tW (tOr (tCmp (op_ltB z.rm) (e2v (xBin op_addB (xCount z.rm (pxV 2 (pv 2)) (pxV 4 (pv 4))) (xIx (pxV 3 (pv 3)) (pxV 4 (pv 4)) (fun _ _ => rfl)))) (e2v xInt) (nomark _)) (tOr1 (tNot (tTru (e2v (xC1 z (ok__law_steps T) (by decide) (aCons (pxE 0 (pv 0)) (aCons (pxE 1 (pv 1)) aNil))))))))) (sOne (sRet (xBin op_subB xInt (pxE 4 (pv 4))))) sNil)
  (sOne (sRet xNone))))
theorem ok__law_rows_of (T : Top w K mg) : OkF P w K mg base "_law_rows_of" ["board", "men", "who"] 1 f_law_rows_of :=
  okO T.d__law_rows_of sc__law_rows_of fun f cdv A outer s H E z =>
  (sOne (sRet (n2e (xLc (own := [("row", 3)]) z.calm z.nd (iSeqV (e2v (xIx (pxV 0 (pv 0)) (e2v xInt) (fun _ _ => rfl)))) (blkOk_by (by kernel_rfl)) (by decide) (fun _ _ _ _ _ => (gN 3 (z.blk _ _ _ _ _))) (fun _ _ _ _ _ => (tsOne (tCmp (op_eqB (z.blk _ _ _ _ _).rm) (e2v (n2e (xLc (own := [("p", 4)]) (z.blk _ _ _ _ _).calm (z.blk _ _ _ _ _).nd (iSeqV (pxV 3 (pv 3))) (blkOk_by (by kernel_rfl)) (by decide) (fun _ _ _ _ _ => (gN 4 ((z.blk _ _ _ _ _).blk _ _ _ _ _))) (fun _ _ _ _ _ => tsNil) (fun _ _ _ _ _ => (xIx (pxV 1 (pv 1)) (pxV 4 (pv 4)) (fun _ _ => rfl)))))) (e2v (n2e (xLst (aCons (pxE 2 (pv 2)) (aCons (pxE 2 (pv 2)) (aCons (pxE 2 (pv 2)) aNil)))))) (nomark _)))) (fun _ _ _ _ _ => (pxE 3 (pv 3)))))))
theorem ok__law_moves (T : Top w K mg) : OkF P w K mg base "_law_moves" ["board", "stand"] 3 f_law_moves :=
  okO T.d__law_moves sc__law_moves fun f cdv A outer s H E z =>
  (sCons (sUnp (pxE 1 (pv 1)) (gT z (gcons_len (gcons_len (gcons_len gnil_len))) (gC (gN 2 z) (gC (gN 3 z) (gC (gN 4 z) gNil')))))
  (sCons (sIf (tCmp op_isNotB (e2v (xC1 z (ok__law_winner T) (by decide) (aCons (pxE 0 (pv 0)) (aCons (pxE 1 (pv 1)) aNil)))) (e2v xNone) (nomark _)) (sOne (sRet (xTup aNil))) sNil)
  (sCons (sLetN 5 z (xLst aNil))
  (sCons (sFor z.po z.calm (iSeqF (xC1 z (ok__law_steps T) (by decide) (aCons (pxE 0 (pv 0)) (aCons (pxE 1 (pv 1)) aNil)))) (gT z (gcons_len (gcons_len gnil_len)) (gC (gN 6 z) (gC (gN 7 z) gNil'))) (sCons (sLetN 8 z (xLc (own := [("p", 14), ("man", 15)]) z.calm z.nd (iEnumV (by rfl) T.m_enumerate (pxV 2 (pv 2))) (blkOk_by (by kernel_rfl)) (by decide) (fun _ _ _ _ _ => (gT (z.blk _ _ _ _ _) (gcons_len (gcons_len gnil_len)) (gC (gN 14 (z.blk _ _ _ _ _)) (gC (gN 15 (z.blk _ _ _ _ _)) gNil')))) (fun _ _ _ _ _ => tsNil) (fun _ _ _ _ _ => (xIf (tCmp (op_eqB (z.blk _ _ _ _ _).rm) (pxV 14 (pv 14)) (pxV 6 (pv 6)) (nomark _)) xNone (pxE 15 (pv 15))))))
  (sCons (sSet 8 (pxE 4 (pv 4)) (pv 8) (pxE 7 (pv 7)))
  (sCons (sLet 9 z (n2e (xLst (aCons (xUn un_negB xInt) aNil))))
  (sCons (sFz 8 (sIf (tTru (e2v (n2e (xLc (own := [("row", 11)]) z.calm z.nd (iSeqV (e2v (xC1 z (ok__law_rows_of T) (by decide) (aCons (pxE 0 (pv 0)) (aCons (pxE 8 (pv 8)) (aCons (pxE 4 (pv 4)) aNil)))))) (blkOk_by (by kernel_rfl)) (by decide) (fun _ _ _ _ _ => (gN 11 (z.blk _ _ _ _ _))) (fun _ _ _ _ _ => (tsOne (tCmp (op_inB (z.blk _ _ _ _ _).rm) (pxV 7 (pv 7)) (pxV 11 (pv 11)) (by rfl)))) (fun _ _ _ _ _ => (pxE 11 (pv 11))))))) (sCons (sLetN 10 z (xLst aNil))
  (sCons (sFor z.po z.calm (iSeqF (xC1 z (ok__law_rows_of T) (by decide) (aCons (pxE 0 (pv 0)) (aCons (pxE 8 (pv 8)) (aCons (xBin op_subB xInt (pxE 4 (pv 4))) aNil))))) (gN 11 z) (sOne (sExtend 10 (pv 10) (pxE 11 (pv 11)))))
  (sCons (sLcF (sLc (i := 12) (own := [("p", 14)]) z.calm z.nd rfl rfl (by rfl) (iRange1 (by rfl) T.m_range (xIx (pxV 0 (pv 0)) (e2v xInt) (fun _ _ => rfl))) (blkOk_by (by kernel_rfl)) (by decide) (fun _ _ _ _ _ => (gN 14 (z.blk _ _ _ _ _))) (fun _ _ _ _ _ => (tsOne (tCmp (op_eqB (z.blk _ _ _ _ _).rm) (e2v (xIx (pxV 8 (pv 8)) (pxV 14 (pv 14)) (fun _ _ => rfl))) (e2v (xBin op_subB xInt (pxE 4 (pv 4)))) (nomark _)))) (fun _ _ _ _ _ => (pxE 14 (pv 14)))))
  (sCons (sLcF (sLc (i := 13) (own := [("p", 14)]) z.calm z.nd rfl rfl (by rfl) (iSeqV (pxV 12 (pv 12))) (blkOk_by (by kernel_rfl)) (by decide) (fun _ _ _ _ _ => (gN 14 (z.blk _ _ _ _ _))) (fun _ _ _ _ _ => (tsOne (tCmp (op_notInB (z.blk _ _ _ _ _).rm) (pxV 14 (pv 14)) (pxV 10 (pv 10)) (by rfl)))) (fun _ _ _ _ _ => (pxE 14 (pv 14)))))
  (sOne (sIf (tTru (pxV 13 (pv 13))) (sOne (sLet 9 z (pxE 13 (pv 13)))) (sOne (sIf (tTru (pxV 12 (pv 12))) (sOne (sLet 9 z (pxE 12 (pv 12)))) sNil)))))))) sNil))
  (sOne (sExtend 5 (pv 5) (n2e (xLc (own := [("one", 16)]) z.calm z.nd (iSeqV (pxV 9 (pv 9))) (blkOk_by (by kernel_rfl)) (by decide) (fun _ _ _ _ _ => (gN 16 (z.blk _ _ _ _ _))) (fun _ _ _ _ _ => tsNil) (fun _ _ _ _ _ => (xTup (aCons (pxE 6 (pv 6)) (aCons (pxE 7 (pv 7)) (aCons (pxE 16 (pv 16)) aNil))))))))))))))
  (sOne (sRet (xTuple T.m_tuple (e2v (n2e (xSorted z T.m_sorted (pxV 5 (pv 5))))))))))))
theorem ok__law_spoilt (T : Top w K mg) : OkF P w K mg base "_law_spoilt" ["board", "stand", "paper", "cell"] 4 f_law_spoilt :=
  okO T.d__law_spoilt sc__law_spoilt fun f cdv A outer s H E z =>
  (sCons (sUnp (pxE 2 (pv 2)) (gT z (gcons_len (gcons_len gnil_len)) (gC (gN 4 z) (gC (gN 5 z) gNil'))))
  (sCons (sLetN 6 z (xLst (aCons xNone (aCons (xTup aNil) (aCons (xTup (aCons (pxE 4 (pv 4)) aNil)) (aCons (xTup (aCons (pxE 4 (pv 4)) (aCons (pxE 5 (pv 5)) (aCons xInt aNil)))) aNil))))))
  (sCons (sLetN 6 z (xAddN (pxV 6 (pv 6)) (e2v (n2e (xLst (aCons (n2e (xLst (aCons (pxE 4 (pv 4)) (aCons (pxE 5 (pv 5)) aNil)))) (aCons (xTup (aCons (n2e (xList T.m_list (pxV 4 (pv 4)))) (aCons (pxE 5 (pv 5)) aNil))) (aCons (xTup (aCons (pxE 4 (pv 4)) (aCons (n2e (xList T.m_list (pxV 5 (pv 5)))) aNil))) (aCons (xTup (aCons (pxE 5 (pv 5)) (aCons (pxE 4 (pv 4)) aNil))) aNil)))))))))
  (sCons (sLet 7 z (xC1 z (ok__law_moves T) (by decide) (aCons (pxE 0 (pv 0)) (aCons (pxE 1 (pv 1)) aNil))))
  (sCons (sLetN 6 z (xAddN (pxV 6 (pv 6)) (e2v (n2e (xLst (aCons (xTup (aCons (xIx (pxV 7 (pv 7)) (e2v (xC1 z (ok__law_mix T) (by decide) (aCons (pxE 3 (pv 3)) (aCons xInt (aCons (xLen T.m_len (pxV 7 (pv 7))) aNil))))) (fun _ _ => rfl)) (aCons (pxE 5 (pv 5)) aNil))) (aCons (xTup (aCons (pxE 4 (pv 4)) (aCons xNone aNil))) (aCons (xTup (aCons (pxE 4 (pv 4)) (aCons (xBin op_addB (pxE 5 (pv 5)) (xTup (aCons xInt aNil))) aNil))) aNil))))))))
  (sCons (sLetN 6 z (xAddN (pxV 6 (pv 6)) (e2v (n2e (xLst (aCons (xTup (aCons xNone (aCons (pxE 5 (pv 5)) aNil))) (aCons xInt aNil)))))))
  (sCons (sLetN 6 z (xAddN (pxV 6 (pv 6)) (e2v (n2e (xLst (aCons (xTup (aCons (xTup (aCons (xIx (pxV 4 (pv 4)) (e2v xInt) (fun _ _ => rfl)) (aCons (xIx (pxV 4 (pv 4)) (e2v xInt) (fun _ _ => rfl)) (aCons (xBin op_subB (xIx (pxV 4 (pv 4)) (e2v xInt) (fun _ _ => rfl)) xInt) aNil)))) (aCons (pxE 5 (pv 5)) aNil))) (aCons (xTup (aCons (xTup (aCons (xIx (pxV 4 (pv 4)) (e2v xInt) (fun _ _ => rfl)) (aCons xBool (aCons (xIx (pxV 4 (pv 4)) (e2v xInt) (fun _ _ => rfl)) aNil)))) (aCons (pxE 5 (pv 5)) aNil))) aNil)))))))
  (sCons (sLetN 6 z (xAddN (pxV 6 (pv 6)) (e2v (n2e (xLst (aCons (xTup (aCons (pxE 4 (pv 4)) (aCons (xTup (aCons (xTup (aCons (xTup (aCons xInt (aCons xInt (aCons xInt aNil)))) (aCons (xTup aNil) aNil))) aNil)) aNil))) aNil))))))
  (sCons (sIf (tTru (pxV 5 (pv 5))) (sCons (sLet 8 z (xC1 z (ok__law_mix T) (by decide) (aCons (pxE 3 (pv 3)) (aCons xInt (aCons (xLen T.m_len (pxV 5 (pv 5))) aNil)))))
  (sCons (sLetN 6 z (xAddN (pxV 6 (pv 6)) (e2v (n2e (xLst (aCons (xTup (aCons (pxE 4 (pv 4)) (aCons (xTup aNil) aNil))) (aCons (xTup (aCons (pxE 4 (pv 4)) (aCons (xSl (pxV 5 (pv 5)) (oSome xInt) oNone) aNil))) aNil)))))))
  (sCons (sLetN 6 z (xAddN (pxV 6 (pv 6)) (e2v (n2e (xLst (aCons (xTup (aCons (pxE 4 (pv 4)) (aCons (xBin op_addB (xSl (pxV 5 (pv 5)) oNone (oSome (pxE 8 (pv 8)))) (xSl (pxV 5 (pv 5)) (oSome (xBin op_addB (pxE 8 (pv 8)) xInt)) oNone)) aNil))) (aCons (xTup (aCons (pxE 4 (pv 4)) (aCons (xRev (pxV 5 (pv 5))) aNil))) aNil)))))))
  (sCons (sLetN 6 z (xAddN (pxV 6 (pv 6)) (e2v (n2e (xLst (aCons (xTup (aCons (pxE 4 (pv 4)) (aCons (xBin op_addB (xSl (pxV 5 (pv 5)) oNone (oSome (xBin op_addB (pxE 8 (pv 8)) xInt))) (xSl (pxV 5 (pv 5)) (oSome (pxE 8 (pv 8))) oNone)) aNil))) aNil))))))
  (sCons (sLetN 6 z (xAddN (pxV 6 (pv 6)) (e2v (n2e (xLst (aCons (xTup (aCons (pxE 4 (pv 4)) (aCons (xBin op_addB (xBin op_addB (xSl (pxV 5 (pv 5)) oNone (oSome (pxE 8 (pv 8)))) (xTup (aCons (xTup (aCons (xIx (e2v (xIx (pxV 5 (pv 5)) (pxV 8 (pv 8)) (fun _ _ => rfl))) (e2v xInt) (fun _ _ => rfl)) (aCons xNone aNil))) aNil))) (xSl (pxV 5 (pv 5)) (oSome (xBin op_addB (pxE 8 (pv 8)) xInt)) oNone)) aNil))) aNil))))))
  (sCons (sAppend 6 (pv 6) (xTup (aCons (pxE 4 (pv 4)) (aCons (xBin op_addB (xBin op_addB (xSl (pxV 5 (pv 5)) oNone (oSome (pxE 8 (pv 8)))) (xTup (aCons (n2e (xList T.m_list (e2v (xIx (pxV 5 (pv 5)) (pxV 8 (pv 8)) (fun _ _ => rfl))))) aNil))) (xSl (pxV 5 (pv 5)) (oSome (xBin op_addB (pxE 8 (pv 8)) xInt)) oNone)) aNil))))
  (sOne (sAppend 6 (pv 6) (xTup (aCons (pxE 4 (pv 4)) (aCons (xBin op_addB (xBin op_addB (xSl (pxV 5 (pv 5)) oNone (oSome (pxE 8 (pv 8)))) (xTup (aCons (xBin op_addB (xIx (pxV 5 (pv 5)) (pxV 8 (pv 8)) (fun _ _ => rfl)) (xTup (aCons xInt aNil))) aNil))) (xSl (pxV 5 (pv 5)) (oSome (xBin op_addB (pxE 8 (pv 8)) xInt)) oNone)) aNil))))))))))) sNil)
  (sOne (sRet (pxE 6 (pv 6)))))))))))))
theorem ok_is_whole (T : Top w K mg) : OkF P w K mg base "is_whole" ["thing", "low", "high"] 1 fis_whole :=
  okO T.d_is_whole sc_is_whole fun f cdv A outer s H E z =>
  (sOne (sRet (xAnd (xIsi (T := "int") (by rfl) T.m_isinstance bt_isinstance (by rfl) T.m_int bt_int (pxV 0 (pv 0))) (xAnd (xNot (e2v (xIsi (T := "bool") (by rfl) T.m_isinstance bt_isinstance (by rfl) T.m_bool bt_bool (pxV 0 (pv 0))))) (xOne (xChn op_leB op_leB (pxV 1 (pv 1)) (pxV 0 (pv 0)) (pxV 2 (pv 2))))))))
theorem ok_is_move (T : Top w K mg) : OkF P w K mg base "is_move" ["thing"] 2 fis_move :=
  okO T.d_is_move sc_is_move fun f cdv A outer s H E z =>
  (sOne (sRet (xAnd (xIsi (T := "tuple") (by rfl) T.m_isinstance bt_isinstance (by rfl) T.m_tuple bt_tuple (pxV 0 (pv 0))) (xAnd (xCmp (op_eqB z.rm) (e2v (xLen T.m_len (pxV 0 (pv 0)))) (e2v xInt) (nomark _)) (xOne (xAll z T.m_all (e2v (n2e (xLc (own := [("one", 1)]) z.calm z.nd (iSeqV (pxV 0 (pv 0))) (blkOk_by (by kernel_rfl)) (by decide) (fun _ _ _ _ _ => (gN 1 (z.blk _ _ _ _ _))) (fun _ _ _ _ _ => tsNil) (fun _ _ _ _ _ => (xC1 (z.blk _ _ _ _ _) (ok_is_whole T) (by decide) (aCons (pxE 1 (pv 1)) (aCons (xUn un_negB xInt) (aCons xInt aNil))))))))))))))
theorem step_is_paper (T : Top w K mg) (n : Nat) {Fis_answers : List D → R D} (Gis_answers : OkF P w K mg base "is_answers" ["board", "stand", "many", "thing"] (4 + n) Fis_answers) : OkF P w K mg base "is_paper" ["board", "stand", "many", "thing"] (4 + n + 1) (runD 4 (bis_paper Fis_answers)) :=
  okO T.d_is_paper sc_is_paper fun f cdv A outer s H E z =>
  (sCons (sIf (tW (tOr (tCmp (op_ltB z.rm) (pxV 2 (pv 2)) (e2v xInt) (nomark _)) (tOr (tNot (tTru (e2v (xIsi (T := "tuple") (by rfl) T.m_isinstance bt_isinstance (by rfl) T.m_tuple bt_tuple (pxV 3 (pv 3)))))) (tOr (tCmp (op_neB z.rm) (e2v (xLen T.m_len (pxV 3 (pv 3)))) (e2v xInt) (nomark _)) (tOr1 (tNot (tTru (e2v (xC1 z (ok_is_move T) (by omega) (aCons (xIx (pxV 3 (pv 3)) (e2v xInt) (fun _ _ => rfl)) aNil)))))))))) (sOne (sRet xBool)) sNil)
  (sCons (sIf (tCmp (op_notInB z.rm) (e2v (xIx (pxV 3 (pv 3)) (e2v xInt) (fun _ _ => rfl))) (e2v (xC1 z (ok_moves T) (by omega) (aCons (pxE 0 (pv 0)) (aCons (pxE 1 (pv 1)) aNil)))) (by rfl)) (sOne (sRet xBool)) sNil)
  (sOne (sRet (xC1 z Gis_answers (by omega) (aCons (pxE 0 (pv 0)) (aCons (xC1 z (ok_done T) (by omega) (aCons (pxE 1 (pv 1)) (aCons (xIx (pxV 3 (pv 3)) (e2v xInt) (fun _ _ => rfl)) aNil))) (aCons (xBin op_subB (pxE 2 (pv 2)) xInt) (aCons (xIx (pxV 3 (pv 3)) (e2v xInt) (fun _ _ => rfl)) aNil)))))))))
theorem step_is_answers (T : Top w K mg) (n : Nat) {Fis_paper : List D → R D} (Gis_paper : OkF P w K mg base "is_paper" ["board", "stand", "many", "thing"] (4 + n) Fis_paper) : OkF P w K mg base "is_answers" ["board", "stand", "many", "thing"] (4 + n + 1) (runD 7 (bis_answers Fis_paper)) :=
  okO T.d_is_answers sc_is_answers fun f cdv A outer s H E z =>
  (sCons (sIf (tNot (tTru (e2v (xIsi (T := "tuple") (by rfl) T.m_isinstance bt_isinstance (by rfl) T.m_tuple bt_tuple (pxV 3 (pv 3)))))) (sOne (sRet xBool)) sNil)
  (sCons (sIf (tCmp op_isNotB (e2v (xC1 z (ok_winner T) (by omega) (aCons (pxE 0 (pv 0)) (aCons (pxE 1 (pv 1)) aNil)))) (e2v xNone) (nomark _)) (sOne (sRet (xCmp (op_eqB z.rm) (pxV 3 (pv 3)) (e2v (xTup aNil)) (nomark _)))) sNil)
  (sCons (sLet 4 z (xC1 z (ok_moves T) (by omega) (aCons (pxE 0 (pv 0)) (aCons (pxE 1 (pv 1)) aNil))))
  (sCons (sIf (tCmp (op_neB z.rm) (e2v (xLen T.m_len (pxV 3 (pv 3)))) (e2v (xLen T.m_len (pxV 4 (pv 4)))) (nomark _)) (sOne (sRet xBool)) sNil)
  (sCons (sFor z.po z.calm (iZipZ (by rfl) T.m_zip (pxE 4 (pv 4)) (pxE 3 (pv 3))) (gT z (gcons_len (gcons_len gnil_len)) (gC (gN 5 z) (gC (gN 6 z) gNil'))) (sCons (sIf (tW (tOr (tNot (tTru (e2v (xIsi (T := "tuple") (by rfl) T.m_isinstance bt_isinstance (by rfl) T.m_tuple bt_tuple (pxV 6 (pv 6)))))) (tOr (tCmp (op_neB z.rm) (e2v (xLen T.m_len (pxV 6 (pv 6)))) (e2v xInt) (nomark _)) (tOr (tNot (tTru (e2v (xC1 z (ok_is_move T) (by omega) (aCons (xIx (pxV 6 (pv 6)) (e2v xInt) (fun _ _ => rfl)) aNil))))) (tOr1 (tCmp (op_neB z.rm) (e2v (xIx (pxV 6 (pv 6)) (e2v xInt) (fun _ _ => rfl))) (pxV 5 (pv 5)) (nomark _))))))) (sOne (sRet xBool)) sNil)
  (sOne (sIf (tNot (tTru (e2v (xC1 z Gis_paper (by omega) (aCons (pxE 0 (pv 0)) (aCons (xC1 z (ok_done T) (by omega) (aCons (pxE 1 (pv 1)) (aCons (pxE 5 (pv 5)) aNil))) (aCons (pxE 2 (pv 2)) (aCons (xIx (pxV 6 (pv 6)) (e2v xInt) (fun _ _ => rfl)) aNil)))))))) (sOne (sRet xBool)) sNil))))
  (sOne (sRet xBool)))))))
theorem fam_is_paper (T : Top w K mg) : ∀ n : Nat, OkF P w K mg base "is_paper" ["board", "stand", "many", "thing"] (4 + n) (fis_paper n) ∧ OkF P w K mg base "is_answers" ["board", "stand", "many", "thing"] (4 + n) (fis_answers n)
  | 0 => ⟨okBad T.d_is_paper, okBad T.d_is_answers⟩
  | n + 1 => ⟨step_is_paper T n (fam_is_paper T n).2, step_is_answers T n (fam_is_paper T n).1⟩
theorem ok_is_paper (T : Top w K mg) (n : Nat) : OkF P w K mg base "is_paper" ["board", "stand", "many", "thing"] (4 + n) (fis_paper n) := (fam_is_paper T n).1
theorem ok_is_answers (T : Top w K mg) (n : Nat) : OkF P w K mg base "is_answers" ["board", "stand", "many", "thing"] (4 + n) (fis_answers n) := (fam_is_paper T n).2
theorem step__law_is_plain (T : Top w K mg) (n : Nat) {F_law_is_plain : List D → R D} (G_law_is_plain : OkF P w K mg base "_law_is_plain" ["thing"] (0 + n) F_law_is_plain) : OkF P w K mg base "_law_is_plain" ["thing"] (0 + n + 1) (runD 2 (b_law_is_plain F_law_is_plain)) :=
  okO T.d__law_is_plain sc__law_is_plain fun f cdv A outer s H E z =>
  (sCons (sIf (tTru (e2v (xIsi (T := "tuple") (by rfl) T.m_isinstance bt_isinstance (by rfl) T.m_tuple bt_tuple (pxV 0 (pv 0))))) (sOne (sRet (xAll z T.m_all (e2v (n2e (xLc (own := [("one", 1)]) z.calm z.nd (iSeqV (pxV 0 (pv 0))) (blkOk_by (by kernel_rfl)) (by decide) (fun _ _ _ _ _ => (gN 1 (z.blk _ _ _ _ _))) (fun _ _ _ _ _ => tsNil) (fun _ _ _ _ _ => (xC1 (z.blk _ _ _ _ _) G_law_is_plain (by omega) (aCons (pxE 1 (pv 1)) aNil))))))))) sNil)
  (sOne (sRet (xAnd (xIsi (T := "int") (by rfl) T.m_isinstance bt_isinstance (by rfl) T.m_int bt_int (pxV 0 (pv 0))) (xOne (xNot (e2v (xIsi (T := "bool") (by rfl) T.m_isinstance bt_isinstance (by rfl) T.m_bool bt_bool (pxV 0 (pv 0))))))))))
theorem fam__law_is_plain (T : Top w K mg) : ∀ n : Nat, OkF P w K mg base "_law_is_plain" ["thing"] (0 + n) (f_law_is_plain n)
  | 0 => okBad T.d__law_is_plain
  | n + 1 => step__law_is_plain T n (fam__law_is_plain T n)
theorem ok__law_is_plain (T : Top w K mg) (n : Nat) : OkF P w K mg base "_law_is_plain" ["thing"] (0 + n) (f_law_is_plain n) := (fam__law_is_plain T n)
theorem ok__law_after (T : Top w K mg) : OkF P w K mg base "_law_after" ["stand", "move"] 1 f_law_after :=
  okO T.d__law_after sc__law_after fun f cdv A outer s H E z =>
  (sCons (sUnp (pxE 0 (pv 0)) (gT z (gcons_len (gcons_len (gcons_len gnil_len))) (gC (gN 2 z) (gC (gN 3 z) (gC (gN 4 z) gNil')))))
  (sCons (sUnp (pxE 1 (pv 1)) (gT z (gcons_len (gcons_len (gcons_len gnil_len))) (gC (gN 5 z) (gC (gN 6 z) (gC (gN 7 z) gNil')))))
  (sCons (sLc (i := 8) (own := [("p", 9), ("man", 10)]) z.calm z.nd rfl rfl (by rfl) (iEnumV (by rfl) T.m_enumerate (pxV 2 (pv 2))) (blkOk_by (by kernel_rfl)) (by decide) (fun _ _ _ _ _ => (gT (z.blk _ _ _ _ _) (gcons_len (gcons_len gnil_len)) (gC (gN 9 (z.blk _ _ _ _ _)) (gC (gN 10 (z.blk _ _ _ _ _)) gNil')))) (fun _ _ _ _ _ => tsNil) (fun _ _ _ _ _ => (xIf (tCmp (op_inB (z.blk _ _ _ _ _).rm) (pxV 9 (pv 9)) (e2v (xTup (aCons (pxE 5 (pv 5)) (aCons (pxE 7 (pv 7)) aNil)))) (by rfl)) xNone (pxE 10 (pv 10)))))
  (sCons (sSet 8 (pxE 4 (pv 4)) (pv 8) (pxE 6 (pv 6)))
  (sCons (sIf (tCmp (op_ltB z.rm) (pxV 5 (pv 5)) (e2v xInt) (nomark _)) (sOne (sLet 3 z (xTup (aCons (xBin op_subB (xIx (pxV 3 (pv 3)) (e2v xInt) (fun _ _ => rfl)) (xInt1 T.m_int (e2v (xCmp (op_eqB z.rm) (pxV 4 (pv 4)) (e2v xInt) (nomark _))))) (aCons (xBin op_subB (xIx (pxV 3 (pv 3)) (e2v xInt) (fun _ _ => rfl)) (xInt1 T.m_int (e2v (xCmp (op_eqB z.rm) (pxV 4 (pv 4)) (e2v xInt) (nomark _))))) aNil))))) sNil)
  (sOne (sRet (xTup (aCons (xTuple T.m_tuple (pxV 8 (pv 8))) (aCons (pxE 3 (pv 3)) (aCons (xBin op_subB xInt (pxE 4 (pv 4))) aNil)))))))))))
theorem step__law_wins (T : Top w K mg) (n : Nat) {F_law_wins : List D → R D} (G_law_wins : OkF P w K mg base "_law_wins" ["board", "stand", "many", "paper"] (3 + n) F_law_wins) : OkF P w K mg base "_law_wins" ["board", "stand", "many", "paper"] (3 + n + 1) (runD 8 (b_law_wins F_law_wins)) :=
  okO T.d__law_wins sc__law_wins fun f cdv A outer s H E z =>
  (sCons (sIf (tW (tOr (tCmp (op_ltB z.rm) (pxV 2 (pv 2)) (e2v xInt) (nomark _)) (tOr (tNot (tTru (e2v (xIsi (T := "tuple") (by rfl) T.m_isinstance bt_isinstance (by rfl) T.m_tuple bt_tuple (pxV 3 (pv 3)))))) (tOr (tCmp (op_neB z.rm) (e2v (xLen T.m_len (pxV 3 (pv 3)))) (e2v xInt) (nomark _)) (tOr1 (tCmp (op_notInB z.rm) (e2v (xIx (pxV 3 (pv 3)) (e2v xInt) (fun _ _ => rfl))) (e2v (xC1 z (ok__law_moves T) (by omega) (aCons (pxE 0 (pv 0)) (aCons (pxE 1 (pv 1)) aNil)))) (by rfl))))))) (sOne (sRet xBool)) sNil)
  (sCons (sLet 4 z (xC1 z (ok__law_after T) (by omega) (aCons (pxE 1 (pv 1)) (aCons (xIx (pxV 3 (pv 3)) (e2v xInt) (fun _ _ => rfl)) aNil))))
  (sCons (sLet 5 z (xC1 z (ok__law_moves T) (by omega) (aCons (pxE 0 (pv 0)) (aCons (pxE 4 (pv 4)) aNil))))
  (sCons (sIf (tCmp op_isNotB (e2v (xC1 z (ok__law_winner T) (by omega) (aCons (pxE 0 (pv 0)) (aCons (pxE 4 (pv 4)) aNil)))) (e2v xNone) (nomark _)) (sOne (sRet (xCmp (op_eqB z.rm) (e2v (xIx (pxV 3 (pv 3)) (e2v xInt) (fun _ _ => rfl))) (e2v (xTup aNil)) (nomark _)))) sNil)
  (sCons (sIf (tW (tOr (tNot (tTru (e2v (xIsi (T := "tuple") (by rfl) T.m_isinstance bt_isinstance (by rfl) T.m_tuple bt_tuple (e2v (xIx (pxV 3 (pv 3)) (e2v xInt) (fun _ _ => rfl))))))) (tOr1 (tCmp (op_neB z.rm) (e2v (xLen T.m_len (e2v (xIx (pxV 3 (pv 3)) (e2v xInt) (fun _ _ => rfl))))) (e2v (xLen T.m_len (pxV 5 (pv 5)))) (nomark _))))) (sOne (sRet xBool)) sNil)
  (sCons (sIf (tNot (tTru (e2v (xAll z T.m_all (e2v (n2e (xLc (own := [("pair", 6)]) z.calm z.nd (iSeqV (e2v (xIx (pxV 3 (pv 3)) (e2v xInt) (fun _ _ => rfl)))) (blkOk_by (by kernel_rfl)) (by decide) (fun _ _ _ _ _ => (gN 6 (z.blk _ _ _ _ _))) (fun _ _ _ _ _ => tsNil) (fun _ _ _ _ _ => (xAnd (xIsi (T := "tuple") (by rfl) T.m_isinstance bt_isinstance (by rfl) T.m_tuple bt_tuple (pxV 6 (pv 6))) (xOne (xCmp (op_eqB (z.blk _ _ _ _ _).rm) (e2v (xLen T.m_len (pxV 6 (pv 6)))) (e2v xInt) (nomark _)))))))))))) (sOne (sRet xBool)) sNil)
  (sCons (sIf (tCmp (op_neB z.rm) (e2v (n2e (xLc (own := [("pair", 6)]) z.calm z.nd (iSeqV (e2v (xIx (pxV 3 (pv 3)) (e2v xInt) (fun _ _ => rfl)))) (blkOk_by (by kernel_rfl)) (by decide) (fun _ _ _ _ _ => (gN 6 (z.blk _ _ _ _ _))) (fun _ _ _ _ _ => tsNil) (fun _ _ _ _ _ => (xIx (pxV 6 (pv 6)) (e2v xInt) (fun _ _ => rfl)))))) (e2v (n2e (xList T.m_list (pxV 5 (pv 5))))) (nomark _)) (sOne (sRet xBool)) sNil)
  (sOne (sRet (xAll z T.m_all (e2v (n2e (xLc (own := [("one", 7), ("pair", 6)]) z.calm z.nd (iZipV (by rfl) T.m_zip (pxV 5 (pv 5)) (e2v (xIx (pxV 3 (pv 3)) (e2v xInt) (fun _ _ => rfl)))) (blkOk_by (by kernel_rfl)) (by decide) (fun _ _ _ _ _ => (gT (z.blk _ _ _ _ _) (gcons_len (gcons_len gnil_len)) (gC (gN 7 (z.blk _ _ _ _ _)) (gC (gN 6 (z.blk _ _ _ _ _)) gNil')))) (fun _ _ _ _ _ => tsNil) (fun _ _ _ _ _ => (xC1 (z.blk _ _ _ _ _) G_law_wins (by omega) (aCons (pxE 0 (pv 0)) (aCons (xC1 (z.blk _ _ _ _ _) (ok__law_after T) (by omega) (aCons (pxE 4 (pv 4)) (aCons (pxE 7 (pv 7)) aNil))) (aCons (xBin op_subB (pxE 2 (pv 2)) xInt) (aCons (xIx (pxV 6 (pv 6)) (e2v xInt) (fun _ _ => rfl)) aNil)))))))))))))))))))
theorem fam__law_wins (T : Top w K mg) : ∀ n : Nat, OkF P w K mg base "_law_wins" ["board", "stand", "many", "paper"] (3 + n) (f_law_wins n)
  | 0 => okBad T.d__law_wins
  | n + 1 => step__law_wins T n (fam__law_wins T n)
theorem ok__law_wins (T : Top w K mg) (n : Nat) : OkF P w K mg base "_law_wins" ["board", "stand", "many", "paper"] (3 + n) (f_law_wins n) := (fam__law_wins T n)
theorem ok_law (T : Top w K mg) : OkF P w K mg base "law" ["script"] 13 flaw :=
  okO T.d_law sc_law fun f cdv A outer s H E z =>
  (sCons (sFor z.po z.calm (iRange1 (by rfl) T.m_range xInt) (gN 1 z) (sCons (sLet 2 z (xBin op_addB (xC1 z (ok__law_cell T) (by decide) (aCons (pxE 0 (pv 0)) (aCons (pxE 1 (pv 1)) aNil))) (xBin op_mulB xInt (pxE 1 (pv 1)))))
  (sCons (sLet 3 z (xC0 z (ok__law_grid_board T) (by decide)))
  (sCons (sIf (tCmp (op_eqB z.rm) (e2v (xBin op_modB (pxE 2 (pv 2)) xInt)) (e2v xInt) (nomark _)) (sOne (sLet 3 z (xC1 z (ok__law_drawn_board T) (by decide) (aCons (pxE 2 (pv 2)) (aCons xInt aNil))))) sNil)
  (sCons (sLet 4 z (xC1 z (ok__law_near T) (by decide) (aCons (pxE 3 (pv 3)) (aCons (xBin op_addB (xC1 z (ok__law_cell T) (by decide) (aCons (pxE 0 (pv 0)) (aCons xInt aNil))) (xBin op_mulB xInt (pxE 1 (pv 1)))) aNil))))
  (sCons (sIf (tCmp (op_eqB z.rm) (pxV 1 (pv 1)) (e2v xInt) (nomark _)) (sOne (sUnp (xTup (aCons (xTup (aCons xInt (aCons (xTup aNil) (aCons (xTup (aCons (xTup (aCons xInt (aCons xInt (aCons xInt aNil)))) (aCons (xTup (aCons xInt (aCons xInt (aCons xInt aNil)))) aNil))) aNil)))) (aCons (xTup (aCons (xTup (aCons xNone (aCons xInt (aCons xNone (aCons xInt (aCons xNone (aCons xInt (aCons xInt (aCons xInt (aCons xInt aNil)))))))))) (aCons (xTup (aCons xInt (aCons xInt aNil))) (aCons xInt aNil)))) aNil))) (gT z (gcons_len (gcons_len gnil_len)) (gC (gN 3 z) (gC (gN 4 z) gNil'))))) sNil)
  (sCons (sLet 5 z (xC1 z (ok__law_near T) (by decide) (aCons (pxE 3 (pv 3)) (aCons (xBin op_addB (xC1 z (ok__law_cell T) (by decide) (aCons (pxE 0 (pv 0)) (aCons xInt aNil))) (xBin op_mulB xInt (pxE 1 (pv 1)))) aNil))))
  (sOne (sFor z.po z.calm (iSeqF (xTup (aCons xInt (aCons xInt aNil)))) (gN 6 z) (sCons (sLet 7 z (xC1 z (ok_forced T 8) (by decide) (aCons (pxE 3 (pv 3)) (aCons (pxE 4 (pv 4)) (aCons (pxE 6 (pv 6)) aNil)))))
  (sCons (sLet 8 z (xBin op_addB (n2e (xLst (aCons xNone (aCons (xTup aNil) (aCons xInt (aCons (xTup (aCons (xTup (aCons (xUn un_negB xInt) (aCons xInt (aCons (xUn un_negB xInt) aNil)))) (aCons (xTup aNil) aNil))) aNil)))))) (n2e (xLc (own := [("move", 14)]) z.calm z.nd (iSeqV (e2v (xSl (e2v (xC1 z (ok__law_moves T) (by decide) (aCons (pxE 3 (pv 3)) (aCons (pxE 4 (pv 4)) aNil)))) oNone (oSome xInt)))) (blkOk_by (by kernel_rfl)) (by decide) (fun _ _ _ _ _ => (gN 14 (z.blk _ _ _ _ _))) (fun _ _ _ _ _ => tsNil) (fun _ _ _ _ _ => (xTup (aCons (pxE 14 (pv 14)) (aCons (xTup aNil) aNil))))))))
  (sCons (sIf (tCmp op_isNotB (pxV 7 (pv 7)) (e2v xNone) (nomark _)) (sOne (sLet 8 z (xBin op_addB (xBin op_addB (pxE 8 (pv 8)) (n2e (xLst (aCons (pxE 7 (pv 7)) aNil)))) (xC1 z (ok__law_spoilt T) (by decide) (aCons (pxE 3 (pv 3)) (aCons (pxE 4 (pv 4)) (aCons (pxE 7 (pv 7)) (aCons (xBin op_addB (xC1 z (ok__law_cell T) (by decide) (aCons (pxE 0 (pv 0)) (aCons xInt aNil))) (pxE 1 (pv 1))) aNil)))))))) sNil)
  (sOne (sFor z.po z.calm (iSeqF (pxE 8 (pv 8))) (gN 9 z) (sOne (sFor z.po z.calm (iSeqF (xTup (aCons (xTup (aCons (pxE 4 (pv 4)) (aCons (pxE 6 (pv 6)) aNil))) (aCons (xTup (aCons (pxE 4 (pv 4)) (aCons (xBin op_subB (pxE 6 (pv 6)) xInt) aNil))) (aCons (xTup (aCons (pxE 4 (pv 4)) (aCons (xBin op_addB (pxE 6 (pv 6)) xInt) aNil))) (aCons (xTup (aCons (pxE 5 (pv 5)) (aCons (pxE 6 (pv 6)) aNil))) aNil)))))) (gT z (gcons_len (gcons_len gnil_len)) (gC (gN 10 z) (gC (gN 11 z) gNil'))) (sCons (sLet 12 z (xAnd (xC1 z (ok__law_is_plain T 12) (by decide) (aCons (pxE 9 (pv 9)) aNil)) (xOne (xC1 z (ok__law_wins T 8) (by decide) (aCons (pxE 3 (pv 3)) (aCons (pxE 10 (pv 10)) (aCons (pxE 11 (pv 11)) (aCons (pxE 9 (pv 9)) aNil))))))))
  (sCons (sLet 13 z (xC1 z (ok_is_paper T 8) (by decide) (aCons (pxE 3 (pv 3)) (aCons (pxE 10 (pv 10)) (aCons (pxE 11 (pv 11)) (aCons (pxE 9 (pv 9)) aNil))))))
  (sOne (sIf (tW (tOr (tW (tAnd (tCmp op_isNotB (pxV 13 (pv 13)) (e2v xBool) (nomark _)) (tAnd1 (tTru (pxV 12 (pv 12)))))) (tOr1 (tW (tAnd (tCmp op_isNotB (pxV 13 (pv 13)) (e2v xBool) (nomark _)) (tAnd1 (tNot (tTru (pxV 12 (pv 12)))))))))) (sOne (sRet xBool)) sNil))))))))))))))))))))
  (sOne (sRet xBool)))
end
theorem top_mk {w : World} {K : PySem.W.Frag} {h : Heap} {mg : Str → Option Value} (X : K.In h) (G : h.Ns mainGlobals mg)
    {f0 : Addr} {od0 an0 : Option Addr} {sl0 : Array (Option Value)} {oc0 kV0 dc0 pm0 cd0 ct0 : Value}
    {f1 : Addr} {od1 an1 : Option Addr} {sl1 : Array (Option Value)} {oc1 kV1 dc1 pm1 cd1 ct1 : Value}
    {f2 : Addr} {od2 an2 : Option Addr} {sl2 : Array (Option Value)} {oc2 kV2 dc2 pm2 cd2 ct2 : Value}
    {f3 : Addr} {od3 an3 : Option Addr} {sl3 : Array (Option Value)} {oc3 kV3 dc3 pm3 cd3 ct3 : Value}
    {f4 : Addr} {od4 an4 : Option Addr} {sl4 : Array (Option Value)} {oc4 kV4 dc4 pm4 cd4 ct4 : Value}
    {f5 : Addr} {od5 an5 : Option Addr} {sl5 : Array (Option Value)} {oc5 kV5 dc5 pm5 cd5 ct5 : Value}
    {f6 : Addr} {od6 an6 : Option Addr} {sl6 : Array (Option Value)} {oc6 kV6 dc6 pm6 cd6 ct6 : Value}
    {f7 : Addr} {od7 an7 : Option Addr} {sl7 : Array (Option Value)} {oc7 kV7 dc7 pm7 cd7 ct7 : Value}
    {f8 : Addr} {od8 an8 : Option Addr} {sl8 : Array (Option Value)} {oc8 kV8 dc8 pm8 cd8 ct8 : Value}
    {f9 : Addr} {od9 an9 : Option Addr} {sl9 : Array (Option Value)} {oc9 kV9 dc9 pm9 cd9 ct9 : Value}
    {f10 : Addr} {od10 an10 : Option Addr} {sl10 : Array (Option Value)} {oc10 kV10 dc10 pm10 cd10 ct10 : Value}
    {f11 : Addr} {od11 an11 : Option Addr} {sl11 : Array (Option Value)} {oc11 kV11 dc11 pm11 cd11 ct11 : Value}
    {f12 : Addr} {od12 an12 : Option Addr} {sl12 : Array (Option Value)} {oc12 kV12 dc12 pm12 cd12 ct12 : Value}
    {f13 : Addr} {od13 an13 : Option Addr} {sl13 : Array (Option Value)} {oc13 kV13 dc13 pm13 cd13 ct13 : Value}
    {f14 : Addr} {od14 an14 : Option Addr} {sl14 : Array (Option Value)} {oc14 kV14 dc14 pm14 cd14 ct14 : Value}
    {f15 : Addr} {od15 an15 : Option Addr} {sl15 : Array (Option Value)} {oc15 kV15 dc15 pm15 cd15 ct15 : Value}
    {f16 : Addr} {od16 an16 : Option Addr} {sl16 : Array (Option Value)} {oc16 kV16 dc16 pm16 cd16 ct16 : Value}
    {f17 : Addr} {od17 an17 : Option Addr} {sl17 : Array (Option Value)} {oc17 kV17 dc17 pm17 cd17 ct17 : Value}
    {f18 : Addr} {od18 an18 : Option Addr} {sl18 : Array (Option Value)} {oc18 kV18 dc18 pm18 cd18 ct18 : Value}
    {f19 : Addr} {od19 an19 : Option Addr} {sl19 : Array (Option Value)} {oc19 kV19 dc19 pm19 cd19 ct19 : Value}
    {f20 : Addr} {od20 an20 : Option Addr} {sl20 : Array (Option Value)} {oc20 kV20 dc20 pm20 cd20 ct20 : Value}
    {f21 : Addr} {od21 an21 : Option Addr} {sl21 : Array (Option Value)} {oc21 kV21 dc21 pm21 cd21 ct21 : Value}
    {f22 : Addr} {od22 an22 : Option Addr} {sl22 : Array (Option Value)} {oc22 kV22 dc22 pm22 cd22 ct22 : Value}
    {f23 : Addr} {od23 an23 : Option Addr} {sl23 : Array (Option Value)} {oc23 kV23 dc23 pm23 cd23 ct23 : Value}
    {f24 : Addr} {od24 an24 : Option Addr} {sl24 : Array (Option Value)} {oc24 kV24 dc24 pm24 cd24 ct24 : Value}
    {f25 : Addr} {od25 an25 : Option Addr} {sl25 : Array (Option Value)} {oc25 kV25 dc25 pm25 cd25 ct25 : Value}
    {f26 : Addr} {od26 an26 : Option Addr} {sl26 : Array (Option Value)} {oc26 kV26 dc26 pm26 cd26 ct26 : Value}
    {f27 : Addr} {od27 an27 : Option Addr} {sl27 : Array (Option Value)} {oc27 kV27 dc27 pm27 cd27 ct27 : Value}
    {f28 : Addr} {od28 an28 : Option Addr} {sl28 : Array (Option Value)} {oc28 kV28 dc28 pm28 cd28 ct28 : Value}
    {f29 : Addr} {od29 an29 : Option Addr} {sl29 : Array (Option Value)} {oc29 kV29 dc29 pm29 cd29 ct29 : Value}
    {f30 : Addr} {od30 an30 : Option Addr} {sl30 : Array (Option Value)} {oc30 kV30 dc30 pm30 cd30 ct30 : Value}
    (a0 : PySem.W.nsIn K mainGlobals "_law_grid_board" = some (some (.ref f0))) (l0 : K.lookup f0 = some ⟨oc0, od0, .func (PySem.W.fnOf "_law_grid_board" "_law_grid_board" (defArgs st__law_grid_board) (defBody st__law_grid_board) (defScope st__law_grid_board) .none kV0 dc0 pm0 an0 cd0 ct0), sl0⟩) (c0 : PySem.W.codeIn K cd0 "_law_grid_board" = true) (k0 : PySem.W.keepIn K (.ref f0) = true)
    (a1 : PySem.W.nsIn K mainGlobals "_law_mix" = some (some (.ref f1))) (l1 : K.lookup f1 = some ⟨oc1, od1, .func (PySem.W.fnOf "_law_mix" "_law_mix" (defArgs st__law_mix) (defBody st__law_mix) (defScope st__law_mix) .none kV1 dc1 pm1 an1 cd1 ct1), sl1⟩) (c1 : PySem.W.codeIn K cd1 "_law_mix" = true) (k1 : PySem.W.keepIn K (.ref f1) = true)
    (a2 : PySem.W.nsIn K mainGlobals "_law_near" = some (some (.ref f2))) (l2 : K.lookup f2 = some ⟨oc2, od2, .func (PySem.W.fnOf "_law_near" "_law_near" (defArgs st__law_near) (defBody st__law_near) (defScope st__law_near) .none kV2 dc2 pm2 an2 cd2 ct2), sl2⟩) (c2 : PySem.W.codeIn K cd2 "_law_near" = true) (k2 : PySem.W.keepIn K (.ref f2) = true)
    (a3 : PySem.W.nsIn K mainGlobals "_law_cell" = some (some (.ref f3))) (l3 : K.lookup f3 = some ⟨oc3, od3, .func (PySem.W.fnOf "_law_cell" "_law_cell" (defArgs st__law_cell) (defBody st__law_cell) (defScope st__law_cell) .none kV3 dc3 pm3 an3 cd3 ct3), sl3⟩) (c3 : PySem.W.codeIn K cd3 "_law_cell" = true) (k3 : PySem.W.keepIn K (.ref f3) = true)
    (a4 : PySem.W.nsIn K mainGlobals "_law_drawn_board" = some (some (.ref f4))) (l4 : K.lookup f4 = some ⟨oc4, od4, .func (PySem.W.fnOf "_law_drawn_board" "_law_drawn_board" (defArgs st__law_drawn_board) (defBody st__law_drawn_board) (defScope st__law_drawn_board) .none kV4 dc4 pm4 an4 cd4 ct4), sl4⟩) (c4 : PySem.W.codeIn K cd4 "_law_drawn_board" = true) (k4 : PySem.W.keepIn K (.ref f4) = true)
    (a5 : PySem.W.nsIn K mainGlobals "points_of" = some (some (.ref f5))) (l5 : K.lookup f5 = some ⟨oc5, od5, .func (PySem.W.fnOf "points_of" "points_of" (defArgs st_points_of) (defBody st_points_of) (defScope st_points_of) .none kV5 dc5 pm5 an5 cd5 ct5), sl5⟩) (c5 : PySem.W.codeIn K cd5 "points_of" = true) (k5 : PySem.W.keepIn K (.ref f5) = true)
    (a6 : PySem.W.nsIn K mainGlobals "count" = some (some (.ref f6))) (l6 : K.lookup f6 = some ⟨oc6, od6, .func (PySem.W.fnOf "count" "count" (defArgs st_count) (defBody st_count) (defScope st_count) .none kV6 dc6 pm6 an6 cd6 ct6), sl6⟩) (c6 : PySem.W.codeIn K cd6 "count" = true) (k6 : PySem.W.keepIn K (.ref f6) = true)
    (a7 : PySem.W.nsIn K mainGlobals "neighbours" = some (some (.ref f7))) (l7 : K.lookup f7 = some ⟨oc7, od7, .func (PySem.W.fnOf "neighbours" "neighbours" (defArgs st_neighbours) (defBody st_neighbours) (defScope st_neighbours) .none kV7 dc7 pm7 an7 cd7 ct7), sl7⟩) (c7 : PySem.W.codeIn K cd7 "neighbours" = true) (k7 : PySem.W.keepIn K (.ref f7) = true)
    (a8 : PySem.W.nsIn K mainGlobals "steps" = some (some (.ref f8))) (l8 : K.lookup f8 = some ⟨oc8, od8, .func (PySem.W.fnOf "steps" "steps" (defArgs st_steps) (defBody st_steps) (defScope st_steps) .none kV8 dc8 pm8 an8 cd8 ct8), sl8⟩) (c8 : PySem.W.codeIn K cd8 "steps" = true) (k8 : PySem.W.keepIn K (.ref f8) = true)
    (a9 : PySem.W.nsIn K mainGlobals "winner" = some (some (.ref f9))) (l9 : K.lookup f9 = some ⟨oc9, od9, .func (PySem.W.fnOf "winner" "winner" (defArgs st_winner) (defBody st_winner) (defScope st_winner) .none kV9 dc9 pm9 an9 cd9 ct9), sl9⟩) (c9 : PySem.W.codeIn K cd9 "winner" = true) (k9 : PySem.W.keepIn K (.ref f9) = true)
    (a10 : PySem.W.nsIn K mainGlobals "full_rows" = some (some (.ref f10))) (l10 : K.lookup f10 = some ⟨oc10, od10, .func (PySem.W.fnOf "full_rows" "full_rows" (defArgs st_full_rows) (defBody st_full_rows) (defScope st_full_rows) .none kV10 dc10 pm10 an10 cd10 ct10), sl10⟩) (c10 : PySem.W.codeIn K cd10 "full_rows" = true) (k10 : PySem.W.keepIn K (.ref f10) = true)
    (a11 : PySem.W.nsIn K mainGlobals "takings" = some (some (.ref f11))) (l11 : K.lookup f11 = some ⟨oc11, od11, .func (PySem.W.fnOf "takings" "takings" (defArgs st_takings) (defBody st_takings) (defScope st_takings) .none kV11 dc11 pm11 an11 cd11 ct11), sl11⟩) (c11 : PySem.W.codeIn K cd11 "takings" = true) (k11 : PySem.W.keepIn K (.ref f11) = true)
    (a12 : PySem.W.nsIn K mainGlobals "with_step" = some (some (.ref f12))) (l12 : K.lookup f12 = some ⟨oc12, od12, .func (PySem.W.fnOf "with_step" "with_step" (defArgs st_with_step) (defBody st_with_step) (defScope st_with_step) .none kV12 dc12 pm12 an12 cd12 ct12), sl12⟩) (c12 : PySem.W.codeIn K cd12 "with_step" = true) (k12 : PySem.W.keepIn K (.ref f12) = true)
    (a13 : PySem.W.nsIn K mainGlobals "all_moves" = some (some (.ref f13))) (l13 : K.lookup f13 = some ⟨oc13, od13, .func (PySem.W.fnOf "all_moves" "all_moves" (defArgs st_all_moves) (defBody st_all_moves) (defScope st_all_moves) .none kV13 dc13 pm13 an13 cd13 ct13), sl13⟩) (c13 : PySem.W.codeIn K cd13 "all_moves" = true) (k13 : PySem.W.keepIn K (.ref f13) = true)
    (a14 : PySem.W.nsIn K mainGlobals "moves" = some (some (.ref f14))) (l14 : K.lookup f14 = some ⟨oc14, od14, .func (PySem.W.fnOf "moves" "moves" (defArgs st_moves) (defBody st_moves) (defScope st_moves) .none kV14 dc14 pm14 an14 cd14 ct14), sl14⟩) (c14 : PySem.W.codeIn K cd14 "moves" = true) (k14 : PySem.W.keepIn K (.ref f14) = true)
    (a15 : PySem.W.nsIn K mainGlobals "done" = some (some (.ref f15))) (l15 : K.lookup f15 = some ⟨oc15, od15, .func (PySem.W.fnOf "done" "done" (defArgs st_done) (defBody st_done) (defScope st_done) .none kV15 dc15 pm15 an15 cd15 ct15), sl15⟩) (c15 : PySem.W.codeIn K cd15 "done" = true) (k15 : PySem.W.keepIn K (.ref f15) = true)
    (a16 : PySem.W.nsIn K mainGlobals "forced" = some (some (.ref f16))) (l16 : K.lookup f16 = some ⟨oc16, od16, .func (PySem.W.fnOf "forced" "forced" (defArgs st_forced) (defBody st_forced) (defScope st_forced) .none kV16 dc16 pm16 an16 cd16 ct16), sl16⟩) (c16 : PySem.W.codeIn K cd16 "forced" = true) (k16 : PySem.W.keepIn K (.ref f16) = true)
    (a17 : PySem.W.nsIn K mainGlobals "answers_to" = some (some (.ref f17))) (l17 : K.lookup f17 = some ⟨oc17, od17, .func (PySem.W.fnOf "answers_to" "answers_to" (defArgs st_answers_to) (defBody st_answers_to) (defScope st_answers_to) .none kV17 dc17 pm17 an17 cd17 ct17), sl17⟩) (c17 : PySem.W.codeIn K cd17 "answers_to" = true) (k17 : PySem.W.keepIn K (.ref f17) = true)
    (a18 : PySem.W.nsIn K mainGlobals "_law_steps" = some (some (.ref f18))) (l18 : K.lookup f18 = some ⟨oc18, od18, .func (PySem.W.fnOf "_law_steps" "_law_steps" (defArgs st__law_steps) (defBody st__law_steps) (defScope st__law_steps) .none kV18 dc18 pm18 an18 cd18 ct18), sl18⟩) (c18 : PySem.W.codeIn K cd18 "_law_steps" = true) (k18 : PySem.W.keepIn K (.ref f18) = true)
    (a19 : PySem.W.nsIn K mainGlobals "_law_winner" = some (some (.ref f19))) (l19 : K.lookup f19 = some ⟨oc19, od19, .func (PySem.W.fnOf "_law_winner" "_law_winner" (defArgs st__law_winner) (defBody st__law_winner) (defScope st__law_winner) .none kV19 dc19 pm19 an19 cd19 ct19), sl19⟩) (c19 : PySem.W.codeIn K cd19 "_law_winner" = true) (k19 : PySem.W.keepIn K (.ref f19) = true)
    (a20 : PySem.W.nsIn K mainGlobals "_law_rows_of" = some (some (.ref f20))) (l20 : K.lookup f20 = some ⟨oc20, od20, .func (PySem.W.fnOf "_law_rows_of" "_law_rows_of" (defArgs st__law_rows_of) (defBody st__law_rows_of) (defScope st__law_rows_of) .none kV20 dc20 pm20 an20 cd20 ct20), sl20⟩) (c20 : PySem.W.codeIn K cd20 "_law_rows_of" = true) (k20 : PySem.W.keepIn K (.ref f20) = true)
    (a21 : PySem.W.nsIn K mainGlobals "_law_moves" = some (some (.ref f21))) (l21 : K.lookup f21 = some ⟨oc21, od21, .func (PySem.W.fnOf "_law_moves" "_law_moves" (defArgs st__law_moves) (defBody st__law_moves) (defScope st__law_moves) .none kV21 dc21 pm21 an21 cd21 ct21), sl21⟩) (c21 : PySem.W.codeIn K cd21 "_law_moves" = true) (k21 : PySem.W.keepIn K (.ref f21) = true)
    (a22 : PySem.W.nsIn K mainGlobals "_law_spoilt" = some (some (.ref f22))) (l22 : K.lookup f22 = some ⟨oc22, od22, .func (PySem.W.fnOf "_law_spoilt" "_law_spoilt" (defArgs st__law_spoilt) (defBody st__law_spoilt) (defScope st__law_spoilt) .none kV22 dc22 pm22 an22 cd22 ct22), sl22⟩) (c22 : PySem.W.codeIn K cd22 "_law_spoilt" = true) (k22 : PySem.W.keepIn K (.ref f22) = true)
    (a23 : PySem.W.nsIn K mainGlobals "is_whole" = some (some (.ref f23))) (l23 : K.lookup f23 = some ⟨oc23, od23, .func (PySem.W.fnOf "is_whole" "is_whole" (defArgs st_is_whole) (defBody st_is_whole) (defScope st_is_whole) .none kV23 dc23 pm23 an23 cd23 ct23), sl23⟩) (c23 : PySem.W.codeIn K cd23 "is_whole" = true) (k23 : PySem.W.keepIn K (.ref f23) = true)
    (a24 : PySem.W.nsIn K mainGlobals "is_move" = some (some (.ref f24))) (l24 : K.lookup f24 = some ⟨oc24, od24, .func (PySem.W.fnOf "is_move" "is_move" (defArgs st_is_move) (defBody st_is_move) (defScope st_is_move) .none kV24 dc24 pm24 an24 cd24 ct24), sl24⟩) (c24 : PySem.W.codeIn K cd24 "is_move" = true) (k24 : PySem.W.keepIn K (.ref f24) = true)
    (a25 : PySem.W.nsIn K mainGlobals "is_paper" = some (some (.ref f25))) (l25 : K.lookup f25 = some ⟨oc25, od25, .func (PySem.W.fnOf "is_paper" "is_paper" (defArgs st_is_paper) (defBody st_is_paper) (defScope st_is_paper) .none kV25 dc25 pm25 an25 cd25 ct25), sl25⟩) (c25 : PySem.W.codeIn K cd25 "is_paper" = true) (k25 : PySem.W.keepIn K (.ref f25) = true)
    (a26 : PySem.W.nsIn K mainGlobals "is_answers" = some (some (.ref f26))) (l26 : K.lookup f26 = some ⟨oc26, od26, .func (PySem.W.fnOf "is_answers" "is_answers" (defArgs st_is_answers) (defBody st_is_answers) (defScope st_is_answers) .none kV26 dc26 pm26 an26 cd26 ct26), sl26⟩) (c26 : PySem.W.codeIn K cd26 "is_answers" = true) (k26 : PySem.W.keepIn K (.ref f26) = true)
    (a27 : PySem.W.nsIn K mainGlobals "_law_is_plain" = some (some (.ref f27))) (l27 : K.lookup f27 = some ⟨oc27, od27, .func (PySem.W.fnOf "_law_is_plain" "_law_is_plain" (defArgs st__law_is_plain) (defBody st__law_is_plain) (defScope st__law_is_plain) .none kV27 dc27 pm27 an27 cd27 ct27), sl27⟩) (c27 : PySem.W.codeIn K cd27 "_law_is_plain" = true) (k27 : PySem.W.keepIn K (.ref f27) = true)
    (a28 : PySem.W.nsIn K mainGlobals "_law_after" = some (some (.ref f28))) (l28 : K.lookup f28 = some ⟨oc28, od28, .func (PySem.W.fnOf "_law_after" "_law_after" (defArgs st__law_after) (defBody st__law_after) (defScope st__law_after) .none kV28 dc28 pm28 an28 cd28 ct28), sl28⟩) (c28 : PySem.W.codeIn K cd28 "_law_after" = true) (k28 : PySem.W.keepIn K (.ref f28) = true)
    (a29 : PySem.W.nsIn K mainGlobals "_law_wins" = some (some (.ref f29))) (l29 : K.lookup f29 = some ⟨oc29, od29, .func (PySem.W.fnOf "_law_wins" "_law_wins" (defArgs st__law_wins) (defBody st__law_wins) (defScope st__law_wins) .none kV29 dc29 pm29 an29 cd29 ct29), sl29⟩) (c29 : PySem.W.codeIn K cd29 "_law_wins" = true) (k29 : PySem.W.keepIn K (.ref f29) = true)
    (a30 : PySem.W.nsIn K mainGlobals "law" = some (some (.ref f30))) (l30 : K.lookup f30 = some ⟨oc30, od30, .func (PySem.W.fnOf "law" "law" (defArgs st_law) (defBody st_law) (defScope st_law) .none kV30 dc30 pm30 an30 cd30 ct30), sl30⟩) (c30 : PySem.W.codeIn K cd30 "law" = true) (k30 : PySem.W.keepIn K (.ref f30) = true)
    (z0 : PySem.W.nsIn K mainGlobals "all" = some none)
    (z1 : PySem.W.nsIn K mainGlobals "any" = some none)
    (z2 : PySem.W.nsIn K mainGlobals "bool" = some none)
    (z3 : PySem.W.nsIn K mainGlobals "enumerate" = some none)
    (z4 : PySem.W.nsIn K mainGlobals "int" = some none)
    (z5 : PySem.W.nsIn K mainGlobals "isinstance" = some none)
    (z6 : PySem.W.nsIn K mainGlobals "len" = some none)
    (z7 : PySem.W.nsIn K mainGlobals "list" = some none)
    (z8 : PySem.W.nsIn K mainGlobals "max" = some none)
    (z9 : PySem.W.nsIn K mainGlobals "min" = some none)
    (z10 : PySem.W.nsIn K mainGlobals "range" = some none)
    (z11 : PySem.W.nsIn K mainGlobals "set" = some none)
    (z12 : PySem.W.nsIn K mainGlobals "sorted" = some none)
    (z13 : PySem.W.nsIn K mainGlobals "tuple" = some none)
    (z14 : PySem.W.nsIn K mainGlobals "zip" = some none) :
    Top w K mg := by
  have F0 := fun_mk (st := st__law_grid_board) l0 c0 k0
  have F1 := fun_mk (st := st__law_mix) l1 c1 k1
  have F2 := fun_mk (st := st__law_near) l2 c2 k2
  have F3 := fun_mk (st := st__law_cell) l3 c3 k3
  have F4 := fun_mk (st := st__law_drawn_board) l4 c4 k4
  have F5 := fun_mk (st := st_points_of) l5 c5 k5
  have F6 := fun_mk (st := st_count) l6 c6 k6
  have F7 := fun_mk (st := st_neighbours) l7 c7 k7
  have F8 := fun_mk (st := st_steps) l8 c8 k8
  have F9 := fun_mk (st := st_winner) l9 c9 k9
  have F10 := fun_mk (st := st_full_rows) l10 c10 k10
  have F11 := fun_mk (st := st_takings) l11 c11 k11
  have F12 := fun_mk (st := st_with_step) l12 c12 k12
  have F13 := fun_mk (st := st_all_moves) l13 c13 k13
  have F14 := fun_mk (st := st_moves) l14 c14 k14
  have F15 := fun_mk (st := st_done) l15 c15 k15
  have F16 := fun_mk (st := st_forced) l16 c16 k16
  have F17 := fun_mk (st := st_answers_to) l17 c17 k17
  have F18 := fun_mk (st := st__law_steps) l18 c18 k18
  have F19 := fun_mk (st := st__law_winner) l19 c19 k19
  have F20 := fun_mk (st := st__law_rows_of) l20 c20 k20
  have F21 := fun_mk (st := st__law_moves) l21 c21 k21
  have F22 := fun_mk (st := st__law_spoilt) l22 c22 k22
  have F23 := fun_mk (st := st_is_whole) l23 c23 k23
  have F24 := fun_mk (st := st_is_move) l24 c24 k24
  have F25 := fun_mk (st := st_is_paper) l25 c25 k25
  have F26 := fun_mk (st := st_is_answers) l26 c26 k26
  have F27 := fun_mk (st := st__law_is_plain) l27 c27 k27
  have F28 := fun_mk (st := st__law_after) l28 c28 k28
  have F29 := fun_mk (st := st__law_wins) l29 c29 k29
  have F30 := fun_mk (st := st_law) l30 c30 k30
  exact ⟨⟨_, _, F0, fun us hl => match us, hl with | [], _ => rfl, PySem.W.mg_of X G a0⟩, ⟨_, _, F1, fun us hl => match us, hl with | [_, _, _], _ => rfl, PySem.W.mg_of X G a1⟩, ⟨_, _, F2, fun us hl => match us, hl with | [_, _], _ => rfl, PySem.W.mg_of X G a2⟩, ⟨_, _, F3, fun us hl => match us, hl with | [_, _], _ => rfl, PySem.W.mg_of X G a3⟩, ⟨_, _, F4, fun us hl => match us, hl with | [_, _], _ => rfl, PySem.W.mg_of X G a4⟩, ⟨_, _, F5, fun us hl => match us, hl with | [_, _], _ => rfl, PySem.W.mg_of X G a5⟩, ⟨_, _, F6, fun us hl => match us, hl with | [_, _], _ => rfl, PySem.W.mg_of X G a6⟩, ⟨_, _, F7, fun us hl => match us, hl with | [_, _], _ => rfl, PySem.W.mg_of X G a7⟩, ⟨_, _, F8, fun us hl => match us, hl with | [_, _], _ => rfl, PySem.W.mg_of X G a8⟩, ⟨_, _, F9, fun us hl => match us, hl with | [_, _], _ => rfl, PySem.W.mg_of X G a9⟩, ⟨_, _, F10, fun us hl => match us, hl with | [_, _, _], _ => rfl, PySem.W.mg_of X G a10⟩, ⟨_, _, F11, fun us hl => match us, hl with | [_, _, _, _], _ => rfl, PySem.W.mg_of X G a11⟩, ⟨_, _, F12, fun us hl => match us, hl with | [_, _, _, _], _ => rfl, PySem.W.mg_of X G a12⟩, ⟨_, _, F13, fun us hl => match us, hl with | [_, _], _ => rfl, PySem.W.mg_of X G a13⟩, ⟨_, _, F14, fun us hl => match us, hl with | [_, _], _ => rfl, PySem.W.mg_of X G a14⟩, ⟨_, _, F15, fun us hl => match us, hl with | [_, _], _ => rfl, PySem.W.mg_of X G a15⟩, ⟨_, _, F16, fun us hl => match us, hl with | [_, _, _], _ => rfl, PySem.W.mg_of X G a16⟩, ⟨_, _, F17, fun us hl => match us, hl with | [_, _, _], _ => rfl, PySem.W.mg_of X G a17⟩, ⟨_, _, F18, fun us hl => match us, hl with | [_, _], _ => rfl, PySem.W.mg_of X G a18⟩, ⟨_, _, F19, fun us hl => match us, hl with | [_, _], _ => rfl, PySem.W.mg_of X G a19⟩, ⟨_, _, F20, fun us hl => match us, hl with | [_, _, _], _ => rfl, PySem.W.mg_of X G a20⟩, ⟨_, _, F21, fun us hl => match us, hl with | [_, _], _ => rfl, PySem.W.mg_of X G a21⟩, ⟨_, _, F22, fun us hl => match us, hl with | [_, _, _, _], _ => rfl, PySem.W.mg_of X G a22⟩, ⟨_, _, F23, fun us hl => match us, hl with | [_, _, _], _ => rfl, PySem.W.mg_of X G a23⟩, ⟨_, _, F24, fun us hl => match us, hl with | [_], _ => rfl, PySem.W.mg_of X G a24⟩, ⟨_, _, F25, fun us hl => match us, hl with | [_, _, _, _], _ => rfl, PySem.W.mg_of X G a25⟩, ⟨_, _, F26, fun us hl => match us, hl with | [_, _, _, _], _ => rfl, PySem.W.mg_of X G a26⟩, ⟨_, _, F27, fun us hl => match us, hl with | [_], _ => rfl, PySem.W.mg_of X G a27⟩, ⟨_, _, F28, fun us hl => match us, hl with | [_, _], _ => rfl, PySem.W.mg_of X G a28⟩, ⟨_, _, F29, fun us hl => match us, hl with | [_, _, _, _], _ => rfl, PySem.W.mg_of X G a29⟩, ⟨_, _, F30, fun us hl => match us, hl with | [_], _ => rfl, PySem.W.mg_of X G a30⟩, PySem.W.mg_none_of X G z0, PySem.W.mg_none_of X G z1, PySem.W.mg_none_of X G z2, PySem.W.mg_none_of X G z3, PySem.W.mg_none_of X G z4, PySem.W.mg_none_of X G z5, PySem.W.mg_none_of X G z6, PySem.W.mg_none_of X G z7, PySem.W.mg_none_of X G z8, PySem.W.mg_none_of X G z9, PySem.W.mg_none_of X G z10, PySem.W.mg_none_of X G z11, PySem.W.mg_none_of X G z12, PySem.W.mg_none_of X G z13, PySem.W.mg_none_of X G z14⟩
theorem fin {w : World} {K : PySem.W.Frag} {h : Heap} {mg : Str → Option Value} {fa : Addr} (KX : K.In h) (hmg : mg "law" = some (.ref fa)) (T : Top w K mg) :
    ∃ fd : FuncData, (∀ (s : Shared) (u : Value), BindsTo s fd ⟨[u], []⟩ [("script", u)]) ∧ ∀ base : Heap, K.In base → base.Ns mainGlobals mg → FnOk PySem.Challenge.rw_millrows_k11_papers_looked_at.prog w K mg base (L2.CX PySem.Challenge.rw_millrows_k11_papers_looked_at.prog w) 13 fa fd ["script"] (spLaw K) :=
  law_top hmg T.d_law (fun base => ok_law T) law_true
end M11
open PySem PySem.W PyProof.Rows
set_option maxRecDepth 100000 in
set_option maxHeartbeats 0 in
theorem PySem.Challenge.cw_millrows_k11_papers_looked_at_holds : PySem.Challenge.rw_millrows_k11_papers_looked_at.Holds := by
  w_on; o_law; k_head; (case hw => w_witness2)
  k_fill
  refine L2.walk_of (l := PySem.Challenge.rw_millrows_k11_papers_looked_at) (n := 63) (k := 13) (x := "script") (CX := fun w => L2.CX PySem.Challenge.rw_millrows_k11_papers_looked_at.prog w) (sp := fun w => Pu.spLaw _) rfl (by decide) rfl ⟨rfl, by decide, by decide⟩ (fun w h Y => PySem.W.kIn_of Y) ?F (fun _ _ a ns hl _ hS => ⟨a, ns, rfl, hS, hl, fun _ => rfl⟩) (fun w H s e s' h => Pu.noCX h)
  case F =>
    intro w mg fa h KX G hmg
    refine' M11.fin KX hmg (M11.top_mk (w := w) KX G ?a0 ?l0 ?c0 ?k0 ?a1 ?l1 ?c1 ?k1 ?a2 ?l2 ?c2 ?k2 ?a3 ?l3 ?c3 ?k3 ?a4 ?l4 ?c4 ?k4 ?a5 ?l5 ?c5 ?k5 ?a6 ?l6 ?c6 ?k6 ?a7 ?l7 ?c7 ?k7 ?a8 ?l8 ?c8 ?k8 ?a9 ?l9 ?c9 ?k9 ?a10 ?l10 ?c10 ?k10 ?a11 ?l11 ?c11 ?k11 ?a12 ?l12 ?c12 ?k12 ?a13 ?l13 ?c13 ?k13 ?a14 ?l14 ?c14 ?k14 ?a15 ?l15 ?c15 ?k15 ?a16 ?l16 ?c16 ?k16 ?a17 ?l17 ?c17 ?k17 ?a18 ?l18 ?c18 ?k18 ?a19 ?l19 ?c19 ?k19 ?a20 ?l20 ?c20 ?k20 ?a21 ?l21 ?c21 ?k21 ?a22 ?l22 ?c22 ?k22 ?a23 ?l23 ?c23 ?k23 ?a24 ?l24 ?c24 ?k24 ?a25 ?l25 ?c25 ?k25 ?a26 ?l26 ?c26 ?k26 ?a27 ?l27 ?c27 ?k27 ?a28 ?l28 ?c28 ?k28 ?a29 ?l29 ?c29 ?k29 ?a30 ?l30 ?c30 ?k30 ?z0 ?z1 ?z2 ?z3 ?z4 ?z5 ?z6 ?z7 ?z8 ?z9 ?z10 ?z11 ?z12 ?z13 ?z14)
    (case a0 => k_is); (case l0 => k_is); (case c0 => k_is); (case k0 => k_is); (case a1 => k_is); (case l1 => k_is); (case c1 => k_is); (case k1 => k_is); (case a2 => k_is); (case l2 => k_is); (case c2 => k_is); (case k2 => k_is); (case a3 => k_is); (case l3 => k_is); (case c3 => k_is); (case k3 => k_is); (case a4 => k_is); (case l4 => k_is); (case c4 => k_is); (case k4 => k_is); (case a5 => k_is); (case l5 => k_is); (case c5 => k_is); (case k5 => k_is); (case a6 => k_is); (case l6 => k_is); (case c6 => k_is); (case k6 => k_is); (case a7 => k_is); (case l7 => k_is); (case c7 => k_is); (case k7 => k_is); (case a8 => k_is); (case l8 => k_is); (case c8 => k_is); (case k8 => k_is); (case a9 => k_is); (case l9 => k_is); (case c9 => k_is); (case k9 => k_is); (case a10 => k_is); (case l10 => k_is); (case c10 => k_is); (case k10 => k_is); (case a11 => k_is); (case l11 => k_is); (case c11 => k_is); (case k11 => k_is); (case a12 => k_is); (case l12 => k_is); (case c12 => k_is); (case k12 => k_is); (case a13 => k_is); (case l13 => k_is); (case c13 => k_is); (case k13 => k_is); (case a14 => k_is); (case l14 => k_is); (case c14 => k_is); (case k14 => k_is); (case a15 => k_is); (case l15 => k_is); (case c15 => k_is); (case k15 => k_is); (case a16 => k_is); (case l16 => k_is); (case c16 => k_is); (case k16 => k_is); (case a17 => k_is); (case l17 => k_is); (case c17 => k_is); (case k17 => k_is); (case a18 => k_is); (case l18 => k_is); (case c18 => k_is); (case k18 => k_is); (case a19 => k_is); (case l19 => k_is); (case c19 => k_is); (case k19 => k_is); (case a20 => k_is); (case l20 => k_is); (case c20 => k_is); (case k20 => k_is); (case a21 => k_is); (case l21 => k_is); (case c21 => k_is); (case k21 => k_is); (case a22 => k_is); (case l22 => k_is); (case c22 => k_is); (case k22 => k_is); (case a23 => k_is); (case l23 => k_is); (case c23 => k_is); (case k23 => k_is); (case a24 => k_is); (case l24 => k_is); (case c24 => k_is); (case k24 => k_is); (case a25 => k_is); (case l25 => k_is); (case c25 => k_is); (case k25 => k_is); (case a26 => k_is); (case l26 => k_is); (case c26 => k_is); (case k26 => k_is); (case a27 => k_is); (case l27 => k_is); (case c27 => k_is); (case k27 => k_is); (case a28 => k_is); (case l28 => k_is); (case c28 => k_is); (case k28 => k_is); (case a29 => k_is); (case l29 => k_is); (case c29 => k_is); (case k29 => k_is); (case a30 => k_is); (case l30 => k_is); (case c30 => k_is); (case k30 => k_is); (case z0 => k_is); (case z1 => k_is); (case z2 => k_is); (case z3 => k_is); (case z4 => k_is); (case z5 => k_is); (case z6 => k_is); (case z7 => k_is); (case z8 => k_is); (case z9 => k_is); (case z10 => k_is); (case z11 => k_is); (case z12 => k_is); (case z13 => k_is); (case z14 => k_is)
