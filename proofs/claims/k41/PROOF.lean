import PyProof.Rows.All
import Wide.All
import OpenK.AllK
import Wide.FinOn
import HandS.ForMost
import KE.KDictCopyH
import HandS.ForExc
import HandS.ExcCtx
import HandS.HotCalls
import HandS.RevRange
import HandS.RaiseMore
import HandS.Wide
import HandS.SetFor
import HandS.IsInst
import HandS.Deep
import HandS.Style
import HandS.Conv
import HandS.SortInts
import HandS.Star
import HandS.DictComp
import HandS.Flow
import HandS.Zip
import HandS.Iter
import KE.SortData
import HandS.ExcIs
import HandS.TryOnly
import PySem.Challenge.RW_flatthreads_k41_errors_of_totals
set_option Elab.async false
set_option linter.all false
set_option maxRecDepth 100000
set_option maxHeartbeats 1000000
/-! FT1: abstract values (shared data, owned lists), their relation to the layer's heap; no program in sight. -/
namespace FT
open PySem PySem.Spec PyProof.Rows L2

/-! ### heaps that grow -/
def Gr (H H' : Hp) : Prop := ∀ a o, H a = some o → H' a = some o
theorem Gr.rfl {H : Hp} : Gr H H := fun _ _ h => h
theorem Gr.new {H : Hp} {p : Addr} {o : HO} (h : H p = none) : Gr H (upd H p o) := fun a u e => by
  have n : a ≠ p := fun z => by rw [z, h] at e; cases e
  rw [upd_ne n]; exact e

/-! ### shared data -/
mutual
inductive Dq (H : Hp) : V → PyData → Prop
  | non : Dq H .non .none
  | bl (b : Bool) : Dq H (.bl b) (.bool b)
  | int (i : Int) : Dq H (.int i) (.int i)
  | str (x : Str) : Dq H (.str x) (.str x)
  | lst {a : Addr} {vs : List V} {ds : List PyData} (h : H a = some (.lst vs)) (t : DqL H vs ds) : Dq H (.ref a) (.list ds)
  | tup {a : Addr} {vs : List V} {ds : List PyData} (h : H a = some (.tup vs)) (t : DqL H vs ds) : Dq H (.ref a) (.tuple ds)
  | emp {a : Addr} (h : H a = some (.dK [])) : Dq H (.ref a) (.dict [])
inductive DqL (H : Hp) : List V → List PyData → Prop
  | nil : DqL H [] []
  | cons {v : V} {vs : List V} {d : PyData} {ds : List PyData} (h : Dq H v d) (t : DqL H vs ds) : DqL H (v :: vs) (d :: ds)
end
mutual
theorem Dq.mono {H H' : Hp} (g : Gr H H') : ∀ (d : PyData) (v : V), Dq H v d → Dq H' v d
  | .none, _, h => by cases h; exact .non
  | .bool _, _, h => by cases h; exact .bl _
  | .int _, _, h => by cases h; exact .int _
  | .str _, _, h => by cases h; exact .str _
  | .list ds, _, h => by cases h with | lst e t => exact .lst (g _ _ e) (DqL.mono g ds _ t)
  | .tuple ds, _, h => by cases h with | tup e t => exact .tup (g _ _ e) (DqL.mono g ds _ t)
  | .dict _, _, h => by cases h with | emp e => exact .emp (g _ _ e)
theorem DqL.mono {H H' : Hp} (g : Gr H H') : ∀ (ds : List PyData) (vs : List V), DqL H vs ds → DqL H' vs ds
  | [], _, h => by cases h; exact .nil
  | d :: ds, _, h => by cases h with | cons a t => exact .cons (Dq.mono g d _ a) (DqL.mono g ds _ t)
end
mutual
theorem Dq.dp {K : PySem.W.Frag} {H : Hp} : ∀ (d : PyData) (v : V), Dq H v d → d.hasDict = false → Dp K H v d
  | .none, _, h, _ => by cases h; exact .non
  | .bool _, _, h, _ => by cases h; exact .bl _
  | .int _, _, h, _ => by cases h; exact .int _
  | .str _, _, h, _ => by cases h; exact .str _
  | .list ds, _, h, n => by cases h with | lst e t => exact .lst (SqL.of e) (DqL.dp ds _ t (by simpa only [PyData.hasDict] using n))
  | .tuple ds, _, h, n => by cases h with | tup e t => exact .tup (SqT.of e) (DqL.dp ds _ t (by simpa only [PyData.hasDict] using n))
  | .dict _, _, _, n => by simp only [PyData.hasDict] at n; cases n
theorem DqL.dp {K : PySem.W.Frag} {H : Hp} : ∀ (ds : List PyData) (vs : List V), DqL H vs ds → PyData.hasDictAll ds = false → DpAll K H vs ds
  | [], _, h, _ => by cases h; exact .nil
  | d :: ds, _, h, n => by
    rw [PyData.hasDictAll, Bool.or_eq_false_iff] at n
    cases h with | cons a t => exact .cons (Dq.dp d _ a n.1) (DqL.dp ds _ t n.2)
end
theorem nd_of_shaped {d : PyData} (h : SeqAt.shaped d = true) : d.hasDict = false := PyData.hasDict_of_canLay d (SeqAt.canLay_of_shaped h)
theorem DqL.len {H : Hp} : ∀ {vs : List V} {ds : List PyData}, DqL H vs ds → vs.length = ds.length
  | [], _, h => by cases h; rfl
  | _ :: _, _, h => by cases h with | cons _ t => simp [DqL.len t]
theorem DqL.get {H : Hp} : ∀ {vs : List V} {ds : List PyData} (i : Nat) {d : PyData}, DqL H vs ds → ds[i]? = some d → ∃ v, vs[i]? = some v ∧ Dq H v d
  | _, [], _, _, _, e => by simp at e
  | _, _ :: _, 0, _, h, e => by cases h with | cons a t => simp at e; subst e; exact ⟨_, rfl, a⟩
  | _, _ :: _, i + 1, _, h, e => by cases h with | cons a t => exact (DqL.get (i := i) t (by simpa using e)).imp fun v q => ⟨by simpa using q.1, q.2⟩
theorem DqL.getV {H : Hp} : ∀ {vs : List V} {ds : List PyData} (i : Nat) {v : V}, DqL H vs ds → vs[i]? = some v → ∃ d, ds[i]? = some d ∧ Dq H v d
  | [], _, _, _, _, e => by simp at e
  | _ :: _, _, 0, _, h, e => by cases h with | cons a t => simp at e; subst e; exact ⟨_, rfl, a⟩
  | _ :: _, _, i + 1, _, h, e => by cases h with | cons a t => exact (DqL.getV (i := i) t (by simpa using e)).imp fun v q => ⟨by simpa using q.1, q.2⟩
/-- data without an address -/
def scal1 : PyData → Bool
  | .none | .bool _ | .int _ | .str _ => true
  | _ => false
def toV : PyData → V
  | .bool b => .bl b
  | .int i => .int i
  | .str x => .str x
  | _ => .non
theorem Dq.scal {H : Hp} {d : PyData} (h : scal1 d = true) : Dq H (toV d) d := by
  cases d with
  | none => exact .non
  | bool b => exact .bl b
  | int i => exact .int i
  | str x => exact .str x
  | _ => cases h
theorem Dq.scalV {H : Hp} {d : PyData} {v : V} (h : scal1 d = true) (q : Dq H v d) : v = toV d := by
  cases d with
  | none => cases q; rfl
  | bool b => cases q; rfl
  | int i => cases q; rfl
  | str x => cases q; rfl
  | _ => cases h
theorem DqL.scal {H : Hp} : ∀ {ds : List PyData} {vs : List V}, ds.all scal1 = true → DqL H vs ds → vs = ds.map toV
  | [], _, _, h => by cases h; rfl
  | d :: ds, _, e, h => by
    rw [List.all_cons, Bool.and_eq_true] at e
    cases h with
    | cons a t => rw [Dq.scalV e.1 a, DqL.scal e.2 t]; rfl

/-! ### shared instances of own classes: their attributes are data or such instances -/
mutual
inductive Ins where
  | da (x : PyData)
  | ob (c : Str) (ps : InsL)
inductive InsL where
  | nil
  | cons (f : Str) (t : Ins) (r : InsL)
end
def InsL.get (f : Str) : InsL → Option Ins
  | .nil => none
  | .cons g t r => if g = f then some t else InsL.get f r
def InsL.put (f : Str) (t : Ins) : InsL → InsL
  | .nil => .cons f t .nil
  | .cons g u r => if g = f then .cons g t r else .cons g u (InsL.put f t r)
def InsL.len : InsL → Nat
  | .nil => 0
  | .cons _ _ r => r.len + 1
mutual
inductive Sh (K : PySem.W.Frag) (G : Hp) : V → Ins → Prop
  | da {v : V} {x : PyData} (h : Dq G v x) : Sh K G v (.da x)
  | ob {a C dx : Addr} {c : Str} {fs : List (Str × V)} {ps : InsL} (hc : PySem.W.nsIn K mainGlobals c = some (some (.ref C))) (h : G a = some (.ins C dx fs)) (t : ShP K G fs ps) : Sh K G (.ref a) (.ob c ps)
inductive ShP (K : PySem.W.Frag) (G : Hp) : List (Str × V) → InsL → Prop
  | nil : ShP K G [] .nil
  | cons {f : Str} {v : V} {t : Ins} {fs : List (Str × V)} {ps : InsL} (h : Sh K G v t) (r : ShP K G fs ps) : ShP K G ((f, v) :: fs) (.cons f t ps)
end
mutual
theorem Sh.mono {K : PySem.W.Frag} {G G' : Hp} (g : Gr G G') : ∀ (t : Ins) (v : V), Sh K G v t → Sh K G' v t
  | .da _, _, h => by cases h with | da h => exact .da (Dq.mono g _ _ h)
  | .ob _ ps, _, h => by cases h with | ob hc e t => exact .ob hc (g _ _ e) (ShP.mono g ps _ t)
theorem ShP.mono {K : PySem.W.Frag} {G G' : Hp} (g : Gr G G') : ∀ (ps : InsL) (fs : List (Str × V)), ShP K G fs ps → ShP K G' fs ps
  | .nil, _, h => by cases h; exact .nil
  | .cons _ t r, _, h => by cases h with | cons a q => exact .cons (Sh.mono g t _ a) (ShP.mono g r _ q)
end
theorem ShP.len {K : PySem.W.Frag} {G : Hp} : ∀ (ps : InsL) (fs : List (Str × V)), ShP K G fs ps → fs.length = ps.len
  | .nil, _, h => by cases h; rfl
  | .cons _ _ r, _, h => by cases h with | cons _ q => show _ + 1 = _ + 1; rw [ShP.len r _ q]
theorem ShP.get {K : PySem.W.Frag} {G : Hp} {f : Str} : ∀ (ps : InsL) (fs : List (Str × V)), ShP K G fs ps → match ps.get f with
    | some t => ∃ v, fs.lookup f = some v ∧ Sh K G v t
    | none => fs.lookup f = none
  | .nil, _, h => by cases h; rfl
  | .cons g t r, _, h => by
    cases h with
    | cons a q =>
      rename_i v fs
      have ih := ShP.get (f := f) r fs q
      unfold InsL.get
      by_cases e : g = f
      · rw [if_pos e, List.lookup_cons, show (f == g) = true from beq_iff_eq.mpr e.symm]
        exact ⟨v, rfl, a⟩
      · rw [if_neg e, List.lookup_cons, show (f == g) = false from beq_eq_false_iff_ne.mpr fun z => e z.symm]
        exact ih
theorem ShP.put {K : PySem.W.Frag} {G : Hp} {f : Str} {v : V} {t : Ins} (h : Sh K G v t) : ∀ (ps : InsL) (fs : List (Str × V)), ShP K G fs ps → ShP K G (putF f v fs) (ps.put f t)
  | .nil, _, q => by cases q; exact .cons h .nil
  | .cons g u r, _, q => by
    cases q with
    | cons a q =>
      rename_i x fs
      show ShP K G (if g = f then (g, v) :: fs else (g, x) :: putF f v fs) (if g = f then .cons g t r else .cons g u (InsL.put f t r))
      by_cases e : g = f
      · rw [if_pos e, if_pos e]; exact .cons h q
      · rw [if_neg e, if_neg e]; exact .cons a (ShP.put h r fs q)

/-! ### abstract values -/
inductive O where
  /-- nothing is known -/
  | no
  /-- data that nobody changes any more -/
  | d (x : PyData)
  /-- a list that one holder alone reaches -/
  | l (xs : List O)
  /-- the script -/
  | fz (ns : List Int)
  /-- a dict that one holder alone reaches: tuples of ints to ints -/
  | m (kvs : List (List Int × Int))
  /-- an instance that nobody changes any more -/
  | s (t : Ins)
  /-- an instance that one holder alone reaches -/
  | i (c : Str) (ps : InsL)
  /-- a dict that one holder alone reaches: None and ints to None and ints -/
  | n (kvs : List (Option Int × Option Int))
  /-- an instance that one holder alone reaches, with attributes of which some are its own -/
  | j (c : Str) (ns : List Str) (os : List O)
  /-- a dict that one holder alone reaches: pairs of None and ints to ints -/
  | q (kvs : List ((Option Int × Option Int) × Int))
  /-- a dict that one holder alone reaches: tuples of None, ints and such tuples, all to True -/
  | g (ks : List PySem.NestedKey)
  /-- what others have, kept out of sight for the time of a call: what is true of the data and of the cells -/
  | fr (P : (Addr → Option HO) → (Addr → Option HO) → Prop) (fp : List Addr)
  /-- the error that is handled, at a -/
  | x (a : Addr)
  deriving Inhabited
mutual
def er : O → Option PyData
  | .no => none
  | .d x => some x
  | .l xs => (ers xs).map .list
  | .fz _ => none
  | .m _ => none
  | .s _ => none
  | .i _ _ => none
  | .n _ => none
  | .j _ _ _ => none
  | .q _ => none
  | .g _ => none
  | .fr _ _ => none
  | .x _ => none
def ers : List O → Option (List PyData)
  | [] => some []
  | o :: os => match er o, ers os with
    | some x, some xs => some (x :: xs)
    | _, _ => none
end
theorem ers_d : ∀ ds : List PyData, ers (ds.map O.d) = some ds
  | [] => rfl
  | d :: ds => by
    show (match er (.d d), ers (ds.map O.d) with | some x, some xs => some (x :: xs) | _, _ => none) = _
    rw [ers_d ds]; rfl
/-- such a dict as the layer says it -/
def mKV (kvs : List (List Int × Int)) : List (List Key × V) := kvs.map fun p => (p.1.map .inl, .int p.2)
/-- a dict of keys carried by value, none of them a text -/
def LfO (a : Addr) (kvs : List (PySem.Leaf × V)) : HO := .ext fun h => kvs.length ≤ sizeLine ∧ (a == sysModules) = false ∧ ∃ vs, KV kvs vs ∧ ∀ (P : Program) (w : World), h.DictOf (leafKind P w) a vs
def lfK : Option Int → PySem.Leaf
  | none => .none
  | some i => .num i
def oV : Option Int → V
  | none => .non
  | some i => .int i
/-- a dict of pairs: what its one object holds, the pairs by where they stand -/
def PrV (x : (Option Int × Option Int) × Addr × Int) (y : List PySem.Leaf × Addr × Value) : Prop := y.1 = [lfK x.1.1, lfK x.1.2] ∧ y.2.1 = x.2.1 ∧ RelV (.int x.2.2) y.2.2
def PrO (a : Addr) (xs : List ((Option Int × Option Int) × Addr × Int)) : HO := .ext fun h => xs.length ≤ sizeLine ∧ (a == sysModules) = false ∧ ∃ vs, Paired PrV xs vs ∧ (vs.map (·.1)).Nodup ∧
  ∀ (P : Program) (w : World), ∃ o es ep, h.get? a = some o ∧ o.ExactDict ∧ o.data = .dict es ep ∧ es.toList = vs.map (entryOfKey (tupleKind (leafKind P w)))
mutual
/-- a key as the library says it -/
def nkOf : PyData → Option PySem.NestedKey
  | .none => some .none
  | .int i => some (.num i)
  | .tuple ds => (nkAll ds).map .tup
  | _ => none
def nkAll : List PyData → Option (List PySem.NestedKey)
  | [] => some []
  | d :: ds => match nkOf d, nkAll ds with
    | some k, some ks => some (k :: ks)
    | _, _ => none
end
/-- a dict of nested tuples to True: what its one object holds, the keys by where they stand -/
def NkV (x : PySem.NestedKey × Addr) (y : PySem.NestedKey × Addr × Value) : Prop := y.1 = x.1 ∧ y.2.1 = x.2 ∧ RelV (.bl true) y.2.2
def NkO (a : Addr) (xs : List (PySem.NestedKey × Addr)) : HO := .ext fun h => xs.length ≤ sizeLine ∧ (a == sysModules) = false ∧ ∃ vs, Paired NkV xs vs ∧ (vs.map (·.1)).Nodup ∧
  ∀ (P : Program) (w : World), ∃ o es ep, h.get? a = some o ∧ o.ExactDict ∧ o.data = .dict es ep ∧ es.toList = vs.map (entryOfKey (nestedKind P w))
def prK (xs : List ((Option Int × Option Int) × Addr × Int)) : List ((Option Int × Option Int) × Int) := xs.map fun x => (x.1, x.2.2)
def nKV (kvs : List (Option Int × Option Int)) : List (PySem.Leaf × V) := kvs.map fun p => (lfK p.1, oV p.2)
abbrev En := O × Option V
def hid (H : Hp) (R : List Addr) : Hp := fun a => if a ∈ R then none else H a
theorem hid_le {H : Hp} {R : List Addr} : Gr (hid H R) H := fun a o e => by
  unfold hid at e; split at e
  · cases e
  · exact e
theorem hid_sub {H : Hp} {R R' : List Addr} (h : ∀ a ∈ R', a ∈ R) : Gr (hid H R) (hid H R') := fun a o e => by
  unfold hid at e ⊢
  split at e
  · cases e
  · rename_i n
    rw [if_neg fun z => n (h a z)]; exact e
theorem hid_iff {H : Hp} {R R' : List Addr} (h : ∀ a, a ∈ R ↔ a ∈ R') : hid H R = hid H R' := by
  funext a; unfold hid
  by_cases e : a ∈ R
  · rw [if_pos e, if_pos ((h a).mp e)]
  · rw [if_neg e, if_neg fun z => e ((h a).mpr z)]
theorem hid_upd {H : Hp} {R : List Addr} {a : Addr} {o : HO} (h : a ∈ R) : hid (upd H a o) R = hid H R := by
  funext b; unfold hid
  by_cases e : b ∈ R
  · rw [if_pos e, if_pos e]
  · rw [if_neg e, if_neg e]; exact upd_ne fun z => e (by rw [z]; exact h)
theorem hid_none {H : Hp} {R : List Addr} {p : Addr} (h : H p = none) : hid H (p :: R) = hid H R := by
  funext b; unfold hid
  by_cases e : b ∈ R
  · rw [if_pos e, if_pos (List.mem_cons_of_mem _ e)]
  · rw [if_neg e]
    by_cases z : b = p
    · rw [z, h, if_pos List.mem_cons_self]
    · rw [if_neg fun q => (List.mem_cons.mp q).elim z e]
mutual
inductive Own (K : PySem.W.Frag) (G H : Hp) : O → Option V → List Addr → Prop
  | no {w : Option V} : Own K G H .no w []
  | d {v : V} {x : PyData} (h : Dq G v x) : Own K G H (.d x) (some v) []
  | l {a : Addr} {vs : List V} {os : List O} {fp : List Addr} (h : H a = some (.lst vs)) (t : OwnL K G H os vs fp) : Own K G H (.l os) (some (.ref a)) (a :: fp)
  | fz {a : Addr} {ns : List Int} (h : SqL K G a (ns.map V.int)) : Own K G H (.fz ns) (some (.ref a)) []
  | m {a : Addr} {kvs : List (List Int × Int)} (h : H a = some (.dT (mKV kvs))) : Own K G H (.m kvs) (some (.ref a)) [a]
  | s {v : V} {t : Ins} (h : Sh K G v t) : Own K G H (.s t) (some v) []
  | i {a C dx : Addr} {c : Str} {fs : List (Str × V)} {ps : InsL} (hc : PySem.W.nsIn K mainGlobals c = some (some (.ref C))) (h : H a = some (.ins C dx fs)) (t : ShP K G fs ps) : Own K G H (.i c ps) (some (.ref a)) [a]
  | n {a : Addr} {kvs : List (Option Int × Option Int)} (h : H a = some (LfO a (nKV kvs))) : Own K G H (.n kvs) (some (.ref a)) [a]
  | j {a C dx : Addr} {c : Str} {ns : List Str} {vs : List V} {os : List O} {fp : List Addr} (hc : PySem.W.nsIn K mainGlobals c = some (some (.ref C))) (h : H a = some (.ins C dx (ns.zip vs))) (hl : ns.length = vs.length) (t : OwnL K G H os vs fp) : Own K G H (.j c ns os) (some (.ref a)) (a :: fp)
  | q {a : Addr} {xs : List ((Option Int × Option Int) × Addr × Int)} {kvs : List ((Option Int × Option Int) × Int)} (e : kvs = prK xs) (h : H a = some (PrO a xs)) (hk : ∀ x ∈ xs, G x.2.1 = some (.tup [oV x.1.1, oV x.1.2])) : Own K G H (.q kvs) (some (.ref a)) [a]
  | g {a : Addr} {xs : List (PySem.NestedKey × Addr)} {ks : List PySem.NestedKey} (e : ks = xs.map (·.1)) (h : H a = some (NkO a xs)) (hk : ∀ x ∈ xs, ∃ d, nkOf d = some x.1 ∧ x.1.depth ≤ 8 ∧ Dq G (.ref x.2) d) : Own K G H (.g ks) (some (.ref a)) [a]
  | fr {P : Hp → Hp → Prop} {fp : List Addr} {w : Option V} (h : P G H) (st : ∀ G G' H H' : Hp, Gr G G' → (∀ a ∈ fp, H' a = H a) → P G H → P G' H') (ne : ∀ a ∈ fp, H a ≠ none) : Own K G H (.fr P fp) w fp
  | x {a : Addr} : Own K G H (.x a) (some (.ref a)) []
inductive OwnL (K : PySem.W.Frag) (G H : Hp) : List O → List V → List Addr → Prop
  | nil : OwnL K G H [] [] []
  | cons {o : O} {os : List O} {v : V} {vs : List V} {f1 f2 : List Addr} (h : Own K G H o (some v) f1) (t : OwnL K G H os vs f2) : OwnL K G H (o :: os) (v :: vs) (f1 ++ f2)
end
inductive OwnP (K : PySem.W.Frag) (G H : Hp) : List En → List Addr → Prop
  | nil : OwnP K G H [] []
  | cons {o : O} {w : Option V} {L : List En} {f1 f2 : List Addr} (h : Own K G H o w f1) (t : OwnP K G H L f2) : OwnP K G H ((o, w) :: L) (f1 ++ f2)
theorem sql_gr {K : PySem.W.Frag} {H H' : Hp} {a : Addr} {xs : List V} (g : Gr H H') (h : SqL K H a xs) : SqL K H' a xs := by
  rcases h with (h | ⟨o, h⟩) | h
  · exact .inl (.inl (g _ _ h))
  · exact .inl (.inr ⟨o, g _ _ h⟩)
  · exact .inr h
section
variable {K : PySem.W.Frag} {G G' H H' : Hp}
mutual
theorem Own.mono (g : Gr G G') : ∀ (o : O) (w : Option V) (fp : List Addr), (∀ a ∈ fp, H' a = H a) → Own K G H o w fp → Own K G' H' o w fp
  | .no, _, _, _, h => by cases h; exact .no
  | .d x, _, _, _, h => by cases h with | d h => exact .d (Dq.mono g _ _ h)
  | .fz _, _, _, _, h => by cases h with | fz h => exact .fz (sql_gr g h)
  | .m _, _, _, k, h => by cases h with | m h => exact .m ((k _ List.mem_cons_self).trans h)
  | .s _, _, _, _, h => by cases h with | s h => exact .s (Sh.mono g _ _ h)
  | .i _ _, _, _, k, h => by cases h with | i hc h t => exact .i hc ((k _ List.mem_cons_self).trans h) (ShP.mono g _ _ t)
  | .n _, _, _, k, h => by cases h with | n h => exact .n ((k _ List.mem_cons_self).trans h)
  | .q _, _, _, k, h => by cases h with | q e h hk => exact .q e ((k _ List.mem_cons_self).trans h) fun x hx => g _ _ (hk x hx)
  | .g _, _, _, k, h => by cases h with | g e h hk => exact .g e ((k _ List.mem_cons_self).trans h) fun x hx => let ⟨d, q1, q3, q2⟩ := hk x hx; ⟨d, q1, q3, Dq.mono g _ _ q2⟩
  | .fr _ _, _, _, k, h => by cases h with | fr h st ne => exact .fr (st _ _ _ _ g k h) st fun a ha => by rw [k a ha]; exact ne a ha
  | .x _, _, _, _, h => by cases h; exact .x
  | .j _ _ os, _, _, k, h => by
    cases h with
    | j hc e hl t => exact .j hc ((k _ List.mem_cons_self).trans e) hl (OwnL.mono g os _ _ (fun a m => k a (List.mem_cons_of_mem _ m)) t)
  | .l os, _, _, k, h => by
    cases h with
    | l e t => exact .l ((k _ List.mem_cons_self).trans e) (OwnL.mono g os _ _ (fun a m => k a (List.mem_cons_of_mem _ m)) t)
theorem OwnL.mono (g : Gr G G') : ∀ (os : List O) (vs : List V) (fp : List Addr), (∀ a ∈ fp, H' a = H a) → OwnL K G H os vs fp → OwnL K G' H' os vs fp
  | [], _, _, _, h => by cases h; exact .nil
  | o :: os, _, _, k, h => by
    cases h with
    | cons a t => exact .cons (Own.mono g o _ _ (fun a m => k a (List.mem_append_left _ m)) a) (OwnL.mono g os _ _ (fun a m => k a (List.mem_append_right _ m)) t)
end
theorem OwnP.mono (g : Gr G G') : ∀ (L : List En) (fp : List Addr), (∀ a ∈ fp, H' a = H a) → OwnP K G H L fp → OwnP K G' H' L fp
  | [], _, _, h => by cases h; exact .nil
  | _ :: L, _, k, h => by
    cases h with
    | cons a t => exact .cons (Own.mono g _ _ _ (fun a m => k a (List.mem_append_left _ m)) a) (OwnP.mono g L _ (fun a m => k a (List.mem_append_right _ m)) t)
mutual
theorem Own.there : ∀ (o : O) (w : Option V) (fp : List Addr), Own K G H o w fp → ∀ a ∈ fp, H a ≠ none
  | .no, _, _, h, a, m => by cases h; cases m
  | .s _, _, _, h, a, m => by cases h; cases m
  | .i _ _, _, _, h, a, m => by
    cases h with
    | i _ e _ =>
      rcases List.mem_cons.mp m with z | m
      · rw [z, e]; exact fun q => nomatch q
      · cases m
  | .d x, _, _, h, a, m => by cases h; cases m
  | .fz _, _, _, h, a, m => by cases h; cases m
  | .m _, _, _, h, a, m => by
    cases h with
    | m e =>
      rcases List.mem_cons.mp m with z | m
      · rw [z, e]; exact fun q => nomatch q
      · cases m
  | .n _, _, _, h, a, m => by
    cases h with
    | n e =>
      rcases List.mem_cons.mp m with z | m
      · rw [z, e]; exact fun q => nomatch q
      · cases m
  | .q _, _, _, h, a, m => by
    cases h with
    | q _ e _ =>
      rcases List.mem_cons.mp m with z | m
      · rw [z, e]; exact fun q => nomatch q
      · cases m
  | .g _, _, _, h, a, m => by
    cases h with
    | g _ e _ =>
      rcases List.mem_cons.mp m with z | m
      · rw [z, e]; exact fun q => nomatch q
      · cases m
  | .fr _ _, _, _, h, a, m => by cases h with | fr h st ne => exact ne a m
  | .x _, _, _, h, a, m => by cases h; cases m
  | .j _ _ os, _, _, h, a, m => by
    cases h with
    | j _ e _ t =>
      rcases List.mem_cons.mp m with z | m
      · rw [z, e]; exact fun q => nomatch q
      · exact OwnL.there os _ _ t a m
  | .l os, _, _, h, a, m => by
    cases h with
    | l e t =>
      rcases List.mem_cons.mp m with z | m
      · rw [z, e]; exact fun q => nomatch q
      · exact OwnL.there os _ _ t a m
theorem OwnL.there : ∀ (os : List O) (vs : List V) (fp : List Addr), OwnL K G H os vs fp → ∀ a ∈ fp, H a ≠ none
  | [], _, _, h, a, m => by cases h; cases m
  | o :: os, _, _, h, a, m => by
    cases h with
    | cons x t => exact (List.mem_append.mp m).elim (Own.there o _ _ x a) (OwnL.there os _ _ t a)
end
theorem OwnP.there : ∀ (L : List En) (fp : List Addr), OwnP K G H L fp → ∀ a ∈ fp, H a ≠ none
  | [], _, h, a, m => by cases h; cases m
  | _ :: L, _, h, a, m => by
    cases h with
    | cons x t => exact (List.mem_append.mp m).elim (Own.there _ _ _ x a) (OwnP.there L _ t a)
/- what an owned thing holds, as data of any heap that knows it -/
mutual
theorem Own.data (g : Gr G G') : ∀ (o : O) (v : V) (fp : List Addr) (x : PyData), (∀ a ∈ fp, G' a = H a) → er o = some x → Own K G H o (some v) fp → Dq G' v x
  | .no, _, _, _, _, e, _ => by cases e
  | .fz _, _, _, _, _, e, _ => by cases e
  | .m _, _, _, _, _, e, _ => by cases e
  | .s _, _, _, _, _, e, _ => by cases e
  | .i _ _, _, _, _, _, e, _ => by cases e
  | .n _, _, _, _, _, e, _ => by cases e
  | .q _, _, _, _, _, e, _ => by cases e
  | .g _, _, _, _, _, e, _ => by cases e
  | .fr _ _, _, _, _, _, e, _ => by cases e
  | .x _, _, _, _, _, e, _ => by cases e
  | .j _ _ _, _, _, _, _, e, _ => by cases e
  | .d x, _, _, _, _, e, h => by cases e; cases h with | d h => exact Dq.mono g _ _ h
  | .l os, _, _, x, k, e, h => by
    cases h with
    | l q t =>
      have e' : (ers os).map PyData.list = some x := e
      cases z : ers os with
      | none => rw [z] at e'; cases e'
      | some xs =>
        rw [z] at e'; cases e'
        exact .lst ((k _ List.mem_cons_self).trans q) (OwnL.data g os _ _ xs (fun a m => k a (List.mem_cons_of_mem _ m)) z t)
theorem OwnL.data (g : Gr G G') : ∀ (os : List O) (vs : List V) (fp : List Addr) (xs : List PyData), (∀ a ∈ fp, G' a = H a) → ers os = some xs → OwnL K G H os vs fp → DqL G' vs xs
  | [], _, _, _, _, e, h => by cases h; cases e; exact .nil
  | o :: os, _, _, xs, k, e, h => by
    cases h with
    | cons x t =>
      have e' : (match er o, ers os with | some x, some xs => some (x :: xs) | _, _ => none) = some xs := e
      cases z : er o with
      | none => rw [z] at e'; cases e'
      | some y =>
        cases z2 : ers os with
        | none => rw [z, z2] at e'; cases e'
        | some ys =>
          rw [z, z2] at e'; cases e'
          exact .cons (Own.data g o _ _ y (fun a m => k a (List.mem_append_left _ m)) z x) (OwnL.data g os _ _ ys (fun a m => k a (List.mem_append_right _ m)) z2 t)
end
theorem OwnL.len : ∀ {os : List O} {vs : List V} {fp : List Addr}, OwnL K G H os vs fp → os.length = vs.length
  | [], _, _, h => by cases h; rfl
  | _ :: _, _, _, h => by cases h with | cons _ t => simp [OwnL.len t]
theorem OwnP.app : ∀ {L M : List En} {f g : List Addr}, OwnP K G H L f → OwnP K G H M g → OwnP K G H (L ++ M) (f ++ g)
  | [], _, _, _, a, b => by cases a; exact b
  | _ :: L, _, _, _, a, b => by
    cases a with
    | cons x t => rw [List.append_assoc]; exact .cons x (OwnP.app t b)
theorem OwnP.split : ∀ {L M : List En} {f : List Addr}, OwnP K G H (L ++ M) f → ∃ f1 f2, f = f1 ++ f2 ∧ OwnP K G H L f1 ∧ OwnP K G H M f2
  | [], _, f, a => ⟨[], f, rfl, .nil, a⟩
  | _ :: L, _, _, a => by
    cases a with
    | cons x t =>
      obtain ⟨f1, f2, e, a1, a2⟩ := OwnP.split t
      exact ⟨_ ++ f1, f2, by rw [e, List.append_assoc], .cons x a1, a2⟩
theorem OwnL.toP : ∀ {os : List O} {vs : List V} {fp : List Addr}, OwnL K G H os vs fp → OwnP K G H (os.zip (vs.map some)) fp
  | [], _, _, h => by cases h; exact .nil
  | _ :: _, _, _, h => by cases h with | cons a t => exact .cons a (OwnL.toP t)
theorem OwnL.ofP : ∀ {os : List O} {vs : List V} {fp : List Addr}, os.length = vs.length → OwnP K G H (os.zip (vs.map some)) fp → OwnL K G H os vs fp
  | [], [], _, _, h => by cases h; exact .nil
  | _ :: _, _ :: _, _, e, h => by
    cases h with
    | cons a t => exact .cons a (OwnL.ofP (by simpa using e) t)
theorem OwnP.perm {L M : List En} (p : L.Perm M) : ∀ {f : List Addr}, OwnP K G H L f → ∃ g, f.Perm g ∧ OwnP K G H M g := by
  induction p with
  | nil => exact fun {f} h => ⟨f, .refl _, h⟩
  | cons x _ ih =>
    intro f h
    cases h with
    | cons a t =>
      obtain ⟨g, pg, hg⟩ := ih t
      exact ⟨_, pg.append_left _, .cons a hg⟩
  | swap x y l =>
    intro f h
    cases h with
    | cons a t =>
      cases t with
      | cons b t =>
        refine ⟨_, ?_, .cons b (.cons a t)⟩
        rw [← List.append_assoc, ← List.append_assoc]
        exact List.Perm.append_right _ List.perm_append_comm
  | trans _ _ ih1 ih2 =>
    intro f h
    obtain ⟨g, pg, hg⟩ := ih1 h
    obtain ⟨g', pg', hg'⟩ := ih2 hg
    exact ⟨g', pg.trans pg', hg'⟩
end

/-! ### the relation -/
/-- the entries L are so in H; R: addresses that a rule holds in its hands -/
def Rel (K : PySem.W.Frag) (H : Hp) (R : List Addr) (L : List En) : Prop :=
  ∃ fp, (R ++ fp).Nodup ∧ (∀ a ∈ R, H a ≠ none) ∧ OwnP K (hid H (R ++ fp)) H L fp
section
variable {K : PySem.W.Frag} {H : Hp} {R : List Addr} {L M T : List En}
theorem Rel.perm (h : Rel K H R L) (p : L.Perm M) : Rel K H R M := by
  obtain ⟨fp, nd, ht, ho⟩ := h
  obtain ⟨g, pg, hg⟩ := ho.perm p
  have pp : (R ++ fp).Perm (R ++ g) := pg.append_left _
  refine ⟨g, pp.nodup_iff.mp nd, ht, ?_⟩
  rw [← hid_iff (R := R ++ fp) fun a => pp.mem_iff]; exact hg
theorem Rel.drop {x : En} (h : Rel K H R (x :: L)) : Rel K H R L := by
  obtain ⟨fp, nd, ht, ho⟩ := h
  cases ho with
  | cons a t =>
    rename_i o w f1 f2
    refine ⟨f2, ?_, ht, OwnP.mono (hid_sub fun b m => ?_) _ _ (fun _ _ => rfl) t⟩
    · exact nd.sublist ((List.sublist_append_right f1 f2).append_left R)
    · exact (List.mem_append.mp m).elim (List.mem_append_left _) fun m => List.mem_append_right _ (List.mem_append_right _ m)
theorem Rel.drops (h : Rel K H R (L ++ M)) : Rel K H R M := by
  induction L with
  | nil => exact h
  | cons x L ih => exact ih (Rel.drop h)
theorem Rel.swap {x y : En} (h : Rel K H R (x :: y :: L)) : Rel K H R (y :: x :: L) := h.perm (.swap ..)
theorem Rel.mid {x : En} (h : Rel K H R (L ++ x :: M)) : Rel K H R (x :: (L ++ M)) := h.perm List.perm_middle
theorem Rel.unmid {x : En} (h : Rel K H R (x :: (L ++ M))) : Rel K H R (L ++ x :: M) := h.perm List.perm_middle.symm
theorem Rel.addNo {w : Option V} (h : Rel K H R L) : Rel K H R ((.no, w) :: L) := by
  obtain ⟨fp, nd, ht, ho⟩ := h
  exact ⟨fp, nd, ht, OwnP.cons (f1 := []) .no ho⟩
theorem Rel.dup {x : PyData} {w : Option V} (h : Rel K H R ((.d x, w) :: L)) : Rel K H R ((.d x, w) :: (.d x, w) :: L) := by
  obtain ⟨fp, nd, ht, ho⟩ := h
  cases ho with
  | cons a t =>
    cases a with
    | d q => exact ⟨_, nd, ht, OwnP.cons (f1 := []) (.d q) (OwnP.cons (f1 := []) (.d q) t)⟩
theorem Rel.dupF {ns : List Int} {w : Option V} (h : Rel K H R ((.fz ns, w) :: L)) : Rel K H R ((.fz ns, w) :: (.fz ns, w) :: L) := by
  obtain ⟨fp, nd, ht, ho⟩ := h
  cases ho with
  | cons a t =>
    cases a with
    | fz q => exact ⟨_, nd, ht, OwnP.cons (f1 := []) (.fz q) (OwnP.cons (f1 := []) (.fz q) t)⟩
theorem Rel.dupI {t : Ins} {w : Option V} (h : Rel K H R ((.s t, w) :: L)) : Rel K H R ((.s t, w) :: (.s t, w) :: L) := by
  obtain ⟨fp, nd, ht, ho⟩ := h
  cases ho with
  | cons a t =>
    cases a with
    | s q => exact ⟨_, nd, ht, OwnP.cons (f1 := []) (.s q) (OwnP.cons (f1 := []) (.s q) t)⟩
/-- a thing without an address -/
theorem Rel.addS {x : PyData} (hx : scal1 x = true) (h : Rel K H R L) : Rel K H R ((.d x, some (toV x)) :: L) := by
  obtain ⟨fp, nd, ht, ho⟩ := h
  exact ⟨fp, nd, ht, OwnP.cons (f1 := []) (.d (Dq.scal hx)) ho⟩
theorem Rel.scal {x : PyData} {w : Option V} (hx : scal1 x = true) (h : Rel K H R ((.d x, w) :: L)) : w = some (toV x) := by
  obtain ⟨fp, nd, ht, ho⟩ := h
  cases ho with
  | cons a t => cases a with | d q => rw [Dq.scalV hx q]
/-- the reading of an entry as it stands -/
theorem Rel.view {o : O} {v : V} {x : PyData} (h : Rel K H R ((o, some v) :: L)) (e : er o = some x) : Dq H v x := by
  obtain ⟨fp, nd, ht, ho⟩ := h
  cases ho with
  | cons a t => exact Own.data hid_le o v _ x (fun _ _ => rfl) e a
theorem Rel.viewF {ns : List Int} {v : V} (h : Rel K H R ((.fz ns, some v) :: L)) : ∃ a, v = .ref a ∧ SqL K H a (ns.map V.int) := by
  obtain ⟨fp, nd, ht, ho⟩ := h
  cases ho with
  | cons a t => cases a with | fz q => exact ⟨_, rfl, sql_gr hid_le q⟩
theorem Rel.freeze {o : O} {v : V} {x : PyData} (h : Rel K H R ((o, some v) :: L)) (e : er o = some x) : Rel K H R ((.d x, some v) :: L) := by
  obtain ⟨fp, nd, ht, ho⟩ := h
  cases ho with
  | cons a t =>
    rename_i f1 f2
    have nd2 : (R ++ f2).Nodup := nd.sublist ((List.sublist_append_right f1 f2).append_left R)
    have g : Gr (hid H (R ++ (f1 ++ f2))) (hid H (R ++ f2)) := hid_sub fun b m => (List.mem_append.mp m).elim (List.mem_append_left _) fun m => List.mem_append_right _ (List.mem_append_right _ m)
    refine ⟨f2, nd2, ht, OwnP.cons (f1 := []) (.d (Own.data g o v _ x (fun b m => ?_) e a)) (OwnP.mono g _ _ (fun _ _ => rfl) t)⟩
    unfold hid
    rw [if_neg fun z => ?_]
    have d1 := List.nodup_append.mp nd
    have d2 := List.nodup_append.mp d1.2.1
    rcases List.mem_append.mp z with z | z
    · exact d1.2.2 b z b (List.mem_append_left _ m) rfl
    · exact d2.2.2 b m b z rfl
/-- a fresh address comes into hand -/
theorem Rel.fresh {p : Addr} {u : HO} (hp : H p = none) (h : Rel K H R L) : Rel K (upd H p u) (p :: R) L := by
  obtain ⟨fp, nd, ht, ho⟩ := h
  have n1 : p ∉ R := fun m => ht p m hp
  have n2 : p ∉ fp := fun m => OwnP.there _ _ ho p m hp
  refine ⟨fp, ?_, fun a m => ?_, ?_⟩
  · exact List.nodup_cons.mpr ⟨fun m => (List.mem_append.mp m).elim n1 n2, nd⟩
  · rcases List.mem_cons.mp m with z | m
    · rw [z, upd_same]; exact fun q => nomatch q
    · rw [upd_ne (show a ≠ p from fun z => n1 (by rw [← z]; exact m))]; exact ht a m
  · have e : hid (upd H p u) (p :: R ++ fp) = hid H (R ++ fp) := by
      rw [hid_upd (show p ∈ p :: R ++ fp from List.mem_cons_self)]; exact hid_none hp
    rw [e]
    exact OwnP.mono Gr.rfl _ _ (fun a m => upd_ne fun z => n2 (by rw [← z]; exact m)) ho
/-- what is in hand is changed -/
theorem Rel.hand {a : Addr} {u : HO} (ha : a ∈ R) (h : Rel K H R L) : Rel K (upd H a u) R L := by
  obtain ⟨fp, nd, ht, ho⟩ := h
  have n2 : a ∉ fp := fun m => (List.nodup_append.mp nd).2.2 a ha a m rfl
  refine ⟨fp, nd, fun b m => ?_, ?_⟩
  · by_cases z : b = a
    · rw [z, upd_same]; exact fun q => nomatch q
    · rw [upd_ne z]; exact ht b m
  · rw [hid_upd (List.mem_append_left _ ha)]
    exact OwnP.mono Gr.rfl _ _ (fun b m => upd_ne fun z => n2 (by rw [← z]; exact m)) ho
/-- what is in hand is let go -/
theorem Rel.letgo {a : Addr} (h : Rel K H (a :: R) L) : Rel K H R L := by
  obtain ⟨fp, nd, ht, ho⟩ := h
  refine ⟨fp, (List.nodup_cons.mp nd).2, fun b m => ht b (List.mem_cons_of_mem _ m), OwnP.mono (hid_sub fun b m => List.mem_cons_of_mem _ m) _ _ (fun _ _ => rfl) ho⟩
theorem Rel.close {a : Addr} {os : List O} {vs : List V} (ha : H a = some (.lst vs)) (hl : os.length = vs.length) (h : Rel K H (a :: R) (os.zip (vs.map some) ++ L)) : Rel K H R ((.l os, some (.ref a)) :: L) := by
  obtain ⟨fp, nd, ht, ho⟩ := h
  obtain ⟨f1, f2, e, h1, h2⟩ := ho.split
  subst e
  have pp : (a :: R ++ (f1 ++ f2)).Perm (R ++ ((a :: f1) ++ f2)) := by
    show (a :: (R ++ (f1 ++ f2))).Perm (R ++ (a :: (f1 ++ f2)))
    exact List.perm_middle.symm
  have eh := hid_iff (H := H) fun b => pp.mem_iff (a := b)
  refine ⟨(a :: f1) ++ f2, pp.nodup_iff.mp nd, fun b m => ht b (List.mem_cons_of_mem _ m), ?_⟩
  rw [← eh]
  exact .cons (.l ha (OwnL.ofP hl h1)) h2
theorem Rel.open {w : Option V} {os : List O} (h : Rel K H R ((.l os, w) :: L)) : ∃ a vs, w = some (.ref a) ∧ H a = some (.lst vs) ∧ os.length = vs.length ∧ Rel K H (a :: R) (os.zip (vs.map some) ++ L) := by
  obtain ⟨fp, nd, ht, ho⟩ := h
  cases ho with
  | cons x t =>
    cases x with
    | l ha tl =>
      rename_i f2 a vs f1
      have pp : (R ++ ((a :: f1) ++ f2)).Perm (a :: R ++ (f1 ++ f2)) := by
        show (R ++ (a :: (f1 ++ f2))).Perm (a :: (R ++ (f1 ++ f2)))
        exact List.perm_middle
      have eh := hid_iff (H := H) fun b => pp.mem_iff (a := b)
      refine ⟨a, vs, rfl, ha, tl.len, f1 ++ f2, pp.nodup_iff.mp nd, fun b m => ?_, ?_⟩
      · rcases List.mem_cons.mp m with z | m
        · rw [z, ha]; exact fun q => nomatch q
        · exact ht b m
      · rw [← eh]; exact tl.toP.app t
theorem Rel.closeM {a : Addr} {kvs : List (List Int × Int)} (ha : H a = some (.dT (mKV kvs))) (h : Rel K H (a :: R) L) : Rel K H R ((.m kvs, some (.ref a)) :: L) := by
  obtain ⟨fp, nd, ht, ho⟩ := h
  have pp : (a :: R ++ fp).Perm (R ++ ([a] ++ fp)) := by
    show (a :: (R ++ fp)).Perm (R ++ (a :: fp))
    exact List.perm_middle.symm
  have eh := hid_iff (H := H) fun b => pp.mem_iff (a := b)
  refine ⟨[a] ++ fp, pp.nodup_iff.mp nd, fun b m => ht b (List.mem_cons_of_mem _ m), ?_⟩
  rw [← eh]
  exact .cons (.m ha) ho
theorem Rel.openM {w : Option V} {kvs : List (List Int × Int)} (h : Rel K H R ((.m kvs, w) :: L)) : ∃ a, w = some (.ref a) ∧ H a = some (.dT (mKV kvs)) ∧ Rel K H (a :: R) L := by
  obtain ⟨fp, nd, ht, ho⟩ := h
  cases ho with
  | cons x t =>
    cases x with
    | m ha =>
      rename_i f2 a
      have pp : (R ++ ([a] ++ f2)).Perm (a :: R ++ f2) := by
        show (R ++ (a :: f2)).Perm (a :: (R ++ f2))
        exact List.perm_middle
      have eh := hid_iff (H := H) fun b => pp.mem_iff (a := b)
      refine ⟨a, rfl, ha, f2, pp.nodup_iff.mp nd, fun b m => ?_, ?_⟩
      · rcases List.mem_cons.mp m with z | m
        · rw [z, ha]; exact fun q => nomatch q
        · exact ht b m
      · rw [← eh]; exact t
theorem Rel.closeN {a : Addr} {kvs : List (Option Int × Option Int)} (ha : H a = some (LfO a (nKV kvs))) (h : Rel K H (a :: R) L) : Rel K H R ((.n kvs, some (.ref a)) :: L) := by
  obtain ⟨fp, nd, ht, ho⟩ := h
  have pp : (a :: R ++ fp).Perm (R ++ ([a] ++ fp)) := by
    show (a :: (R ++ fp)).Perm (R ++ (a :: fp))
    exact List.perm_middle.symm
  have eh := hid_iff (H := H) fun b => pp.mem_iff (a := b)
  refine ⟨[a] ++ fp, pp.nodup_iff.mp nd, fun b m => ht b (List.mem_cons_of_mem _ m), ?_⟩
  rw [← eh]
  exact .cons (.n ha) ho
theorem Rel.openN {w : Option V} {kvs : List (Option Int × Option Int)} (h : Rel K H R ((.n kvs, w) :: L)) : ∃ a, w = some (.ref a) ∧ H a = some (LfO a (nKV kvs)) ∧ Rel K H (a :: R) L := by
  obtain ⟨fp, nd, ht, ho⟩ := h
  cases ho with
  | cons x t =>
    cases x with
    | n ha =>
      rename_i f2 a
      have pp : (R ++ ([a] ++ f2)).Perm (a :: R ++ f2) := by
        show (R ++ (a :: f2)).Perm (a :: (R ++ f2))
        exact List.perm_middle
      have eh := hid_iff (H := H) fun b => pp.mem_iff (a := b)
      refine ⟨a, rfl, ha, f2, pp.nodup_iff.mp nd, fun b m => ?_, ?_⟩
      · rcases List.mem_cons.mp m with z | m
        · rw [z, ha]; exact fun q => nomatch q
        · exact ht b m
      · rw [← eh]; exact t
theorem hid_get {a : Addr} {o : HO} (h : H a = some o) (n : a ∉ R) : hid H R a = some o := by
  unfold hid; rw [if_neg n]; exact h
theorem ownP_data {G : Hp} : ∀ {ds : List PyData} {vs : List V} {f : List Addr}, ds.length = vs.length → OwnP K G H ((ds.map O.d).zip (vs.map some)) f → f = [] ∧ DqL G vs ds
  | [], [], _, _, h => by cases h; exact ⟨rfl, .nil⟩
  | _ :: _, _ :: _, _, e, h => by
    cases h with
    | cons a t =>
      cases a with
      | d q =>
        obtain ⟨e2, t2⟩ := ownP_data (by simpa using e) t
        exact ⟨by rw [e2]; rfl, .cons q t2⟩
theorem data_ownP {G : Hp} : ∀ {ds : List PyData} {vs : List V}, DqL G vs ds → OwnP K G H ((ds.map O.d).zip (vs.map some)) []
  | [], _, h => by cases h; exact .nil
  | _ :: _, _, h => by cases h with | cons a t => exact OwnP.cons (f1 := []) (.d a) (data_ownP t)
/-- a new tuple of data -/
theorem Rel.tuple {p : Addr} {ds : List PyData} {vs : List V} (hp : H p = some (.tup vs)) (hl : ds.length = vs.length) (h : Rel K H (p :: R) ((ds.map O.d).zip (vs.map some) ++ L)) : Rel K H R ((.d (.tuple ds), some (.ref p)) :: L) := by
  obtain ⟨fp, nd, ht, ho⟩ := h
  obtain ⟨f1, f2, e, h1, h2⟩ := ho.split
  obtain ⟨e1, hd⟩ := ownP_data hl h1
  subst e e1
  have nd' : (p :: (R ++ f2)).Nodup := nd
  have g : Gr (hid H (p :: R ++ ([] ++ f2))) (hid H (R ++ f2)) := hid_sub fun b m => List.mem_cons_of_mem _ m
  refine ⟨f2, (List.nodup_cons.mp nd').2, fun b m => ht b (List.mem_cons_of_mem _ m), ?_⟩
  exact OwnP.cons (f1 := []) (.d (.tup (hid_get hp (List.nodup_cons.mp nd').1) (DqL.mono g _ _ hd))) (OwnP.mono g _ _ (fun _ _ => rfl) h2)
/-- the items of shared data beside it -/
theorem Rel.items {ds : List PyData} {w : Option V} (h : Rel K H R ((.d (.list ds), w) :: L)) : ∃ a vs, w = some (.ref a) ∧ H a = some (.lst vs) ∧ ds.length = vs.length ∧ DqL H vs ds ∧ Rel K H R ((ds.map O.d).zip (vs.map some) ++ (.d (.list ds), w) :: L) := by
  obtain ⟨fp, nd, ht, ho⟩ := h
  cases ho with
  | cons a t =>
    cases a with
    | d q =>
      cases q with
      | lst hh tt =>
        exact ⟨_, _, rfl, hid_le _ _ hh, tt.len.symm, DqL.mono hid_le _ _ tt, _, nd, ht, OwnP.app (f := []) (data_ownP tt) (OwnP.cons (f1 := []) (.d (.lst hh tt)) t)⟩
theorem Rel.itemsT {ds : List PyData} {w : Option V} (h : Rel K H R ((.d (.tuple ds), w) :: L)) : ∃ a vs, w = some (.ref a) ∧ H a = some (.tup vs) ∧ ds.length = vs.length ∧ DqL H vs ds ∧ Rel K H R ((ds.map O.d).zip (vs.map some) ++ (.d (.tuple ds), w) :: L) := by
  obtain ⟨fp, nd, ht, ho⟩ := h
  cases ho with
  | cons a t =>
    cases a with
    | d q =>
      cases q with
      | tup hh tt =>
        exact ⟨_, _, rfl, hid_le _ _ hh, tt.len.symm, DqL.mono hid_le _ _ tt, _, nd, ht, OwnP.app (f := []) (data_ownP tt) (OwnP.cons (f1 := []) (.d (.tup hh tt)) t)⟩
end

/-! ### slots -/
theorem set_perm {α : Type} : ∀ {Z : List α} {i : Nat} {x : α}, i < Z.length → (Z.set i x).Perm (x :: Z.eraseIdx i)
  | [], _, _, h => absurd h (Nat.not_lt_zero _)
  | z :: Z, 0, x, _ => .refl _
  | z :: Z, i + 1, x, h => ((set_perm (Z := Z) (i := i) (x := x) (Nat.lt_of_succ_lt_succ h)).cons z).trans (.swap ..)
theorem get_perm {α : Type} : ∀ {Z : List α} {i : Nat} {x : α}, Z[i]? = some x → Z.Perm (x :: Z.eraseIdx i)
  | [], _, _, h => by simp at h
  | z :: Z, 0, x, h => by simp at h; subst h; exact .refl _
  | z :: Z, i + 1, x, h => ((get_perm (Z := Z) (i := i) (x := x) (by simpa using h)).cons z).trans (.swap ..)
theorem zip_set {α β : Type} : ∀ {S : List α} {σ : List β} {i : Nat} {o : α} {w : β}, (S.set i o).zip (σ.set i w) = (S.zip σ).set i (o, w)
  | [], _, _, _, _ => by simp
  | _ :: _, [], _, _, _ => by simp
  | _ :: S, _ :: σ, 0, _, _ => rfl
  | x :: S, y :: σ, i + 1, o, w => by
    show (x, y) :: (S.set i o).zip (σ.set i w) = (x, y) :: (S.zip σ).set i (o, w)
    rw [zip_set]
theorem zip_get {α β : Type} : ∀ {S : List α} {σ : List β} {i : Nat} {o : α} {w : β}, S[i]? = some o → σ[i]? = some w → (S.zip σ)[i]? = some (o, w)
  | [], _, _, _, _, h, _ => by simp at h
  | _ :: _, [], _, _, _, _, h => by simp at h
  | _ :: S, _ :: σ, 0, _, _, h, k => by simp at h k; subst h k; rfl
  | x :: S, y :: σ, i + 1, o, w, h, k => by
    show (S.zip σ)[i]? = _
    exact zip_get (by simpa using h) (by simpa using k)
theorem set_self {α : Type} : ∀ {σ : List α} {i : Nat} {w : α}, σ[i]? = some w → σ.set i w = σ
  | [], _, _, h => by simp at h
  | _ :: σ, 0, _, h => by simp at h; subst h; rfl
  | x :: σ, i + 1, w, h => by
    show x :: σ.set i w = x :: σ
    rw [set_self (by simpa using h)]
section
variable {K : PySem.W.Frag} {H : Hp} {R : List Addr} {S : List O} {σ : L2.St} {T : List En} {i : Nat} {o : O}
theorem Rel.take {w : Option V} (h : Rel K H R (S.zip σ ++ T)) (hS : S[i]? = some o) (hw : σ[i]? = some w) : Rel K H R ((o, w) :: ((S.set i .no).zip σ ++ T)) := by
  have e : (S.set i .no).zip σ = (S.zip σ).set i (.no, w) := by rw [← zip_set, set_self hw]
  have hz := zip_get hS hw
  have hi : i < (S.zip σ).length := by
    obtain ⟨q, _⟩ := List.getElem?_eq_some_iff.mp hz
    exact q
  have p1 : (S.zip σ ++ T).Perm ((o, w) :: ((S.zip σ).eraseIdx i ++ T)) := (get_perm hz).append_right T
  have h2 := (h.perm p1).perm (.cons _ (.refl _))
  have h3 : Rel K H R ((.no, w) :: (o, w) :: ((S.zip σ).eraseIdx i ++ T)) := h2.addNo
  rw [e]
  exact h3.swap.perm (.cons _ ((set_perm hi).symm.append_right T))
theorem Rel.assign {v : V} (h : Rel K H R ((o, some v) :: (S.zip σ ++ T))) (hl : S.length = σ.length) : Rel K H R ((S.set i o).zip (σ.set i (some v)) ++ T) := by
  rw [zip_set]
  by_cases hi : i < (S.zip σ).length
  · have p1 : ((S.zip σ).set i (o, some v) ++ T).Perm ((o, some v) :: ((S.zip σ).eraseIdx i ++ T)) := (set_perm hi).append_right T
    refine Rel.perm ?_ p1.symm
    have hz : (S.zip σ)[i]? = some ((S.zip σ)[i]) := List.getElem?_eq_getElem hi
    have p2 : (S.zip σ ++ T).Perm ((S.zip σ)[i] :: ((S.zip σ).eraseIdx i ++ T)) := (get_perm hz).append_right T
    have h2 := h.perm (.cons _ p2)
    exact h2.swap.drop
  · rw [List.set_eq_of_length_le (Nat.le_of_not_lt hi)]
    exact h.drop
theorem Rel.put {w : Option V} (h : Rel K H R ((o, w) :: (S.zip σ ++ T))) (hw : σ[i]? = some w) : Rel K H R ((S.set i o).zip σ ++ T) := by
  have e : (S.set i o).zip σ = (S.zip σ).set i (o, w) := by rw [← zip_set, set_self hw]
  rw [e]
  by_cases hi : i < (S.zip σ).length
  · have p1 : ((S.zip σ).set i (o, w) ++ T).Perm ((o, w) :: ((S.zip σ).eraseIdx i ++ T)) := (set_perm hi).append_right T
    refine Rel.perm ?_ p1.symm
    have hz : (S.zip σ)[i]? = some ((S.zip σ)[i]) := List.getElem?_eq_getElem hi
    have p2 : (S.zip σ ++ T).Perm ((S.zip σ)[i] :: ((S.zip σ).eraseIdx i ++ T)) := (get_perm hz).append_right T
    exact (h.perm (.cons _ p2)).swap.drop
  · rw [List.set_eq_of_length_le (Nat.le_of_not_lt hi)]
    exact h.drop
end
end FT
/-! FT2: what a reading does, told by a plain function on abstract slots: expressions, arguments, tests, statements. -/
namespace FT
open PySem PySem.Spec PyProof.Rows L2
abbrev Slots := L2.St

structure Ex where
  cls : Str
  val : Option PyData
abbrev Sl := List O
/-- the result of a piece: nothing is told (none), an error, or a value; and the slots behind it -/
abbrev M (α : Type) := Option (Except Ex α × Sl)
@[reducible] def bnd {α β : Type} (r : M α) (k : α → Sl → M β) : M β :=
  match r with
  | none => none
  | some (.error e, S) => some (.error e, S)
  | some (.ok a, S) => k a S
@[simp] theorem bnd_none {α β : Type} {k : α → Sl → M β} : bnd none k = none := rfl
@[simp] theorem bnd_ok {α β : Type} {a : α} {S : Sl} {k : α → Sl → M β} : bnd (some (.ok a, S)) k = k a S := rfl
@[simp] theorem bnd_err {α β : Type} {e : Ex} {S : Sl} {k : α → Sl → M β} : bnd (some (.error e, S)) k = some (.error e, S) := rfl
theorem bnd_cases {α β : Type} {r : M α} {k : α → Sl → M β} {out : Except Ex β} {S : Sl} (h : bnd r k = some (out, S)) :
    (∃ e, r = some (.error e, S) ∧ out = .error e) ∨ ∃ a S1, r = some (.ok a, S1) ∧ k a S1 = some (out, S) := by
  match r, h with
  | some (.error e, S1), h => cases h; exact .inl ⟨e, rfl, rfl⟩
  | some (.ok a, S1), h => exact .inr ⟨a, S1, rfl, h⟩
/-- how an error lies: its class, its own dict, the heap -/
abbrev YX := Ex → Value → Option Addr → Hp → Prop
section
variable (K : PySem.W.Frag) (Y : YX) (W : WX)
def PostE (R : List Addr) (T : List En) (σ : Slots) (Q : VK) : Except Ex O → Sl → Prop
  | .ok o, S' => S'.length = σ.length → ∀ v H', Rel K H' R ((o, some v) :: (S'.zip σ ++ T)) → Q v H'
  | .error e, S' => S'.length = σ.length → ∀ cls dd H', Y e cls dd H' → Rel K H' R (S'.zip σ ++ T) → W cls dd σ H'
def PostB (R : List Addr) (T : List En) (σ : Slots) (Q : Bool → Hp → Prop) : Except Ex Bool → Sl → Prop
  | .ok b, S' => S'.length = σ.length → ∀ H', Rel K H' R (S'.zip σ ++ T) → Q b H'
  | .error e, S' => S'.length = σ.length → ∀ cls dd H', Y e cls dd H' → Rel K H' R (S'.zip σ ++ T) → W cls dd σ H'
/-- an expression -/
def SE (te : TE) (f : Sl → M O) : Prop := ∀ (R : List Addr) (T : List En) (S : Sl) (σ : Slots) (H : Hp) (Q : VK) (out : Except Ex O) (S' : Sl),
  S.length = σ.length → f S = some (out, S') → Rel K H R (S.zip σ ++ T) → PostE K Y W R T σ Q out S' → te σ H Q
/-- a test -/
def ST (tt : TT) (f : Sl → M Bool) : Prop := ∀ (R : List Addr) (T : List En) (S : Sl) (σ : Slots) (H : Hp) (Q : Bool → Hp → Prop) (out : Except Ex Bool) (S' : Sl),
  S.length = σ.length → f S = some (out, S') → Rel K H R (S.zip σ ++ T) → PostB K Y W R T σ Q out S' → tt σ H Q
end

/-! ### arguments -/
inductive Ar where
  /-- a name, looked at where the call stands -/
  | v (i : Nat)
  | e (f : Sl → M O)
abbrev Hd := Nat ⊕ O
def isD : O → Bool
  | .d _ => true
  | .fz _ => true
  | .s _ => true
  | _ => false
def isNo : O → Bool
  | .no => true
  | .fr _ _ => true
  | _ => false
def argsE : List Ar → Sl → M (List Hd)
  | [], S => some (.ok [], S)
  | .v i :: as, S => if isNo (S.getD i .no) then none else bnd (argsE as S) fun hs S1 => some (.ok (.inl i :: hs), S1)
  | .e f :: as, S => bnd (f S) fun o S1 => bnd (argsE as S1) fun hs S2 => some (.ok (.inr o :: hs), S2)
def grab : List Hd → Sl → List O × Sl
  | [], S => ([], S)
  | .inr o :: hs, S => let r := grab hs S; (o :: r.1, r.2)
  | .inl i :: hs, S => let o := S.getD i .no; let r := grab hs (if isD o then S else S.set i .no); (o :: r.1, r.2)
def back : List Hd → List O → Sl → Sl
  | .inl i :: hs, o :: os, S => back hs os (if isNo (S.getD i .no) then S.set i o else S)
  | .inr _ :: hs, _ :: os, S => back hs os S
  | _, _, S => S
inductive Hv (σ : Slots) : List Hd → List V → List En → Prop
  | nil : Hv σ [] [] []
  | l {i : Nat} {v : V} {hs : List Hd} {vs : List V} {L : List En} (h : σ[i]? = some (some v)) (t : Hv σ hs vs L) : Hv σ (.inl i :: hs) (v :: vs) L
  | r {o : O} {v : V} {hs : List Hd} {vs : List V} {L : List En} (t : Hv σ hs vs L) : Hv σ (.inr o :: hs) (v :: vs) ((o, some v) :: L)
section
variable (K : PySem.W.Frag) (Y : YX) (W : WX)
def PostA (R : List Addr) (T : List En) (σ : Slots) (Q : List V → Hp → Prop) : Except Ex (List Hd) → Sl → Prop
  | .ok hs, S' => S'.length = σ.length → ∀ vs L H', Hv σ hs vs L → Rel K H' R (L ++ (S'.zip σ ++ T)) → Q vs H'
  | .error e, S' => S'.length = σ.length → ∀ cls dd H', Y e cls dd H' → Rel K H' R (S'.zip σ ++ T) → W cls dd σ H'
def SA (ta : TA) (as : List Ar) : Prop := ∀ (R : List Addr) (T : List En) (S : Sl) (σ : Slots) (H : Hp) (Q : List V → Hp → Prop) (out : Except Ex (List Hd)) (S' : Sl),
  S.length = σ.length → argsE as S = some (out, S') → Rel K H R (S.zip σ ++ T) → PostA K Y W R T σ Q out S' → ta σ H Q
/-- what is asked of values vs, by the abstract values -/
abbrev RX := List V → Hp → VK → XK → Prop
abbrev Fn := List O → Option (Except Ex O × List O)
def PostF (R : List Addr) (L : List En) (vs : List V) (Q : VK) (E : XK) : Except Ex O → List O → Prop
  | .ok o, os' => os'.length = vs.length → ∀ v H', Rel K H' R ((o, some v) :: (os'.zip (vs.map some) ++ L)) → Q v H'
  | .error e, os' => os'.length = vs.length → ∀ cls dd H', Y e cls dd H' → Rel K H' R (os'.zip (vs.map some) ++ L) → E cls dd H'
def FR (r : RX) (g : Fn) : Prop := ∀ (R : List Addr) (L : List En) (vs : List V) (os os' : List O) (H : Hp) (Q : VK) (E : XK) (out : Except Ex O),
  os.length = vs.length → g os = some (out, os') → Rel K H R (os.zip (vs.map some) ++ L) → PostF K Y R L vs Q E out os' → r vs H Q E
end
def eApp (g : Fn) (as : List Ar) : Sl → M O := fun S => bnd (argsE as S) fun hs S1 =>
  match g (grab hs S1).1 with
  | none => none
  | some (out, os') => some (out, back hs os' (grab hs S1).2)
section
variable {K : PySem.W.Frag} {Y : YX} {W : WX} {R : List Addr} {T : List En} {H : Hp} {σ : Slots}
theorem getD_some {S : Sl} {i : Nat} (h : i < S.length) : S[i]? = some (S.getD i .no) := by
  rw [List.getD_eq_getElem?_getD, List.getElem?_eq_getElem h]; rfl
theorem lt_of_slot {S : Sl} {i : Nat} {w : Option V} (hl : S.length = σ.length) (h : σ[i]? = some w) : i < S.length := by
  obtain ⟨q, _⟩ := List.getElem?_eq_some_iff.mp h
  rw [hl]; exact q
theorem rel_isD {o : O} {w : Option V} {L : List En} (hd : isD o = true) (h : Rel K H R ((o, w) :: L)) : Rel K H R ((o, w) :: (o, w) :: L) := by
  cases o with
  | d x => exact h.dup
  | fz ns => exact h.dupF
  | no => cases hd
  | l xs => cases hd
  | m kvs => cases hd
  | s t => exact h.dupI
  | i c ps => cases hd
  | n kvs => cases hd
  | j c ns os => cases hd
  | q kvs => cases hd
  | g ks => cases hd
  | fr P fp => cases hd
  | x a => cases hd
theorem Rel.rot {A B : List En} (h : Rel K H R (A ++ B)) : Rel K H R (B ++ A) := h.perm List.perm_append_comm
theorem Rel.rot3 {A B C : List En} (h : Rel K H R (A ++ (B ++ C))) : Rel K H R (B ++ (C ++ A)) := by
  have q := h.rot
  rw [List.append_assoc] at q
  exact q
theorem Rel.rot3' {A B C : List En} (h : Rel K H R (B ++ (C ++ A))) : Rel K H R (A ++ (B ++ C)) := by
  rw [← List.append_assoc] at h
  exact h.rot
/-- a name's thing goes to the frame -/
theorem Rel.takeT {L T : List En} {S : Sl} {i : Nat} {o : O} {w : Option V} (r : Rel K H R (L ++ (S.zip σ ++ T))) (hS : S[i]? = some o) (hw : σ[i]? = some w) : Rel K H R (L ++ ((S.set i .no).zip σ ++ ((o, w) :: T))) := by
  have r1 := r.rot3.take hS hw
  exact Rel.rot3' (C := (o, w) :: T) r1.unmid
theorem Rel.copyT {L T : List En} {S : Sl} {i : Nat} {o : O} {w : Option V} (r : Rel K H R (L ++ (S.zip σ ++ T))) (hd : isD o = true) (hS : S[i]? = some o) (hw : σ[i]? = some w) : Rel K H R (L ++ (S.zip σ ++ ((o, w) :: T))) := by
  have r1 : Rel K H R ((o, w) :: (o, w) :: ((S.set i .no).zip σ ++ (T ++ L))) := rel_isD hd (r.rot3.take hS hw)
  have r2 : Rel K H R ((o, w) :: ((S.set i .no).zip σ ++ ((o, w) :: (T ++ L)))) := r1.perm (.cons _ List.perm_middle.symm)
  have r3 := r2.put hw
  rw [List.set_set, set_self hS] at r3
  exact Rel.rot3' (C := (o, w) :: T) r3
theorem grab_ok : ∀ {hs : List Hd} {vs : List V} {L T : List En} {S : Sl}, Hv σ hs vs L → S.length = σ.length → Rel K H R (L ++ (S.zip σ ++ T)) →
    (grab hs S).1.length = vs.length ∧ (grab hs S).2.length = σ.length ∧ Rel K H R ((grab hs S).1.zip (vs.map some) ++ ((grab hs S).2.zip σ ++ T))
  | [], _, _, _, S, h, hl, r => by cases h; exact ⟨rfl, hl, r⟩
  | .inr o :: hs, _, _, T, S, h, hl, r => by
    cases h with
    | r t =>
      rename_i v vs L
      have r2 : Rel K H R (L ++ (S.zip σ ++ ((o, some v) :: T))) := by
        have q : Rel K H R ((o, some v) :: ((L ++ S.zip σ) ++ T)) := by rw [List.append_assoc]; exact r
        have q2 := q.unmid
        rw [List.append_assoc] at q2
        exact q2
      obtain ⟨h1, h2, h3⟩ := grab_ok t hl r2
      refine ⟨by show _ + 1 = _ + 1; rw [h1], h2, ?_⟩
      have q : Rel K H R (((grab hs S).1.zip (vs.map some) ++ (grab hs S).2.zip σ) ++ (o, some v) :: T) := by rw [List.append_assoc]; exact h3
      have q2 := q.mid
      rw [List.append_assoc] at q2
      exact q2
  | .inl i :: hs, _, _, T, S, h, hl, r => by
    cases h with
    | l hi t =>
      rename_i v vs
      have hlt := lt_of_slot hl hi
      have hS := getD_some hlt
      by_cases hd : isD (S.getD i .no) = true
      · obtain ⟨h1, h2, h3⟩ := grab_ok t hl (r.copyT hd hS hi)
        have e : grab (.inl i :: hs) S = (S.getD i .no :: (grab hs S).1, (grab hs S).2) := by
          show (let o := S.getD i .no; let r := grab hs (if isD o then S else S.set i .no); (o :: r.1, r.2)) = _
          simp only [hd, if_true]
        rw [e]
        refine ⟨by show _ + 1 = _ + 1; rw [h1], h2, ?_⟩
        have q : Rel K H R (((grab hs S).1.zip (vs.map some) ++ (grab hs S).2.zip σ) ++ (S.getD i .no, some v) :: T) := by rw [List.append_assoc]; exact h3
        have q2 := q.mid
        rw [List.append_assoc] at q2
        exact q2
      · have hl' : (S.set i .no).length = σ.length := by rw [List.length_set]; exact hl
        obtain ⟨h1, h2, h3⟩ := grab_ok t hl' (r.takeT hS hi)
        have e : grab (.inl i :: hs) S = (S.getD i .no :: (grab hs (S.set i .no)).1, (grab hs (S.set i .no)).2) := by
          show (let o := S.getD i .no; let r := grab hs (if isD o then S else S.set i .no); (o :: r.1, r.2)) = _
          simp only [hd, if_false, Bool.false_eq_true]
        rw [e]
        refine ⟨by show _ + 1 = _ + 1; rw [h1], h2, ?_⟩
        have q : Rel K H R (((grab hs (S.set i .no)).1.zip (vs.map some) ++ (grab hs (S.set i .no)).2.zip σ) ++ (S.getD i .no, some v) :: T) := by rw [List.append_assoc]; exact h3
        have q2 := q.mid
        rw [List.append_assoc] at q2
        exact q2
theorem back_len : ∀ (hs : List Hd) (os : List O) (S : Sl), (back hs os S).length = S.length
  | [], _, _ => by unfold back; rfl
  | .inl i :: hs, [], _ => by unfold back; rfl
  | .inr _ :: hs, [], _ => by unfold back; rfl
  | .inl i :: hs, o :: os, S => by
    show (back hs os (if isNo (S.getD i .no) then S.set i o else S)).length = _
    rw [back_len hs os]; split
    · rw [List.length_set]
    · rfl
  | .inr _ :: hs, _ :: os, S => back_len hs os S
theorem back_ok : ∀ {hs : List Hd} {vs : List V} {L T : List En} {os : List O} {S : Sl}, Hv σ hs vs L → S.length = σ.length → Rel K H R (os.zip (vs.map some) ++ (S.zip σ ++ T)) →
    Rel K H R ((back hs os S).zip σ ++ T)
  | [], _, _, _, _, S, h, hl, r => by
    cases h
    unfold back
    rw [List.map_nil, List.zip_nil_right] at r
    exact r
  | .inr o :: hs, _, _, T, [], S, h, hl, r => by unfold back; exact r
  | .inl i :: hs, _, _, T, [], S, h, hl, r => by unfold back; exact r
  | .inr o :: hs, _, _, T, o' :: os, S, h, hl, r => by
    cases h with
    | r t =>
      show Rel K H R ((back hs os S).zip σ ++ T)
      exact back_ok t hl (Rel.drop r)
  | .inl i :: hs, _, _, T, o' :: os, S, h, hl, r => by
    cases h with
    | l hi t =>
      rename_i v vs
      show Rel K H R ((back hs os (if isNo (S.getD i .no) then S.set i o' else S)).zip σ ++ T)
      by_cases hn : isNo (S.getD i .no) = true
      · rw [if_pos hn]
        refine back_ok t (by rw [List.length_set]; exact hl) ?_
        have r1 : Rel K H R ((o', some v) :: (S.zip σ ++ (T ++ os.zip (vs.map some)))) := by
          refine Rel.perm (L := (o', some v) :: (os.zip (vs.map some) ++ (S.zip σ ++ T))) r (.cons _ ?_)
          rw [← List.append_assoc (S.zip σ) T]
          exact List.perm_append_comm
        have r2 := r1.put hi
        refine r2.perm ?_
        rw [← List.append_assoc ((S.set i o').zip σ) T]
        exact List.perm_append_comm
      · rw [if_neg hn]
        exact back_ok t hl r.drop
theorem se_app {ta : TA} {as : List Ar} {r : RX} {g : Fn} (ha : SA K Y W ta as) (hr : FR K Y r g):
    SE K Y W (fun σ H Q => ta σ H fun vs H1 => r vs H1 Q fun cls dd H2 => W cls dd σ H2) (eApp g as) := by
  intro R T S σ H Q out S' hl hf rel post
  rcases bnd_cases hf with ⟨e, he, rfl⟩ | ⟨hs, S1, he, hk⟩
  · exact ha R T S σ H _ _ _ hl he rel fun hl' cls dd H' hy hr' => post hl' cls dd H' hy hr'
  · refine ha R T S σ H _ _ _ hl he rel fun hl1 vs L H1 hv rel1 => ?_
    obtain ⟨g1, g2, g3⟩ := grab_ok hv hl1 rel1
    cases hg : g (grab hs S1).1 with
    | none => rw [hg] at hk; cases hk
    | some q =>
      obtain ⟨out', os'⟩ := q
      rw [hg] at hk
      obtain ⟨rfl, rfl⟩ : out' = out ∧ back hs os' (grab hs S1).2 = S' := by
        cases hk; exact ⟨rfl, rfl⟩
      refine hr R _ vs _ os' H1 _ _ out' g1 hg g3 ?_
      have hlb : (back hs os' (grab hs S1).2).length = σ.length := by rw [back_len]; exact g2
      cases out' with
      | ok o => exact fun ho v H' rel' => post hlb v H' (by
          have q : Rel K H' R (os'.zip (vs.map some) ++ ((grab hs S1).2.zip σ ++ ((o, some v) :: T))) := rel'.perm (by
            refine (List.Perm.trans ?_ (List.Perm.append_left _ List.perm_middle.symm))
            exact List.perm_middle.symm)
          exact (back_ok hv g2 q).mid)
      | error e => exact fun ho cls dd H' hy rel' => post hlb cls dd H' hy (back_ok hv g2 rel')
end
end FT
/-! FT3: the structural pieces: names, constants, conditions, blocks, loops. -/
namespace FT
open PySem PySem.Spec PyProof.Rows L2
section
variable {K : PySem.W.Frag} {Y : YX} {W : WX} {R : List Addr} {T : List En} {H : Hp} {σ : Slots}
theorem rel_some {o : O} {w : Option V} {L : List En} (h : Rel K H R ((o, w) :: L)) (hn : isNo o = false) : ∃ v, w = some v := by
  obtain ⟨fp, nd, ht, ho⟩ := h
  cases ho with
  | cons a t =>
    cases a with
    | no => cases hn
    | d q => exact ⟨_, rfl⟩
    | l e t => exact ⟨_, rfl⟩
    | fz q => exact ⟨_, rfl⟩
    | m q => exact ⟨_, rfl⟩
    | s q => exact ⟨_, rfl⟩
    | i _ _ _ => exact ⟨_, rfl⟩
    | n _ => exact ⟨_, rfl⟩
    | j _ _ _ _ => exact ⟨_, rfl⟩
    | q _ _ _ => exact ⟨_, rfl⟩
    | g _ _ _ => exact ⟨_, rfl⟩
    | fr _ _ _ => cases hn
    | x => exact ⟨_, rfl⟩
theorem slot_lt {S : Sl} {i : Nat} (hn : isNo (S.getD i .no) = false) : i < S.length := by
  by_cases h : i < S.length
  · exact h
  · rw [List.getD_eq_getElem?_getD, List.getElem?_eq_none (Nat.le_of_not_lt h)] at hn; cases hn
/-- a name with a thing in it has a value -/
theorem slot_val {S : Sl} {i : Nat} (hl : S.length = σ.length) (hn : isNo (S.getD i .no) = false) (r : Rel K H R (S.zip σ ++ T)) : ∃ v, σ[i]? = some (some v) := by
  have hi := slot_lt hn
  have hs := getD_some hi
  obtain ⟨w, hw⟩ : ∃ w, σ[i]? = some w := ⟨σ[i]'(by rw [← hl]; exact hi), List.getElem?_eq_getElem _⟩
  obtain ⟨v, rfl⟩ := rel_some (r.take hs hw) hn
  exact ⟨v, hw⟩

/-! ### arguments -/
theorem sa_nil : SA K Y W tNil [] := by
  intro R T S σ H Q out S' hl hf rel post
  cases hf
  exact post hl [] [] H .nil rel
theorem sa_v {i : Nat} {ta : TA} {as : List Ar} (h : SA K Y W ta as) : SA K Y W (tCons (tVar i) ta) (.v i :: as) := by
  intro R T S σ H Q out S' hl hf rel post
  have hf' : (if isNo (S.getD i .no) then none else bnd (argsE as S) fun hs S1 => some (.ok (.inl i :: hs), S1)) = some (out, S') := hf
  split at hf'
  · cases hf'
  · rename_i hn
    obtain ⟨v, hv⟩ := slot_val hl (by simpa using hn) rel
    refine ⟨v, hv, ?_⟩
    rcases bnd_cases hf' with ⟨e, he, rfl⟩ | ⟨hs, S1, he, hk⟩
    · exact h R T S σ H _ _ _ hl he rel fun hl' => post hl'
    · cases hk
      exact h R T S σ H _ _ _ hl he rel fun hl' vs L H' hv' rel' => post hl' _ L H' (.l hv hv') rel'
theorem sa_e {te : TE} {f : Sl → M O} {ta : TA} {as : List Ar} (he : SE K Y W te f) (h : SA K Y W ta as) : SA K Y W (tCons te ta) (.e f :: as) := by
  intro R T S σ H Q out S' hl hf rel post
  rcases bnd_cases (show bnd (f S) (fun o S1 => bnd (argsE as S1) fun hs S2 => some (.ok (.inr o :: hs), S2)) = some (out, S') from hf) with ⟨e, h1, rfl⟩ | ⟨o, S1, h1, h2⟩
  · exact he R T S σ H _ _ _ hl h1 rel fun hl' => post hl'
  · refine he R T S σ H _ _ _ hl h1 rel fun hl1 v H1 rel1 => ?_
    have relT : Rel K H1 R (S1.zip σ ++ ((o, some v) :: T)) := rel1.unmid
    rcases bnd_cases h2 with ⟨e, h3, rfl⟩ | ⟨hs, S2, h3, h4⟩
    · refine h R _ S1 σ H1 _ _ _ hl1 h3 relT fun hl' cls dd H' hy rel' => post hl' cls dd H' hy ?_
      exact rel'.mid.drop
    · cases h4
      refine h R _ S1 σ H1 _ _ _ hl1 h3 relT fun hl' vs L H' hv rel' => post hl' _ _ H' (.r hv) ?_
      have q : Rel K H' R ((L ++ S'.zip σ) ++ (o, some v) :: T) := by rw [List.append_assoc]; exact rel'
      have q2 := q.mid
      rw [List.append_assoc] at q2
      exact q2
/-- one argument -/
def SArg (K : PySem.W.Frag) (Y : YX) (W : WX) (te : TE) : Ar → Prop
  | .v i => te = tVar i
  | .e f => SE K Y W te f
theorem sa_cons {te : TE} {a : Ar} {ta : TA} {as : List Ar} (h1 : SArg K Y W te a) (h : SA K Y W ta as) : SA K Y W (tCons te ta) (a :: as) := by
  cases a with
  | v i => have e : te = tVar i := h1; subst e; exact sa_v h
  | e f => exact sa_e h1 h

/-! ### constants and names -/
def eC (x : PyData) : Sl → M O := fun S => some (.ok (.d x), S)
theorem se_c {x : PyData} (hx : scal1 x = true := by rfl) : SE K Y W (tC (toV x)) (eC x) := by
  intro R T S σ H Q out S' hl hf rel post
  cases hf
  exact post hl _ H (rel.addS hx)
/-- a name as a value: what it holds is shared from now on -/
def eName (i : Nat) : Sl → M O := fun S => match S.getD i .no with
  | .no => none
  | .fz ns => some (.ok (.fz ns), S)
  | .m _ => none
  | .i _ _ => none
  | .n _ => none
  | .j _ _ _ => none
  | .q _ => none
  | .g _ => none
  | .fr _ _ => none
  | .x _ => none
  | .s t => some (.ok (.s t), S)
  | .d x => some (.ok (.d x), S)
  | .l xs => match ers xs with
    | some ds => some (.ok (.d (.list ds)), S.set i (.d (.list ds)))
    | none => none
theorem se_name {i : Nat} : SE K Y W (tVar i) (eName i) := by
  intro R T S σ H Q out S' hl hf rel post
  have hn : isNo (S.getD i .no) = false := by
    unfold eName at hf
    split at hf
    · cases hf
    · rename_i e; rw [e]; rfl
    · cases hf
    · cases hf
    · cases hf
    · cases hf
    · cases hf
    · cases hf
    · cases hf
    · cases hf
    · rename_i e; rw [e]; rfl
    · rename_i e; rw [e]; rfl
    · rename_i e; rw [e]; rfl
  obtain ⟨v, hv⟩ := slot_val hl hn rel
  have hi := slot_lt hn
  have hs := getD_some hi
  refine ⟨v, hv, ?_⟩
  unfold eName at hf
  split at hf
  · cases hf
  · rename_i ns e
    cases hf
    have r1 := Rel.copyT (L := []) rel (o := .fz ns) rfl (by rw [hs, e]) hv
    exact post hl v H r1.mid
  · cases hf
  · cases hf
  · cases hf
  · cases hf
  · cases hf
  · cases hf
  · cases hf
  · cases hf
  · rename_i t e
    cases hf
    have r1 := Rel.copyT (L := []) rel (o := .s t) rfl (by rw [hs, e]) hv
    exact post hl v H r1.mid
  · rename_i x e
    cases hf
    have r1 := Rel.copyT (L := []) rel (o := .d x) rfl (by rw [hs, e]) hv
    exact post hl v H r1.mid
  · rename_i xs e
    split at hf
    · rename_i ds eds
      cases hf
      have r1 : Rel K H R ((.l xs, some v) :: ((S.set i .no).zip σ ++ T)) := rel.take (by rw [hs, e]) hv
      have r2 : Rel K H R ((.d (.list ds), some v) :: ((S.set i .no).zip σ ++ T)) := r1.freeze (by show (ers xs).map PyData.list = _; rw [eds]; rfl)
      have r3 : Rel K H R ((.d (.list ds), some v) :: ((S.set i .no).zip σ ++ ((.d (.list ds), some v) :: T))) := r2.dup.perm (.cons _ List.perm_middle.symm)
      have r4 := r3.put hv
      rw [List.set_set] at r4
      exact post (by rw [List.length_set]; exact hl) v H r4.mid
    · cases hf
/-- a name given away (the last use) -/
def eMove (i : Nat) : Sl → M O := fun S => if isNo (S.getD i .no) then none else some (.ok (S.getD i .no), S.set i .no)
theorem se_move {i : Nat} : SE K Y W (tVar i) (eMove i) := by
  intro R T S σ H Q out S' hl hf rel post
  unfold eMove at hf
  split at hf
  · cases hf
  · rename_i hn
    have hn : isNo (S.getD i .no) = false := by simpa using hn
    obtain ⟨v, hv⟩ := slot_val hl hn rel
    cases hf
    exact ⟨v, hv, post (by rw [List.length_set]; exact hl) v H (rel.take (getD_some (slot_lt hn)) hv)⟩

/-! ### tests -/
def tVal (f : Sl → M O) : Sl → M Bool := fun S => bnd (f S) fun o S1 => match o with
  | .d (.bool b) => some (.ok b, S1)
  | _ => none
theorem st_val {te : TE} {f : Sl → M O} (h : SE K Y W te f) : ST K Y W (fun σ H Q => te σ H fun x H1 => ∃ c, x = .bl c ∧ Q c H1) (tVal f) := by
  intro R T S σ H Q out S' hl hf rel post
  rcases bnd_cases hf with ⟨e, h1, rfl⟩ | ⟨o, S1, h1, h2⟩
  · exact h R T S σ H _ _ _ hl h1 rel fun hl' => post hl'
  · refine h R T S σ H _ _ _ hl h1 rel fun hl' v H1 rel1 => ?_
    split at h2
    · rename_i b
      cases h2
      have e := Option.some.inj (Rel.scal (x := .bool b) rfl rel1)
      exact ⟨b, e, post hl' H1 rel1.drop⟩
    · cases h2
def tAn (f g : Sl → M Bool) : Sl → M Bool := fun S => bnd (f S) fun b S1 => if b then g S1 else some (.ok false, S1)
def tO (f g : Sl → M Bool) : Sl → M Bool := fun S => bnd (f S) fun b S1 => if b then some (.ok true, S1) else g S1
def tN (f : Sl → M Bool) : Sl → M Bool := fun S => bnd (f S) fun b S1 => some (.ok (!b), S1)
variable {ta tb tt : TT} {f g ft : Sl → M Bool}
theorem st_and (h1 : ST K Y W ta f) (h2 : ST K Y W tb g) : ST K Y W (tAnd ta tb) (tAn f g) := by
  intro R T S σ H Q out S' hl hf rel post
  rcases bnd_cases hf with ⟨e, e1, rfl⟩ | ⟨b, S1, e1, e2⟩
  · exact h1 R T S σ H _ _ _ hl e1 rel fun hl' => post hl'
  · refine h1 R T S σ H _ _ _ hl e1 rel fun hl' H1 rel1 => ?_
    cases b with
    | true => exact h2 R T S1 σ H1 Q _ _ hl' e2 rel1 post
    | false => cases e2; exact post hl' H1 rel1
theorem st_or (h1 : ST K Y W ta f) (h2 : ST K Y W tb g) : ST K Y W (tOr ta tb) (tO f g) := by
  intro R T S σ H Q out S' hl hf rel post
  rcases bnd_cases hf with ⟨e, e1, rfl⟩ | ⟨b, S1, e1, e2⟩
  · exact h1 R T S σ H _ _ _ hl e1 rel fun hl' => post hl'
  · refine h1 R T S σ H _ _ _ hl e1 rel fun hl' H1 rel1 => ?_
    cases b with
    | false => exact h2 R T S1 σ H1 Q _ _ hl' e2 rel1 post
    | true => cases e2; exact post hl' H1 rel1
theorem st_not (h1 : ST K Y W ta f) : ST K Y W (tNot ta) (tN f) := by
  intro R T S σ H Q out S' hl hf rel post
  rcases bnd_cases hf with ⟨e, e1, rfl⟩ | ⟨b, S1, e1, e2⟩
  · exact h1 R T S σ H _ _ _ hl e1 rel fun hl' => post hl'
  · cases e2
    exact h1 R T S σ H _ _ _ hl e1 rel fun hl' H1 rel1 => post hl' H1 rel1
def tT : Sl → M Bool := fun S => some (.ok true, S)
theorem st_yes' : ST K Y W tYes tT := by
  intro R T S σ H Q out S' hl hf rel post
  cases hf
  exact post hl H rel
/-! ### conditions as values -/
variable {te ue : TE} {fe ge : Sl → M O}
def eIf (c : Sl → M Bool) (a b : Sl → M O) : Sl → M O := fun S => bnd (c S) fun k S1 => if k then a S1 else b S1
theorem se_if (hc : ST K Y W tt ft) (h1 : SE K Y W te fe) (h2 : SE K Y W ue ge) : SE K Y W (tIf tt te ue) (eIf ft fe ge) := by
  intro R T S σ H Q out S' hl hf rel post
  rcases bnd_cases hf with ⟨e, e1, rfl⟩ | ⟨b, S1, e1, e2⟩
  · exact hc R T S σ H _ _ _ hl e1 rel fun hl' => post hl'
  · refine hc R T S σ H _ _ _ hl e1 rel fun hl' H1 rel1 => ?_
    cases b with
    | true => exact h1 R T S1 σ H1 Q _ _ hl' e2 rel1 post
    | false => exact h2 R T S1 σ H1 Q _ _ hl' e2 rel1 post
def bOf : O → Option Bool
  | .d (.bool b) => some b
  | _ => none
def eAnd (a b : Sl → M O) : Sl → M O := fun S => bnd (a S) fun o S1 => match bOf o with
  | some true => b S1
  | some false => some (.ok (.d (.bool false)), S1)
  | none => none
def eOr (a b : Sl → M O) : Sl → M O := fun S => bnd (a S) fun o S1 => match bOf o with
  | some false => b S1
  | some true => some (.ok (.d (.bool true)), S1)
  | none => none
def eNot (a : Sl → M O) : Sl → M O := fun S => bnd (a S) fun o S1 => match bOf o with
  | some b => some (.ok (.d (.bool (!b))), S1)
  | none => none
theorem bOf_some {o : O} {b : Bool} (h : bOf o = some b) : o = .d (.bool b) := by
  unfold bOf at h
  split at h
  · cases h; rfl
  · cases h
theorem se_and (h1 : SE K Y W te fe) (h2 : SE K Y W ue ge) : SE K Y W (tAndV te ue) (eAnd fe ge) := by
  intro R T S σ H Q out S' hl hf rel post
  rcases bnd_cases hf with ⟨e, e1, rfl⟩ | ⟨o, S1, e1, e2⟩
  · exact h1 R T S σ H _ _ _ hl e1 rel fun hl' => post hl'
  · refine h1 R T S σ H _ _ _ hl e1 rel fun hl' v H1 rel1 => ?_
    split at e2
    · rename_i q
      have q' := bOf_some q; subst q'
      exact ⟨true, Option.some.inj (Rel.scal (x := .bool true) rfl rel1), h2 R T S1 σ H1 Q _ _ hl' e2 rel1.drop post⟩
    · rename_i q
      have q' := bOf_some q; subst q'
      cases e2
      have ev := Option.some.inj (Rel.scal (x := .bool false) rfl rel1)
      exact ⟨false, ev, post hl' _ H1 (by rw [ev] at rel1; exact rel1)⟩
    · cases e2
theorem se_or (h1 : SE K Y W te fe) (h2 : SE K Y W ue ge) : SE K Y W (tOrV te ue) (eOr fe ge) := by
  intro R T S σ H Q out S' hl hf rel post
  rcases bnd_cases hf with ⟨e, e1, rfl⟩ | ⟨o, S1, e1, e2⟩
  · exact h1 R T S σ H _ _ _ hl e1 rel fun hl' => post hl'
  · refine h1 R T S σ H _ _ _ hl e1 rel fun hl' v H1 rel1 => ?_
    split at e2
    · rename_i q
      have q' := bOf_some q; subst q'
      exact ⟨false, Option.some.inj (Rel.scal (x := .bool false) rfl rel1), h2 R T S1 σ H1 Q _ _ hl' e2 rel1.drop post⟩
    · rename_i q
      have q' := bOf_some q; subst q'
      cases e2
      have ev := Option.some.inj (Rel.scal (x := .bool true) rfl rel1)
      exact ⟨true, ev, post hl' _ H1 (by rw [ev] at rel1; exact rel1)⟩
    · cases e2
theorem se_not (h1 : SE K Y W te fe) : SE K Y W (tNotV te) (eNot fe) := by
  intro R T S σ H Q out S' hl hf rel post
  rcases bnd_cases hf with ⟨e, e1, rfl⟩ | ⟨o, S1, e1, e2⟩
  · exact h1 R T S σ H _ _ _ hl e1 rel fun hl' => post hl'
  · refine h1 R T S σ H _ _ _ hl e1 rel fun hl' v H1 rel1 => ?_
    split at e2
    · rename_i b q
      have q' := bOf_some q; subst q'
      cases e2
      exact ⟨b, Option.some.inj (Rel.scal (x := .bool b) rfl rel1), post hl' _ H1 (rel1.drop.addS (x := .bool (!b)) rfl)⟩
    · cases e2
end

/-! ### statements -/
inductive Fl where
  | nx | bk | ct
  | rt (o : O)
abbrev MS := M Fl
section
variable (K : PySem.W.Frag) (Y : YX) (W : WX)
/-- the slots that may be stored to -/
def Kept (ws : List Nat) (σ σ' : Slots) : Prop := σ'.length = σ.length ∧ ∀ i, i ∉ ws → σ'[i]? = σ[i]?
def PostS (ws : List Nat) (R : List Addr) (T : List En) (σ : Slots) (D : Ends) : Except Ex Fl → Sl → Prop
  | .ok .nx, S' => S'.length = σ.length → ∀ σ' H', Kept ws σ σ' → Rel K H' R (S'.zip σ' ++ T) → D.nx σ' H'
  | .ok .bk, S' => S'.length = σ.length → ∀ σ' H', Kept ws σ σ' → Rel K H' R (S'.zip σ' ++ T) → D.bk σ' H'
  | .ok .ct, S' => S'.length = σ.length → ∀ σ' H', Kept ws σ σ' → Rel K H' R (S'.zip σ' ++ T) → D.ct σ' H'
  | .ok (.rt o), S' => S'.length = σ.length → ∀ v σ' H', Kept ws σ σ' → Rel K H' R ((o, some v) :: (S'.zip σ' ++ T)) → D.rt v H'
  | .error e, S' => S'.length = σ.length → ∀ cls dd σ' H', Kept ws σ σ' → Y e cls dd H' → Rel K H' R (S'.zip σ' ++ T) → W cls dd σ' H'
def SS (ws : List Nat) (ts : TS) (f : Sl → MS) : Prop := ∀ (R : List Addr) (T : List En) (S : Sl) (σ : Slots) (H : Hp) (D : Ends) (out : Except Ex Fl) (S' : Sl),
  S.length = σ.length → f S = some (out, S') → Rel K H R (S.zip σ ++ T) → PostS K Y W ws R T σ D out S' → ts D σ H
end
section
variable {K : PySem.W.Frag} {Y : YX} {W : WX} {ws : List Nat} {t u : TS} {f g : Sl → MS} {te : TE} {fe : Sl → M O} {tt : TT} {ft : Sl → M Bool}
theorem Kept.refl {σ : Slots} : Kept ws σ σ := ⟨rfl, fun _ _ => rfl⟩
theorem Kept.trans {σ σ1 σ2 : Slots} (a : Kept ws σ σ1) (b : Kept ws σ1 σ2) : Kept ws σ σ2 := ⟨b.1.trans a.1, fun i h => (b.2 i h).trans (a.2 i h)⟩
theorem Kept.set {σ : Slots} {i : Nat} {w : Option V} (h : i ∈ ws) : Kept ws σ (σ.set i w) := ⟨List.length_set, fun j hj => List.getElem?_set_ne (show i ≠ j from fun e => hj (by rw [← e]; exact h))⟩
/-- the end behind some stores -/
theorem PostS.from {R : List Addr} {T : List En} {σ σ1 : Slots} {D : Ends} {out : Except Ex Fl} {S' : Sl} (k : Kept ws σ σ1) (h : PostS K Y W ws R T σ D out S') : PostS K Y W ws R T σ1 D out S' := by
  match out, h with
  | .ok .nx, h => exact fun hl σ' H' k' => h (hl.trans k.1) σ' H' (k.trans k')
  | .ok .bk, h => exact fun hl σ' H' k' => h (hl.trans k.1) σ' H' (k.trans k')
  | .ok .ct, h => exact fun hl σ' H' k' => h (hl.trans k.1) σ' H' (k.trans k')
  | .ok (.rt o), h => exact fun hl v σ' H' k' => h (hl.trans k.1) v σ' H' (k.trans k')
  | .error e, h => exact fun hl cls dd σ' H' k' => h (hl.trans k.1) cls dd σ' H' (k.trans k')
theorem post_err {R : List Addr} {T : List En} {σ : Slots} {D : Ends} {e : Ex} {S' : Sl} (h : PostS K Y W ws R T σ D (.error e) S') :
    S'.length = σ.length → ∀ cls dd H', Y e cls dd H' → Rel K H' R (S'.zip σ ++ T) → W cls dd σ H' := fun hl cls dd H' => h hl cls dd σ H' .refl
def sNext : Sl → MS := fun S => some (.ok .nx, S)
theorem ss_next : SS K Y W ws tNext sNext := by
  intro R T S σ H D out S' hl hf rel post
  cases hf
  exact post hl σ H .refl rel
def sStuck : Sl → MS := fun _ => none
theorem ss_stuck {ts : TS} : SS K Y W ws ts sStuck := by
  intro R T S σ H D out S' hl hf
  cases hf
def sBrk : Sl → MS := fun S => some (.ok .bk, S)
theorem ss_brk : SS K Y W ws tBreak sBrk := by
  intro R T S σ H D out S' hl hf rel post
  cases hf
  exact post hl σ H .refl rel
def sCont : Sl → MS := fun S => some (.ok .ct, S)
theorem ss_cont : SS K Y W ws tCont sCont := by
  intro R T S σ H D out S' hl hf rel post
  cases hf
  exact post hl σ H .refl rel
def sSeq (f g : Sl → MS) : Sl → MS := fun S => bnd (f S) fun fl S1 => match fl with
  | .nx => g S1
  | fl => some (.ok fl, S1)
theorem ss_seq (h1 : SS K Y W ws t f) (h2 : SS K Y W ws u g) : SS K Y W ws (tSeq t u) (sSeq f g) := by
  intro R T S σ H D out S' hl hf rel post
  rcases bnd_cases hf with ⟨e, e1, rfl⟩ | ⟨fl, S1, e1, e2⟩
  · exact h1 R T S σ H { D with nx := u D } _ _ hl e1 rel post
  · refine h1 R T S σ H { D with nx := u D } _ _ hl e1 rel ?_
    cases fl with
    | nx => exact fun hl1 σ1 H1 k rel1 => h2 R T S1 σ1 H1 D _ _ (hl1.trans k.1.symm) e2 rel1 (post.from k)
    | bk => cases e2; exact post
    | ct => cases e2; exact post
    | rt o => cases e2; exact post
def sRet (fe : Sl → M O) : Sl → MS := fun S => bnd (fe S) fun o S1 => some (.ok (.rt o), S1)
theorem ss_ret (h : SE K Y W te fe) : SS K Y W ws (tRet te) (sRet fe) := by
  intro R T S σ H D out S' hl hf rel post
  rcases bnd_cases hf with ⟨e, e1, rfl⟩ | ⟨o, S1, e1, e2⟩
  · exact h R T S σ H D.rt _ _ hl e1 rel (post_err post)
  · cases e2
    exact h R T S σ H D.rt _ _ hl e1 rel fun hl' v H' rel' => post hl' v σ H' .refl rel'
def sRetN : Sl → MS := fun S => some (.ok (.rt (.d .none)), S)
theorem ss_retN : SS K Y W ws tRetN sRetN := by
  intro R T S σ H D out S' hl hf rel post
  cases hf
  exact post hl .non σ H .refl (rel.addS (x := .none) rfl)
def sDo (fe : Sl → M O) : Sl → MS := fun S => bnd (fe S) fun _ S1 => some (.ok .nx, S1)
theorem ss_do (h : SE K Y W te fe) : SS K Y W ws (tDrop te) (sDo fe) := by
  intro R T S σ H D out S' hl hf rel post
  rcases bnd_cases hf with ⟨e, e1, rfl⟩ | ⟨o, S1, e1, e2⟩
  · exact h R T S σ H _ _ _ hl e1 rel (post_err post)
  · cases e2
    exact h R T S σ H _ _ _ hl e1 rel fun hl' v H' rel' => post hl' σ H' .refl rel'.drop
def sIf (c : Sl → M Bool) (f g : Sl → MS) : Sl → MS := fun S => bnd (c S) fun b S1 => if b then f S1 else g S1
theorem ss_if (hc : ST K Y W tt ft) (h1 : SS K Y W ws t f) (h2 : SS K Y W ws u g) : SS K Y W ws (tIfS tt t u) (sIf ft f g) := by
  intro R T S σ H D out S' hl hf rel post
  rcases bnd_cases hf with ⟨e, e1, rfl⟩ | ⟨b, S1, e1, e2⟩
  · exact hc R T S σ H _ _ _ hl e1 rel (post_err post)
  · refine hc R T S σ H _ _ _ hl e1 rel fun hl' H1 rel1 => ?_
    cases b with
    | true => exact h1 R T S1 σ H1 D _ _ hl' e2 rel1 post
    | false => exact h2 R T S1 σ H1 D _ _ hl' e2 rel1 post
def sSet (i : Nat) (fe : Sl → M O) : Sl → MS := fun S => bnd (fe S) fun o S1 => some (.ok .nx, S1.set i o)
theorem ss_set {i : Nat} (h : SE K Y W te fe) (hi : i ∈ ws) : SS K Y W ws (tAsg te (gName i)) (sSet i fe) := by
  intro R T S σ H D out S' hl hf rel post
  rcases bnd_cases hf with ⟨e, e1, rfl⟩ | ⟨o, S1, e1, e2⟩
  · exact h R T S σ H _ _ _ hl e1 rel (post_err post)
  · cases e2
    exact h R T S σ H _ _ _ hl e1 rel fun hl' v H' rel' => post (by rw [List.length_set]; exact hl') _ H' (.set hi) (rel'.assign hl')

/-! ### targets -/
inductive Pt where
  | nm (i : Nat)
  | tp (ps : List Pt)
mutual
def bindP : Pt → PyData → Sl → Option Sl
  | .nm i, x, S => some (S.set i (.d x))
  | .tp ps, x, S => match x with
    | .tuple ds => bindPs ps ds S
    | _ => none
def bindPs : List Pt → List PyData → Sl → Option Sl
  | [], [], S => some S
  | p :: ps, d :: ds, S => match bindP p d S with
    | some S1 => bindPs ps ds S1
    | none => none
  | _, _, _ => none
end
/-- a target: what it stores -/
def SG (K : PySem.W.Frag) (ws : List Nat) (g : TG) (p : Pt) : Prop := ∀ (R : List Addr) (T : List En) (S S' : Sl) (σ : Slots) (H : Hp) (x : PyData) (v : V) (Q : Slots → Hp → Prop),
  S.length = σ.length → bindP p x S = some S' → Rel K H R ((.d x, some v) :: (S.zip σ ++ T)) → (S'.length = σ.length → ∀ σ', Kept ws σ σ' → Rel K H R (S'.zip σ' ++ T) → Q σ' H) → g v σ H Q
def SGs (K : PySem.W.Frag) (ws : List Nat) (g : TGs) (ps : List Pt) : Prop := ∀ (R : List Addr) (T : List En) (S S' : Sl) (σ : Slots) (H : Hp) (xs : List PyData) (vs : List V) (Q : Slots → Hp → Prop),
  S.length = σ.length → bindPs ps xs S = some S' → xs.length = vs.length → Rel K H R ((xs.map O.d).zip (vs.map some) ++ (S.zip σ ++ T)) → (S'.length = σ.length → ∀ σ', Kept ws σ σ' → Rel K H R (S'.zip σ' ++ T) → Q σ' H) → g vs σ H Q
theorem sg_name {i : Nat} (hi : i ∈ ws) : SG K ws (gName i) (.nm i) := by
  intro R T S S' σ H x v Q hl hb rel k
  cases hb
  exact k (by rw [List.length_set]; exact hl) _ (.set hi) (rel.assign hl)
theorem sgs_nil : SGs K ws gNil [] := by
  intro R T S S' σ H xs vs Q hl hb e rel k
  cases xs with
  | cons x xs => cases hb
  | nil =>
    cases vs with
    | cons v vs => cases e
    | nil => cases hb; exact ⟨rfl, k hl σ .refl rel⟩
theorem sgs_cons {g : TG} {gs : TGs} {p : Pt} {ps : List Pt} (h1 : SG K ws g p) (h2 : SGs K ws gs ps) : SGs K ws (gCons g gs) (p :: ps) := by
  intro R T S S' σ H xs vs Q hl hb e rel k
  cases xs with
  | nil => cases hb
  | cons x xs =>
    cases vs with
    | nil => cases e
    | cons v vs =>
      refine ⟨v, vs, rfl, ?_⟩
      have hb' : (match bindP p x S with | some S1 => bindPs ps xs S1 | none => none) = some S' := hb
      cases q : bindP p x S with
      | none => rw [q] at hb'; cases hb'
      | some S1 =>
        rw [q] at hb'
        have r1 : Rel K H R ((.d x, some v) :: (S.zip σ ++ (T ++ (xs.map O.d).zip (vs.map some)))) := by
          have r0 : Rel K H R ((.d x, some v) :: ((xs.map O.d).zip (vs.map some) ++ (S.zip σ ++ T))) := rel
          refine r0.perm (.cons _ ?_)
          rw [← List.append_assoc (S.zip σ)]
          exact List.perm_append_comm
        refine h1 R _ S S1 σ H x v _ hl q r1 fun hl1 σ1 k1 rel1 => ?_
        refine h2 R T S1 S' σ1 H xs vs Q (hl1.trans k1.1.symm) hb' (by simpa using e) ?_ fun hl2 σ2 k2 rel2 => k (hl2.trans k1.1) σ2 (k1.trans k2) rel2
        rw [← List.append_assoc (S1.zip σ1)] at rel1
        exact rel1.rot
theorem sg_tup {gs : TGs} {ps : List Pt} {n : Nat} (h : SGs K ws gs ps) (hn : ps.length = n) : SG K ws (gTup K n gs) (.tp ps) := by
  intro R T S S' σ H x v Q hl hb rel k
  cases x with
  | tuple ds =>
    have hb' : bindPs ps ds S = some S' := hb
    obtain ⟨a, vs, ew, ha, el, hd, rel1⟩ := rel.itemsT
    cases ew
    have lenps : ∀ (ps : List Pt) (ds : List PyData) (S : Sl), bindPs ps ds S = some S' → ps.length = ds.length := by
      intro ps
      induction ps with
      | nil => intro ds S h; cases ds with
        | nil => rfl
        | cons _ _ => cases h
      | cons p ps ih => intro ds S h; cases ds with
        | nil => cases h
        | cons d ds =>
          have h' : (match bindP p d S with | some S1 => bindPs ps ds S1 | none => none) = some S' := h
          cases q : bindP p d S with
          | none => rw [q] at h'; cases h'
          | some S1 => rw [q] at h'; simp [ih _ _ h']
    refine ⟨a, vs, rfl, SqT.of ha, by rw [← el, ← lenps ps ds S hb', hn], ?_⟩
    refine h R _ S S' σ H ds vs Q hl hb' el ?_ k
    exact rel1.mid.drop
  | _ => cases hb
def sAsg (p : Pt) (fe : Sl → M O) : Sl → MS := fun S => bnd (fe S) fun o S1 => match o with
  | .d x => (match bindP p x S1 with
    | some S2 => some (.ok .nx, S2)
    | none => none)
  | _ => none
theorem ss_asg {gt : TG} {p : Pt} (h : SE K Y W te fe) (hg : SG K ws gt p) : SS K Y W ws (tAsg te gt) (sAsg p fe) := by
  intro R T S σ H D out S' hl hf rel post
  rcases bnd_cases hf with ⟨e, e1, rfl⟩ | ⟨o, S1, e1, e2⟩
  · exact h R T S σ H _ _ _ hl e1 rel (post_err post)
  · refine h R T S σ H _ _ _ hl e1 rel fun hl' v H' rel' => ?_
    cases o with
    | d x =>
      cases q : bindP p x S1 with
      | none => simp only [q] at e2; cases e2
      | some S2 =>
        simp only [q] at e2
        cases e2
        exact hg R T S1 S' σ H' x v _ hl' q rel' fun hl2 σ2 k2 rel2 => post hl2 σ2 H' k2 rel2
    | _ => cases e2
/-- a, b = x, y with plain names -/
def sPar (i j : Nat) (as : List Ar) : Sl → MS := fun S => bnd (argsE as S) fun hs S1 => match hs with
  | [.inr a, .inr b] => some (.ok .nx, (S1.set i a).set j b)
  | _ => none
theorem ss_par {i j : Nat} {ta : TA} {as : List Ar} (h : SA K Y W ta as) (hi : i ∈ ws) (hj : j ∈ ws) : SS K Y W ws (tPar i j ta) (sPar i j as) := by
  intro R T S σ H D out S' hl hf rel post
  rcases bnd_cases hf with ⟨e, e1, rfl⟩ | ⟨hs, S1, e1, e2⟩
  · exact h R T S σ H _ _ _ hl e1 rel (post_err post)
  · refine h R T S σ H _ _ _ hl e1 rel fun hl' vs L H' hv rel' => ?_
    split at e2
    · rename_i a b
      cases e2
      cases hv with
      | r hv => cases hv with
        | r hv =>
          cases hv
          rename_i v w
          refine ⟨v, w, rfl, ?_⟩
          have r1 : Rel K H' R ((a, some v) :: (S1.zip σ ++ ((b, some w) :: T))) := by
            have q : Rel K H' R ((a, some v) :: (b, some w) :: (S1.zip σ ++ T)) := rel'
            exact q.perm (.cons _ List.perm_middle.symm)
          have r2 := (r1.assign (i := i) hl').mid
          have r3 := r2.assign (i := j) (by rw [List.length_set, List.length_set]; exact hl')
          exact post (by rw [List.length_set, List.length_set]; exact hl') _ H' (Kept.trans (.set hi) (.set hj)) r3
    · cases e2
end
end FT
/-! FT4: what is walked; for, while, comprehensions. -/
namespace FT
open PySem PySem.Spec PyProof.Rows L2
section
variable {K : PySem.W.Frag} {Y : YX} {W : WX} {R : List Addr} {T L L0 : List En} {H : Hp} {σ : Slots}
theorem Rel.item {ds : List PyData} {w : Option V} {i : Nat} {d : PyData} (h : Rel K H R ((.d (.list ds), w) :: L)) (hi : ds[i]? = some d) :
    ∃ a vs v, w = some (.ref a) ∧ H a = some (.lst vs) ∧ ds.length = vs.length ∧ vs[i]? = some v ∧ Rel K H R ((.d d, some v) :: (.d (.list ds), w) :: L) := by
  obtain ⟨fp, nd, ht, ho⟩ := h
  cases ho with
  | cons a t =>
    cases a with
    | d q =>
      cases q with
      | lst hh tt =>
        obtain ⟨v, hv, hd⟩ := tt.get i hi
        exact ⟨_, _, v, rfl, hid_le _ _ hh, tt.len.symm, hv, _, nd, ht, OwnP.cons (f1 := []) (.d hd) (OwnP.cons (f1 := []) (.d (.lst hh tt)) t)⟩
theorem Rel.itemT {ds : List PyData} {w : Option V} {i : Nat} {d : PyData} (h : Rel K H R ((.d (.tuple ds), w) :: L)) (hi : ds[i]? = some d) :
    ∃ a vs v, w = some (.ref a) ∧ H a = some (.tup vs) ∧ ds.length = vs.length ∧ vs[i]? = some v ∧ Rel K H R ((.d d, some v) :: (.d (.tuple ds), w) :: L) := by
  obtain ⟨fp, nd, ht, ho⟩ := h
  cases ho with
  | cons a t =>
    cases a with
    | d q =>
      cases q with
      | tup hh tt =>
        obtain ⟨v, hv, hd⟩ := tt.get i hi
        exact ⟨_, _, v, rfl, hid_le _ _ hh, tt.len.symm, hv, _, nd, ht, OwnP.cons (f1 := []) (.d hd) (OwnP.cons (f1 := []) (.d (.tup hh tt)) t)⟩
/-- a fresh tuple of two things -/
theorem Rel.pair {x y : PyData} {v u : V} {p : Addr} (hp : H p = none) (h : Rel K H R ((.d x, some v) :: (.d y, some u) :: L)) : Rel K (upd H p (.tup [v, u])) R ((.d (.tuple [x, y]), some (.ref p)) :: L) :=
  Rel.tuple (ds := [x, y]) (vs := [v, u]) upd_same rfl (h.fresh hp)

/-! ### what is walked -/
/-- the walk J hands out ds, while the entries L0 stand -/
def IterOk (K : PySem.W.Frag) (J : It) (ds : List PyData) (L0 : List En) : Prop := ∀ (R : List Addr) (L : List En) (H : Hp), Rel K H R (L0 ++ L) → ∀ i : Nat,
  (∀ d, ds[i]? = some d → J.go i H ∧ ∀ x H', J.yld i H x H' → Rel K H' R ((.d d, some x) :: (L0 ++ L))) ∧ (ds.length ≤ i → J.stop i H)
def PostI (K : PySem.W.Frag) (Y : YX) (W : WX) (R : List Addr) (T : List En) (σ : Slots) (Rr : It → Hp → Prop) : Except Ex (List PyData) → Sl → Prop
  | .ok ds, S' => S'.length = σ.length → ∀ J L0 H', IterOk K J ds L0 → Rel K H' R (L0 ++ (S'.zip σ ++ T)) → Rr J H'
  | .error e, S' => S'.length = σ.length → ∀ cls dd H', Y e cls dd H' → Rel K H' R (S'.zip σ ++ T) → W cls dd σ H'
def SIt (K : PySem.W.Frag) (Y : YX) (W : WX) (wi : TI) (f : Sl → M (List PyData)) : Prop := ∀ (R : List Addr) (T : List En) (S : Sl) (σ : Slots) (H : Hp) (Rr : It → Hp → Prop) (out : Except Ex (List PyData)) (S' : Sl),
  S.length = σ.length → f S = some (out, S') → Rel K H R (S.zip σ ++ T) → PostI K Y W R T σ Rr out S' → wi σ H Rr
theorem lst_sq {a : Addr} {vs xs : List V} (h : H a = some (.lst vs)) (hK : K.lookup a = none ∨ True) : SqL K H a vs := .of h
theorem iter_list {a : Addr} {ds : List PyData} : IterOk K (Itl K a) ds [(.d (.list ds), some (.ref a))] := by
  intro R L H rel i
  refine ⟨fun d hd => ?_, fun hi => ?_⟩
  · obtain ⟨a', vs, v, e, ha, el, hv, r2⟩ := rel.item hd
    cases e
    refine ⟨⟨vs, v, SqL.of ha, hv⟩, fun x H' hy => ?_⟩
    obtain ⟨rfl, fv⟩ := hy
    have e2 := (fv vs (SqL.of ha)).symm.trans hv
    cases e2
    exact r2
  · obtain ⟨a', vs, e, ha, el, _⟩ := rel.items
    cases e
    exact ⟨vs, SqL.of ha, by omega⟩
theorem iter_tup {a : Addr} {ds : List PyData} : IterOk K (Itt K a) ds [(.d (.tuple ds), some (.ref a))] := by
  intro R L H rel i
  refine ⟨fun d hd => ?_, fun hi => ?_⟩
  · obtain ⟨a', vs, v, e, ha, el, hv, r2⟩ := rel.itemT hd
    cases e
    refine ⟨⟨vs, v, SqT.of ha, hv⟩, fun x H' hy => ?_⟩
    obtain ⟨rfl, fv⟩ := hy
    have e2 := (fv vs (SqT.of ha)).symm.trans hv
    cases e2
    exact r2
  · obtain ⟨a', vs, e, ha, el, _⟩ := rel.itemsT
    cases e
    exact ⟨vs, SqT.of ha, by omega⟩
def rngD (lo : Int) (n : Nat) : List PyData := (List.range n).map fun i : Nat => .int (lo + i)
theorem iter_range {lo : Int} {n : Nat} : IterOk K (Itr lo n) (rngD lo n) [] := by
  intro R L H rel i
  refine ⟨fun d hd => ?_, fun hi => ?_⟩
  · have hlt : i < n := by
      obtain ⟨q, _⟩ := List.getElem?_eq_some_iff.mp hd
      simpa [rngD] using q
    have ed : d = .int (lo + i) := by
      have := hd
      simp [rngD, hlt] at this
      exact this.symm
    subst ed
    refine ⟨hlt, fun x H' hy => ?_⟩
    obtain ⟨rfl, rfl⟩ := hy
    exact rel.addS (x := .int (lo + i)) rfl
  · have h : (rngD lo n).length ≤ i := hi
    have h2 : n ≤ i := by simpa [rngD] using h
    exact h2
def revD (lo : Int) (n : Nat) : List PyData := (List.range n).map fun i : Nat => .int (lo + n - 1 - i)
theorem iter_revr {lo : Int} {n : Nat} : IterOk K (Itc (lo + ((n : Nat) : Int) - 1) (-1) n) (revD lo n) [] := by
  intro R L H rel i
  refine ⟨fun d hd => ?_, fun hi => ?_⟩
  · have hlt : i < n := by
      obtain ⟨q, _⟩ := List.getElem?_eq_some_iff.mp hd
      simpa [revD] using q
    have ed : d = .int (lo + n - 1 - i) := by
      have := hd
      simp [revD, hlt] at this
      exact this.symm
    subst ed
    refine ⟨hlt, fun x H' hy => ?_⟩
    obtain ⟨rfl, rfl⟩ := hy
    have e : lo + (n : Int) - 1 + ((i : Nat) : Int) * -1 = lo + n - 1 - i := by omega
    rw [e]
    exact rel.addS (x := .int (lo + n - 1 - i)) rfl
  · have h : (revD lo n).length ≤ i := hi
    have h2 : n ≤ i := by simpa [revD] using h
    exact h2
theorem iter_rev {a : Addr} {ds : List PyData} : IterOk K (Itv K a ds.length) ds.reverse [(.d (.list ds), some (.ref a))] := by
  intro R L H rel i
  refine ⟨fun d hd => ?_, fun hi => ?_⟩
  · have hlt : i < ds.length := by
      obtain ⟨q, _⟩ := List.getElem?_eq_some_iff.mp hd
      simpa using q
    have hd' : ds[ds.length - 1 - i]? = some d := by
      rw [List.getElem?_reverse hlt] at hd; exact hd
    obtain ⟨a', vs, v, e, ha, el, hv, r2⟩ := rel.item hd'
    cases e
    refine ⟨⟨hlt, vs, v, SqL.of ha, hv⟩, fun x H' hy => ?_⟩
    obtain ⟨rfl, fv⟩ := hy
    have e2 := (fv vs (SqL.of ha)).symm.trans hv
    cases e2
    exact r2
  · have h : ds.reverse.length ≤ i := hi
    show ds.length ≤ i
    simpa using h
def enumD (ds : List PyData) : List PyData := ds.zipIdx.map fun p : PyData × Nat => .tuple [.int p.2, p.1]
theorem iter_enum {a : Addr} {ds : List PyData} : IterOk K (Ite K a) (enumD ds) [(.d (.list ds), some (.ref a))] := by
  intro R L H rel i
  refine ⟨fun d hd => ?_, fun hi => ?_⟩
  · obtain ⟨x, hx, rfl⟩ : ∃ x, ds[i]? = some x ∧ d = .tuple [.int (i : Nat), x] := by
      unfold enumD at hd
      rw [List.getElem?_map, List.getElem?_zipIdx] at hd
      cases q : ds[i]? with
      | none => rw [q] at hd; simp at hd
      | some x => rw [q] at hd; simp at hd; exact ⟨x, rfl, hd.symm⟩
    obtain ⟨a', vs, v, e, ha, el, hv, r2⟩ := rel.item hx
    cases e
    refine ⟨⟨vs, v, SqL.of ha, hv⟩, fun y H' hy => ?_⟩
    obtain ⟨T', z, rfl, hT, rfl, fv⟩ := hy
    have e2 := (fv vs (SqL.of ha)).symm.trans hv
    cases e2
    exact Rel.pair hT (r2.addS (x := .int (i : Nat)) rfl)
  · obtain ⟨a', vs, e, ha, el, _⟩ := rel.items
    cases e
    have h : (enumD ds).length ≤ i := hi
    rw [show (enumD ds).length = ds.length by simp [enumD]] at h
    exact ⟨vs, SqL.of ha, by omega⟩
def zipD (ds es : List PyData) : List PyData := (ds.zip es).map fun p => .tuple [p.1, p.2]
theorem iter_zip {a b : Addr} {ds es : List PyData} : IterOk K (Itz K a b) (zipD ds es) [(.d (.list ds), some (.ref a)), (.d (.list es), some (.ref b))] := by
  intro R L H rel i
  have relB : Rel K H R ((.d (.list es), some (.ref b)) :: (.d (.list ds), some (.ref a)) :: L) := Rel.swap rel
  refine ⟨fun d hd => ?_, fun hi => ?_⟩
  · obtain ⟨x, y, hx, hy, rfl⟩ : ∃ x y, ds[i]? = some x ∧ es[i]? = some y ∧ d = .tuple [x, y] := by
      unfold zipD at hd
      rw [List.getElem?_map] at hd
      cases q : (ds.zip es)[i]? with
      | none => rw [q] at hd; simp at hd
      | some p =>
        rw [q] at hd
        have q' := List.getElem?_zip_eq_some.mp q
        exact ⟨p.1, p.2, q'.1, q'.2, (Option.some.inj hd).symm⟩
    obtain ⟨a', vs, v, e, ha, el, hv, r2⟩ := Rel.item rel hx
    cases e
    have r3 : Rel K H R ((.d (.list es), some (.ref b)) :: (.d x, some v) :: (.d (.list ds), some (.ref a)) :: L) := r2.perm (by
      refine List.Perm.trans (List.Perm.cons _ (List.Perm.swap ..)) (List.Perm.swap ..))
    obtain ⟨b', us, u, e, hb, el2, hu, r4⟩ := r3.item hy
    cases e
    refine ⟨⟨vs, us, v, u, SqL.of ha, SqL.of hb, hv, hu⟩, fun z H' hz => ?_⟩
    obtain ⟨T', v', u', rfl, hT, rfl, fv, fu⟩ := hz
    have e2 := (fv vs (SqL.of ha)).symm.trans hv
    cases e2
    have e3 := (fu us (SqL.of hb)).symm.trans hu
    cases e3
    have r5 : Rel K H R ((.d x, some v) :: (.d y, some u) :: (.d (.list ds), some (.ref a)) :: (.d (.list es), some (.ref b)) :: L) := r4.perm (by
      -- y, es, x, ds ~ x, y, ds, es
      refine List.Perm.trans (List.Perm.cons _ (List.Perm.swap ..)) ?_
      refine List.Perm.trans (List.Perm.swap ..) ?_
      exact List.Perm.cons _ (List.Perm.cons _ (List.Perm.swap ..)))
    exact Rel.pair hT r5
  · obtain ⟨a', vs, e, ha, el, _⟩ := Rel.items rel
    cases e
    obtain ⟨b', us, e, hb, el2, _⟩ := relB.items
    cases e
    have h : (zipD ds es).length ≤ i := hi
    have h2 : min ds.length es.length ≤ i := by simpa [zipD] using h
    exact ⟨vs, us, SqL.of ha, SqL.of hb, by omega⟩

/-! ### the walks' readings -/
def lsOf (o : O) : Option (List PyData) := match er o with
  | some (.list ds) => some ds
  | _ => none
def tpOf (o : O) : Option (List PyData) := match er o with
  | some (.tuple ds) => some ds
  | _ => none
theorem lsOf_er {o : O} {ds : List PyData} (h : lsOf o = some ds) : er o = some (.list ds) := by
  unfold lsOf at h
  split at h
  · rename_i e; cases h; exact e
  · cases h
theorem tpOf_er {o : O} {ds : List PyData} (h : tpOf o = some ds) : er o = some (.tuple ds) := by
  unfold tpOf at h
  split at h
  · rename_i e; cases h; exact e
  · cases h
def wList (f : Sl → M O) : Sl → M (List PyData) := fun S => bnd (f S) fun o S1 => match lsOf o with
  | some ds => some (.ok ds, S1)
  | none => none
def wTup (f : Sl → M O) : Sl → M (List PyData) := fun S => bnd (f S) fun o S1 => match tpOf o with
  | some ds => some (.ok ds, S1)
  | none => none
theorem si_list {te : TE} {f : Sl → M O} (h : SE K Y W te f) : SIt K Y W (iList K te) (wList f) := by
  intro R T S σ H Rr out S' hl hf rel post
  rcases bnd_cases hf with ⟨e, e1, rfl⟩ | ⟨o, S1, e1, e2⟩
  · exact h R T S σ H _ _ _ hl e1 rel fun hl' => post hl'
  · refine h R T S σ H _ _ _ hl e1 rel fun hl' v H1 rel1 => ?_
    split at e2
    · rename_i ds q
      cases e2
      have r2 := rel1.freeze (lsOf_er q)
      obtain ⟨a, vs, e, ha, _⟩ := r2.items
      cases e
      exact ⟨a, rfl, ⟨vs, SqL.of ha⟩, post hl' _ _ H1 iter_list r2⟩
    · cases e2
theorem si_tup {te : TE} {f : Sl → M O} (h : SE K Y W te f) : SIt K Y W (iTup K te) (wTup f) := by
  intro R T S σ H Rr out S' hl hf rel post
  rcases bnd_cases hf with ⟨e, e1, rfl⟩ | ⟨o, S1, e1, e2⟩
  · exact h R T S σ H _ _ _ hl e1 rel fun hl' => post hl'
  · refine h R T S σ H _ _ _ hl e1 rel fun hl' v H1 rel1 => ?_
    split at e2
    · rename_i ds q
      cases e2
      have r2 := rel1.freeze (tpOf_er q)
      obtain ⟨a, vs, e, ha, _⟩ := r2.itemsT
      cases e
      exact ⟨a, rfl, ⟨vs, SqT.of ha⟩, post hl' _ _ H1 iter_tup r2⟩
    · cases e2
/-- arguments as values, all given away -/
def vals : List Hd → Option (List O)
  | [] => some []
  | .inr o :: hs => (vals hs).map (o :: ·)
  | .inl _ :: _ => none
theorem vals_hv : ∀ {hs : List Hd} {os : List O} {vs : List V} {L : List En}, vals hs = some os → Hv σ hs vs L → os.length = vs.length ∧ L = os.zip (vs.map some)
  | [], _, _, _, h, hv => by cases h; cases hv; exact ⟨rfl, rfl⟩
  | .inl _ :: _, _, _, _, h, _ => by cases h
  | .inr o :: hs, os, _, _, h, hv => by
    cases hv with
    | r t =>
      have h' : (vals hs).map (o :: ·) = some os := h
      cases q : vals hs with
      | none => rw [q] at h'; cases h'
      | some os' =>
        rw [q] at h'; cases h'
        obtain ⟨e1, e2⟩ := vals_hv q t
        exact ⟨by simp [e1], by rw [e2]; rfl⟩
def wArgs (as : List Ar) (k : List O → Option (List PyData)) : Sl → M (List PyData) := fun S => bnd (argsE as S) fun hs S1 => match vals hs with
  | some os => (match k os with
    | some ds => some (.ok ds, S1)
    | none => none)
  | none => none
theorem wArgs_cases {as : List Ar} {k : List O → Option (List PyData)} {S S' : Sl} {out : Except Ex (List PyData)} (h : wArgs as k S = some (out, S')) :
    (∃ e, argsE as S = some (.error e, S') ∧ out = .error e) ∨ ∃ hs os ds, argsE as S = some (.ok hs, S') ∧ vals hs = some os ∧ k os = some ds ∧ out = .ok ds := by
  rcases bnd_cases h with ⟨e, e1, rfl⟩ | ⟨hs, S1, e1, e2⟩
  · exact .inl ⟨e, e1, rfl⟩
  · right
    split at e2
    · rename_i os q
      split at e2
      · rename_i ds q2
        cases e2
        exact ⟨hs, os, ds, e1, q, q2, rfl⟩
      · cases e2
    · cases e2
def inB (i : Int) : Bool := decide (-(2 ^ 62) ≤ i) && decide (i < 2 ^ 62)
theorem inB_of {i : Int} (h : inB i = true) : -(2 ^ 62) ≤ i ∧ i < 2 ^ 62 := by
  unfold inB at h
  rw [Bool.and_eq_true, decide_eq_true_eq, decide_eq_true_eq] at h
  exact h
def kRng1 : List O → Option (List PyData)
  | [.d (.int j)] => if inB j then some (rngD 0 j.toNat) else none
  | _ => none
def kRng2 : List O → Option (List PyData)
  | [.d (.int i), .d (.int j)] => if inB i && inB j then some (rngD i (j - i).toNat) else none
  | _ => none
def kEnum : List O → Option (List PyData)
  | [o] => (lsOf o).map enumD
  | _ => none
def kZip : List O → Option (List PyData)
  | [o, p] => match lsOf o, lsOf p with
    | some ds, some es => some (zipD ds es)
    | _, _ => none
  | _ => none
def kRev : List O → Option (List PyData)
  | [o] => (lsOf o).map List.reverse
  | _ => none
theorem scal_head {x : PyData} {v : V} (hx : scal1 x = true) (h : Rel K H R ((.d x, some v) :: L)) : v = toV x := Option.some.inj (h.scal hx)
theorem si_range1 {ta : TA} {as : List Ar} (h : SA K Y W ta as) : SIt K Y W (iRng1 ta) (wArgs as kRng1) := by
  intro R T S σ H Rr out S' hl hf rel post
  rcases wArgs_cases hf with ⟨e, e1, rfl⟩ | ⟨hs, os, ds, e1, q, q2, rfl⟩
  · exact h R T S σ H _ _ _ hl e1 rel fun hl' => post hl'
  · refine h R T S σ H _ _ _ hl e1 rel fun hl' vs L H1 hv rel1 => ?_
    obtain ⟨el, rfl⟩ := vals_hv q hv
    unfold kRng1 at q2
    split at q2
    · rename_i j
      split at q2
      · rename_i hb
        cases q2
        obtain ⟨v, rfl⟩ : ∃ v, vs = [v] := by
          match vs, el with
          | [v], _ => exact ⟨v, rfl⟩
        have r1 : Rel K H1 R ((.d (.int j), some v) :: (S'.zip σ ++ T)) := rel1
        have ev := scal_head rfl r1
        subst ev
        obtain ⟨b1, b2⟩ := inB_of hb
        exact ⟨j, rfl, b1, b2, post hl' _ [] H1 iter_range r1.drop⟩
      · cases q2
    · cases q2
theorem si_range2 {ta : TA} {as : List Ar} (h : SA K Y W ta as) : SIt K Y W (iRng2 ta) (wArgs as kRng2) := by
  intro R T S σ H Rr out S' hl hf rel post
  rcases wArgs_cases hf with ⟨e, e1, rfl⟩ | ⟨hs, os, ds, e1, q, q2, rfl⟩
  · exact h R T S σ H _ _ _ hl e1 rel fun hl' => post hl'
  · refine h R T S σ H _ _ _ hl e1 rel fun hl' vs L H1 hv rel1 => ?_
    obtain ⟨el, rfl⟩ := vals_hv q hv
    unfold kRng2 at q2
    split at q2
    · rename_i i j
      split at q2
      · rename_i hb
        rw [Bool.and_eq_true] at hb
        cases q2
        obtain ⟨v, u, rfl⟩ : ∃ v u, vs = [v, u] := by
          match vs, el with
          | [v, u], _ => exact ⟨v, u, rfl⟩
        have r1 : Rel K H1 R ((.d (.int i), some v) :: (.d (.int j), some u) :: (S'.zip σ ++ T)) := rel1
        have ev := scal_head rfl r1
        subst ev
        have eu := scal_head rfl r1.drop
        subst eu
        obtain ⟨b1, b2⟩ := inB_of hb.1
        obtain ⟨b3, b4⟩ := inB_of hb.2
        exact ⟨i, j, rfl, ⟨b1, b2, b3, b4⟩, post hl' _ [] H1 iter_range r1.drop.drop⟩
      · cases q2
    · cases q2
theorem si_enum {ta : TA} {as : List Ar} (h : SA K Y W ta as) : SIt K Y W (iEnum K ta) (wArgs as kEnum) := by
  intro R T S σ H Rr out S' hl hf rel post
  rcases wArgs_cases hf with ⟨e, e1, rfl⟩ | ⟨hs, os, ds, e1, q, q2, rfl⟩
  · exact h R T S σ H _ _ _ hl e1 rel fun hl' => post hl'
  · refine h R T S σ H _ _ _ hl e1 rel fun hl' vs L H1 hv rel1 => ?_
    obtain ⟨el, rfl⟩ := vals_hv q hv
    unfold kEnum at q2
    split at q2
    · rename_i o
      cases q3 : lsOf o with
      | none => rw [q3] at q2; cases q2
      | some xs =>
        rw [q3] at q2; cases q2
        obtain ⟨v, rfl⟩ : ∃ v, vs = [v] := by
          match vs, el with
          | [v], _ => exact ⟨v, rfl⟩
        have r1 : Rel K H1 R ((o, some v) :: (S'.zip σ ++ T)) := rel1
        have r2 := r1.freeze (lsOf_er q3)
        obtain ⟨a, us, e, ha, _⟩ := r2.items
        cases e
        exact ⟨a, us, rfl, SqL.of ha, post hl' _ _ H1 iter_enum r2⟩
    · cases q2
theorem si_rev {ta : TA} {as : List Ar} (h : SA K Y W ta as) : SIt K Y W (iRev K ta) (wArgs as kRev) := by
  intro R T S σ H Rr out S' hl hf rel post
  rcases wArgs_cases hf with ⟨e, e1, rfl⟩ | ⟨hs, os, ds, e1, q, q2, rfl⟩
  · exact h R T S σ H _ _ _ hl e1 rel fun hl' => post hl'
  · refine h R T S σ H _ _ _ hl e1 rel fun hl' vs L H1 hv rel1 => ?_
    obtain ⟨el, rfl⟩ := vals_hv q hv
    unfold kRev at q2
    split at q2
    · rename_i o
      cases q3 : lsOf o with
      | none => rw [q3] at q2; cases q2
      | some xs =>
        rw [q3] at q2; cases q2
        obtain ⟨v, rfl⟩ : ∃ v, vs = [v] := by
          match vs, el with
          | [v], _ => exact ⟨v, rfl⟩
        have r1 : Rel K H1 R ((o, some v) :: (S'.zip σ ++ T)) := rel1
        have r2 := r1.freeze (lsOf_er q3)
        obtain ⟨a, us, e, ha, en, _⟩ := r2.items
        cases e
        refine ⟨a, us, rfl, SqL.of ha, ?_⟩
        rw [← en]
        exact post hl' _ _ H1 iter_rev r2
    · cases q2
theorem si_zip {ta : TA} {as : List Ar} (h : SA K Y W ta as) : SIt K Y W (iZip K ta) (wArgs as kZip) := by
  intro R T S σ H Rr out S' hl hf rel post
  rcases wArgs_cases hf with ⟨e, e1, rfl⟩ | ⟨hs, os, ds, e1, q, q2, rfl⟩
  · exact h R T S σ H _ _ _ hl e1 rel fun hl' => post hl'
  · refine h R T S σ H _ _ _ hl e1 rel fun hl' vs L H1 hv rel1 => ?_
    obtain ⟨el, rfl⟩ := vals_hv q hv
    unfold kZip at q2
    split at q2
    · rename_i o p
      split at q2
      · rename_i xs ys q3 q4
        cases q2
        obtain ⟨v, u, rfl⟩ : ∃ v u, vs = [v, u] := by
          match vs, el with
          | [v, u], _ => exact ⟨v, u, rfl⟩
        have r1 : Rel K H1 R ((o, some v) :: (p, some u) :: (S'.zip σ ++ T)) := rel1
        have r2 := ((r1.freeze (lsOf_er q3)).swap.freeze (lsOf_er q4)).swap
        obtain ⟨a, us, e, ha, _⟩ := r2.items
        cases e
        obtain ⟨b, ws, e, hb, _⟩ := r2.swap.items
        cases e
        exact ⟨a, b, us, ws, rfl, SqL.of ha, SqL.of hb, post hl' _ _ H1 iter_zip r2⟩
      · cases q2
    · cases q2
/-- reversed(range(..)) -/
def tRg (ta : TA) : Slots → Hp → (Int → Int → Hp → Prop) → Prop := fun σ H Q => ta σ H fun vs H1 => ∃ j : Int, vs = [.int j] ∧ Q 0 j H1
end

/-! ### for -/
def loopL (p : Pt) (body : Sl → MS) : List PyData → Sl → MS
  | [], S => some (.ok .nx, S)
  | d :: ds, S => match bindP p d S with
    | none => none
    | some S1 => bnd (body S1) fun fl S2 => match fl with
      | .nx => loopL p body ds S2
      | .ct => loopL p body ds S2
      | .bk => some (.ok .nx, S2)
      | .rt o => some (.ok (.rt o), S2)
def sFor (src : Sl → M (List PyData)) (p : Pt) (body : Sl → MS) : Sl → MS := fun S => bnd (src S) fun ds S1 => loopL p body ds S1
def loopW (c : Sl → M Bool) (body : Sl → MS) : Nat → Sl → MS
  | 0, _ => none
  | n + 1, S => bnd (c S) fun b S1 => if b then (bnd (body S1) fun fl S2 => match fl with
      | .nx => loopW c body n S2
      | .ct => loopW c body n S2
      | .bk => some (.ok .nx, S2)
      | .rt o => some (.ok (.rt o), S2)) else some (.ok .nx, S1)
section
variable {K : PySem.W.Frag} {Y : YX} {W : WX} {ws : List Nat} {tb : TS} {body : Sl → MS} {g : TG} {p : Pt}
theorem bind_len : ∀ {p : Pt} {ps : List Pt}, True := trivial
theorem ss_for {wi : TI} {src : Sl → M (List PyData)} (hs : SIt K Y W wi src) (hg : SG K ws g p) (hb : SS K Y W ws tb body) : SS K Y W ws (tFor wi g tb) (sFor src p body) := by
  intro R T S σ H D out S' hl hf rel post
  rcases bnd_cases hf with ⟨e, e1, rfl⟩ | ⟨ds, S1, e1, e2⟩
  · exact hs R T S σ H _ _ _ hl e1 rel (post_err post)
  · refine hs R T S σ H _ _ _ hl e1 rel fun hl1 J L0 H1 hJ rel1 => ?_
    refine ⟨fun i m σ' H' => m = ds.length - i ∧ i ≤ ds.length ∧ Kept ws σ σ' ∧ ∃ Si, Si.length = σ'.length ∧ loopL p body (ds.drop i) Si = some (out, S') ∧ Rel K H' R (L0 ++ (Si.zip σ' ++ T)),
      ⟨ds.length, by simp, Nat.zero_le _, .refl, S1, hl1, e2, rel1⟩, ?_⟩
    rintro i m σ' H' ⟨rfl, hi, k, Si, hli, hlo, reli⟩
    by_cases hlt : i < ds.length
    · have hd : ds[i]? = some ds[i] := List.getElem?_eq_getElem hlt
      have ed : ds.drop i = ds[i] :: ds.drop (i + 1) := List.drop_eq_getElem_cons hlt
      obtain ⟨hgo, hy⟩ := (hJ R _ H' reli i).1 _ hd
      refine .inr ⟨hgo, fun σ2 H2 => Kept ws σ σ2 ∧ ∃ Si, Si.length = σ2.length ∧ loopL p body (ds.drop (i + 1)) Si = some (out, S') ∧ Rel K H2 R (L0 ++ (Si.zip σ2 ++ T)), fun σ2 H2 h2 => ?_, fun x H2 y2 => ?_⟩
      · exact ⟨ds.length - (i + 1), by omega, rfl, hlt, h2⟩
      · rw [ed] at hlo
        have hlo' : (match bindP p ds[i] Si with
          | none => none
          | some S1 => bnd (body S1) fun fl S2 => match fl with
            | .nx => loopL p body (ds.drop (i + 1)) S2
            | .ct => loopL p body (ds.drop (i + 1)) S2
            | .bk => some (.ok .nx, S2)
            | .rt o => some (.ok (.rt o), S2)) = some (out, S') := hlo
        cases qb : bindP p ds[i] Si with
        | none => rw [qb] at hlo'; cases hlo'
        | some Sb =>
          rw [qb] at hlo'
          have r2 := hy x H2 y2
          have r3 : Rel K H2 R ((.d ds[i], some x) :: (Si.zip σ' ++ (T ++ L0))) := r2.perm (.cons _ (by
            rw [← List.append_assoc (Si.zip σ')]
            exact List.perm_append_comm))
          refine hg R _ Si Sb σ' H2 ds[i] x _ hli qb r3 fun hlb σ3 k3 rel3 => ?_
          have kk := k.trans k3
          have lb : Sb.length = σ3.length := hlb.trans k3.1.symm
          rcases bnd_cases hlo' with ⟨e, f1, rfl⟩ | ⟨fl, S2, f1, f2⟩
          · exact hb R _ Sb σ3 H2 _ _ _ lb f1 rel3 fun hle cls dd σ4 H4 k4 hy4 rel4 => post (hle.trans kk.1) cls dd σ4 H4 (kk.trans k4) hy4 (by
              rw [← List.append_assoc] at rel4
              exact rel4.rot.drops)
          · refine hb R _ Sb σ3 H2 _ _ _ lb f1 rel3 ?_
            cases fl with
            | nx => exact fun hle σ4 H4 k4 rel4 => ⟨kk.trans k4, S2, hle.trans k4.1.symm, f2, by rw [← List.append_assoc] at rel4; exact rel4.rot⟩
            | ct => exact fun hle σ4 H4 k4 rel4 => ⟨kk.trans k4, S2, hle.trans k4.1.symm, f2, by rw [← List.append_assoc] at rel4; exact rel4.rot⟩
            | bk =>
              cases f2
              exact fun hle σ4 H4 k4 rel4 => post (hle.trans kk.1) σ4 H4 (kk.trans k4) (by rw [← List.append_assoc] at rel4; exact rel4.rot.drops)
            | rt o =>
              cases f2
              exact fun hle v σ4 H4 k4 rel4 => post (hle.trans kk.1) v σ4 H4 (kk.trans k4) (by
                have q : Rel K H4 R (((o, some v) :: (S'.zip σ4 ++ T)) ++ L0) := by
                  show Rel K H4 R ((o, some v) :: ((S'.zip σ4 ++ T) ++ L0))
                  rw [List.append_assoc]; exact rel4
                exact q.rot.drops)
    · have e : i = ds.length := by omega
      subst e
      rw [List.drop_length] at hlo
      have hlo' : some (Except.ok Fl.nx, Si) = some (out, S') := hlo
      cases hlo'
      exact .inl ⟨(hJ R _ H' reli _).2 (Nat.le_refl _), post (hli.trans k.1) σ' H' k reli.drops⟩
theorem ss_while {tc : TT} {c : Sl → M Bool} {n : Nat} (hc : ST K Y W tc c) (hb : SS K Y W ws tb body) : SS K Y W ws (tWhile tc tb) (loopW c body n) := by
  intro R T S σ H D out S' hl hf rel post
  refine ⟨fun m σ' H' => Kept ws σ σ' ∧ ∃ Si, Si.length = σ'.length ∧ loopW c body m Si = some (out, S') ∧ Rel K H' R (Si.zip σ' ++ T), ⟨n, .refl, S, hl, hf, rel⟩, ?_⟩
  rintro m σ' H' ⟨k, Si, hli, hlo, reli⟩
  cases m with
  | zero => cases hlo
  | succ m =>
    rcases bnd_cases (show bnd (c Si) (fun b S1 => if b then (bnd (body S1) fun fl S2 => match fl with
      | .nx => loopW c body m S2
      | .ct => loopW c body m S2
      | .bk => some (.ok .nx, S2)
      | .rt o => some (.ok (.rt o), S2)) else some (.ok .nx, S1)) = some (out, S') from hlo) with ⟨e, e1, rfl⟩ | ⟨b, S1, e1, e2⟩
    · exact hc R T Si σ' H' _ _ _ hli e1 reli fun hle cls dd H2 hy r2 => post (hle.trans k.1) cls dd σ' H2 k hy r2
    · refine hc R T Si σ' H' _ _ _ hli e1 reli fun hl1 H1 rel1 => ?_
      cases b with
      | false =>
        rw [if_neg Bool.false_ne_true] at e2 ⊢
        cases e2
        exact post (hl1.trans k.1) σ' H1 k rel1
      | true =>
        rw [if_pos rfl] at e2 ⊢
        refine ⟨fun σ2 H2 => Kept ws σ σ2 ∧ ∃ Si, Si.length = σ2.length ∧ loopW c body m Si = some (out, S') ∧ Rel K H2 R (Si.zip σ2 ++ T), fun σ2 H2 h2 => ⟨m, Nat.lt_succ_self _, h2⟩, ?_⟩
        rcases bnd_cases e2 with ⟨e, f1, rfl⟩ | ⟨fl, S2, f1, f2⟩
        · exact hb R T S1 σ' H1 _ _ _ hl1 f1 rel1 fun hle cls dd σ4 H4 k4 hy4 rel4 => post (hle.trans k.1) cls dd σ4 H4 (k.trans k4) hy4 rel4
        · refine hb R T S1 σ' H1 _ _ _ hl1 f1 rel1 ?_
          cases fl with
          | nx => exact fun hle σ4 H4 k4 rel4 => ⟨k.trans k4, S2, hle.trans k4.1.symm, f2, rel4⟩
          | ct => exact fun hle σ4 H4 k4 rel4 => ⟨k.trans k4, S2, hle.trans k4.1.symm, f2, rel4⟩
          | bk => cases f2; exact fun hle σ4 H4 k4 rel4 => post (hle.trans k.1) σ4 H4 (k.trans k4) rel4
          | rt o => cases f2; exact fun hle v σ4 H4 k4 rel4 => post (hle.trans k.1) v σ4 H4 (k.trans k4) rel4
end

/-! ### comprehensions -/
def wipeS (S : Sl) : List Nat → Sl
  | [] => S
  | v :: vs => (wipeS S vs).set v .no
theorem wipeS_len (S : Sl) : ∀ vs : List Nat, (wipeS S vs).length = S.length
  | [] => rfl
  | v :: vs => by show ((wipeS S vs).set v .no).length = _; rw [List.length_set, wipeS_len S vs]
section
variable {K : PySem.W.Frag} {Y : YX} {W : WX} {R : List Addr} {T : List En} {H : Hp} {σ σ' : Slots}
theorem Rel.forget {S : Sl} {i : Nat} {w : Option V} (h : Rel K H R (S.zip σ ++ T)) : Rel K H R ((S.set i .no).zip (σ.set i w) ++ T) := by
  rw [zip_set]
  by_cases hi : i < (S.zip σ).length
  · refine Rel.perm ?_ ((set_perm hi).symm.append_right T)
    have p := h.perm ((get_perm (List.getElem?_eq_getElem hi)).append_right T)
    exact p.drop.addNo
  · rw [List.set_eq_of_length_le (Nat.le_of_not_lt hi)]
    exact h
theorem Rel.wipes {S : Sl} : ∀ (vs : List Nat), Rel K H R (S.zip σ ++ T) → Rel K H R ((wipeS S vs).zip (wipe σ vs) ++ T)
  | [], h => h
  | v :: vs, h => (Rel.wipes vs h).forget
theorem set_set_self {σ : Slots} {i : Nat} {w : Option V} (h : σ[i]? = some w) (u : Option V) : (σ.set i u).set i w = σ := by
  rw [List.set_set, set_self h]
/-- back to the slots as they were -/
theorem Rel.unwipes {S : Sl} : ∀ (vs : List Nat), Rel K H R (S.zip (wipe σ vs) ++ T) → Rel K H R ((wipeS S vs).zip σ ++ T) := by
  intro vs
  induction vs generalizing S with
  | nil => exact fun h => h
  | cons v vs ih =>
    intro h
    have h1 : Rel K H R (S.zip ((wipe σ vs).set v none) ++ T) := h
    by_cases hv : v < (wipe σ vs).length
    · have hw : (wipe σ vs)[v]? = some (wipe σ vs)[v] := List.getElem?_eq_getElem hv
      have h2 := h1.forget (i := v) (w := (wipe σ vs)[v])
      rw [set_set_self hw] at h2
      have h3 := ih h2
      have e : ∀ (S : Sl) (vs : List Nat) (v : Nat), wipeS (S.set v .no) vs = (wipeS S vs).set v .no := by
        intro S vs
        induction vs with
        | nil => intro v; rfl
        | cons u vs ih2 =>
          intro v
          show (wipeS (S.set v .no) vs).set u .no = ((wipeS S vs).set u .no).set v .no
          rw [ih2]
          by_cases q : u = v
          · rw [q]
          · exact List.set_comm _ _ (Ne.symm q)
      rw [e] at h3
      exact h3
    · rw [List.set_eq_of_length_le (Nat.le_of_not_lt hv)] at h1
      have h3 := ih h1
      rw [wipe_length] at hv
      have e2 : ((wipeS S vs).set v .no).zip σ = (wipeS S vs).zip σ := by
        have e3 : σ.set v none = σ := List.set_eq_of_length_le (Nat.le_of_not_lt hv)
        have e4 : ((wipeS S vs).set v .no).zip (σ.set v none) = ((wipeS S vs).zip σ).set v (.no, none) := zip_set
        rw [e3] at e4
        rw [e4]
        refine List.set_eq_of_length_le ?_
        rw [List.length_zip]
        omega
      show Rel K H R (((wipeS S vs).set v .no).zip σ ++ T)
      rw [e2]; exact h3
end
abbrev W0 : WX := fun _ _ _ _ => False
def compL (p : Pt) (cnd : Sl → M Bool) (elt : Sl → M O) (vs : List Nat) : List PyData → Sl → List O → Option (List O × Sl)
  | [], S, acc => some (acc, S)
  | d :: ds, S, acc => match bindP p d S with
    | none => none
    | some S1 => match cnd S1 with
      | some (.ok true, S2) => (match elt S2 with
        | some (.ok o, S3) => compL p cnd elt vs ds (wipeS S3 vs) (acc ++ [o])
        | _ => none)
      | some (.ok false, S2) => compL p cnd elt vs ds (wipeS S2 vs) acc
      | _ => none
/-- the most that a list here holds -/
def LIM : Nat := 100000
theorem LIM_lt {n : Nat} (h : n < LIM) : n < sizeLine := Nat.lt_of_lt_of_le h (by decide)
theorem LIM_le {n : Nat} (h : n ≤ LIM) : n ≤ sizeLine := Nat.le_trans h (by decide)
def eComp (src : Sl → M (List PyData)) (p : Pt) (cnd : Sl → M Bool) (elt : Sl → M O) (vs : List Nat) : Sl → M O := fun S => bnd (src S) fun ds S1 =>
  if ds.length ≤ LIM then (match compL p cnd elt vs ds (wipeS S1 vs) [] with
    | some (os, S2) => some (.ok (.l os), wipeS S2 vs)
    | none => none) else none
section
variable {K : PySem.W.Frag} {Y : YX} {W : WX} {ws : List Nat} {g : TG} {p : Pt}
/-- a target of a comprehension: it stores to the comprehension's own names alone -/
theorem kept_wipe {vs : List Nat} {σ σ2 : Slots} (k : Kept vs σ σ2) : wipe σ2 vs = wipe σ vs := by
  have out : ∀ (vs : List Nat) (σ : Slots) (i : Nat), i ∉ vs → (wipe σ vs)[i]? = σ[i]? := by
    intro vs
    induction vs with
    | nil => intro σ i _; rfl
    | cons v vs ih =>
      intro σ i hi
      show ((wipe σ vs).set v none)[i]? = _
      rw [List.getElem?_set_ne fun e => hi (by rw [← e]; exact List.mem_cons_self)]
      exact ih σ i fun m => hi (List.mem_cons_of_mem _ m)
  have inn : ∀ (vs : List Nat) (σ : Slots) (i : Nat), i ∈ vs → i < σ.length → (wipe σ vs)[i]? = some none := by
    intro vs
    induction vs with
    | nil => intro σ i h; cases h
    | cons v vs ih =>
      intro σ i hi hl
      show ((wipe σ vs).set v none)[i]? = _
      by_cases e : v = i
      · rw [e, List.getElem?_set_self (by rw [wipe_length]; exact hl)]
      · rw [List.getElem?_set_ne e]
        exact ih σ i ((List.mem_cons.mp hi).resolve_left fun z => e z.symm) hl
  refine List.ext_getElem? fun i => ?_
  by_cases hi : i ∈ vs
  · by_cases hl : i < σ.length
    · rw [inn vs σ i hi hl, inn vs σ2 i hi (by rw [k.1]; exact hl)]
    · rw [List.getElem?_eq_none (by rw [wipe_length, k.1]; omega), List.getElem?_eq_none (by rw [wipe_length]; omega)]
  · rw [out vs σ i hi, out vs σ2 i hi]; exact k.2 i hi
theorem kw : ∀ (vs : List Nat) (σ : Slots), Kept vs σ (wipe σ vs)
  | [], σ => .refl
  | v :: vs, σ => by
    have k := kw vs σ
    have k1 : Kept (v :: vs) σ (wipe σ vs) := ⟨k.1, fun i hi => k.2 i fun m => hi (List.mem_cons_of_mem _ m)⟩
    exact k1.trans (Kept.set (List.mem_cons_self))
theorem se_comp {wi : TI} {src : Sl → M (List PyData)} {tt : TT} {cnd : Sl → M Bool} {te : TE} {elt : Sl → M O} {vs : List Nat} (hs : SIt K Y W wi src) (hg : SG K vs g p) (ht : ST K Y W0 tt cnd) (he : SE K Y W0 te elt) :
    SE K Y W (tLc wi g tt te vs) (eComp src p cnd elt vs) := by
  intro R T S σ H Q out S' hl hf rel post
  rcases bnd_cases hf with ⟨e, e1, rfl⟩ | ⟨ds, S1, e1, e2⟩
  · exact hs R T S σ H _ _ _ hl e1 rel post
  · refine hs R T S σ H _ _ _ hl e1 rel fun hl1 J L0 H1 hJ rel1 => ?_
    split at e2
    · rename_i hlim
      cases qc : compL p cnd elt vs ds (wipeS S1 vs) [] with
      | none => simp only [qc] at e2; cases e2
      | some q =>
        obtain ⟨os, S2⟩ := q
        simp only [qc] at e2
        cases e2
        intro D hD
        have qq := kept_wipe (kw vs σ)
        refine ⟨fun i m H' => m = ds.length - i ∧ i ≤ ds.length ∧ ∃ Si acc, Si.length = σ.length ∧ acc.length ≤ i ∧ compL p cnd elt vs (ds.drop i) Si acc = some (os, S2) ∧
            Rel K H' R (L0 ++ (Si.zip (wipe σ vs) ++ ((.l acc, some (.ref D)) :: T))), ⟨ds.length, by simp, Nat.zero_le _, wipeS S1 vs, [], by rw [wipeS_len]; exact hl1, Nat.zero_le _, qc, ?_⟩, ?_⟩
        · have r1 : Rel K H1 R (S1.zip σ ++ (T ++ L0)) := rel1.rot3
          have r2 : Rel K (upd H1 D (.lst [])) (D :: R) (([] : List O).zip (([] : List V).map some) ++ ((wipeS S1 vs).zip (wipe σ vs) ++ (T ++ L0))) := (Rel.wipes vs r1).fresh (u := .lst []) hD
          have r3 : Rel K (upd H1 D (.lst [])) R ((.l [], some (.ref D)) :: ((wipeS S1 vs).zip (wipe σ vs) ++ (T ++ L0))) := r2.close upd_same rfl
          exact Rel.rot3' (C := (.l [], some (.ref D)) :: T) r3.unmid
        · rintro i m H' ⟨rfl, hi, Si, acc, hli, hai, hco, reli⟩
          by_cases hlt : i < ds.length
          · have hd : ds[i]? = some ds[i] := List.getElem?_eq_getElem hlt
            have ed : ds.drop i = ds[i] :: ds.drop (i + 1) := List.drop_eq_getElem_cons hlt
            obtain ⟨hgo, hy⟩ := (hJ _ _ H' reli i).1 _ hd
            refine .inr ⟨hgo, fun H2 => ∃ Si acc, Si.length = σ.length ∧ acc.length ≤ i + 1 ∧ compL p cnd elt vs (ds.drop (i + 1)) Si acc = some (os, S2) ∧
              Rel K H2 R (L0 ++ (Si.zip (wipe σ vs) ++ ((.l acc, some (.ref D)) :: T))), fun H2 h2 => ⟨ds.length - (i + 1), by omega, rfl, hlt, h2⟩, fun x H2 y2 => ?_⟩
            have r2 := hy x H2 y2
            rw [ed] at hco
            have hco' : (match bindP p ds[i] Si with
              | none => none
              | some S1 => match cnd S1 with
                | some (.ok true, S2) => (match elt S2 with
                  | some (.ok o, S3) => compL p cnd elt vs (ds.drop (i + 1)) (wipeS S3 vs) (acc ++ [o])
                  | _ => none)
                | some (.ok false, S2) => compL p cnd elt vs (ds.drop (i + 1)) (wipeS S2 vs) acc
                | _ => none) = some (os, S2) := hco
            cases qb : bindP p ds[i] Si with
            | none => rw [qb] at hco'; cases hco'
            | some Sb =>
              simp only [qb] at hco'
              have r3 : Rel K H2 R ((.d ds[i], some x) :: (Si.zip (wipe σ vs) ++ (((.l acc, some (.ref D)) :: T) ++ L0))) := r2.perm (.cons _ (by
                rw [← List.append_assoc (Si.zip (wipe σ vs))]
                exact List.perm_append_comm))
              refine hg R _ Si Sb (wipe σ vs) H2 ds[i] x _ (by rw [wipe_length]; exact hli) qb r3 fun hlb σ3 k3 rel3 => ⟨(kept_wipe k3).trans qq, ?_⟩
              have lb : Sb.length = σ3.length := hlb.trans k3.1.symm
              have ew : wipe σ3 vs = wipe σ vs := (kept_wipe k3).trans qq
              have l3 : σ3.length = σ.length := k3.1.trans (wipe_length σ vs)
              cases qd : cnd Sb with
              | none => simp only [qd] at hco'; cases hco'
              | some z =>
                obtain ⟨eb, S4⟩ := z
                cases eb with
                | error e => simp only [qd] at hco'; cases hco'
                | ok b =>
                  refine ht R _ Sb σ3 H2 _ _ _ lb qd rel3 fun hl4 H4 rel4 => ?_
                  cases b with
                  | false =>
                    simp only [qd] at hco'
                    rw [if_neg Bool.false_ne_true]
                    refine ⟨wipeS S4 vs, acc, by rw [wipeS_len]; exact hl4.trans l3, by omega, hco', ?_⟩
                    have r5 := Rel.wipes vs rel4
                    rw [ew] at r5
                    exact Rel.rot3' (C := (.l acc, some (.ref D)) :: T) r5
                  | true =>
                    simp only [qd] at hco'
                    rw [if_pos rfl]
                    cases qe : elt S4 with
                    | none => simp only [qe] at hco'; cases hco'
                    | some z =>
                      obtain ⟨eo, S5⟩ := z
                      cases eo with
                      | error e => simp only [qe] at hco'; cases hco'
                      | ok o =>
                        simp only [qe] at hco'
                        refine he R _ S4 σ3 H4 _ _ _ hl4 qe rel4 fun hl5 y H5 rel5 => ?_
                        have r6 : Rel K H5 R ((.l acc, some (.ref D)) :: (((o, some y) :: (S5.zip σ3 ++ (T ++ L0))))) := by
                          have q1 : Rel K H5 R (((o, some y) :: S5.zip σ3) ++ (.l acc, some (.ref D)) :: (T ++ L0)) := rel5
                          exact q1.mid
                        obtain ⟨a', av, e, hDa, hla, r7⟩ := r6.open
                        cases e
                        refine ⟨av, hDa, LIM_lt (by omega), wipeS S5 vs, acc ++ [o], by rw [wipeS_len]; exact hl5.trans l3, by rw [List.length_append]; show acc.length + 1 ≤ i + 1; omega, hco', ?_⟩
                        have r8 : Rel K (upd H5 D (.lst (av ++ [y]))) (D :: R) (acc.zip (av.map some) ++ ((o, some y) :: (S5.zip σ3 ++ (T ++ L0)))) := r7.hand List.mem_cons_self
                        have r9 : Rel K (upd H5 D (.lst (av ++ [y]))) (D :: R) ((acc ++ [o]).zip ((av ++ [y]).map some) ++ (S5.zip σ3 ++ (T ++ L0))) := by
                          rw [List.map_append, List.zip_append (by rw [List.length_map]; exact hla), List.append_assoc]
                          exact r8
                        have r10 := r9.close upd_same (by rw [List.length_append, List.length_append, hla]; rfl)
                        have r11 : Rel K (upd H5 D (.lst (av ++ [y]))) R (S5.zip σ3 ++ ((.l (acc ++ [o]), some (.ref D)) :: (T ++ L0))) := r10.unmid
                        have r12 := Rel.wipes vs r11
                        rw [ew] at r12
                        exact Rel.rot3' (C := (.l (acc ++ [o]), some (.ref D)) :: T) r12
          · have e : i = ds.length := by omega
            subst e
            rw [List.drop_length] at hco
            have hco' : some (acc, Si) = some (os, S2) := hco
            cases hco'
            refine .inl ⟨(hJ _ _ H' reli _).2 (Nat.le_refl _), ?_⟩
            have r1 : Rel K H' R (S2.zip (wipe σ vs) ++ ((.l os, some (.ref D)) :: T)) := reli.drops
            have r2 := Rel.unwipes vs r1
            exact post (by rw [wipeS_len]; exact hli) _ H' r2.mid
    · cases e2
end
end FT
/-! FT5: defs: what a def does as a function on abstract values; calls; the end of a law. -/
namespace FT
open PySem PySem.Spec PyProof.Rows L2
/-- room, and nothing is being shown (repr) around -/
structure RG (k : Nat) (A : Around) : Prop where
  rm : Room k A
  gd : A.guards = some []
theorem RG.mono {j k : Nat} {A : Around} (r : RG k A) (h : j ≤ k) : RG j A := ⟨r.rm.mono h, r.gd⟩
theorem RG.deeper {k : Nat} {A : Around} (r : RG (k + 1) A) (env : Env) : RG k (A.deeper env) := ⟨r.rm.deeper env, r.gd⟩

/-- the def at f does g -/
structure FnG (P : Program) (w : World) (K : PySem.W.Frag) (mg : Str → Option Value) (base : Heap) (Y : YX) (k : Nat) (f : Addr) (fd : FuncData) (ps : List Str) (g : Fn) : Prop where
  ar : ∀ os r, g os = some r → os.length = ps.length
  run : ∀ (A : Around) (outer : List Env) (s : Shared) (H : Hp) (args : Args) (us : List Value) (vs : List V) (Q : VK) (E : XK) (R : List Addr) (L : List En) (os os' : List O) (out : Except Ex O),
    RG k A → Env0 P w K mg base A outer s H → BindsTo s fd args (ps.zip us) → Vals vs us → os.length = vs.length → g os = some (out, os') → Rel K H R (os.zip (vs.map some) ++ L) → PostF K Y R L vs Q E out os' →
    codeAny (model P w) A (.call (.ref f) args) (CR (L2N.CX P w) outer P w H s Q E) s
theorem FnG.mono {P : Program} {w : World} {K : PySem.W.Frag} {mg : Str → Option Value} {base : Heap} {Y : YX} {j k : Nat} {f : Addr} {fd : FuncData} {ps : List Str} {g : Fn} (F : FnG P w K mg base Y j f fd ps g) (h : j ≤ k) : FnG P w K mg base Y k f fd ps g :=
  ⟨F.ar, fun A outer s H args us vs Q E R L os os' out hr => F.run A outer s H args us vs Q E R L os os' out (hr.mono h)⟩
/-- the reading of a call -/
def rCall (K : PySem.W.Frag) (Y : YX) (g : Fn) : RX := fun vs H Q E => ∃ R L os os' out, os.length = vs.length ∧ g os = some (out, os') ∧ Rel K H R (os.zip (vs.map some) ++ L) ∧ PostF K Y R L vs Q E out os'
theorem fr_call {K : PySem.W.Frag} {Y : YX} {g : Fn} : FR K Y (rCall K Y g) g := fun R L vs os os' _ _ _ out hl hg rel post => ⟨R, L, os, os', out, hl, hg, rel, post⟩
def tCallG (K : PySem.W.Frag) (Y : YX) (W : WX) (g : Fn) (t : TA) : TE := fun σ H Q => t σ H fun vs H1 => rCall K Y g vs H1 Q fun cls dd H2 => W cls dd σ H2
section
variable {X : Cx} {Y : YX} {W : WX} {k : Nat} {f : Addr} {fd : FuncData} {ps : List Str} {g : Fn} {x : Str} {p pos : Pos} {e : Expr} {es : List Expr} {t : TA} {kws : List Keyword} {ks : List Str}
theorem run_g {pins : List (Addr × Obj)} {σ : Slots} {H : Hp} {s : Shared} {Q : VK} {us pu : List Value} {kw : List (Str × Value)} {vs : List V} (F : FnG X.prog X.w X.K X.mg X.base Y k f fd ps g) (hr : RG k X.A) (tk : L2N.Takes X W)
    (hb : us.length = ps.length → BindsTo s fd ⟨pu, kw⟩ (ps.zip us)) (I : Inv X pins σ H s) (r : Vals vs us) (h : rCall X.K Y g vs H Q fun cls dd H2 => W cls dd σ H2) :
    wpAny (model X.prog X.w) X.A (call (.ref f) pu kw) (EP X pins σ Q) X.xe s := by
  obtain ⟨R, L, os, os', out, hl, hg, rel, post⟩ := h
  have hlu : us.length = ps.length := by rw [← r.length, ← hl]; exact F.ar os _ hg
  refine wpAny_call (codeAny_mono (F.run X.A X.stack s H _ us vs Q _ R L os os' out hr I.env0 (hb hlu) r hl hg rel post) fun q s' hq => ?_)
  match q, hq with
  | .error ev, hq => exact L2N.passAt tk σ pins H s ev s' I hq
  | .ok (.ret u), hq => exact I.after hq
  | .ok .next, hq => exact hq.elim
  | .ok .brk, hq => exact hq.elim
  | .ok .cont, hq => exact hq.elim
/-- f(e, ..) -/
theorem pe_callG (F : FnG X.prog X.w X.K X.mg X.base Y k f fd ps g) (hr : RG k X.A) (hg : Gl X x) (hm : X.mg x = some (.ref f)) (hk : PySem.W.keepIn X.K (.ref f) = true) (hb : Binds X.K fd ps []) (tk : L2N.Takes X W)
    (ha : PA X (e :: es) t) (hdb : (x == ("__debug__" : Str)) = false := by decide) (he : starEach (e :: es) X.env = (false, eval e X.env) :: starEach es X.env := by rfl) (hpl : (backTo pos (starEach es X.env)).any (·.1) = false := by rfl) :
    PE X (.Call (.Name x p) (e :: es) [] pos) (tCallG X.K Y W g t) := by
  refine ⟨fun pins s σ H Q I h => wpAny_Call_Name_kw (ld_glob I hg hm (PySem.W.callWith_K (h₀ := X.base) I.ok.mod.kin hk (thn (ha.run pos pins s σ H _ I h) fun us s1 hq => ?_) he hpl) hdb)⟩
  obtain ⟨vs, H1, I1, r, q⟩ := hq
  exact ⟨I1.kIn, run_g F hr tk (fun hl => by simpa using hb s1 us I1.kIn (by simpa using hl)) I1 r q⟩
/-- f() -/
theorem pe_callG0 (F : FnG X.prog X.w X.K X.mg X.base Y k f fd ps g) (hr : RG k X.A) (hg : Gl X x) (hm : X.mg x = some (.ref f)) (hk : PySem.W.keepIn X.K (.ref f) = true) (hb : Binds X.K fd ps []) (tk : L2N.Takes X W)
    (hdb : (x == ("__debug__" : Str)) = false := by decide) : PE X (.Call (.Name x p) [] [] pos) (tCallG X.K Y W g tNil) := by
  refine ⟨fun pins s σ H Q I h => wpAny_Call_Name_kw (ld_glob I hg hm (PySem.W.callWith_K0 I.kIn hk ?_) hdb)⟩
  exact run_g (us := []) F hr tk (fun hl => by simpa using hb s [] I.kIn (by simpa using hl)) I .nil h
/-- how a call by keywords alone binds: as written, or (rv) the other way round -/
structure KwB (K : PySem.W.Frag) (fd : FuncData) (ps ks : List Str) (rv : Bool) : Prop where
  to : ∀ (s : Shared) (ws : List Value), K.In s.heap → ws.length = ps.length → BindsTo s fd ⟨[], ks.zip ws⟩ (ps.zip (if rv then ws.reverse else ws))
theorem Vals.rev {vs : List V} {us : List Value} (r : Vals vs us) : Vals vs.reverse us.reverse := L2.Vals.reverse r
def revF (rv : Bool) (g : Fn) : Fn := fun os => match g (if rv then os.reverse else os) with
  | some (out, os') => some (out, if rv then os'.reverse else os')
  | none => none
theorem zip_rev {α β : Type} : ∀ {S : List α} {σ : List β}, S.length = σ.length → (S.zip σ).reverse = S.reverse.zip σ.reverse
  | [], [], _ => rfl
  | x :: S, y :: σ, h => by
    have h' : S.length = σ.length := by simpa using h
    rw [List.zip_cons_cons, List.reverse_cons, List.reverse_cons, List.reverse_cons, List.zip_append (by rw [List.length_reverse, List.length_reverse]; exact h'), zip_rev h']
    rfl
theorem rel_rev {K : PySem.W.Frag} {R : List Addr} {L : List En} {H : Hp} {os : List O} {vs : List V} (hl : os.length = vs.length) (h : Rel K H R (os.zip (vs.map some) ++ L)) : Rel K H R (os.reverse.zip (vs.reverse.map some) ++ L) := by
  have e : os.reverse.zip (vs.reverse.map some) = (os.zip (vs.map some)).reverse := by
    rw [List.map_reverse]
    exact (zip_rev (by rw [List.length_map]; exact hl)).symm
  rw [e]
  exact h.perm ((List.reverse_perm _).symm.append_right L)
theorem fr_revF {K : PySem.W.Frag} {r : RX} {rv : Bool} (h : FR K Y r g) : FR K Y (fun vs H Q E => r (if rv then vs.reverse else vs) H Q E) (revF rv g) := by
  cases rv with
  | false =>
    intro R L vs os os' H Q E out hl hg rel post
    have hg' : (match g os with | some (out, os') => some (out, os') | none => none) = some (out, os') := hg
    refine h R L vs os os' H Q E out hl ?_ rel post
    cases q : g os with
    | none => rw [q] at hg'; cases hg'
    | some z => rw [q] at hg'; exact hg'
  | true =>
    intro R L vs os os' H Q E out hl hg rel post
    have hg' : (match g os.reverse with | some (out, os') => some (out, os'.reverse) | none => none) = some (out, os') := hg
    cases q : g os.reverse with
    | none => rw [q] at hg'; cases hg'
    | some z =>
      obtain ⟨o2, os2⟩ := z
      rw [q] at hg'
      cases hg'
      refine h R L vs.reverse os.reverse os2 H Q E out (by simp [hl]) q (rel_rev hl rel) ?_
      cases out with
      | ok o => exact fun hlo v H' rel' => post (by simpa using hlo) v H' (by
          have q1 : Rel K H' R (os2.zip (vs.reverse.map some) ++ ((o, some v) :: L)) := rel'.unmid
          have q2 := rel_rev hlo q1
          rw [List.reverse_reverse] at q2
          exact q2.mid)
      | error ev => exact fun hlo cls dd H' hy rel' => post (by simpa using hlo) cls dd H' hy (by
          have q2 := rel_rev hlo rel'
          rw [List.reverse_reverse] at q2
          exact q2)
/-- f(k = e, ..) -/
theorem pe_callGK {rv : Bool} (F : FnG X.prog X.w X.K X.mg X.base Y k f fd ps g) (hr : RG k X.A) (hg : Gl X x) (hm : X.mg x = some (.ref f)) (hk : PySem.W.keepIn X.K (.ref f) = true) (hb : KwB X.K fd ps ks rv) (tk : L2N.Takes X W)
    (ha : PK X kws t) (hall : (backToKw pos (keywordEach kws X.env)).all (·.1.isSome) = true := by rfl) (hks : (backToKw pos (keywordEach kws X.env)).filterMap (·.1) = ks := by rfl)
    (hdb : (x == ("__debug__" : Str)) = false := by decide) (hpl : ((backTo pos (starEach [] X.env)).any (·.1) || (backToKw pos (keywordEach kws X.env)).any (·.1.isNone)) = false := by rfl) :
    PE X (.Call (.Name x p) [] kws pos) (fun σ H Q => t σ H fun vs H1 => rCall X.K Y g (if rv then vs.reverse else vs) H1 Q fun cls dd H2 => W cls dd σ H2) := by
  refine ⟨fun pins s σ H Q I h => wpAny_Call_Name_kw (ld_glob I hg hm (PySem.W.callWith_KW0 (h₀ := X.base) I.ok.mod.kin hk hall (thn (ha.run pos pins s σ H _ I h) fun us s1 hq => ?_) hpl) hdb)⟩
  obtain ⟨vs, H1, I1, r, q⟩ := hq
  refine ⟨I1.kIn, ?_⟩
  rw [hks]
  have rr : Vals (if rv then vs.reverse else vs) (if rv then us.reverse else us) := by
    cases rv with
    | false => exact r
    | true => exact Vals.rev r
  refine run_g (us := if rv then us.reverse else us) F hr tk (fun hl => hb.to s1 us I1.kIn ?_) I1 rr q
  cases rv with
  | false => exact hl
  | true => rw [← hl]; exact List.length_reverse.symm
end

/-! ### a def by its body -/
def outs (ws : List Nat) : Nat → List O → List O
  | _, [] => []
  | i, o :: os => (if ws.contains i then .no else o) :: outs ws (i + 1) os
def mkFn (n m : Nat) (ws : List Nat) (body : Sl → MS) : Fn := fun os => if os.length = m then (match body (os ++ List.replicate (n - m) .no) with
  | some (.ok (.rt o), S) => some (.ok o, outs ws 0 (S.take m))
  | some (.ok .nx, S) => some (.ok (.d .none), outs ws 0 (S.take m))
  | some (.error e, S) => some (.error e, outs ws 0 (S.take m))
  | _ => none) else none
theorem outs_len {ws : List Nat} : ∀ {i : Nat} {S : List O}, (outs ws i S).length = S.length
  | _, [] => rfl
  | i, o :: os => by show (outs ws (i + 1) os).length + 1 = _; rw [outs_len]; rfl
section
variable {K : PySem.W.Frag} {R : List Addr} {H : Hp}
theorem rel_outs {ws : List Nat} : ∀ {vs : List V} {S : List O} {σ : Slots} {i : Nat} {T : List En}, (∀ j, j < vs.length → ¬ (i + j) ∈ ws → σ[j]? = (vs.map some)[j]?) → S.length = σ.length → vs.length ≤ S.length → Rel K H R (S.zip σ ++ T) →
    Rel K H R ((outs ws i (S.take vs.length)).zip (vs.map some) ++ T)
  | [], S, σ, i, T, _, _, _, h => by
    rw [List.map_nil, List.zip_nil_right]
    exact h.drops
  | v :: vs, S, σ, i, T, hk, hl, hle, h => by
    match S, σ, hl, hle, h, hk with
    | o :: S, w :: σ, hl, hle, h, hk =>
      have hl' : S.length = σ.length := by simpa using hl
      have hle' : vs.length ≤ S.length := by simpa using hle
      have h2 : Rel K H R (S.zip σ ++ ((o, w) :: T)) := by
        have q : Rel K H R ((o, w) :: (S.zip σ ++ T)) := h
        exact q.unmid
      have ih := rel_outs (ws := ws) (vs := vs) (S := S) (σ := σ) (i := i + 1) (T := (o, w) :: T) (fun j hj hm => by
        have z := hk (j + 1) (by simpa using hj) (by rw [show i + (j + 1) = i + 1 + j by omega]; exact hm)
        simpa using z) hl' hle' h2
      have ih' := ih.mid
      show Rel K H R (((if ws.contains i then .no else o), some v) :: ((outs ws (i + 1) (S.take vs.length)).zip (vs.map some) ++ T))
      by_cases hc : ws.contains i = true
      · rw [if_pos hc]
        exact ih'.drop.addNo
      · rw [if_neg hc]
        have z := hk 0 (by simp) (by
          intro m
          exact hc (by simpa using m))
        have z' : w = some v := by simpa using z
        rw [← z']
        exact ih'
end
/-- a block of the text: its reading and what it does -/
def OkSs (X : Cx) (Y : YX) (W : WX) (ws : List Nat) (sts : List Stmt) (f : Sl → MS) : Prop := ∃ t, PSs X sts t ∧ SS X.K Y W ws t f
section
variable {P : Program} {w : World} {K : PySem.W.Frag} {mg : Str → Option Value} {base : Heap} {Y : YX}
theorem fn_ar {n m : Nat} {ws : List Nat} {body : Sl → MS} {os : List O} {r : Except Ex O × List O} (h : mkFn n m ws body os = some r) : os.length = m := by
  unfold mkFn at h
  split at h
  · assumption
  · cases h
/-- a def of the text does what its body does -/
theorem fnG_of {x qual : Str} {st : Stmt} {f : Addr} {fd : FuncData} {N ps : List Str} {k : Nat} {ws : List Nat} {body : Sl → MS} (F : Fun K x qual st f fd) (S : FnScope N ps (defScope st))
    (hbody : ∀ (cdv : Value) (A : Around) (outer : List Env) (s : Shared) (H : Hp) (E : XK), RG k (A.deeper (envOfC qual (defScope st) s.heap.objs.size f cdv)) →
      OkSs (cxOf (L2N.CX P w) P w K mg base N qual (defScope st) f cdv A outer s H E) Y (fun cls d _ H => E cls d H) ws (defBody st) body) :
    FnG P w K mg base Y (k + 1) f fd ps (mkFn N.length ps.length ws body) := by
  refine ⟨fun os r h => fn_ar h, fun A outer s H args us vs Q E R L os os' out hr e0 hb r hlos hg rel post => ?_⟩
  have ho : os.length = ps.length := fn_ar hg
  have hlv : vs.length = ps.length := by rw [← hlos, ho]
  have hpl : ps.length ≤ N.length := by
    have := congrArg List.length S.pre
    rw [List.length_take] at this
    omega
  obtain ⟨oc, od, kV, doc, pm, an, cdv, ct, osl, rfl, lk, hcd⟩ := F.ex
  have KX : K.In s.heap := e0.mod.kin.keeps fun b o e => (e0.bs b o e).1
  have lim : s.heap.NoLimit := e0.mod.nolimit.keeps fun b o e => (e0.bs b o e).1
  have kinds : ∀ y ∈ ps.zip us, (defScope st).names.lookup y.1 = some .local ∨ ((defScope st).names.lookup y.1 = some .cell ∧ ((cellsFrom (s.heap.objs.size + 1) (defScope st).names []).lookup y.1).isSome = true) := by
    rintro ⟨n, v⟩ hy
    rcases S.par n (List.of_mem_zip hy).1 with q | q
    · exact .inl q
    · exact .inr ⟨q, PySem.W.cellsFrom_some _ _ _ (.inl q)⟩
  refine codeAny_call_function hr.rm.depth (KX _ _ lk) rfl S.co S.gen rfl (PySem.W.codeRec_of KX hcd) (hb _ _ _ _ (wpAny_newFunctionEnv_cells S.kind kinds fun env he s1 ic => ?_))
  subst he
  refine ⟨lim.keeps ic.toInCall.keep, codeAny_func ?_⟩
  obtain ⟨t, ht, hss⟩ := hbody cdv A outer s H E (hr.deeper _)
  have I := inv_start (CX := L2N.CX P w) (N := N) (qual := qual) (f := f) (cd := cdv) (E := E) S hr.rm.hd e0 hlv r ic
  -- the abstract slots at the entry
  have lenσ : (os ++ List.replicate (N.length - ps.length) O.no).length = (L2.start N vs).length := by
    unfold L2.start
    rw [List.length_append, List.length_append, List.length_replicate, List.length_map, List.length_replicate, hlv, ho]
  have rel0 : Rel K H R ((os ++ List.replicate (N.length - ps.length) O.no).zip (L2.start N vs) ++ L) := by
    unfold L2.start
    rw [List.zip_append (by rw [List.length_map]; exact hlos), hlv, List.append_assoc]
    generalize N.length - ps.length = j
    have r1 : Rel K H R ((List.replicate j O.no).zip (List.replicate j none) ++ (L ++ os.zip (vs.map some))) := by
      have r2 : Rel K H R (L ++ os.zip (vs.map some)) := rel.rot
      induction j with
      | zero => exact r2
      | succ j ih => exact ih.addNo
    exact Rel.rot3' r1
  -- what the body comes to
  have fin : ∀ {σ' : Slots} {S' : Sl} {H' : Hp} {T : List En}, Kept ws (L2.start N vs) σ' → S'.length = (L2.start N vs).length → Rel K H' R (S'.zip σ' ++ T) → Rel K H' R ((outs ws 0 (S'.take ps.length)).zip (vs.map some) ++ T) := fun {σ' S' H' T} kp hl' rl => by
    rw [← hlv]
    refine rel_outs (fun j hj hm => ?_) (hl'.trans kp.1.symm) ?_ rl
    · rw [Nat.zero_add] at hm
      rw [kp.2 j hm]
      unfold L2.start
      rw [List.getElem?_append_left (by rw [List.length_map]; exact hj)]
    · rw [hl']
      unfold L2.start
      rw [List.length_append, List.length_map]
      omega
  have leno : ∀ S' : Sl, S'.length = (L2.start N vs).length → (outs ws 0 (S'.take ps.length)).length = vs.length := fun S' hl' => by
    rw [outs_len, List.length_take, hl', hlv]
    unfold L2.start
    rw [List.length_append, List.length_map, hlv]
    omega
  have hq : t { nx := fun _ H' => Q .non H', rt := Q } (L2.start N vs) H := by
    unfold mkFn at hg
    rw [if_pos ho] at hg
    cases qb : body (os ++ List.replicate (N.length - ps.length) O.no) with
    | none => rw [qb] at hg; cases hg
    | some z =>
      obtain ⟨ob, Sb⟩ := z
      rw [qb] at hg
      refine hss R L _ (L2.start N vs) H _ ob Sb lenσ qb rel0 ?_
      match ob, hg with
      | .ok (.rt o), hg =>
        cases hg
        exact fun hl' v σ' H' kp rl => post (leno _ hl') v H' (by
          have rl2 : Rel K H' R (Sb.zip σ' ++ ((o, some v) :: L)) := rl.unmid
          exact (fin kp hl' rl2).mid)
      | .ok .nx, hg =>
        cases hg
        exact fun hl' σ' H' kp rl => post (leno _ hl') .non H' ((fin kp hl' rl).addS (x := .none) rfl)
      | .error e, hg =>
        cases hg
        exact fun hl' cls dd σ' H' kp hy rl => post (leno _ hl') cls dd H' hy (fin kp hl' rl)
  refine wpAny_mono (ht.run [] s1 (L2.start N vs) H _ I hq) (fun fl s' hs => ?_) fun _ _ hs => hs
  match fl, hs with
  | .ret u, ⟨v, σ', H', J, rv, q⟩ => exact ⟨v, H', J.os, J.bare, J.base, J.hok, rv, q⟩
  | .next, ⟨σ', H', J, q⟩ => exact ⟨.non, H', J.os, J.bare, J.base, J.hok, rfl, q⟩
  | .brk, ⟨_, _, _, q⟩ => exact q.elim
  | .cont, ⟨_, _, _, q⟩ => exact q.elim
end

/-! ### the end of a law -/
theorem rel_script {K : PySem.W.Frag} {H : Hp} {a : Addr} {ns : List Int} (h : SqL K H a (ns.map V.int)) : Rel K H [] [(.fz ns, some (.ref a))] := by
  refine ⟨[], List.nodup_nil, (fun _ m => nomatch m), OwnP.cons (f1 := []) (.fz ?_) .nil⟩
  rw [show hid H ([] ++ []) = H from funext fun b => rfl]
  exact h
/-- what is tracked at the entry is the script, locked, or nothing -/
structure AtEntry (K : PySem.W.Frag) (P : Program) (w : World) (h : Heap) (a : Addr) (H : Hp) : Prop where
  hok : HOk P w H h
  one : ∀ b, H b ≠ none → b = a
  own : H a ≠ none → K.lookup a = none
  lck : ∀ b u, H b = some u → ∃ o xs, u = .frz o (.lst xs)
theorem entry_run {P : Program} {w : World} {K : PySem.W.Frag} {mg mb : Str → Option Value} {k : Nat} {fa a : Addr} {fd : FuncData} {x : Str} {Y : YX} {g : Fn} {s₁ : Shared} {vs : List Value} {ns : List Int} {H : Hp}
    (KX : K.In s₁.heap) (hns : s₁.heap.Ns mainGlobals mg) (hb : s₁.heap.Ns builtinsNs mb) (hbb : ∀ x : Str, x ≠ "__name__" → mb x = bootBuiltins x) (hlim : s₁.heap.NoLimit) (hgn : s₁.gens = #[])
    (ha : s₁.heap.get? a = some { cls := .type "list", data := .seq vs.toArray }) (hr : RG k callerA) (F : ∀ base : Heap, K.In base → base.Ns mainGlobals mg → FnG P w K mg base Y k fa fd [x] g)
    (hbind : ∀ (s : Shared) (u : Value), BindsTo s fd ⟨[u], []⟩ [(x, u)]) (hg : ∃ os', g [.fz ns] = some (.ok (.d (.bool true)), os')) (E : AtEntry K P w s₁.heap a H) (hS : SqL K H a (ns.map V.int)) :
    codeAny (model P w) callerA (.call (.ref fa) ⟨[.ref a], []⟩) (fun r s' => r = .ok (.ret (.bool true)) ∧ OldK s₁.heap s'.heap ∧ s'.os = s₁.os ∧ AllBare s'.gens) s₁ := by
  have free : ∀ {b : Addr} {o : Obj}, s₁.heap.get? b = some o → b ≠ a → (hidT s₁.heap H).get? b = some o := fun {b o} e n => hidT_get e (by
    cases q : H b with
    | none => rfl
    | some u => exact absurd (E.one b (by rw [q]; exact fun z => nomatch z)) n)
  have nsK : ∀ {b : Addr} {m : Str → Option Value}, s₁.heap.Ns b m → (hidT s₁.heap H).Ns b m := fun {b m} ⟨o, es, ep, e, d, r⟩ => by
    refine ⟨o, es, ep, free e fun z => ?_, d, r⟩
    rw [z, ha] at e
    cases e
    exact absurd d fun z => nomatch z
  have KB : K.In (hidT s₁.heap H) := fun b o e => by
    by_cases hba : b = a
    · refine hidT_get (KX b o e) ?_
      cases q : H b with
      | none => rfl
      | some u =>
        have z := E.own (by rw [← hba, q]; exact fun z => nomatch z)
        rw [← hba, e] at z
        cases z
    · exact free (KX b o e) hba
  obtain ⟨mc, c1, c2⟩ := hlim
  have md : Mod K mg (hidT s₁.heap H) := { kin := KB, glob := nsK hns, blt := ⟨mb, nsK hb, hbb⟩, nolimit := ⟨mc, nsK c1, c2⟩ }
  have e0 : Env0 P w K mg (hidT s₁.heap H) callerA [] s₁ H := { frames := rfl, mod := md, bs := fun b o e => of_hidT e, bsz := Nat.le_of_eq (hidT_size _ _), funs := trivial, frf := (fun b m => nomatch m), hok := E.hok, bare := .of_eq hgn }
  obtain ⟨os', hg'⟩ := hg
  refine codeAny_mono ((F _ KB (nsK hns)).run callerA [] s₁ H ⟨[.ref a], []⟩ [.ref a] [.ref a] (fun v _ => v = .bl true) (fun _ _ _ => False) [] [] [.fz ns] os' _ hr e0 (hbind s₁ (.ref a)) (.cons rfl .nil) rfl hg' (rel_script hS)
    fun _ v H' rl => Option.some.inj (Rel.scal (x := .bool true) rfl rl)) fun r s' hq => ?_
  match r, hq with
  | .error e, hq =>
    obtain ⟨_, _, _, _, _, _, _, _, _, _, _, _, z⟩ := hq
    exact z.elim
  | .ok .next, hq => exact hq.elim
  | .ok .brk, hq => exact hq.elim
  | .ok .cont, hq => exact hq.elim
  | .ok (.ret u), ⟨v, H', os2, bare, un, hok', rv, ev⟩ =>
    subst ev
    obtain rfl : u = Value.bool true := rv
    refine ⟨rfl, OldK.of_keep fun b o e => ?_, os2, bare⟩
    cases q : H b with
    | none => exact un.keep b o e q (fun m => nomatch m) (fun m => nomatch m)
    | some u =>
      obtain ⟨ob, xs, rfl⟩ := E.lck b u q
      have q2 := un.frzs b ob _ q
      obtain ⟨g1, _⟩ := E.hok b _ q
      obtain ⟨g2, _⟩ := hok' b _ q2
      rw [e] at g1
      cases g1
      exact g2
theorem law_end {l : PySem.W.OpenLaw} {n k : Nat} {q : Program} {loose : List Str} {XP : (Str → Option Value) → Heap → Prop} {YP : World → Heap → Prop} {d : DefRec} {K : Params → PySem.W.Frag} {x : Str} {Y : YX} {g : Fn}
    (hn : l.most = some n) (hn2 : n ≤ sizeLine) (hdf : d.params.defaults = []) (hr : RG k callerA) (hY : ∀ (w : World) (h : Heap), YP w h → (K w.params).In h)
    (F : ∀ (w : World) (mg : Str → Option Value) (fa : Addr) (h : Heap), (K w.params).In h → h.Ns mainGlobals mg → mg d.name = some (.ref fa) →
      ∃ fd : FuncData, (∀ (s : Shared) (u : Value), BindsTo s fd ⟨[u], []⟩ [(x, u)]) ∧ ∀ base : Heap, (K w.params).In base → base.Ns mainGlobals mg → FnG l.prog w (K w.params) mg base Y k fa fd [x] g)
    (hg : ∀ ns : List Int, ns.length ≤ n → ∃ os', g [.fz ns] = some (.ok (.d (.bool true)), os')) :
    PySem.W.WalkO q loose XP YP l.row.toRowW d [] (fun f vs => PySem.call f vs) := by
  refine Att.attach_call hn hdf fun w s₀ s₁ mg mb fa o pm cd doc a vs ns G Yw ho hd hcd hmg hobj hints hlen hgn => ?_
  have KX := hY w _ Yw
  obtain ⟨fd, hb, hF⟩ := F w mg fa _ KX G.T.g hmg
  have rv := vals_ints hints
  have hz : (ns.map V.int).length ≤ sizeLine := by rw [List.length_map]; exact Nat.le_trans hlen hn2
  cases hk : (K w.params).lookup a with
  | some ob =>
    have e := KX a ob hk
    rw [hobj] at e
    cases e
    have hS : SqL (K w.params) (fun _ => none) a (ns.map V.int) := .inr ⟨_, vs.toArray, _, hk, rfl, rfl, rfl, by rw [List.size_toArray, ← rv.length]; exact hz, by simpa using rv⟩
    exact entry_run KX G.T.g G.T.b G.T.builtins G.T.nolimit hgn hobj hr hF hb (hg ns hlen) ⟨(fun b u z => by cases (show (none : Option HO) = some u from z)), (fun b z => absurd rfl z), (fun z => absurd rfl z), (fun b u z => by cases (show (none : Option HO) = some u from z))⟩ hS
  | none =>
    have hat : ∀ b u, (if b = a then some (HO.frz { cls := .type "list", data := .seq vs.toArray } (.lst (ns.map V.int))) else none) = some u → b = a ∧ u = HO.frz { cls := .type "list", data := .seq vs.toArray } (.lst (ns.map V.int)) := fun b u z => by
      split at z
      · rename_i hba; cases z; exact ⟨hba, rfl⟩
      · cases z
    refine entry_run (H := fun b => if b = a then some (.frz { cls := .type "list", data := .seq vs.toArray } (.lst (ns.map V.int))) else none) KX G.T.g G.T.b G.T.builtins G.T.nolimit hgn hobj hr hF hb (hg ns hlen) ⟨fun b u z => ?_, fun b z => ?_, fun _ => hk, fun b u z => ?_⟩ (.inl (.inr ⟨_, if_pos rfl⟩))
    · obtain ⟨rfl, rfl⟩ := hat b u z
      exact ⟨hobj, hz, vs, _, rv, hobj⟩
    · by_cases hba : b = a
      · exact hba
      · exact absurd (if_neg hba) z
    · obtain ⟨_, rfl⟩ := hat b u z
      exact ⟨_, _, rfl⟩
end FT
/-! FT6: the built-in operations on abstract values. -/
namespace FT
open PySem PySem.Spec PyProof.Rows L2
abbrev rx2 (r : R2) : RX := fun vs H Q _ => match vs with
  | [x, y] => r x y H Q
  | _ => False
abbrev rx1 (r : V → Hp → VK → Prop) : RX := fun vs H Q _ => match vs with
  | [x] => r x H Q
  | _ => False
abbrev rxn (r : List V → Hp → VK → Prop) : RX := fun vs H Q _ => r vs H Q
abbrev rxm (r : V → List V → Hp → VK → Prop) : RX := fun vs H Q _ => match vs with
  | x :: xs => r x xs H Q
  | [] => False
/-- a function of the data alone, its result without an address -/
def fnD (gd : List PyData → Option PyData) : Fn := fun os => match ers os with
  | some ds => (match gd ds with
    | some x => some (.ok (.d x), os)
    | none => none)
  | none => none
def orF (g1 g2 : Fn) : Fn := fun os => match g1 os with
  | some r => some r
  | none => g2 os
section
variable {K : PySem.W.Frag} {Y : YX} {R : List Addr} {L : List En} {H : Hp}
theorem Rel.views {os : List O} {vs : List V} {ds : List PyData} (hl : os.length = vs.length) (h : Rel K H R (os.zip (vs.map some) ++ L)) (e : ers os = some ds) : DqL H vs ds := by
  obtain ⟨fp, nd, ht, ho⟩ := h
  obtain ⟨f1, f2, _, h1, _⟩ := ho.split
  exact OwnL.data hid_le os vs f1 ds (fun _ _ => rfl) e (OwnL.ofP hl h1)
theorem fr_data {r : RX} {gd : List PyData → Option PyData} (hs : ∀ ds x, gd ds = some x → scal1 x = true) (h : ∀ (vs : List V) (ds : List PyData) (x : PyData) (H : Hp) (Q : VK) (E : XK), DqL H vs ds → gd ds = some x → Q (toV x) H → r vs H Q E) : FR K Y r (fnD gd) := by
  intro R L vs os os' H Q E out hl hg rel post
  unfold fnD at hg
  split at hg
  · rename_i ds hd
    split at hg
    · rename_i x hx
      cases hg
      exact h vs ds x H Q E (rel.views hl hd) hx (post hl _ H (rel.addS (hs ds x hx)))
    · cases hg
  · cases hg
theorem fr_or {r1 r2 : RX} {g1 g2 : Fn} (h1 : FR K Y r1 g1) (h2 : FR K Y r2 g2) : FR K Y (fun vs H Q E => r1 vs H Q E ∨ r2 vs H Q E) (orF g1 g2) := by
  intro R L vs os os' H Q E out hl hg rel post
  unfold orF at hg
  split at hg
  · rename_i q e
    exact .inl (h1 R L vs os os' H Q E out hl (by rw [e, hg]) rel post)
  · exact .inr (h2 R L vs os os' H Q E out hl hg rel post)
theorem fr_imp {r1 r2 : RX} {g : Fn} (h1 : FR K Y r1 g) (h : ∀ vs H Q E, r1 vs H Q E → r2 vs H Q E) : FR K Y r2 g := fun R L vs os os' H Q E out hl hg rel post => h _ _ _ _ (h1 R L vs os os' H Q E out hl hg rel post)
theorem dql2 {vs : List V} {x y : PyData} (h : DqL H vs [x, y]) : ∃ v u, vs = [v, u] ∧ Dq H v x ∧ Dq H u y := by
  cases h with
  | cons a t => cases t with
    | cons b t => cases t; exact ⟨_, _, rfl, a, b⟩
theorem dql1 {vs : List V} {x : PyData} (h : DqL H vs [x]) : ∃ v, vs = [v] ∧ Dq H v x := by
  cases h with
  | cons a t => cases t; exact ⟨_, rfl, a⟩

/-! ### ints -/
def dII (g : Int → Int → Int) : List PyData → Option PyData
  | [.int i, .int j] => some (.int (g i j))
  | _ => none
def dIIc (c : Int → Int → Bool) (g : Int → Int → Int) : List PyData → Option PyData
  | [.int i, .int j] => if c i j then some (.int (g i j)) else none
  | _ => none
def dIIb (b : Int → Int → Bool) : List PyData → Option PyData
  | [.int i, .int j] => some (.bool (b i j))
  | _ => none
theorem fr_II {g : Int → Int → Int} : FR K Y (rx2 (rI0 fun i j => .int (g i j))) (fnD (dII g)) := fr_data
  (fun ds x h => by
    unfold dII at h
    split at h
    · cases h; rfl
    · cases h)
  fun vs ds x H Q E hd hg q => by
    unfold dII at hg
    split at hg
    · cases hg
      obtain ⟨v, u, rfl, a, b⟩ := dql2 hd
      cases a; cases b
      exact ⟨_, _, rfl, rfl, q⟩
    · cases hg
theorem fr_IIc {C : Int → Int → Prop} {c : Int → Int → Bool} {g : Int → Int → Int} (hc : ∀ i j, c i j = true → C i j) : FR K Y (rx2 (rI C fun i j => .int (g i j))) (fnD (dIIc c g)) := fr_data
  (fun ds x h => by
    unfold dIIc at h
    split at h
    · split at h
      · cases h; rfl
      · cases h
    · cases h)
  fun vs ds x H Q E hd hg q => by
    unfold dIIc at hg
    split at hg
    · split at hg
      · rename_i hcc
        cases hg
        obtain ⟨v, u, rfl, a, b⟩ := dql2 hd
        cases a; cases b
        exact ⟨_, _, rfl, rfl, hc _ _ hcc, q⟩
      · cases hg
    · cases hg
theorem fr_IIb {b : Int → Int → Bool} : FR K Y (rx2 (rI0 fun i j => .bl (b i j))) (fnD (dIIb b)) := fr_data
  (fun ds x h => by
    unfold dIIb at h
    split at h
    · cases h; rfl
    · cases h)
  fun vs ds x H Q E hd hg q => by
    unfold dIIb at hg
    split at hg
    · cases hg
      obtain ⟨v, u, rfl, a, b⟩ := dql2 hd
      cases a; cases b
      exact ⟨_, _, rfl, rfl, q⟩
    · cases hg
def cMul (i j : Int) : Bool := decide (i.natAbs.log2 + j.natAbs.log2 < 1000000) || (decide (-(2 ^ 64) < j) && decide (j < 2 ^ 64)) || (decide (-(2 ^ 64) < i) && decide (i < 2 ^ 64))
def CMulA (i j : Int) : Prop := CMulW i j ∨ CMul i j
theorem op_mulA {X : Cx} : OpR X (binaryOp .Mult) (rI CMulA fun i j => .int (i * j)) := opI fun _ _ _ _ _ _ _ hc q => mul_int q (hc.elim CMulW.ok CMul.ok)
theorem iop_mulA {X : Cx} : OpR X (inplaceOp .Mult) (rI CMulA fun i j => .int (i * j)) := opI fun _ _ _ _ _ _ _ hc q => imul_int q (hc.elim CMulW.ok CMul.ok)
theorem cMul_ok (i j : Int) (h : cMul i j = true) : CMulA i j := by
  unfold cMul at h
  simp only [Bool.or_eq_true, Bool.and_eq_true, decide_eq_true_eq] at h
  rcases h with (h | h) | h
  · exact .inl h
  · exact .inr (.inr h)
  · exact .inr (.inl h)
def cDiv (_ j : Int) : Bool := decide (0 < j) && decide (j.natAbs.log2 < 9000)
theorem cDiv_ok (i j : Int) (h : cDiv i j = true) : CDivW i j := by
  unfold cDiv at h
  simp only [Bool.and_eq_true, decide_eq_true_eq] at h
  exact h
def cMod (_ j : Int) : Bool := decide (0 < j)
def cPow (i j : Int) : Bool := decide (0 ≤ j) && decide (j ≤ 1000) && decide (i.natAbs.log2 < 100000)
def CPowA (i j : Int) : Prop := 0 ≤ j ∧ j ≤ 1000 ∧ i.natAbs.log2 < 100000
theorem cPow_ok (i j : Int) (h : cPow i j = true) : CPowA i j := by
  unfold cPow at h
  simp only [Bool.and_eq_true, decide_eq_true_eq] at h
  exact ⟨h.1.1, h.1.2, h.2⟩
theorem op_powA {X : Cx} : OpR X (binaryOp .Pow) (rI CPowA fun i j => .int (i ^ j.toNat)) := opI fun i j _ _ _ _ _ hc q => by
  obtain ⟨h0, h1, h2⟩ := hc
  refine PyProof.Rows.pow_int h0 ?_ q
  have hb : Builtin.Int.intBits i ≤ 100000 := by
    unfold Builtin.Int.intBits
    split <;> omega
  have h3 : (Builtin.Int.intBits i : Int) * j ≤ 100000 * j := Int.mul_le_mul_of_nonneg_right (by omega) h0
  omega
def dI (g : Int → Int) : List PyData → Option PyData
  | [.int i] => some (.int (g i))
  | _ => none
theorem fr_I {g : Int → Int} : FR K Y (rx1 (rU fun i => .int (g i))) (fnD (dI g)) := fr_data
  (fun ds x h => by
    unfold dI at h
    split at h
    · cases h; rfl
    · cases h)
  fun vs ds x H Q E hd hg q => by
    unfold dI at hg
    split at hg
    · cases hg
      obtain ⟨v, rfl, a⟩ := dql1 hd
      cases a
      exact ⟨_, rfl, q⟩
    · cases hg
theorem fr_abs : FR K Y (rxn fun xs H Q => ∃ i, xs = [.int i] ∧ Q (.int (if i < 0 then -i else i)) H) (fnD (dI fun i => if i < 0 then -i else i)) := fr_imp (fr_I (g := fun i => if i < 0 then -i else i)) fun vs H Q E h => by
  match vs, h with
  | [x], ⟨i, e, q⟩ => subst e; exact ⟨i, rfl, q⟩
theorem fr_II2 {g : Int → Int → Int} : FR K Y (rxn fun xs H Q => ∃ i j, xs = [.int i, .int j] ∧ Q (.int (g i j)) H) (fnD (dII g)) := fr_imp (fr_II (g := g)) fun vs H Q E h => by
  match vs, h with
  | [x, y], ⟨i, j, e1, e2, q⟩ => subst e1; subst e2; exact ⟨i, j, rfl, q⟩

/-! ### == -/
def dEq : List PyData → Option PyData
  | [.str x, .str y] => some (.bool (x == y))
  | [d, e] => if SeqAt.shaped d && SeqAt.shaped e then some (.bool (PyData.eqv d e)) else none
  | _ => none
def dNe : List PyData → Option PyData
  | [.str x, .str y] => some (.bool (!(x == y)))
  | [d, e] => if SeqAt.shaped d && SeqAt.shaped e then some (.bool (!PyData.eqv d e)) else none
  | _ => none
theorem fr_eq : FR K Y (rx2 fun x y H Q => rEq x y H Q ∨ rEqD K x y H Q) (fnD dEq) := fr_data
  (fun ds x h => by
    unfold dEq at h
    split at h
    · cases h; rfl
    · split at h
      · cases h; rfl
      · cases h
    · cases h)
  fun vs ds x H Q E hd hg q => by
    unfold dEq at hg
    split at hg
    · cases hg
      obtain ⟨v, u, rfl, a, b⟩ := dql2 hd
      cases a; cases b
      exact .inl ⟨rfl, by rw [dec_str]; exact q⟩
    · rename_i d e _
      split at hg
      · rename_i hs
        rw [Bool.and_eq_true] at hs
        cases hg
        obtain ⟨v, u, rfl, a, b⟩ := dql2 hd
        exact .inr ⟨d, e, Dq.dp _ _ a (nd_of_shaped hs.1), Dq.dp _ _ b (nd_of_shaped hs.2), hs.1, hs.2, q⟩
      · cases hg
    · cases hg
theorem fr_ne : FR K Y (rx2 fun x y H Q => rNe x y H Q ∨ rNeD K x y H Q) (fnD dNe) := fr_data
  (fun ds x h => by
    unfold dNe at h
    split at h
    · cases h; rfl
    · split at h
      · cases h; rfl
      · cases h
    · cases h)
  fun vs ds x H Q E hd hg q => by
    unfold dNe at hg
    split at hg
    · cases hg
      obtain ⟨v, u, rfl, a, b⟩ := dql2 hd
      cases a; cases b
      exact .inl ⟨rfl, by rw [dec_str]; exact q⟩
    · rename_i d e _
      split at hg
      · rename_i hs
        rw [Bool.and_eq_true] at hs
        cases hg
        obtain ⟨v, u, rfl, a, b⟩ := dql2 hd
        exact .inr ⟨d, e, Dq.dp _ _ a (nd_of_shaped hs.1), Dq.dp _ _ b (nd_of_shaped hs.2), hs.1, hs.2, q⟩
      · cases hg
    · cases hg
/-- is None -/
def isNone : PyData → Bool
  | .none => true
  | _ => false
theorem isNone_v {v : V} {x : PyData} (h : Dq H v x) : decide (v = .non) = isNone x := by
  cases h <;> simp [isNone]
def dIsN : List PyData → Option PyData
  | [d, .none] => some (.bool (isNone d))
  | _ => none
def dNotN : List PyData → Option PyData
  | [d, .none] => some (.bool (!isNone d))
  | _ => none
theorem fr_isN : FR K Y (rx2 fun x y H Q => y = .non ∧ Q (.bl (decide (x = .non))) H) (fnD dIsN) := fr_data
  (fun ds x h => by
    unfold dIsN at h
    split at h
    · cases h; rfl
    · cases h)
  fun vs ds x H Q E hd hg q => by
    unfold dIsN at hg
    split at hg
    · cases hg
      obtain ⟨v, u, rfl, a, b⟩ := dql2 hd
      cases b
      exact ⟨rfl, by rw [isNone_v a]; exact q⟩
    · cases hg
theorem fr_notN : FR K Y (rx2 fun x y H Q => y = .non ∧ Q (.bl (!decide (x = .non))) H) (fnD dNotN) := fr_data
  (fun ds x h => by
    unfold dNotN at h
    split at h
    · cases h; rfl
    · cases h)
  fun vs ds x H Q E hd hg q => by
    unfold dNotN at hg
    split at hg
    · cases hg
      obtain ⟨v, u, rfl, a, b⟩ := dql2 hd
      cases b
      exact ⟨rfl, by rw [isNone_v a]; exact q⟩
    · cases hg
/-- x in a list -/
def dIn : List PyData → Option PyData
  | [d, .list ds] => if SeqAt.shaped d && SeqAt.shaped (.list ds) then some (.bool (ds.any fun z => PyData.eqv z d)) else none
  | _ => none
def dNotIn : List PyData → Option PyData
  | [d, .list ds] => if SeqAt.shaped d && SeqAt.shaped (.list ds) then some (.bool (!ds.any fun z => PyData.eqv z d)) else none
  | _ => none
theorem fr_in : FR K Y (rx2 (rInD K)) (fnD dIn) := fr_data
  (fun ds x h => by
    unfold dIn at h
    split at h
    · split at h
      · cases h; rfl
      · cases h
    · cases h)
  fun vs ds x H Q E hd hg q => by
    unfold dIn at hg
    split at hg
    · rename_i d ds
      split at hg
      · rename_i hs
        rw [Bool.and_eq_true] at hs
        cases hg
        obtain ⟨v, u, rfl, a, b⟩ := dql2 hd
        exact ⟨d, ds, Dq.dp _ _ a (nd_of_shaped hs.1), Dq.dp _ _ b (nd_of_shaped hs.2), hs.1, hs.2, q⟩
      · cases hg
    · cases hg
theorem fr_notIn : FR K Y (rx2 (rNotInD K)) (fnD dNotIn) := fr_data
  (fun ds x h => by
    unfold dNotIn at h
    split at h
    · split at h
      · cases h; rfl
      · cases h
    · cases h)
  fun vs ds x H Q E hd hg q => by
    unfold dNotIn at hg
    split at hg
    · rename_i d ds
      split at hg
      · rename_i hs
        rw [Bool.and_eq_true] at hs
        cases hg
        obtain ⟨v, u, rfl, a, b⟩ := dql2 hd
        exact ⟨d, ds, Dq.dp _ _ a (nd_of_shaped hs.1), Dq.dp _ _ b (nd_of_shaped hs.2), hs.1, hs.2, q⟩
      · cases hg
    · cases hg

/-! ### length -/
def lenO : O → Option Int
  | .d (.list ds) => some ds.length
  | .d (.tuple ds) => some ds.length
  | .d (.str x) => if x.length ≤ LIM then some x.length else none
  | .l xs => some xs.length
  | .fz ns => some ns.length
  | _ => none
def gLen : Fn := fun os => match os with
  | [o] => (match lenO o with
    | some n => some (.ok (.d (.int n)), [o])
    | none => none)
  | _ => none
theorem fr_len : FR K Y (rxn fun xs H Q => ∃ x n, xs = [x] ∧ LenV K x H n ∧ Q (.int n) H) gLen := by
  intro R L vs os os' H Q E out hl hg rel post
  unfold gLen at hg
  split at hg
  · rename_i o
    obtain ⟨v, rfl⟩ : ∃ v, vs = [v] := by
      match vs, hl with
      | [v], _ => exact ⟨v, rfl⟩
    have r1 : Rel K H R ((o, some v) :: L) := rel
    split at hg
    · rename_i n hn
      cases hg
      have fin : ∀ m : Nat, n = m → Q (.int m) H := fun m e => by
        subst e
        exact post rfl _ H (rel.addS (x := .int m) rfl)
      unfold lenO at hn
      split at hn
      · rename_i ds
        cases hn
        obtain ⟨a, us, e, ha, el, _⟩ := r1.items
        cases e
        exact ⟨_, us.length, rfl, .inl ⟨us, SqL.of ha, rfl⟩, fin _ (by rw [el])⟩
      · rename_i ds
        cases hn
        obtain ⟨a, us, e, ha, el, _⟩ := r1.itemsT
        cases e
        exact ⟨_, us.length, rfl, .inr ⟨us, SqT.of ha, rfl⟩, fin _ (by rw [el])⟩
      · rename_i x
        split at hn
        · rename_i hx
          cases hn
          have e := scal_head (x := .str x) rfl r1
          subst e
          exact ⟨_, x.length, rfl, ⟨LIM_le hx, rfl⟩, fin _ rfl⟩
        · cases hn
      · rename_i xs
        cases hn
        obtain ⟨a, us, e, ha, el, _⟩ := r1.open
        cases e
        exact ⟨_, us.length, rfl, .inl ⟨us, SqL.of ha, rfl⟩, fin _ (by rw [el])⟩
      · rename_i ns
        cases hn
        obtain ⟨a, rfl, ha⟩ := r1.viewF
        exact ⟨_, ns.length, rfl, .inl ⟨_, ha, by rw [List.length_map]⟩, fin _ rfl⟩
      · cases hn
    · cases hg
  · cases hg

/-! ### items -/
/-- an item that may be shared: data -/
def dOf : O → Option PyData
  | .d x => some x
  | _ => none
theorem dOf_some {o : O} {x : PyData} (h : dOf o = some x) : o = .d x := by
  cases o with
  | d y => cases h; rfl
  | _ => cases h
def itemO (i : Int) : O → Option PyData
  | .d (.list ds) => atI ds i
  | .d (.tuple ds) => atI ds i
  | .d (.str x) => if x.length ≤ LIM then (atI x.cps.toList i).map fun c => .str ⟨#[c]⟩ else none
  | .l xs => (atI xs i).bind dOf
  | .fz ns => (atI ns i).map .int
  | _ => none
def gItem : Fn := fun os => match os with
  | [o, .d (.int i)] => (match itemO i o with
    | some x => some (.ok (.d x), [o, .d (.int i)])
    | none => none)
  | _ => none
theorem atI_ix {α : Type} {xs : List α} {i : Int} {x : α} (h : atI xs i = some x) : ∃ j, ixN xs.length i = some j ∧ xs[j]? = some x := by
  unfold atI at h
  cases q : ixN xs.length i with
  | none => rw [q] at h; cases h
  | some j => rw [q] at h; exact ⟨j, rfl, h⟩
theorem ix_atI {α : Type} {xs : List α} {i : Int} {x : α} {j n : Nat} (h : ixN n i = some j) (hn : n = xs.length) (hx : xs[j]? = some x) : atI xs i = some x := by
  unfold atI
  rw [← hn, h]
  exact hx
/-- an owned list's data item beside it -/
theorem Rel.itemL {os : List O} {w : Option V} {j : Nat} {x : PyData} (h : Rel K H R ((.l os, w) :: L)) (hj : os[j]? = some (.d x)) :
    ∃ a vs v, w = some (.ref a) ∧ H a = some (.lst vs) ∧ os.length = vs.length ∧ vs[j]? = some v ∧ Rel K H R ((.d x, some v) :: (.l os, w) :: L) := by
  obtain ⟨a, vs, rfl, ha, el, r⟩ := h.open
  have hjl : j < os.length := (List.getElem?_eq_some_iff.mp hj).1
  have hjv : j < vs.length := by omega
  have hv : vs[j]? = some vs[j] := List.getElem?_eq_getElem hjv
  have hm : (vs.map some)[j]? = some (some vs[j]) := by rw [List.getElem?_map, hv]; rfl
  have hz : (os.zip (vs.map some))[j]? = some (.d x, some vs[j]) := zip_get hj hm
  have p := get_perm hz
  refine ⟨a, vs, vs[j], rfl, ha, el, hv, ?_⟩
  have r1 : Rel K H (a :: R) ((.d x, some vs[j]) :: ((os.zip (vs.map some)).eraseIdx j ++ L)) := r.perm (p.append_right L)
  have r2 : Rel K H (a :: R) ((.d x, some vs[j]) :: (os.zip (vs.map some) ++ L)) := r1.dup.perm (.cons _ (p.symm.append_right L))
  have r3 : Rel K H (a :: R) (os.zip (vs.map some) ++ (.d x, some vs[j]) :: L) := r2.unmid
  exact (r3.close ha el).swap
theorem fr_item : FR K Y (rx2 (rIx K)) gItem := by
  intro R L vs os os' H Q E out hl hg rel post
  unfold gItem at hg
  split at hg
  · rename_i o i
    obtain ⟨v, u, rfl⟩ : ∃ v u, vs = [v, u] := by
      match vs, hl with
      | [v, u], _ => exact ⟨v, u, rfl⟩
    have r0 : Rel K H R ((o, some v) :: (.d (.int i), some u) :: L) := rel
    have eu := scal_head (x := .int i) rfl r0.drop
    subst eu
    split at hg
    · rename_i x hx
      cases hg
      unfold itemO at hx
      split at hx
      · rename_i ds
        obtain ⟨j, hj, hx⟩ := atI_ix hx
        obtain ⟨a, us, z, e, ha, el, hz, r2⟩ := r0.item hx
        cases e
        exact .inl ⟨a, us, i, z, rfl, rfl, SqL.of ha, ix_atI hj el hz, post rfl z H r2⟩
      · rename_i ds
        obtain ⟨j, hj, hx⟩ := atI_ix hx
        obtain ⟨a, us, z, e, ha, el, hz, r2⟩ := r0.itemT hx
        cases e
        exact .inr (.inl ⟨a, us, i, z, rfl, rfl, SqT.of ha, ix_atI hj el hz, post rfl z H r2⟩)
      · rename_i s
        split at hx
        · rename_i hs
          cases qc : atI s.cps.toList i with
          | none => rw [qc] at hx; cases hx
          | some c =>
            rw [qc] at hx
            cases hx
            have e := scal_head (x := .str s) rfl r0
            subst e
            exact .inr (.inr ⟨s, i, c, rfl, rfl, LIM_le hs, qc, post rfl _ H (rel.addS (x := .str ⟨#[c]⟩) rfl)⟩)
        · cases hx
      · rename_i xs
        cases qc : atI xs i with
        | none => rw [qc] at hx; cases hx
        | some oo =>
          rw [qc] at hx
          have hx' : dOf oo = some x := hx
          have eo := dOf_some hx'
          subst eo
          obtain ⟨j, hj, hxj⟩ := atI_ix qc
          obtain ⟨a, us, z, e, ha, el, hz, r2⟩ := r0.itemL hxj
          cases e
          exact .inl ⟨a, us, i, z, rfl, rfl, SqL.of ha, ix_atI hj el hz, post rfl z H r2⟩
      · rename_i ns
        cases qc : atI ns i with
        | none => rw [qc] at hx; cases hx
        | some c =>
          rw [qc] at hx
          cases hx
          obtain ⟨a, rfl, ha⟩ := r0.viewF
          obtain ⟨j, hj, hxj⟩ := atI_ix qc
          exact .inl ⟨a, _, i, .int c, rfl, rfl, ha, ix_atI hj (by rw [List.length_map]) (by rw [List.getElem?_map, hxj]; rfl), post rfl _ H (rel.addS (x := .int c) rfl)⟩
      · cases hx
    · cases hg
  · cases hg

/-! ### lists whose items may be shared -/
def flat : O → Bool
  | .l xs => xs.all fun o => (dOf o).isSome
  | _ => false
/-- as it is, where its items are data; else shared from now on -/
def nrm (o : O) : O := if flat o then o else (match er o with
  | some x => .d x
  | none => .no)
theorem flat_eq : ∀ {xs : List O}, (xs.all fun o => (dOf o).isSome) = true → ∃ ds : List PyData, xs = ds.map .d
  | [], _ => ⟨[], rfl⟩
  | o :: xs, h => by
    rw [List.all_cons, Bool.and_eq_true] at h
    obtain ⟨ds, e⟩ := flat_eq h.2
    cases q : dOf o with
    | none => rw [q] at h; cases h.1
    | some x =>
      have eo := dOf_some q
      exact ⟨x :: ds, by rw [eo, e]; rfl⟩
theorem dups {ds : List PyData} {vs : List V} (hl : ds.length = vs.length) (h : Rel K H R ((ds.map O.d).zip (vs.map some) ++ L)) : Rel K H R ((ds.map O.d).zip (vs.map some) ++ ((ds.map O.d).zip (vs.map some) ++ L)) := by
  obtain ⟨fp, nd, ht, ho⟩ := h
  obtain ⟨f1, f2, e, h1, h2⟩ := ho.split
  obtain ⟨e1, hd⟩ := ownP_data hl h1
  subst e e1
  exact ⟨_, nd, ht, OwnP.app (f := []) (data_ownP hd) (OwnP.app (f := []) (data_ownP hd) h2)⟩
theorem Rel.nrm {o : O} {v : V} {ds : List PyData} (h : Rel K H R ((o, some v) :: L)) (e : lsOf o = some ds) :
    ∃ a vs, v = .ref a ∧ H a = some (.lst vs) ∧ ds.length = vs.length ∧ DqL H vs ds ∧ Rel K H R ((ds.map O.d).zip (vs.map some) ++ (FT.nrm o, some v) :: L) := by
  have ee := lsOf_er e
  by_cases hf : flat o = true
  · have en : FT.nrm o = o := by unfold FT.nrm; rw [if_pos hf]
    rw [en]
    cases o with
    | l xs =>
      obtain ⟨ds', rfl⟩ := flat_eq (show (xs.all fun o => (dOf o).isSome) = true from hf)
      have ed : ds' = ds := by
        have z : (ers (ds'.map O.d)).map PyData.list = some (.list ds) := ee
        rw [ers_d] at z
        cases z; rfl
      subst ed
      obtain ⟨a, vs, e2, ha, el, r⟩ := h.open
      cases e2
      rw [List.length_map] at el
      have r2 := dups el r
      have r3 : Rel K H (a :: R) ((ds'.map O.d).zip (vs.map some) ++ ((ds'.map O.d).zip (vs.map some) ++ L)) := r2
      have hd : DqL H vs ds' := r.views (by rw [List.length_map]; exact el) (ers_d ds')
      refine ⟨a, vs, rfl, ha, el, hd, ?_⟩
      have r4 : Rel K H (a :: R) ((ds'.map O.d).zip (vs.map some) ++ (L ++ (ds'.map O.d).zip (vs.map some))) := r3.perm (List.Perm.append_left _ List.perm_append_comm)
      have r5 : Rel K H R ((.l (ds'.map O.d), some (.ref a)) :: (L ++ (ds'.map O.d).zip (vs.map some))) := r4.close ha (by rw [List.length_map]; exact el)
      exact Rel.rot (A := (.l (ds'.map O.d), some (.ref a)) :: L) r5
    | _ => cases hf
  · have en : FT.nrm o = .d (.list ds) := by
      unfold FT.nrm
      rw [if_neg hf, ee]
    rw [en]
    obtain ⟨a, vs, e2, ha, el, hd, r⟩ := (h.freeze ee).items
    cases e2
    exact ⟨a, vs, rfl, ha, el, hd, r⟩
/-- a new list of data -/
theorem Rel.newL {p : Addr} {ds : List PyData} {vs : List V} (hp : H p = none) (hl : ds.length = vs.length) (h : Rel K H R ((ds.map O.d).zip (vs.map some) ++ L)) : Rel K (upd H p (.lst vs)) R ((.l (ds.map O.d), some (.ref p)) :: L) :=
  (h.fresh hp).close upd_same (by rw [List.length_map]; exact hl)
/-- any list whose items are among those of a list of data -/
theorem Rel.pick {ds es : List PyData} {vs us : List V} (hl : es.length = us.length) (h : Rel K H R ((ds.map O.d).zip (vs.map some) ++ L)) (hd : ds.length = vs.length) (hm : ∀ (i : Nat) (x : PyData) (u : V), es[i]? = some x → us[i]? = some u → ∃ j : Nat, ds[j]? = some x ∧ vs[j]? = some u) :
    Rel K H R ((es.map O.d).zip (us.map some) ++ ((ds.map O.d).zip (vs.map some) ++ L)) := by
  obtain ⟨fp, nd, ht, ho⟩ := h
  obtain ⟨f1, f2, e, h1, h2⟩ := ho.split
  obtain ⟨e1, hq⟩ := ownP_data hd h1
  subst e e1
  have hes : DqL (hid H (R ++ ([] ++ f2))) us es := by
    have all : ∀ (es : List PyData) (us : List V), es.length = us.length → (∀ (i : Nat) (x : PyData) (u : V), es[i]? = some x → us[i]? = some u → ∃ j : Nat, ds[j]? = some x ∧ vs[j]? = some u) → DqL (hid H (R ++ ([] ++ f2))) us es := by
      intro es
      induction es with
      | nil =>
        intro us hl hm
        match us, hl with
        | [], _ => exact .nil
      | cons x es ih =>
        intro us hl hm
        match us, hl with
        | u :: us, hl =>
          obtain ⟨j, h3, h4⟩ := hm 0 x u rfl rfl
          obtain ⟨v, h5, h6⟩ := hq.get j h3
          rw [h4] at h5
          cases h5
          exact .cons h6 (ih us (by simpa using hl) fun i y w hy hw => hm (i + 1) y w (by simpa using hy) (by simpa using hw))
    exact all es us hl hm
  exact ⟨_, nd, ht, OwnP.app (f := []) (data_ownP hes) (OwnP.app (f := []) (data_ownP hq) h2)⟩
end
end FT
/-! FT7: lists: displays, slices, methods; showing. -/
namespace FT
open PySem PySem.Spec PyProof.Rows L2
section
variable {K : PySem.W.Frag} {Y : YX} {W : WX} {R : List Addr} {T L : List En} {H : Hp} {σ : Slots}
theorem one_v {α : Type} {o : α} {vs : List V} (h : [o].length = vs.length) : ∃ v, vs = [v] := by
  match vs, h with
  | [v], _ => exact ⟨v, rfl⟩
theorem two_v {α : Type} {o p : α} {vs : List V} (h : [o, p].length = vs.length) : ∃ v u, vs = [v, u] := by
  match vs, h with
  | [v, u], _ => exact ⟨v, u, rfl⟩
theorem three_v {α : Type} {o p q : α} {vs : List V} (h : [o, p, q].length = vs.length) : ∃ v u w, vs = [v, u, w] := by
  match vs, h with
  | [v, u, w], _ => exact ⟨v, u, w, rfl⟩
/-! ### displays -/
def nos (os : List O) : List O := os.map fun _ => .no
theorem rel_nos : ∀ {os : List O} {vs : List V}, Rel K H R L → Rel K H R ((nos os).zip (vs.map some) ++ L)
  | [], _, h => h
  | _ :: _, [], h => h
  | _ :: os, v :: vs, h => (rel_nos (os := os) (vs := vs) h).addNo
def gLst : Fn := fun os => if os.length ≤ LIM then some (.ok (.l os), nos os) else none
theorem fr_lst : FR K Y (rxn fun xs H Q => xs.length ≤ sizeLine ∧ ∀ p, H p = none → Q (.ref p) (upd H p (.lst xs))) gLst := by
  intro R L vs os os' H Q E out hl hg rel post
  unfold gLst at hg
  split at hg
  · rename_i hlim
    cases hg
    refine ⟨by rw [← hl]; exact LIM_le hlim, fun p hp => post (by show (os.map _).length = _; rw [List.length_map]; exact hl) _ _ ?_⟩
    have r2 := (rel.fresh (u := .lst vs) hp).close upd_same hl
    exact (rel_nos (os := os) (vs := vs) r2).mid
  · cases hg
theorem Rel.freezes : ∀ {os : List O} {vs : List V} {ds : List PyData} {L : List En}, os.length = vs.length → ers os = some ds → Rel K H R (os.zip (vs.map some) ++ L) → Rel K H R ((ds.map O.d).zip (vs.map some) ++ L)
  | [], _, _, _, _, e, h => by cases e; exact h
  | o :: os, [], _, _, hl, _, _ => by cases hl
  | o :: os, v :: vs, ds, L, hl, e, h => by
    have e' : (match er o, ers os with | some x, some xs => some (x :: xs) | _, _ => none) = some ds := e
    cases z : er o with
    | none => rw [z] at e'; cases e'
    | some x =>
      cases z2 : ers os with
      | none => rw [z, z2] at e'; cases e'
      | some xs =>
        rw [z, z2] at e'; cases e'
        have h1 : Rel K H R ((.d x, some v) :: (os.zip (vs.map some) ++ L)) := Rel.freeze h z
        have h2 : Rel K H R (os.zip (vs.map some) ++ (.d x, some v) :: L) := h1.unmid
        exact (Rel.freezes (by simpa using hl) z2 h2).mid
def gTupF : Fn := fun os => match ers os with
  | some ds => if ds.length ≤ LIM then some (.ok (.d (.tuple ds)), nos os) else none
  | none => none
theorem ers_len : ∀ {os : List O} {ds : List PyData}, ers os = some ds → os.length = ds.length
  | [], _, e => by cases e; rfl
  | o :: os, ds, e => by
    have e' : (match er o, ers os with | some x, some xs => some (x :: xs) | _, _ => none) = some ds := e
    cases z : er o with
    | none => rw [z] at e'; cases e'
    | some x =>
      cases z2 : ers os with
      | none => rw [z, z2] at e'; cases e'
      | some xs => rw [z, z2] at e'; cases e'; simp [ers_len z2]
theorem fr_tup : FR K Y (rxn fun xs H Q => xs.length ≤ sizeLine ∧ ∀ p, H p = none → Q (.ref p) (upd H p (.tup xs))) gTupF := by
  intro R L vs os os' H Q E out hl hg rel post
  unfold gTupF at hg
  split at hg
  · rename_i ds hd
    split at hg
    · rename_i hlim
      cases hg
      have el := ers_len hd
      refine ⟨by rw [← hl, el]; exact LIM_le hlim, fun p hp => post (by show (os.map _).length = _; rw [List.length_map]; exact hl) _ _ ?_⟩
      have r1 := Rel.freezes hl hd rel
      have r2 : Rel K (upd H p (.tup vs)) R ((.d (.tuple ds), some (.ref p)) :: L) := Rel.tuple upd_same (by rw [← el]; exact hl) (r1.fresh hp)
      exact (rel_nos (os := os) (vs := vs) r2).mid
    · cases hg
  · cases hg

/-! ### new lists from lists -/
def dl (ds : List PyData) : O := .l (ds.map .d)
def gCat : Fn := fun os => match os with
  | [a, b] => (match lsOf a, lsOf b with
    | some ds, some es => if ds.length + es.length ≤ LIM then some (.ok (dl (ds ++ es)), [nrm a, nrm b]) else none
    | _, _ => none)
  | _ => none
theorem fr_cat : FR K Y (rx2 rCat) gCat := by
  intro R L vs os os' H Q E out hl hg rel post
  unfold gCat at hg
  split at hg
  · rename_i a b
    obtain ⟨v, u, rfl⟩ := two_v hl
    split at hg
    · rename_i ds es h1 h2
      split at hg
      · rename_i hlim
        cases hg
        have r0 : Rel K H R ((a, some v) :: (b, some u) :: L) := rel
        obtain ⟨p, xs, rfl, hp, el, hd, r1⟩ := r0.nrm h1
        have r2 : Rel K H R ((b, some u) :: (nrm a, some (.ref p)) :: ((ds.map O.d).zip (xs.map some) ++ L)) := by
          have q : Rel K H R ((nrm a, some (.ref p)) :: (((ds.map O.d).zip (xs.map some)) ++ (b, some u) :: L)) := r1.mid
          exact (q.perm (.cons _ List.perm_middle)).swap
        obtain ⟨p2, ys, rfl, hp2, el2, hd2, r3⟩ := r2.nrm h2
        refine ⟨p, p2, xs, ys, rfl, rfl, hp, hp2, by rw [← el, ← el2]; exact LIM_le hlim, fun c hc => post rfl _ _ ?_⟩
        have r4 : Rel K H R (((ds ++ es).map O.d).zip ((xs ++ ys).map some) ++ ((nrm a, some (.ref p)) :: (nrm b, some (.ref p2)) :: L)) := by
          rw [List.map_append, List.map_append, List.zip_append (by rw [List.length_map, List.length_map]; exact el), List.append_assoc]
          -- es ++ nrm b :: nrm a :: ds ++ L
          refine r3.perm ?_
          have s1 : ((es.map O.d).zip (ys.map some) ++ ((nrm b, some (V.ref p2)) :: (nrm a, some (V.ref p)) :: ((ds.map O.d).zip (xs.map some) ++ L))).Perm
              ((es.map O.d).zip (ys.map some) ++ ((ds.map O.d).zip (xs.map some) ++ ((nrm a, some (V.ref p)) :: (nrm b, some (V.ref p2)) :: L))) := by
            refine List.Perm.append_left _ ?_
            refine List.Perm.trans (List.Perm.swap ..) ?_
            refine List.Perm.trans (List.Perm.cons _ List.perm_middle.symm) ?_
            exact List.perm_middle.symm
          refine s1.trans ?_
          rw [← List.append_assoc, ← List.append_assoc]
          exact List.Perm.append_right _ List.perm_append_comm
        have r5 := Rel.newL hc (by rw [List.length_append, List.length_append, el, el2]) r4
        exact r5
      · cases hg
    · cases hg
  · cases hg
def gRep : Fn := fun os => match os with
  | [a, .d (.int k)] => (match lsOf a with
    | some ds => if decide (k < 100000) && decide (-100000 < k) && decide (ds.length * k.toNat ≤ LIM) then some (.ok (dl (List.replicate k.toNat ds).flatten), [nrm a, .d (.int k)]) else none
    | none => none)
  | _ => none
theorem rep_at {α β : Type} : ∀ (k : Nat) {ds : List α} {xs : List β} {i : Nat} {x : α} {u : β}, ds.length = xs.length → (List.replicate k ds).flatten[i]? = some x → (List.replicate k xs).flatten[i]? = some u → ∃ j : Nat, ds[j]? = some x ∧ xs[j]? = some u
  | 0, _, _, _, _, _, _, h, _ => by simp at h
  | k + 1, ds, xs, i, x, u, hl, h, g => by
    rw [List.replicate_succ, List.flatten_cons] at h g
    by_cases hi : i < ds.length
    · rw [List.getElem?_append_left hi] at h
      rw [List.getElem?_append_left (by omega)] at g
      exact ⟨i, h, g⟩
    · rw [List.getElem?_append_right (by omega)] at h
      rw [List.getElem?_append_right (by omega), ← hl] at g
      exact rep_at k hl h g
theorem rep_len {α : Type} (k : Nat) (ds : List α) : (List.replicate k ds).flatten.length = ds.length * k := by
  induction k with
  | zero => simp
  | succ k ih => rw [List.replicate_succ, List.flatten_cons, List.length_append, ih, Nat.mul_succ]; omega
theorem fr_rep : FR K Y (rx2 rRep) gRep := by
  intro R L vs os os' H Q E out hl hg rel post
  unfold gRep at hg
  split at hg
  · rename_i a k
    obtain ⟨v, u, rfl⟩ := two_v hl
    split at hg
    · rename_i ds h1
      split at hg
      · rename_i hc
        simp only [Bool.and_eq_true, decide_eq_true_eq] at hc
        cases hg
        have r0 : Rel K H R ((a, some v) :: (.d (.int k), some u) :: L) := rel
        have eu := scal_head (x := .int k) rfl r0.drop
        subst eu
        obtain ⟨p, xs, rfl, hp, el, hd, r1⟩ := r0.nrm h1
        have eq1 : (List.replicate k.toNat ds).flatten.length = (List.replicate k.toNat xs).flatten.length := by rw [rep_len, rep_len, el]
        refine ⟨p, k, xs, rfl, rfl, hp, by omega, by omega, by rw [← el]; exact LIM_le hc.2, fun c hcn => post rfl _ _ ?_⟩
        have r2 := Rel.pick eq1 r1 el fun i x w hx hw => rep_at k.toNat el hx hw
        exact Rel.newL hcn eq1 (r2.perm (List.Perm.append_left _ (List.Perm.refl _)) |> fun q => by
          have q2 : Rel K H R ((((List.replicate k.toNat ds).flatten.map O.d).zip ((List.replicate k.toNat xs).flatten.map some) ++ (ds.map O.d).zip (xs.map some)) ++ ((nrm a, some (V.ref p)) :: (.d (.int k), some (.int k)) :: L)) := by rw [List.append_assoc]; exact q
          have q3 : Rel K H R ((ds.map O.d).zip (xs.map some) ++ (((List.replicate k.toNat ds).flatten.map O.d).zip ((List.replicate k.toNat xs).flatten.map some) ++ ((nrm a, some (V.ref p)) :: (.d (.int k), some (.int k)) :: L))) := by
            rw [← List.append_assoc]
            exact q2.perm (List.Perm.append_right _ List.perm_append_comm)
          exact q3.drops)
      · cases hg
    · cases hg
  · cases hg
/-- a new list from picks of one -/
theorem fr_pickL {r : RX} {g : Fn} {f : {α : Type} → List α → List α} (hlen : ∀ {α β : Type} (xs : List α) (ys : List β), xs.length = ys.length → (f xs).length = (f ys).length)
    (hat : ∀ {α β : Type} (xs : List α) (ys : List β) (i : Nat) (x : α) (y : β), xs.length = ys.length → (f xs)[i]? = some x → (f ys)[i]? = some y → ∃ j : Nat, xs[j]? = some x ∧ ys[j]? = some y) {v : V} {o : O} {ds : List PyData} {L : List En} {p : Addr} {xs : List V}
    (r1 : Rel K H R ((ds.map O.d).zip (xs.map some) ++ (o, some v) :: L)) (el : ds.length = xs.length) {c : Addr} (hc : H c = none) : Rel K (upd H c (.lst (f xs))) R ((dl (f ds), some (.ref c)) :: (o, some v) :: L) := by
  have eq1 : (f ds).length = (f xs).length := hlen ds xs el
  have r2 := Rel.pick eq1 r1 el fun i x w hx hw => hat ds xs i x w el hx hw
  refine Rel.newL hc eq1 ?_
  have q2 : Rel K H R ((((f ds).map O.d).zip ((f xs).map some) ++ (ds.map O.d).zip (xs.map some)) ++ ((o, some v) :: L)) := by rw [List.append_assoc]; exact r2
  have q3 : Rel K H R ((ds.map O.d).zip (xs.map some) ++ (((f ds).map O.d).zip ((f xs).map some) ++ ((o, some v) :: L))) := by
    rw [← List.append_assoc]
    exact q2.perm (List.Perm.append_right _ List.perm_append_comm)
  exact q3.drops
def gListOf : Fn := fun os => match os with
  | [a] => (match lsOf a with
    | some ds => some (.ok (dl ds), [nrm a])
    | none => none)
  | _ => none
theorem fr_listOf : FR K Y (rxn fun xs H Q => ∃ p ys, xs = [.ref p] ∧ (SqL K H p ys ∨ SqT K H p ys) ∧ ∀ l, H l = none → Q (.ref l) (upd H l (.lst ys))) gListOf := by
  intro R L vs os os' H Q E out hl hg rel post
  unfold gListOf at hg
  split at hg
  · rename_i a
    obtain ⟨v, rfl⟩ := one_v hl
    split at hg
    · rename_i ds h1
      cases hg
      have r0 : Rel K H R ((a, some v) :: L) := rel
      obtain ⟨p, xs, rfl, hp, el, hd, r1⟩ := r0.nrm h1
      exact ⟨p, xs, rfl, .inl (SqL.of hp), fun c hc => post rfl _ _ (fr_pickL (r := fun _ _ _ _ => True) (g := fun _ => none) (f := fun l => l) (fun _ _ h => h) (fun _ _ i x y _ h1 h2 => ⟨i, h1, h2⟩) (p := p) r1 el hc)⟩
    · cases hg
  · cases hg
def gTupleOf : Fn := fun os => match os with
  | [a] => (match lsOf a with
    | some ds => some (.ok (.d (.tuple ds)), [nrm a])
    | none => none)
  | _ => none
theorem fr_tupleOf : FR K Y (rxn fun xs H Q => ∃ p ys, xs = [.ref p] ∧ ((SqL K H p ys ∧ ∀ l, H l = none → Q (.ref l) (upd H l (.tup ys))) ∨ (SqT K H p ys ∧ Q (.ref p) H))) gTupleOf := by
  intro R L vs os os' H Q E out hl hg rel post
  unfold gTupleOf at hg
  split at hg
  · rename_i a
    obtain ⟨v, rfl⟩ := one_v hl
    split at hg
    · rename_i ds h1
      cases hg
      have r0 : Rel K H R ((a, some v) :: L) := rel
      obtain ⟨p, xs, rfl, hp, el, hd, r1⟩ := r0.nrm h1
      exact ⟨p, xs, rfl, .inl ⟨SqL.of hp, fun c hc => post rfl _ _ (Rel.tuple upd_same el (r1.fresh hc))⟩⟩
    · cases hg
  · cases hg
def gRevL : Fn := fun os => match os with
  | [a] => (match lsOf a with
    | some ds => some (.ok (dl ds.reverse), [nrm a])
    | none => none)
  | _ => none
theorem fr_revL : FR K Y (rx1 fun x H Q => ∃ a xs, x = .ref a ∧ SqL K H a xs ∧ ∀ p, H p = none → Q (.ref p) (upd H p (.lst xs.reverse))) gRevL := by
  intro R L vs os os' H Q E out hl hg rel post
  unfold gRevL at hg
  split at hg
  · rename_i a
    obtain ⟨v, rfl⟩ := one_v hl
    split at hg
    · rename_i ds h1
      cases hg
      have r0 : Rel K H R ((a, some v) :: L) := rel
      obtain ⟨p, xs, rfl, hp, el, hd, r1⟩ := r0.nrm h1
      refine ⟨p, xs, rfl, SqL.of hp, fun c hc => post rfl _ _ (fr_pickL (r := fun _ _ _ _ => True) (g := fun _ => none) (f := List.reverse) (fun xs ys h => by rw [List.length_reverse, List.length_reverse]; exact h) (fun xs ys i x y hl h1 h2 => ?_) (p := p) r1 el hc)⟩
      have hi : i < xs.length := by
        obtain ⟨q, _⟩ := List.getElem?_eq_some_iff.mp h1
        simpa using q
      rw [List.getElem?_reverse hi] at h1
      rw [List.getElem?_reverse (by omega), ← hl] at h2
      exact ⟨_, h1, h2⟩
    · cases hg
  · cases hg

/-! ### slices -/
def cutL {α : Type} (xs : List α) (lo hi : Option Int) : List α := (xs.drop (HT.sIx xs.length 0 lo)).take (HT.sIx xs.length xs.length hi - HT.sIx xs.length 0 lo)
theorem cutL_at {α β : Type} (lo hi : Option Int) (xs : List α) (ys : List β) (i : Nat) (x : α) (y : β) (hl : xs.length = ys.length) (h1 : (cutL xs lo hi)[i]? = some x) (h2 : (cutL ys lo hi)[i]? = some y) : ∃ j : Nat, xs[j]? = some x ∧ ys[j]? = some y := by
  unfold cutL at h1 h2
  have hi1 : i < HT.sIx xs.length xs.length hi - HT.sIx xs.length 0 lo := by
    obtain ⟨q, _⟩ := List.getElem?_eq_some_iff.mp h1
    rw [List.length_take] at q
    omega
  rw [List.getElem?_take_of_lt hi1, List.getElem?_drop] at h1
  rw [← hl, List.getElem?_take_of_lt hi1, List.getElem?_drop] at h2
  exact ⟨_, h1, h2⟩
theorem cutL_len {α β : Type} (lo hi : Option Int) (xs : List α) (ys : List β) (hl : xs.length = ys.length) : (cutL xs lo hi).length = (cutL ys lo hi).length := by
  unfold cutL
  simp only [List.length_take, List.length_drop, hl]
def ckI (f : Sl → M O) : Sl → M Int := fun S => bnd (f S) fun o S1 => match o with
  | .d (.int i) => some (.ok i, S1)
  | _ => none
/-- a bound of a slice -/
def SB (K : PySem.W.Frag) (Y : YX) (W : WX) (t : TO) (f : Option (Sl → M Int)) : Prop := ∀ (R : List Addr) (T : List En) (S : Sl) (σ : Slots) (H : Hp) (Q : Option Int → Hp → Prop) (out : Except Ex (Option Int)) (S' : Sl), S.length = σ.length →
  (match f with
    | none => some (.ok none, S)
    | some f => bnd (f S) fun i S1 => some (.ok (some i), S1)) = some (out, S') → Rel K H R (S.zip σ ++ T) → (match out with
    | .ok o => S'.length = σ.length → ∀ H', Rel K H' R (S'.zip σ ++ T) → Q o H'
    | .error e => S'.length = σ.length → ∀ cls dd H', Y e cls dd H' → Rel K H' R (S'.zip σ ++ T) → W cls dd σ H') → t σ H Q
theorem sb_none : SB K Y W tNoPart none := by
  intro R T S σ H Q out S' hl hf rel post
  cases hf
  exact post hl H rel
theorem sb_some {te : TE} {f : Sl → M O} (h : SE K Y W te f) : SB K Y W (tPart te) (some (ckI f)) := by
  intro R T S σ H Q out S' hl hf rel post
  rcases bnd_cases hf with ⟨e, e1, rfl⟩ | ⟨i, S1, e1, e2⟩
  · rcases bnd_cases e1 with ⟨e', f1, f2⟩ | ⟨o, S2, f1, f2⟩
    · cases f2
      exact h R T S σ H _ _ _ hl f1 rel fun hl' => post hl'
    · split at f2
      · cases f2
      · cases f2
  · cases e2
    rcases bnd_cases e1 with ⟨e', f1, f2⟩ | ⟨o, S2, f1, f2⟩
    · cases f2
    · split at f2
      · cases f2
        exact h R T S σ H _ _ _ hl f1 rel fun hl' v H' r' => ⟨i, scal_head (x := .int i) rfl r', post hl' H' r'.drop⟩
      · cases f2
def runB (f : Option (Sl → M Int)) (S : Sl) : M (Option Int) := match f with
  | none => some (.ok none, S)
  | some f => bnd (f S) fun i S1 => some (.ok (some i), S1)
/-- a list's slice, a text's -/
def slO (o : O) (lo hi : Option Int) : Option (O × O) := match o with
  | .d (.str x) => if x.length ≤ LIM then some (.d (.str (cutS x lo hi)), o) else none
  | o => (match lsOf o with
    | some ds => some (dl (cutL ds lo hi), nrm o)
    | none => none)
/-- x[lo:hi] of a name -/
def eSlV (i : Nat) (lo hi : Option (Sl → M Int)) : Sl → M O := fun S => if isNo (S.getD i .no) then none else bnd (runB lo S) fun l S1 => bnd (runB hi S1) fun h S2 => match slO (S2.getD i .no) l h with
  | some (o, o') => some (.ok o, S2.set i o')
  | none => none
/-- .. of a value -/
def eSlE (f : Sl → M O) (lo hi : Option (Sl → M Int)) : Sl → M O := fun S => bnd (f S) fun x S0 => bnd (runB lo S0) fun l S1 => bnd (runB hi S1) fun h S2 => match slO x l h with
  | some (o, _) => some (.ok o, S2)
  | none => none
def rSl (K : PySem.W.Frag) : V → Option Int → Option Int → Hp → VK → Prop := fun x lo hi H Q => rSlL K x lo hi H Q ∨ ∃ z, x = .str z ∧ z.length ≤ sizeLine ∧ Q (.str (cutS z lo hi)) H
theorem slO_ok {o o1 o2 : O} {v : V} {l h : Option Int} {Q : VK} (e : slO o l h = some (o1, o2)) (r : Rel K H R ((o, some v) :: L)) (q : ∀ u H', Rel K H' R ((o1, some u) :: (o2, some v) :: L) → Q u H') : rSl K v l h H Q := by
  unfold slO at e
  split at e
  · rename_i x
    split at e
    · rename_i hx
      cases e
      have ev := scal_head (x := .str x) rfl r
      subst ev
      exact .inr ⟨x, rfl, LIM_le hx, q _ H (r.addS (x := .str (cutS x l h)) rfl)⟩
    · cases e
  · split at e
    · rename_i ds hd
      cases e
      obtain ⟨p, xs, rfl, hp, el, hdq, r1⟩ := r.nrm hd
      exact .inl ⟨p, xs, rfl, SqL.of hp, fun c hc => q _ _ (fr_pickL (r := fun _ _ _ _ => True) (g := fun _ => none) (f := fun l0 => cutL l0 l h) (cutL_len l h) (cutL_at l h) (p := p) r1 el hc)⟩
    · cases e
theorem se_slV {i : Nat} {tl th : TO} {lo hi : Option (Sl → M Int)} (hlo : SB K Y W tl lo) (hhi : SB K Y W th hi) : SE K Y W (tSl (rSl K) (tVar i) tl th) (eSlV i lo hi) := by
  intro R T S σ H Q out S' hl hf rel post
  unfold eSlV at hf
  split at hf
  · cases hf
  · rename_i hn
    obtain ⟨v, hv⟩ := slot_val hl (by simpa using hn) rel
    refine ⟨v, hv, ?_⟩
    rcases bnd_cases hf with ⟨e, e1, rfl⟩ | ⟨l, S1, e1, e2⟩
    · exact hlo R T S σ H _ _ _ hl e1 rel post
    · refine hlo R T S σ H _ _ _ hl e1 rel fun hl1 H1 rel1 => ?_
      rcases bnd_cases e2 with ⟨e, e3, rfl⟩ | ⟨h, S2, e3, e4⟩
      · exact hhi R T S1 σ H1 _ _ _ hl1 e3 rel1 post
      · refine hhi R T S1 σ H1 _ _ _ hl1 e3 rel1 fun hl2 H2 rel2 => ?_
        split at e4
        · rename_i o1 o2 es
          cases e4
          have hi2 : i < S2.length := lt_of_slot hl2 hv
          refine slO_ok es (rel2.take (getD_some hi2) hv) fun u H' r => post (by rw [List.length_set]; exact hl2) u H' ?_
          have r2 := r.swap.perm (.cons _ List.perm_middle.symm)
          have r3 := r2.put hv
          rw [List.set_set] at r3
          exact r3.mid
        · cases e4
theorem se_slE {f : Sl → M O} {te : TE} {tl th : TO} {lo hi : Option (Sl → M Int)} (he : SE K Y W te f) (hlo : SB K Y W tl lo) (hhi : SB K Y W th hi) : SE K Y W (tSl (rSl K) te tl th) (eSlE f lo hi) := by
  intro R T S σ H Q out S' hl hf rel post
  rcases bnd_cases hf with ⟨e, e0, rfl⟩ | ⟨x, S0, e0, e00⟩
  · exact he R T S σ H _ _ _ hl e0 rel post
  · refine he R T S σ H _ _ _ hl e0 rel fun hl0 v H0 rel0 => ?_
    have rel0' : Rel K H0 R (S0.zip σ ++ ((x, some v) :: T)) := rel0.unmid
    rcases bnd_cases e00 with ⟨e, e1, rfl⟩ | ⟨l, S1, e1, e2⟩
    · exact hlo R _ S0 σ H0 _ _ _ hl0 e1 rel0' fun hle cls dd H' hy r => post hle cls dd H' hy r.mid.drop
    · refine hlo R _ S0 σ H0 _ _ _ hl0 e1 rel0' fun hl1 H1 rel1 => ?_
      rcases bnd_cases e2 with ⟨e, e3, rfl⟩ | ⟨h, S2, e3, e4⟩
      · exact hhi R _ S1 σ H1 _ _ _ hl1 e3 rel1 fun hle cls dd H' hy r => post hle cls dd H' hy r.mid.drop
      · refine hhi R _ S1 σ H1 _ _ _ hl1 e3 rel1 fun hl2 H2 rel2 => ?_
        split at e4
        · rename_i o1 o2 es
          cases e4
          exact slO_ok es rel2.mid fun u H' r => post hl2 u H' (r.swap.drop)
        · cases e4
end
end FT
/-! FT8: methods of lists, stores, showing, ranges as lists, all, isinstance. -/
namespace FT
open PySem PySem.Spec PyProof.Rows L2
section
variable {K : PySem.W.Frag} {Y : YX} {W : WX} {R : List Addr} {T L : List En} {H : Hp} {σ : Slots}
/-! ### one-place and two-place forms of the argument rule -/
theorem se_app1 {te : TE} {a : Ar} {r : V → Hp → VK → Prop} {g : Fn} (ha : SArg K Y W te a) (hr : FR K Y (rx1 r) g) : SE K Y W (fun σ H Q => te σ H fun x H1 => r x H1 Q) (eApp g [a]) :=
  se_app (r := rx1 r) (sa_cons ha sa_nil) hr
theorem se_app2 {ta tb : TE} {a b : Ar} {r : R2} {g : Fn} (ha : SArg K Y W ta a) (hb : SArg K Y W tb b) (hr : FR K Y (rx2 r) g) : SE K Y W (tOp r ta tb) (eApp g [a, b]) :=
  se_app (r := rx2 r) (sa_cons ha (sa_cons hb sa_nil)) hr
theorem se_appn {t : TA} {as : List Ar} {r : List V → Hp → VK → Prop} {g : Fn} (ha : SA K Y W t as) (hr : FR K Y (rxn r) g) : SE K Y W (tCB r t) (eApp g as) := se_app (r := rxn r) ha hr
theorem se_lst {t : TA} {as : List Ar} (ha : SA K Y W t as) : SE K Y W (tLst t) (eApp gLst as) := se_app (r := rxn fun xs H Q => xs.length ≤ sizeLine ∧ ∀ p, H p = none → Q (.ref p) (upd H p (.lst xs))) ha fr_lst
theorem se_tup {t : TA} {as : List Ar} (ha : SA K Y W t as) : SE K Y W (tTup t) (eApp gTupF as) := se_app (r := rxn fun xs H Q => xs.length ≤ sizeLine ∧ ∀ p, H p = none → Q (.ref p) (upd H p (.tup xs))) ha fr_tup

/-! ### methods of a list that a name holds -/
def isLs : O → Bool
  | .l _ => true
  | .d (.list _) => true
  | _ => false
def eMeth (g : Fn) (i : Nat) (as : List Ar) : Sl → M O := fun S => if isLs (S.getD i .no) then eApp g (.v i :: as) S else none
theorem isLs_ty {o : O} {v : V} (h : isLs o = true) (r : Rel K H R ((o, some v) :: L)) : tyV K "list" v H := by
  cases o with
  | l xs =>
    obtain ⟨a, vs, e, ha, _⟩ := r.open
    cases e
    exact .inl ⟨rfl, vs, SqL.of ha⟩
  | d x =>
    cases x with
    | list ds =>
      obtain ⟨a, vs, e, ha, _⟩ := r.items
      cases e
      exact .inl ⟨rfl, vs, SqL.of ha⟩
    | _ => cases h
  | _ => cases h
theorem meth_ty {S : Sl} {i : Nat} (hl : S.length = σ.length) (h : isLs (S.getD i .no) = true) (r : Rel K H R (S.zip σ ++ T)) : ∃ v, σ[i]? = some (some v) ∧ tyV K "list" v H := by
  have hn : isNo (S.getD i .no) = false := by
    cases e : S.getD i .no with
    | no => rw [e] at h; cases h
    | fr P fp => rw [e] at h; cases h
    | _ => rfl
  obtain ⟨v, hv⟩ := slot_val hl hn r
  exact ⟨v, hv, isLs_ty h (r.take (getD_some (slot_lt hn)) hv)⟩
theorem se_meth {i : Nat} {t : TA} {as : List Ar} {r : V → List V → Hp → VK → Prop} {g : Fn} (ha : SA K Y W t as) (hr : FR K Y (rxm r) g) : SE K Y W (tBM K "list" r (tVar i) t) (eMeth g i as) := by
  intro R T S σ H Q out S' hl hf rel post
  unfold eMeth at hf
  split at hf
  · rename_i hi
    obtain ⟨v, hv, ty⟩ := meth_ty hl hi rel
    have q := se_app (r := rxm r) (sa_v (i := i) ha) hr R T S σ H Q out S' hl hf rel post
    obtain ⟨v', hv', q⟩ := q
    rw [hv] at hv'
    cases hv'
    exact ⟨v, hv, ty, q⟩
  · cases hf
theorem se_meth0 {i : Nat} {r : V → List V → Hp → VK → Prop} {g : Fn} (hr : FR K Y (rxm r) g) : SE K Y W (tBM0 K "list" r (tVar i)) (eMeth g i []) := by
  intro R T S σ H Q out S' hl hf rel post
  unfold eMeth at hf
  split at hf
  · rename_i hi
    obtain ⟨v, hv, ty⟩ := meth_ty hl hi rel
    have q := se_app (r := rxm r) (sa_v (i := i) (as := []) sa_nil) hr R T S σ H Q out S' hl hf rel post
    obtain ⟨v', hv', q⟩ := q
    rw [hv] at hv'
    cases hv'
    exact ⟨v, hv, ty, q⟩
  · cases hf
theorem zip_snoc {xs : List O} {vs : List V} {o : O} {v : V} (h : xs.length = vs.length) : (xs ++ [o]).zip ((vs ++ [v]).map some) = xs.zip (vs.map some) ++ [(o, some v)] := by
  rw [List.map_append, List.zip_append (by rw [List.length_map]; exact h)]
  rfl
def gAppend : Fn := fun os => match os with
  | [.l xs, o] => if xs.length < LIM then some (.ok (.d .none), [.l (xs ++ [o]), .no]) else none
  | _ => none
theorem fr_append : FR K Y (rxm rAppend) gAppend := by
  intro R L vs os os' H Q E out hl hg rel post
  unfold gAppend at hg
  split at hg
  · rename_i xs o
    obtain ⟨v, u, rfl⟩ := two_v hl
    split at hg
    · rename_i hlim
      cases hg
      have r0 : Rel K H R ((.l xs, some v) :: (o, some u) :: L) := rel
      obtain ⟨a, ws, e, ha, el, r1⟩ := r0.open
      cases e
      refine ⟨a, ws, u, rfl, rfl, ha, by rw [← el]; exact LIM_lt hlim, post rfl .non _ ?_⟩
      have r2 : Rel K (upd H a (.lst (ws ++ [u]))) (a :: R) ((xs ++ [o]).zip ((ws ++ [u]).map some) ++ L) := by
        rw [zip_snoc el, List.append_assoc]
        exact r1.hand List.mem_cons_self
      have r3 := r2.close upd_same (by rw [List.length_append, List.length_append, el]; rfl)
      exact (((r3.addNo (w := some u)).swap).addS (x := .none) rfl)
    · cases hg
  · cases hg
def gInsert : Fn := fun os => match os with
  | [.l xs, .d (.int i), o] => if decide (xs.length < LIM) && decide (0 ≤ i) && decide (i < 100000) then some (.ok (.d .none), [.l (xs.take i.toNat ++ [o] ++ xs.drop i.toNat), .d (.int i), .no]) else none
  | _ => none
theorem fr_insert : FR K Y (rxm fun x vs H Q => ∃ (l : Addr) (xs : List V) (i : Int) (y : V), x = .ref l ∧ vs = [.int i, y] ∧ H l = some (.lst xs) ∧ xs.length < sizeLine ∧ 0 ≤ i ∧ i < 2 ^ 63 ∧ Q .non (upd H l (.lst (xs.take i.toNat ++ [y] ++ xs.drop i.toNat)))) gInsert := by
  intro R L vs os os' H Q E out hl hg rel post
  unfold gInsert at hg
  split at hg
  · rename_i xs i o
    obtain ⟨v, w, u, rfl⟩ := three_v hl
    split at hg
    · rename_i hc
      simp only [Bool.and_eq_true, decide_eq_true_eq] at hc
      cases hg
      have r0 : Rel K H R ((.l xs, some v) :: (.d (.int i), some w) :: (o, some u) :: L) := rel
      have ew := scal_head (x := .int i) rfl r0.drop
      subst ew
      obtain ⟨a, ws, e, ha, el, r1⟩ := r0.open
      cases e
      refine ⟨a, ws, i, u, rfl, rfl, ha, by rw [← el]; exact LIM_lt hc.1.1, hc.1.2, by omega, post rfl .non _ ?_⟩
      have r1' : Rel K H (a :: R) (xs.zip (ws.map some) ++ ((o, some u) :: L)) := r1.mid.drop
      have e1 : xs.zip (ws.map some) = (xs.take i.toNat).zip ((ws.take i.toNat).map some) ++ (xs.drop i.toNat).zip ((ws.drop i.toNat).map some) := by
        rw [← List.zip_append (by rw [List.length_map, List.length_take, List.length_take, el]), ← List.map_append, List.take_append_drop, List.take_append_drop]
      have e2 : (xs.take i.toNat ++ [o] ++ xs.drop i.toNat).zip ((ws.take i.toNat ++ [u] ++ ws.drop i.toNat).map some) = (xs.take i.toNat).zip ((ws.take i.toNat).map some) ++ ((o, some u) :: (xs.drop i.toNat).zip ((ws.drop i.toNat).map some)) := by
        have hl1 : (xs.take i.toNat).length = (ws.take i.toNat).length := by rw [List.length_take, List.length_take, el]
        rw [List.map_append, List.zip_append (by rw [List.length_map, List.length_append, List.length_append, hl1]; rfl), zip_snoc hl1, List.append_assoc]
        rfl
      have r2 : Rel K (upd H a (.lst (ws.take i.toNat ++ [u] ++ ws.drop i.toNat))) (a :: R) ((xs.take i.toNat ++ [o] ++ xs.drop i.toNat).zip ((ws.take i.toNat ++ [u] ++ ws.drop i.toNat).map some) ++ L) := by
        rw [e2]
        rw [e1] at r1'
        have q1 : Rel K H (a :: R) ((o, some u) :: (((xs.take i.toNat).zip ((ws.take i.toNat).map some) ++ (xs.drop i.toNat).zip ((ws.drop i.toNat).map some)) ++ L)) := r1'.mid
        have q2 : Rel K H (a :: R) (((xs.take i.toNat).zip ((ws.take i.toNat).map some) ++ ((o, some u) :: (xs.drop i.toNat).zip ((ws.drop i.toNat).map some))) ++ L) := q1.perm (by
          have p : ((o, some u) :: ((xs.take i.toNat).zip ((ws.take i.toNat).map some) ++ (xs.drop i.toNat).zip ((ws.drop i.toNat).map some))).Perm ((xs.take i.toNat).zip ((ws.take i.toNat).map some) ++ ((o, some u) :: (xs.drop i.toNat).zip ((ws.drop i.toNat).map some))) := List.perm_middle.symm
          exact p.append_right L)
        exact q2.hand List.mem_cons_self
      have r3 := r2.close upd_same (by simp only [List.length_append, List.length_take, List.length_drop, el]; rfl)
      have r4 := r3.addNo (w := some u)
      have r5 := (r4.swap.addS (x := .int i) rfl).swap
      exact r5.addS (x := .none) rfl
    · cases hg
  · cases hg
def gPop : Fn := fun os => match os with
  | [.l xs] => (match xs[xs.length - 1]? with
    | some o => some (.ok o, [.l xs.dropLast])
    | none => none)
  | _ => none
theorem fr_pop : FR K Y (rxm rPop) gPop := by
  intro R L vs os os' H Q E out hl hg rel post
  unfold gPop at hg
  split at hg
  · rename_i xs
    obtain ⟨v, rfl⟩ := one_v hl
    split at hg
    · rename_i o ho
      cases hg
      have r0 : Rel K H R ((.l xs, some v) :: L) := rel
      obtain ⟨a, ws, e, ha, el, r1⟩ := r0.open
      cases e
      have hpos : xs.length - 1 < xs.length := (List.getElem?_eq_some_iff.mp ho).1
      have hw : ws[ws.length - 1]? = some (ws[ws.length - 1]'(by omega)) := List.getElem?_eq_getElem (by omega)
      obtain ⟨y, hy⟩ : ∃ y, ws[ws.length - 1]? = some y := ⟨_, hw⟩
      have ex : xs = xs.dropLast ++ [o] := by
        have hne : xs ≠ [] := fun z => by rw [z] at hpos; exact absurd hpos (Nat.lt_irrefl _)
        have e1 := List.dropLast_concat_getLast hne
        have e2 : xs.getLast hne = o := by
          have := List.getLast_eq_getElem hne
          rw [this]
          have h2 := (List.getElem?_eq_some_iff.mp ho).2
          exact h2
        rw [e2] at e1
        exact e1.symm
      have ew : ws = ws.dropLast ++ [y] := by
        have hne : ws ≠ [] := fun z => by rw [z] at el; rw [el] at hpos; exact absurd hpos (Nat.lt_irrefl _)
        have e1 := List.dropLast_concat_getLast hne
        have e2 : ws.getLast hne = y := by
          rw [List.getLast_eq_getElem hne]
          exact (List.getElem?_eq_some_iff.mp hy).2
        rw [e2] at e1
        exact e1.symm
      refine ⟨a, ws, y, rfl, rfl, ha, hy, post rfl y _ ?_⟩
      have hld : xs.dropLast.length = ws.dropLast.length := by rw [List.length_dropLast, List.length_dropLast, el]
      have ez : xs.zip (ws.map some) = xs.dropLast.zip (ws.dropLast.map some) ++ [(o, some y)] := by
        conv => lhs; rw [ex, ew]
        exact zip_snoc hld
      rw [ez, List.append_assoc] at r1
      have r2 : Rel K (upd H a (.lst ws.dropLast)) (a :: R) (xs.dropLast.zip (ws.dropLast.map some) ++ ((o, some y) :: L)) := r1.hand List.mem_cons_self
      exact (r2.close upd_same hld).swap
    · cases hg
  · cases hg
def gClear : Fn := fun os => match os with
  | [.l xs] => some (.ok (.d .none), [.l []])
  | _ => none
theorem fr_clear : FR K Y (rxm rClear) gClear := by
  intro R L vs os os' H Q E out hl hg rel post
  unfold gClear at hg
  split at hg
  · rename_i xs
    obtain ⟨v, rfl⟩ := one_v hl
    cases hg
    have r0 : Rel K H R ((.l xs, some v) :: L) := rel
    obtain ⟨a, ws, e, ha, el, r1⟩ := r0.open
    cases e
    refine ⟨a, ws, rfl, rfl, ha, post rfl .non _ ?_⟩
    have r2 : Rel K (upd H a (.lst [])) (a :: R) (([] : List O).zip (([] : List V).map some) ++ L) := r1.drops.hand List.mem_cons_self
    exact (r2.close upd_same rfl).addS (x := .none) rfl
  · cases hg
def gReverse : Fn := fun os => match os with
  | [.l xs] => some (.ok (.d .none), [.l xs.reverse])
  | _ => none
theorem fr_reverse : FR K Y (rxm rReverse) gReverse := by
  intro R L vs os os' H Q E out hl hg rel post
  unfold gReverse at hg
  split at hg
  · rename_i xs
    obtain ⟨v, rfl⟩ := one_v hl
    cases hg
    have r0 : Rel K H R ((.l xs, some v) :: L) := rel
    obtain ⟨a, ws, e, ha, el, r1⟩ := r0.open
    cases e
    refine ⟨a, ws, rfl, rfl, ha, post rfl .non _ ?_⟩
    have r2 : Rel K (upd H a (.lst ws.reverse)) (a :: R) (xs.reverse.zip (ws.reverse.map some) ++ L) := (rel_rev el r1).hand List.mem_cons_self
    exact (r2.close upd_same (by rw [List.length_reverse, List.length_reverse]; exact el)).addS (x := .none) rfl
  · cases hg
/-- the first place of an equal one -/
def dIndex : List PyData → Option PyData
  | [.list ds, d] => if SeqAt.shaped (.list ds) && SeqAt.shaped d then (ds.findIdx? fun z => PyData.eqv z d).map fun j => .int (j : Nat) else none
  | _ => none
theorem findIdx_at {α : Type} {p : α → Bool} : ∀ {l : List α} {j : Nat}, l.findIdx? p = some j → (∃ z, l[j]? = some z ∧ p z = true) ∧ ∀ m z, m < j → l[m]? = some z → p z = false := by
  intro l j h
  have h1 := List.findIdx?_eq_some_iff_getElem.mp h
  obtain ⟨hl, hp, hn⟩ := h1
  refine ⟨⟨l[j], List.getElem?_eq_getElem hl, hp⟩, fun m z hm hz => ?_⟩
  have := hn m hm
  have e := (List.getElem?_eq_some_iff.mp hz).2
  rw [← e]
  simpa using this
theorem fr_index : FR K Y (rxm (rIndexD K)) (fnD dIndex) := fr_data
  (fun ds x h => by
    unfold dIndex at h
    split at h
    · split at h
      · obtain ⟨j, _, e⟩ := Option.map_eq_some_iff.mp h
        rw [← e]; rfl
      · cases h
    · cases h)
  fun vs ds x H Q E hd hg q => by
    unfold dIndex at hg
    split at hg
    · rename_i ds d
      split at hg
      · rename_i hs
        rw [Bool.and_eq_true] at hs
        obtain ⟨j, hj, e⟩ := Option.map_eq_some_iff.mp hg
        subst e
        obtain ⟨v, u, rfl, a, b⟩ := dql2 hd
        obtain ⟨⟨z, hz, hpz⟩, hno⟩ := findIdx_at hj
        cases a with
        | lst ha t =>
          exact ⟨_, u, d, ds, j, z, rfl, rfl, .lst (SqL.of ha) (DqL.dp _ _ t (by have := nd_of_shaped hs.1; simpa only [PyData.hasDict] using this)), Dq.dp _ _ b (nd_of_shaped hs.2), hs.1, hs.2, hz, hpz, fun m z' hm hz' => hno m z' hm hz', q⟩
      · cases hg
    · cases hg
/-- the ints of a list -/
def intO : O → Option Int
  | .d (.int i) => some i
  | _ => none
def gRemove : Fn := fun os => match os with
  | [.l xs, .d (.int k)] => (match xs.mapM intO with
    | some ns => (match ns.findIdx? fun n => n == k with
      | some j => some (.ok (.d .none), [.l (xs.eraseIdx j), .d (.int k)])
      | none => none)
    | none => none)
  | _ => none
theorem mapM_int : ∀ {xs : List O} {ns : List Int}, xs.mapM intO = some ns → xs = ns.map fun n => .d (.int n)
  | [], ns, h => by
    rw [List.mapM_nil] at h
    cases h; rfl
  | x :: xs, ns, h => by
    rw [List.mapM_cons] at h
    cases q : intO x with
    | none => rw [q] at h; cases h
    | some n =>
      rw [q] at h
      cases q2 : xs.mapM intO with
      | none => rw [q2] at h; cases h
      | some ms =>
        rw [q2] at h
        cases h
        have ex : x = .d (.int n) := by
          unfold intO at q
          split at q
          · cases q; rfl
          · cases q
        rw [ex, mapM_int q2]; rfl
theorem ints_vals {ns : List Int} {vs : List V} (hl : ns.length = vs.length) (h : Rel K H R ((ns.map fun n => O.d (.int n)).zip (vs.map some) ++ L)) : vs = ns.map V.int := by
  have e : ers (ns.map fun n => O.d (.int n)) = some (ns.map PyData.int) := by
    have := ers_d (ns.map PyData.int)
    rw [List.map_map] at this
    exact this
  have d := Rel.views (by rw [List.length_map]; exact hl) h e
  have := DqL.scal (by simp [scal1]) d
  rw [this, List.map_map]
  rfl
theorem zip_erase {α β : Type} : ∀ {S : List α} {σ : List β} {i : Nat}, (S.eraseIdx i).zip (σ.eraseIdx i) = (S.zip σ).eraseIdx i
  | [], _, _ => by simp
  | _ :: _, [], _ => by simp
  | _ :: S, _ :: σ, 0 => rfl
  | x :: S, y :: σ, i + 1 => by
    show (x, y) :: (S.eraseIdx i).zip (σ.eraseIdx i) = (x, y) :: (S.zip σ).eraseIdx i
    rw [zip_erase]
theorem map_erase {α β : Type} (f : α → β) : ∀ (l : List α) (j : Nat), (l.map f).eraseIdx j = (l.eraseIdx j).map f
  | [], j => by simp
  | a :: r, 0 => by simp
  | a :: r, j + 1 => by simp [map_erase f r j]
theorem fr_remove : FR K Y (rxm rRemI) gRemove := by
  intro R L vs os os' H Q E out hl hg rel post
  unfold gRemove at hg
  split at hg
  · rename_i xs k
    obtain ⟨v, u, rfl⟩ := two_v hl
    split at hg
    · rename_i ns hns
      split at hg
      · rename_i j hj
        cases hg
        have ex := mapM_int hns
        subst ex
        have r0 : Rel K H R ((.l _, some v) :: (.d (.int k), some u) :: L) := rel
        have eu := scal_head (x := .int k) rfl r0.drop
        subst eu
        obtain ⟨a, ws, e, ha, el, r1⟩ := r0.open
        cases e
        rw [List.length_map] at el
        have ew := ints_vals el r1
        subst ew
        obtain ⟨⟨z, hz, hpz⟩, hno⟩ := findIdx_at hj
        have ez : z = k := by simpa using hpz
        subst ez
        refine ⟨a, ns, z, j, rfl, rfl, ha, hz, fun m hm hmz => ?_, post rfl .non _ ?_⟩
        · have := hno m z hm hmz
          simp at this
        · have hjl : j < ((ns.map fun n => O.d (.int n)).zip ((ns.map V.int).map some)).length := by
            have := (List.getElem?_eq_some_iff.mp hz).1
            simpa using this
          have p := get_perm (List.getElem?_eq_getElem hjl)
          have r2 := (r1.perm (p.append_right _)).drop
          have e2 : (((ns.map fun n => O.d (.int n)).zip ((ns.map V.int).map some)).eraseIdx j) = ((ns.map fun n => O.d (.int n)).eraseIdx j).zip (((ns.eraseIdx j).map V.int).map some) := by
            rw [← zip_erase, map_erase, map_erase, map_erase]
          rw [e2] at r2
          have r3 : Rel K (upd H a (.lst ((ns.eraseIdx j).map V.int))) (a :: R) (((ns.map fun n => O.d (.int n)).eraseIdx j).zip (((ns.eraseIdx j).map V.int).map some) ++ ((.d (.int z), some (.int z)) :: L)) := r2.hand List.mem_cons_self
          have r4 := r3.close upd_same (by rw [map_erase, List.length_map, List.length_map])
          exact r4.addS (x := .none) rfl
      · cases hg
    · cases hg
  · cases hg

/-! ### xs[i] = v -/
def sStore (i : Nat) (fi fe : Sl → M O) : Sl → MS := fun S => bnd (fe S) fun o S1 => if isNo (S1.getD i .no) then none else bnd (fi S1) fun k S2 => match S2.getD i .no, k with
  | .l xs, .d (.int k) => (match ixN xs.length k with
    | some j => some (.ok .nx, S2.set i (.l (xs.set j o)))
    | none => none)
  | _, _ => none
theorem ixN_lt {n : Nat} {k : Int} {j : Nat} (h : ixN n k = some j) : j < n := (ixN_seq h).2.1
theorem ss_store {ws : List Nat} {i : Nat} {te ti : TE} {fi fe : Sl → M O} (he : SE K Y W te fe) (hi : SE K Y W ti fi) : SS K Y W ws (tAsg te (gSub (tVar i) ti rSetL)) (sStore i fi fe) := by
  intro R T S σ H D out S' hl hf rel post
  rcases bnd_cases hf with ⟨e, e1, rfl⟩ | ⟨o, S1, e1, e2⟩
  · exact he R T S σ H _ _ _ hl e1 rel (post_err post)
  · refine he R T S σ H _ _ _ hl e1 rel fun hl1 v H1 rel1 => ?_
    have rel1' : Rel K H1 R (S1.zip σ ++ ((o, some v) :: T)) := rel1.unmid
    split at e2
    · cases e2
    · rename_i hn
      obtain ⟨x, hx⟩ := slot_val hl1 (by simpa using hn) rel1'
      refine ⟨x, hx, ?_⟩
      rcases bnd_cases e2 with ⟨e, e3, rfl⟩ | ⟨k, S2, e3, e4⟩
      · exact hi R _ S1 σ H1 _ _ _ hl1 e3 rel1' fun hle cls dd H' hy r => post_err post hle cls dd H' hy r.mid.drop
      · refine hi R _ S1 σ H1 _ _ _ hl1 e3 rel1' fun hl2 u H2 rel2 => ?_
        split at e4
        · rename_i xs k' hS
          split at e4
          · rename_i j hj
            cases e4
            have eu := scal_head (x := .int k') rfl rel2
            subst eu
            have hi2 : i < S2.length := lt_of_slot hl2 hx
            have r3 : Rel K H2 R ((.l xs, some x) :: ((S2.set i .no).zip σ ++ ((o, some v) :: T))) := rel2.drop.take (by rw [getD_some hi2, hS]) hx
            obtain ⟨a, vs, e, ha, el, r4⟩ := r3.open
            cases e
            refine ⟨a, vs, k', j, rfl, rfl, ha, by rw [← el]; exact hj, ?_⟩
            have hjl : j < (xs.zip (vs.map some)).length := by
              have := ixN_lt hj
              rw [List.length_zip, List.length_map, ← el]
              omega
            have r5 : Rel K H2 (a :: R) ((o, some v) :: (xs.zip (vs.map some) ++ ((S2.set i .no).zip σ ++ T))) := by
              have q : Rel K H2 (a :: R) ((xs.zip (vs.map some) ++ (S2.set i .no).zip σ) ++ (o, some v) :: T) := by rw [List.append_assoc]; exact r4
              have q2 := q.mid
              rw [List.append_assoc] at q2
              exact q2
            have r6 : Rel K H2 (a :: R) ((xs.set j o).zip ((vs.set j v).map some) ++ ((S2.set i .no).zip σ ++ T)) := by
              have em : (vs.set j v).map some = (vs.map some).set j (some v) := List.map_set
              rw [em, zip_set]
              refine Rel.perm ?_ ((set_perm hjl).symm.append_right _)
              have p := r5.perm (.cons _ ((get_perm (List.getElem?_eq_getElem hjl)).append_right _))
              exact p.swap.drop
            have r7 := (r6.hand (u := .lst (vs.set j v)) List.mem_cons_self).close upd_same (by rw [List.length_set, List.length_set]; exact el)
            have r8 := r7.put hx
            rw [List.set_set] at r8
            exact post (by rw [List.length_set]; exact hl2) σ _ .refl r8
          · cases e4
        · cases e4

/-! ### repr -/
def repOk (d : PyData) : Bool := d.showable && !d.hasDict && d.leavesShort 400 && decide (d.weight ≤ 20000) && decide (d.depth ≤ 64)
theorem repOk_nd {d : PyData} (h : repOk d = true) : d.hasDict = false := by
  unfold repOk at h
  simp only [Bool.and_eq_true, Bool.not_eq_true'] at h
  exact h.1.1.1.2
def isDisp : PyData → Bool
  | .list _ | .tuple _ => true
  | _ => false
def dRepr : List PyData → Option PyData
  | [d] => if isDisp d && repOk d then some (.str d.shown) else none
  | _ => none
def rRepr (K : PySem.W.Frag) : List V → Hp → VK → Prop := fun xs H Q => ∃ x d, xs = [x] ∧ Dp K H x d ∧ isDisp d = true ∧ repOk d = true ∧ Q (.str d.shown) H
theorem fr_repr : FR K Y (rxn (rRepr K)) (fnD dRepr) := fr_data
  (fun ds x h => by
    unfold dRepr at h
    split at h
    · split at h
      · cases h; rfl
      · cases h
    · cases h)
  fun vs ds x H Q E hd hg q => by
    unfold dRepr at hg
    split at hg
    · rename_i d
      split at hg
      · rename_i hc
        rw [Bool.and_eq_true] at hc
        cases hg
        obtain ⟨v, rfl, a⟩ := dql1 hd
        exact ⟨v, d, rfl, Dq.dp _ _ a (repOk_nd hc.2), hc.1, hc.2, q⟩
      · cases hg
    · cases hg
theorem repOk_fits {d : PyData} (h : repOk d = true) : d.shown.length ≤ sizeLine := by
  unfold repOk at h
  simp only [Bool.and_eq_true, decide_eq_true_eq] at h
  have h1 := PyData.shown_le 400 (by decide) d h.1.1.2
  have h2 := h.1.2
  have h3 : (400 + 2) * d.weight ≤ (400 + 2) * 20000 := Nat.mul_le_mul_left _ h2
  have e := sizeLine_eq
  omega
theorem call_repr {X : Cx} {k : Nat} (hr : RG k X.A) : CallR X (.builtin "repr") (rRepr X.K) := by
  intro pins s σ H xs us Q I r h
  obtain ⟨x, d, rfl, hd, hdi, hok, q⟩ := h
  obtain ⟨u, rfl, rx⟩ := vals1 r
  obtain ⟨as, rd⟩ := Dp.reads I d x u hd rx
  have hz := repOk_fits hok
  unfold repOk at hok
  simp only [Bool.and_eq_true, decide_eq_true_eq, Bool.not_eq_true'] at hok
  obtain ⟨a, rfl⟩ : ∃ a, u = .ref a := by
    cases rd with
    | list _ _ _ _ => exact ⟨_, rfl⟩
    | tuple _ _ _ _ => exact ⟨_, rfl⟩
    | none => cases hdi
    | bool _ => cases hdi
    | int _ _ => cases hdi
    | str _ _ => cases hdi
    | dict _ _ _ _ _ => cases hdi
  have hun := hr.rm.un
  refine repr_of_reads' rd hok.1.1.1.1 (PyData.noDict_hsm hok.1.1.1.2) hr.gd (by have := hok.2; omega) (fun _ _ e => e) (fun h' t tk hk => ?_) hz
  exact ⟨.str d.shown, H, I.kept hk, ⟨t, rfl⟩, q⟩

/-! ### list(range(..)) -/
def rgOkB (a b : Int) : Bool := decide (0 ≤ a + 100000) && decide (a ≤ 100000) && decide (0 ≤ b + 100000) && decide (b ≤ 100000)
theorem rgOk_of {a b : Int} (h : rgOkB a b = true) : RgOk a b := by
  unfold rgOkB at h
  simp only [Bool.and_eq_true, decide_eq_true_eq] at h
  exact ⟨by omega, by omega, by omega, by omega, by omega⟩
def gListRg1 : Fn := fun os => match os with
  | [.d (.int n)] => if rgOkB 0 n then some (.ok (dl (rngD 0 n.toNat)), [.d (.int n)]) else none
  | _ => none
theorem rgV_eq (a b : Int) : rgV a b = (rngD a (b - a).toNat).map toV := by
  unfold rgV rngD
  rw [List.map_map]
  rfl
theorem rel_ints : ∀ {ds : List PyData} {L : List En}, ds.all scal1 = true → Rel K H R L → Rel K H R ((ds.map O.d).zip ((ds.map toV).map some) ++ L)
  | [], _, _, h => h
  | d :: ds, _, e, h => by
    rw [List.all_cons, Bool.and_eq_true] at e
    exact (rel_ints e.2 h).addS e.1
theorem rng_scal (a : Int) (n : Nat) : (rngD a n).all scal1 = true := by
  unfold rngD
  rw [List.all_map, List.all_eq_true]
  intro x _
  rfl
theorem fr_listRg1 : FR K Y (rx1 fun x H Q => ∃ n, x = .int n ∧ (RgOk 0 n ∧ ∀ q, H q = none → Q (.ref q) (upd H q (.lst (rgV 0 n))))) gListRg1 := by
  intro R L vs os os' H Q E out hl hg rel post
  unfold gListRg1 at hg
  split at hg
  · rename_i n
    obtain ⟨v, rfl⟩ := one_v hl
    split at hg
    · rename_i hc
      cases hg
      have r0 : Rel K H R ((.d (.int n), some v) :: L) := rel
      have ev := scal_head (x := .int n) rfl r0
      subst ev
      refine ⟨n, rfl, rgOk_of hc, fun c hcn => post rfl _ _ ?_⟩
      rw [rgV_eq, Int.sub_zero]
      exact Rel.newL hcn (by rw [List.length_map]) (rel_ints (rng_scal 0 n.toNat) r0)
    · cases hg
  · cases hg
def gListRg2 : Fn := fun os => match os with
  | [.d (.int i), .d (.int j)] => if rgOkB i j then some (.ok (dl (rngD i (j - i).toNat)), [.d (.int i), .d (.int j)]) else none
  | _ => none
theorem fr_listRg2 : FR K Y (rx2 fun x y H Q => ∃ i j, x = .int i ∧ y = .int j ∧ (RgOk i j ∧ ∀ q, H q = none → Q (.ref q) (upd H q (.lst (rgV i j))))) gListRg2 := by
  intro R L vs os os' H Q E out hl hg rel post
  unfold gListRg2 at hg
  split at hg
  · rename_i i j
    obtain ⟨v, u, rfl⟩ := two_v hl
    split at hg
    · rename_i hc
      cases hg
      have r0 : Rel K H R ((.d (.int i), some v) :: (.d (.int j), some u) :: L) := rel
      have ev := scal_head (x := .int i) rfl r0
      subst ev
      have eu := scal_head (x := .int j) rfl r0.drop
      subst eu
      refine ⟨i, j, rfl, rfl, rgOk_of hc, fun c hcn => post rfl _ _ ?_⟩
      rw [rgV_eq]
      exact Rel.newL hcn (by rw [List.length_map]) (rel_ints (rng_scal i (j - i).toNat) r0)
    · cases hg
  · cases hg

/-! ### all, any -/
def bOf1 : PyData → Option Bool
  | .bool b => some b
  | _ => none
theorem bools_eq : ∀ {ds : List PyData} {bs : List Bool}, ds.mapM bOf1 = some bs → ds = bs.map .bool
  | [], bs, h => by rw [List.mapM_nil] at h; cases h; rfl
  | d :: ds, bs, h => by
    rw [List.mapM_cons] at h
    cases q : bOf1 d with
    | none => rw [q] at h; cases h
    | some b =>
      rw [q] at h
      cases q2 : ds.mapM bOf1 with
      | none => rw [q2] at h; cases h
      | some cs =>
        rw [q2] at h
        cases h
        have e : d = .bool b := by
          unfold bOf1 at q
          split at q
          · cases q; rfl
          · cases q
        rw [e, bools_eq q2]; rfl
def dAll : List PyData → Option PyData
  | [.list ds] => (ds.mapM bOf1).map fun bs => .bool (bs.all id)
  | _ => none
def dAny : List PyData → Option PyData
  | [.list ds] => (ds.mapM bOf1).map fun bs => .bool (bs.any id)
  | _ => none
theorem fr_all : FR K Y (rxn (rAll K)) (fnD dAll) := fr_data
  (fun ds x h => by
    unfold dAll at h
    split at h
    · obtain ⟨j, _, e⟩ := Option.map_eq_some_iff.mp h
      rw [← e]; rfl
    · cases h)
  fun vs ds x H Q E hd hg q => by
    unfold dAll at hg
    split at hg
    · rename_i ds
      obtain ⟨bs, hb, e⟩ := Option.map_eq_some_iff.mp hg
      subst e
      obtain ⟨v, rfl, a⟩ := dql1 hd
      have eb := bools_eq hb
      cases a with
      | lst ha t =>
        have ev := DqL.scal (by rw [eb, List.all_map, List.all_eq_true]; intro x _; rfl) t
        rw [ev, eb, List.map_map] at ha
        exact ⟨_, bs, rfl, SqL.of ha, q⟩
    · cases hg
theorem fr_any : FR K Y (rxn (rAny K)) (fnD dAny) := fr_data
  (fun ds x h => by
    unfold dAny at h
    split at h
    · obtain ⟨j, _, e⟩ := Option.map_eq_some_iff.mp h
      rw [← e]; rfl
    · cases h)
  fun vs ds x H Q E hd hg q => by
    unfold dAny at hg
    split at hg
    · rename_i ds
      obtain ⟨bs, hb, e⟩ := Option.map_eq_some_iff.mp hg
      subst e
      obtain ⟨v, rfl, a⟩ := dql1 hd
      have eb := bools_eq hb
      cases a with
      | lst ha t =>
        have ev := DqL.scal (by rw [eb, List.all_map, List.all_eq_true]; intro x _; rfl) t
        rw [ev, eb, List.map_map] at ha
        exact ⟨_, bs, rfl, SqL.of ha, q⟩
    · cases hg

/-! ### isinstance(x, T), T a built-in class -/
def tyD : PyData → Option String
  | .none => some "NoneType"
  | .bool _ => some "bool"
  | .int _ => some "int"
  | .str _ => some "str"
  | .list _ => some "list"
  | .tuple _ => some "tuple"
  | .dict _ => some "dict"
def d1b (p : PyData → Option Bool) : List PyData → Option PyData
  | [d] => (p d).map .bool
  | _ => none
def isIntD : PyData → Option Bool
  | .int _ => some true
  | .bool _ => some true
  | _ => some false
def isBoolD : PyData → Option Bool
  | .bool _ => some true
  | _ => some false
def isStrD : PyData → Option Bool
  | .str _ => some true
  | _ => some false
def isListD : PyData → Option Bool
  | .list _ => some true
  | _ => some false
def isTupleD : PyData → Option Bool
  | .tuple _ => some true
  | _ => some false
theorem ty_of {v : V} {d : PyData} (h : Dq H v d) : ∃ t, tyD d = some t ∧ TyX K H v (.type t) := by
  cases h with
  | non => exact ⟨_, rfl, .base .non⟩
  | bl b => exact ⟨_, rfl, .base (.bl b)⟩
  | int i => exact ⟨_, rfl, .base (.int i)⟩
  | str x => exact ⟨_, rfl, .base (.str x)⟩
  | lst ha t => exact ⟨_, rfl, .base (.lst ha)⟩
  | tup ha t => exact ⟨_, rfl, .base (.tup ha)⟩
  | emp ha => exact ⟨_, rfl, .base (.dK ha)⟩
/-- p tells the answer of isinstance(_, T) -/
def IsiOk (T : String) (p : PyData → Option Bool) : Prop := ∀ d t b, tyD d = some t → p d = some b → kitB t T = some b
theorem isi_int : IsiOk "int" isIntD := by
  intro d t b h1 h2
  cases d <;> cases h1 <;> cases h2 <;> decide +kernel
theorem isi_bool : IsiOk "bool" isBoolD := by
  intro d t b h1 h2
  cases d <;> cases h1 <;> cases h2 <;> decide +kernel
theorem isi_str : IsiOk "str" isStrD := by
  intro d t b h1 h2
  cases d <;> cases h1 <;> cases h2 <;> decide +kernel
theorem isi_list : IsiOk "list" isListD := by
  intro d t b h1 h2
  cases d <;> cases h1 <;> cases h2 <;> decide +kernel
theorem isi_tuple : IsiOk "tuple" isTupleD := by
  intro d t b h1 h2
  cases d <;> cases h1 <;> cases h2 <;> decide +kernel
theorem fr_isi {T : String} {p : PyData → Option Bool} (hp : IsiOk T p) : FR K Y (rx1 fun x H Q => rIsi K [x, .ty T] H Q) (fnD (d1b p)) := fr_data
  (fun ds x h => by
    unfold d1b at h
    split at h
    · obtain ⟨j, _, e⟩ := Option.map_eq_some_iff.mp h
      rw [← e]; rfl
    · cases h)
  fun vs ds x H Q E hd hg q => by
    unfold d1b at hg
    split at hg
    · rename_i d
      obtain ⟨b, hb, e⟩ := Option.map_eq_some_iff.mp hg
      subst e
      obtain ⟨v, rfl, a⟩ := dql1 hd
      obtain ⟨t, h1, h2⟩ := ty_of (K := K) a
      exact ⟨v, .ty T, _, _, b, rfl, .ty T, h2, kit_ty (hp d t b h1 hb), q⟩
    · cases hg
end
end FT
/-! FT9: from a piece of the text to what it does: one rule a construct. -/
namespace FT
open PySem PySem.Spec PyProof.Rows L2
def OkE (X : Cx) (Y : YX) (W : WX) (e : Expr) (f : Sl → M O) : Prop := ∃ te, PE X e te ∧ SE X.K Y W te f
def OkT (X : Cx) (Y : YX) (W : WX) (e : Expr) (f : Sl → M Bool) : Prop := ∃ tt, PT X e tt ∧ ST X.K Y W tt f
def OkW (X : Cx) (Y : YX) (W : WX) (e : Expr) (f : Sl → M Bool) : Prop := ∃ tt, PW X e tt ∧ ST X.K Y W tt f
def OkTs (X : Cx) (Y : YX) (W : WX) (es : List Expr) (f : Sl → M Bool) : Prop := ∃ tt, PTs X es tt ∧ ST X.K Y W tt f
def OkR (X : Cx) (Y : YX) (W : WX) (e : Expr) (a : Ar) : Prop := ∃ te, PE X e te ∧ SArg X.K Y W te a
def OkA (X : Cx) (Y : YX) (W : WX) (es : List Expr) (as : List Ar) : Prop := ∃ t, PA X es t ∧ SA X.K Y W t as
def OkK (X : Cx) (Y : YX) (W : WX) (kws : List Keyword) (as : List Ar) : Prop := ∃ t, PK X kws t ∧ SA X.K Y W t as
def OkS (X : Cx) (Y : YX) (W : WX) (ws : List Nat) (st : Stmt) (f : Sl → MS) : Prop := ∃ ts, PS X st ts ∧ SS X.K Y W ws ts f
def OkI (X : Cx) (Y : YX) (W : WX) (tg it : Expr) (f : Sl → M (List PyData)) : Prop := ∃ wi, PI X tg it wi ∧ SIt X.K Y W wi f
def OkG (X : Cx) (ws : List Nat) (tg : Expr) (p : Pt) : Prop := ∃ g, PG X tg g ∧ SG X.K ws g p
def OkGs (X : Cx) (ws : List Nat) (tgs : List Expr) (ps : List Pt) : Prop := ∃ g, PGs X tgs g ∧ SGs X.K ws g ps
def OkB (X : Cx) (Y : YX) (W : WX) (e : Option Expr) (f : Option (Sl → M Int)) : Prop := ∃ t, PO X e t ∧ SB X.K Y W t f
section
variable {X : Cx} {Y : YX} {W : WX} {ws : List Nat} {e a b c : Expr} {f fa fb : Sl → M O} {ft fu : Sl → M Bool} {ra rb : Ar} {pos p p1 p2 p3 : Pos} {es : List Expr} {as : List Ar}
theorem oe_int {i : Int} {j} : OkE X Y W (.Constant (.int i) j pos) (eC (.int i)) := ⟨_, pe_int, se_c (x := .int i)⟩
theorem oe_bool {i : Bool} {j} : OkE X Y W (.Constant (.bool i) j pos) (eC (.bool i)) := ⟨_, pe_bl, se_c (x := .bool i)⟩
theorem oe_none {j} : OkE X Y W (.Constant .none j pos) (eC .none) := ⟨_, pe_non, se_c (x := .none)⟩
theorem oe_str {x : Str} {j} : OkE X Y W (.Constant (.str x) j pos) (eC (.str x)) := ⟨_, pe_str, se_c (x := .str x)⟩
theorem oe_name {i : Nat} {x : Str} (h : PE X (.Name x pos) (tVar i)) : OkE X Y W (.Name x pos) (eName i) := ⟨_, h, se_name⟩
theorem oe_move {i : Nat} {x : Str} (h : PE X (.Name x pos) (tVar i)) : OkE X Y W (.Name x pos) (eMove i) := ⟨_, h, se_move⟩
theorem or_v {i : Nat} {x : Str} (h : PE X (.Name x pos) (tVar i)) : OkR X Y W (.Name x pos) (.v i) := ⟨_, h, rfl⟩
theorem or_e (h : OkE X Y W e f) : OkR X Y W e (.e f) := h
theorem oa_nil : OkA X Y W [] [] := ⟨_, pa_nil, sa_nil⟩
theorem oa_cons (h1 : OkR X Y W e ra) (h2 : OkA X Y W es as) (hs : starEach (e :: es) X.env = (false, eval e X.env) :: starEach es X.env := by rfl) : OkA X Y W (e :: es) (ra :: as) :=
  let ⟨_, p1, s1⟩ := h1
  let ⟨_, p2, s2⟩ := h2
  ⟨_, pa_cons p1 p2 hs, sa_cons s1 s2⟩
theorem ok_nil : OkK X Y W [] [] := ⟨_, pk_nil, sa_nil⟩
theorem ok_cons {nm : Option Str} {kws : List Keyword} (h1 : OkR X Y W e ra) (h2 : OkK X Y W kws as) : OkK X Y W (⟨nm, e, pos⟩ :: kws) (ra :: as) :=
  let ⟨_, p1, s1⟩ := h1
  let ⟨_, p2, s2⟩ := h2
  ⟨_, pk_cons p1 p2, sa_cons s1 s2⟩
/-! ### operators -/
theorem oe_op {op : Operator} {r : R2} {g : Fn} (ho : OpR X (binaryOp op) r) (hr : FR X.K Y (rx2 r) g) (ha : OkR X Y W a ra) (hb : OkR X Y W b rb) : OkE X Y W (.BinOp a op b pos) (eApp g [ra, rb]) :=
  let ⟨_, q1, s1⟩ := ha
  let ⟨_, q2, s2⟩ := hb
  ⟨_, pe_op ho q1 q2, se_app2 s1 s2 hr⟩
def dAddS : List PyData → Option PyData
  | [.str x, .str y] => if x.length + y.length ≤ LIM then some (.str (x ++ y)) else none
  | _ => none
theorem fr_addS {K : PySem.W.Frag} : FR K Y (rx2 fun x y H Q => ∃ i j, x = .str i ∧ y = .str j ∧ i.length + j.length ≤ sizeLine ∧ Q (.str (i ++ j)) H) (fnD dAddS) := fr_data
  (fun ds x h => by
    unfold dAddS at h
    split at h
    · split at h
      · cases h; rfl
      · cases h
    · cases h)
  fun vs ds x H Q E hd hg q => by
    unfold dAddS at hg
    split at hg
    · split at hg
      · rename_i hc
        cases hg
        obtain ⟨v, u, rfl, a, b⟩ := dql2 hd
        cases a; cases b
        exact ⟨_, _, rfl, rfl, LIM_le hc, q⟩
      · cases hg
    · cases hg
def gAdd : Fn := orF (fnD (dII fun i j => i + j)) (orF (fnD dAddS) gCat)
def rAdd3 : R2 := fun x y H Q => rI0 (fun i j => .int (i + j)) x y H Q ∨ ((∃ i j, x = .str i ∧ y = .str j ∧ i.length + j.length ≤ sizeLine ∧ Q (.str (i ++ j)) H) ∨ rCat x y H Q)
theorem fr_rx2or {K : PySem.W.Frag} {r1 r2 : R2} {g1 g2 : Fn} (h1 : FR K Y (rx2 r1) g1) (h2 : FR K Y (rx2 r2) g2) : FR K Y (rx2 fun x y H Q => r1 x y H Q ∨ r2 x y H Q) (orF g1 g2) := fr_imp (fr_or h1 h2) fun vs H Q E h => by
  match vs, h with
  | [x, y], h => exact h
  | [], h => exact h.elim id id
  | [_], h => exact h.elim id id
  | _ :: _ :: _ :: _, h => exact h.elim id id
theorem oe_add (ha : OkR X Y W a ra) (hb : OkR X Y W b rb) : OkE X Y W (.BinOp a .Add b pos) (eApp gAdd [ra, rb]) :=
  oe_op (r := rAdd3) (OpR.or op_add (OpR.or op_add_str op_cat)) (fr_rx2or fr_II (fr_rx2or fr_addS fr_cat)) ha hb
theorem oe_sub (ha : OkR X Y W a ra) (hb : OkR X Y W b rb) : OkE X Y W (.BinOp a .Sub b pos) (eApp (fnD (dII fun i j => i - j)) [ra, rb]) := oe_op op_sub fr_II ha hb
def gMul : Fn := orF (fnD (dIIc cMul fun i j => i * j)) gRep
theorem oe_mul (ha : OkR X Y W a ra) (hb : OkR X Y W b rb) : OkE X Y W (.BinOp a .Mult b pos) (eApp gMul [ra, rb]) := oe_op (OpR.or op_mulA op_rep) (fr_rx2or (fr_IIc cMul_ok) fr_rep) ha hb
theorem oe_fdiv (ha : OkR X Y W a ra) (hb : OkR X Y W b rb) : OkE X Y W (.BinOp a .FloorDiv b pos) (eApp (fnD (dIIc cDiv fun i j => i / j)) [ra, rb]) := oe_op op_fdivW (fr_IIc cDiv_ok) ha hb
theorem oe_mod (ha : OkR X Y W a ra) (hb : OkR X Y W b rb) : OkE X Y W (.BinOp a .Mod b pos) (eApp (fnD (dIIc cMod fun i j => i % j)) [ra, rb]) := oe_op op_mod (fr_IIc fun _ _ h => of_decide_eq_true h) ha hb
theorem oe_pow (ha : OkR X Y W a ra) (hb : OkR X Y W b rb) : OkE X Y W (.BinOp a .Pow b pos) (eApp (fnD (dIIc cPow fun i j => i ^ j.toNat)) [ra, rb]) := oe_op op_powA (fr_IIc cPow_ok) ha hb
theorem oe_neg (ha : OkR X Y W a ra) : OkE X Y W (.UnaryOp .USub a pos) (eApp (fnD (dI fun i => -i)) [ra]) :=
  let ⟨te, q1, s1⟩ := ha
  ⟨_, pe_un un_neg q1, se_app1 (te := te) (r := rU fun i => .int (-i)) s1 fr_I⟩
/-! ### comparisons -/
theorem oe_cmp {op : CmpOp} {r : R2} {g : Fn} (ho : OpR X (compareOp op) r) (hr : FR X.K Y (rx2 r) g) (ha : OkR X Y W a ra) (hb : OkR X Y W b rb) (hm : behindInMarks op b = false) : OkE X Y W (.Compare a [op] [b] pos) (eApp g [ra, rb]) :=
  let ⟨_, q1, s1⟩ := ha
  let ⟨_, q2, s2⟩ := hb
  ⟨_, pe_cmpR ho q1 q2 hm, se_app2 s1 s2 hr⟩
theorem ot_cmp {op : CmpOp} {r : R2} {g : Fn} (ho : OpR X (compareOp op) r) (hr : FR X.K Y (rx2 r) g) (ha : OkR X Y W a ra) (hb : OkR X Y W b rb) (hm : behindInMarks op b = false) : OkT X Y W (.Compare a [op] [b] pos) (tVal (eApp g [ra, rb])) :=
  let ⟨_, q1, s1⟩ := ha
  let ⟨_, q2, s2⟩ := hb
  ⟨_, pt_cmpR ho q1 q2 hm, st_val (se_app2 s1 s2 hr)⟩
def cEq : Fn := fnD dEq
def cNe : Fn := fnD dNe
def cLt : Fn := fnD (dIIb fun i j => decide (i < j))
def cLe : Fn := fnD (dIIb fun i j => decide (i ≤ j))
def cGt : Fn := fnD (dIIb fun i j => decide (j < i))
def cGe : Fn := fnD (dIIb fun i j => decide (j ≤ i))
def cIsN : Fn := fnD dIsN
def cNotN : Fn := fnD dNotN
def cIn : Fn := fnD dIn
def cNotIn : Fn := fnD dNotIn
variable {k : Nat}
theorem units64 (hr : RG k X.A) : X.A.units + 64 < cLine := hr.rm.units
theorem units65 (hr : RG k X.A) : X.A.units + 65 < cLine := by have := hr.rm.un; omega
theorem oe_eq (hr : RG k X.A) (ha : OkR X Y W a ra) (hb : OkR X Y W b rb) : OkE X Y W (.Compare a [.Eq] [b] pos) (eApp cEq [ra, rb]) := oe_cmp (OpR.or op_eq (op_eqD (units64 hr))) fr_eq ha hb (nomark _)
theorem ot_eq (hr : RG k X.A) (ha : OkR X Y W a ra) (hb : OkR X Y W b rb) : OkT X Y W (.Compare a [.Eq] [b] pos) (tVal (eApp cEq [ra, rb])) := ot_cmp (OpR.or op_eq (op_eqD (units64 hr))) fr_eq ha hb (nomark _)
theorem oe_ne (hr : RG k X.A) (ha : OkR X Y W a ra) (hb : OkR X Y W b rb) : OkE X Y W (.Compare a [.NotEq] [b] pos) (eApp cNe [ra, rb]) := oe_cmp (OpR.or op_ne (op_neD (units64 hr))) fr_ne ha hb (nomark _)
theorem ot_ne (hr : RG k X.A) (ha : OkR X Y W a ra) (hb : OkR X Y W b rb) : OkT X Y W (.Compare a [.NotEq] [b] pos) (tVal (eApp cNe [ra, rb])) := ot_cmp (OpR.or op_ne (op_neD (units64 hr))) fr_ne ha hb (nomark _)
theorem oe_lt (ha : OkR X Y W a ra) (hb : OkR X Y W b rb) : OkE X Y W (.Compare a [.Lt] [b] pos) (eApp cLt [ra, rb]) := oe_cmp op_lt fr_IIb ha hb (nomark _)
theorem ot_lt (ha : OkR X Y W a ra) (hb : OkR X Y W b rb) : OkT X Y W (.Compare a [.Lt] [b] pos) (tVal (eApp cLt [ra, rb])) := ot_cmp op_lt fr_IIb ha hb (nomark _)
theorem oe_le (ha : OkR X Y W a ra) (hb : OkR X Y W b rb) : OkE X Y W (.Compare a [.LtE] [b] pos) (eApp cLe [ra, rb]) := oe_cmp op_le fr_IIb ha hb (nomark _)
theorem ot_le (ha : OkR X Y W a ra) (hb : OkR X Y W b rb) : OkT X Y W (.Compare a [.LtE] [b] pos) (tVal (eApp cLe [ra, rb])) := ot_cmp op_le fr_IIb ha hb (nomark _)
theorem oe_gt (ha : OkR X Y W a ra) (hb : OkR X Y W b rb) : OkE X Y W (.Compare a [.Gt] [b] pos) (eApp cGt [ra, rb]) := oe_cmp op_gt fr_IIb ha hb (nomark _)
theorem ot_gt (ha : OkR X Y W a ra) (hb : OkR X Y W b rb) : OkT X Y W (.Compare a [.Gt] [b] pos) (tVal (eApp cGt [ra, rb])) := ot_cmp op_gt fr_IIb ha hb (nomark _)
theorem oe_ge (ha : OkR X Y W a ra) (hb : OkR X Y W b rb) : OkE X Y W (.Compare a [.GtE] [b] pos) (eApp cGe [ra, rb]) := oe_cmp op_ge fr_IIb ha hb (nomark _)
theorem ot_ge (ha : OkR X Y W a ra) (hb : OkR X Y W b rb) : OkT X Y W (.Compare a [.GtE] [b] pos) (tVal (eApp cGe [ra, rb])) := ot_cmp op_ge fr_IIb ha hb (nomark _)
theorem oe_isN (ha : OkR X Y W a ra) (hb : OkR X Y W b rb) : OkE X Y W (.Compare a [.Is] [b] pos) (eApp cIsN [ra, rb]) := oe_cmp op_isN fr_isN ha hb (nomark _)
theorem ot_isN (ha : OkR X Y W a ra) (hb : OkR X Y W b rb) : OkT X Y W (.Compare a [.Is] [b] pos) (tVal (eApp cIsN [ra, rb])) := ot_cmp op_isN fr_isN ha hb (nomark _)
theorem oe_notN (ha : OkR X Y W a ra) (hb : OkR X Y W b rb) : OkE X Y W (.Compare a [.IsNot] [b] pos) (eApp cNotN [ra, rb]) := oe_cmp op_notN fr_notN ha hb (nomark _)
theorem ot_notN (ha : OkR X Y W a ra) (hb : OkR X Y W b rb) : OkT X Y W (.Compare a [.IsNot] [b] pos) (tVal (eApp cNotN [ra, rb])) := ot_cmp op_notN fr_notN ha hb (nomark _)
theorem oe_in (hr : RG k X.A) (ha : OkR X Y W a ra) (hb : OkR X Y W b rb) (hm : behindInMarks .In b = false := by rfl) : OkE X Y W (.Compare a [.In] [b] pos) (eApp cIn [ra, rb]) := oe_cmp (op_inD (units65 hr)) fr_in ha hb hm
theorem ot_in (hr : RG k X.A) (ha : OkR X Y W a ra) (hb : OkR X Y W b rb) (hm : behindInMarks .In b = false := by rfl) : OkT X Y W (.Compare a [.In] [b] pos) (tVal (eApp cIn [ra, rb])) := ot_cmp (op_inD (units65 hr)) fr_in ha hb hm
theorem oe_notIn (hr : RG k X.A) (ha : OkR X Y W a ra) (hb : OkR X Y W b rb) (hm : behindInMarks .NotIn b = false := by rfl) : OkE X Y W (.Compare a [.NotIn] [b] pos) (eApp cNotIn [ra, rb]) := oe_cmp (op_notInD (units65 hr)) fr_notIn ha hb hm
theorem ot_notIn (hr : RG k X.A) (ha : OkR X Y W a ra) (hb : OkR X Y W b rb) (hm : behindInMarks .NotIn b = false := by rfl) : OkT X Y W (.Compare a [.NotIn] [b] pos) (tVal (eApp cNotIn [ra, rb])) := ot_cmp (op_notInD (units65 hr)) fr_notIn ha hb hm
/-! ### truth -/
theorem ot_val (h : OkE X Y W e f) (he : ∀ whole, isTrue e X.env whole = (do let v ← whole; standAt e.pos; holding [v] (truthy v)) := by intro _; rfl) : OkT X Y W e (tVal f) :=
  let ⟨_, q, s⟩ := h
  ⟨_, pt_val q he, st_val s⟩
theorem ow_and1 (h : OkT X Y W a ft) : OkW X Y W (.BoolOp .And [a] pos) ft := let ⟨_, q, s⟩ := h; ⟨_, pw_and1 q, s⟩
theorem ow_or1 (h : OkT X Y W a ft) : OkW X Y W (.BoolOp .Or [a] pos) ft := let ⟨_, q, s⟩ := h; ⟨_, pw_or1 q, s⟩
theorem ow_and (h1 : OkT X Y W a ft) (h2 : OkW X Y W (.BoolOp .And (b :: es) pos) fu) : OkW X Y W (.BoolOp .And (a :: b :: es) pos) (tAn ft fu) :=
  let ⟨_, q1, s1⟩ := h1
  let ⟨_, q2, s2⟩ := h2
  ⟨_, pw_and q1 q2, st_and s1 s2⟩
theorem ow_or (h1 : OkT X Y W a ft) (h2 : OkW X Y W (.BoolOp .Or (b :: es) pos) fu) : OkW X Y W (.BoolOp .Or (a :: b :: es) pos) (tO ft fu) :=
  let ⟨_, q1, s1⟩ := h1
  let ⟨_, q2, s2⟩ := h2
  ⟨_, pw_or q1 q2, st_or s1 s2⟩
theorem ot_w (h : OkW X Y W e ft) : OkT X Y W e ft := let ⟨_, q, s⟩ := h; ⟨_, q.pt, s⟩
theorem ot_not (h : OkT X Y W a ft) : OkT X Y W (.UnaryOp .Not a pos) (tN ft) := let ⟨_, q, s⟩ := h; ⟨_, pt_not q, st_not s⟩
theorem ots_nil : OkTs X Y W [] tT := ⟨_, pts_nil, st_yes'⟩
theorem ots_one (h : OkT X Y W a ft) : OkTs X Y W [a] ft := let ⟨_, q, s⟩ := h; ⟨_, pts_one q, s⟩
theorem oe_one {op} (h : OkE X Y W a fa) : OkE X Y W (.BoolOp op [a] pos) fa := let ⟨_, q, s⟩ := h; ⟨_, pe_one q, s⟩
theorem oe_and (h1 : OkE X Y W a fa) (h2 : OkE X Y W (.BoolOp .And (b :: es) pos) fb) : OkE X Y W (.BoolOp .And (a :: b :: es) pos) (eAnd fa fb) :=
  let ⟨_, q1, s1⟩ := h1
  let ⟨_, q2, s2⟩ := h2
  ⟨_, pe_and q1 q2, se_and s1 s2⟩
theorem oe_or (h1 : OkE X Y W a fa) (h2 : OkE X Y W (.BoolOp .Or (b :: es) pos) fb) : OkE X Y W (.BoolOp .Or (a :: b :: es) pos) (eOr fa fb) :=
  let ⟨_, q1, s1⟩ := h1
  let ⟨_, q2, s2⟩ := h2
  ⟨_, pe_or q1 q2, se_or s1 s2⟩
theorem oe_not (h : OkE X Y W a fa) : OkE X Y W (.UnaryOp .Not a pos) (eNot fa) := let ⟨_, q, s⟩ := h; ⟨_, pe_not q, se_not s⟩
theorem oe_if (hc : OkT X Y W c ft) (h1 : OkE X Y W a fa) (h2 : OkE X Y W b fb) : OkE X Y W (.IfExp c a b pos) (eIf ft fa fb) :=
  let ⟨_, q0, s0⟩ := hc
  let ⟨_, q1, s1⟩ := h1
  let ⟨_, q2, s2⟩ := h2
  ⟨_, pe_ifExp q0 q1 q2, se_if s0 s1 s2⟩
/-! ### displays, items, slices -/
theorem oe_lst (h : OkA X Y W es as) : OkE X Y W (.List es pos) (eApp gLst as) := let ⟨_, q, s⟩ := h; ⟨_, pe_lst q, se_lst s⟩
theorem oe_tup {j} (h : OkA X Y W es as) : OkE X Y W (.Tuple es j pos) (eApp gTupF as) := let ⟨_, q, s⟩ := h; ⟨_, pe_tup q, se_tup s⟩
theorem oe_item (ha : OkR X Y W a ra) (hb : OkR X Y W b rb) (hs : PlainIx b := by exact fun _ _ => rfl) : OkE X Y W (.Subscript a b pos) (eApp gItem [ra, rb]) :=
  let ⟨_, q1, s1⟩ := ha
  let ⟨_, q2, s2⟩ := hb
  ⟨_, pe_ix ix_seq q1 q2 hs, se_app2 s1 s2 fr_item⟩
theorem ob_none : OkB X Y W none none := ⟨_, po_none, sb_none⟩
theorem ob_some (h : OkE X Y W e f) : OkB X Y W (some e) (some (ckI f)) := let ⟨_, q, s⟩ := h; ⟨_, po_some q, sb_some s⟩
theorem oe_slV {i : Nat} {x : Str} {lo hi : Option Expr} {fl fh : Option (Sl → M Int)} (h : PE X (.Name x p) (tVar i)) (hl : OkB X Y W lo fl) (hh : OkB X Y W hi fh) : OkE X Y W (.Subscript (.Name x p) (.Slice lo hi none p2) pos) (eSlV i fl fh) :=
  let ⟨_, q1, s1⟩ := hl
  let ⟨_, q2, s2⟩ := hh
  ⟨_, pe_slice (SlR.or sl_list sl_str) h q1 q2, se_slV s1 s2⟩
theorem oe_slE {lo hi : Option Expr} {fl fh : Option (Sl → M Int)} (h : OkE X Y W e f) (hl : OkB X Y W lo fl) (hh : OkB X Y W hi fh) : OkE X Y W (.Subscript e (.Slice lo hi none p2) pos) (eSlE f fl fh) :=
  let ⟨_, q0, s0⟩ := h
  let ⟨_, q1, s1⟩ := hl
  let ⟨_, q2, s2⟩ := hh
  ⟨_, pe_slice (SlR.or sl_list sl_str) q0 q1 q2, se_slE s0 s1 s2⟩
theorem oe_revL {j : Nat} (h : OkR X Y W e ra) : OkE X Y W (.Subscript e (.Slice none none (some (.UnaryOp .USub (.Constant (.int 1) j p1) p2)) p3) pos) (eApp gRevL [ra]) :=
  let ⟨te, q, s⟩ := h
  ⟨_, pe_revL q, se_app1 (te := te) s fr_revL⟩
/-! ### built-ins by name -/
theorem oe_blt {id : String} {x : Str} {r : List V → Hp → VK → Prop} {g : Fn} (hc : CallR X (.builtin id) r) (hr : FR X.K Y (rxn r) g) (hm : X.mg x = none) (hv : bootBuiltins x = some (.builtin id)) (ha : OkA X Y W (e :: es) as) (hg : Gl X x := by rfl)
    (hn : x ≠ "__name__" := by decide) (hdb : (x == ("__debug__" : Str)) = false := by decide) (he : starEach (e :: es) X.env = (false, eval e X.env) :: starEach es X.env := by rfl) (hpl : (backTo pos (starEach es X.env)).any (·.1) = false := by rfl) :
    OkE X Y W (.Call (.Name x p) (e :: es) [] pos) (eApp g as) := let ⟨_, q, s⟩ := ha; ⟨_, pe_callB hc hg hm hv q hn hdb he hpl, se_appn s hr⟩
theorem oe_bty {T : String} {x : Str} {r : List V → Hp → VK → Prop} {g : Fn} (hc : CallR X (.type T) r) (hr : FR X.K Y (rxn r) g) (hm : X.mg x = none) (hv : bootBuiltins x = some (.type T)) (ha : OkA X Y W (e :: es) as) (hg : Gl X x := by rfl)
    (hn : x ≠ "__name__" := by decide) (hdb : (x == ("__debug__" : Str)) = false := by decide) (he : starEach (e :: es) X.env = (false, eval e X.env) :: starEach es X.env := by rfl) (hpl : (backTo pos (starEach es X.env)).any (·.1) = false := by rfl) :
    OkE X Y W (.Call (.Name x p) (e :: es) [] pos) (eApp g as) := let ⟨_, q, s⟩ := ha; ⟨_, pe_callTy hc hg hm hv q hn hdb he hpl, se_appn s hr⟩
/-- isinstance(x, T) -/
theorem oe_isi {T : String} {y : Str} {q2 : Pos} {pd : PyData → Option Bool} (hp : IsiOk T pd) (ha : OkR X Y W a ra) (hm : X.mg "isinstance" = none) (hmT : X.mg y = none) (hvT : bootBuiltins y = some (.type T)) (hg : Gl X "isinstance" := by rfl) (hgT : Gl X y := by rfl) (hnT : y ≠ "__name__" := by decide) (hdT : (y == ("__debug__" : Str)) = false := by decide)
    (he : starEach [a, .Name y q2] X.env = (false, eval a X.env) :: starEach [.Name y q2] X.env := by rfl) (he2 : starEach [.Name y q2] X.env = (false, eval (.Name y q2) X.env) :: starEach [] X.env := by rfl) (hpl : (backTo pos (starEach [.Name y q2] X.env)).any (·.1) = false := by rfl) :
    OkE X Y W (.Call (.Name "isinstance" p) [a, .Name y q2] [] pos) (eApp (fnD (d1b pd)) [ra]) :=
  let ⟨te, q, s⟩ := ha
  ⟨_, pe_callB (x := "isinstance") call_isi hg hm (by decide +kernel) (pa_cons q (pa_cons (pe_bltn (v := .ty T) hgT hmT hvT rfl hnT hdT) pa_nil he2) he) (by decide) (by decide) he hpl, se_app1 (te := te) s (fr_isi hp)⟩
theorem oe_listRg1 (hc : X.calm = true) (ha : OkR X Y W a ra) (hl : X.mg "list" = none) (hr : X.mg "range" = none) (gl : Gl X "list" := by rfl) (gr : Gl X "range" := by rfl) (na : starEach [a] X.env = (false, eval a X.env) :: starEach [] X.env := by rfl)
    (nb : starEach [.Call (.Name "range" p1) [a] [] p2] X.env = (false, eval (.Call (.Name "range" p1) [a] [] p2) X.env) :: starEach [] X.env := by rfl) : OkE X Y W (.Call (.Name "list" p) [.Call (.Name "range" p1) [a] [] p2] [] pos) (eApp gListRg1 [ra]) :=
  let ⟨te, q, s⟩ := ha
  ⟨_, pe_listRg hc gl hl (prg_1 gr hr q na) nb, se_app1 (te := te) s fr_listRg1⟩
theorem oe_listRg2 (hc : X.calm = true) (ha : OkR X Y W a ra) (hb : OkR X Y W b rb) (hl : X.mg "list" = none) (hr : X.mg "range" = none) (gl : Gl X "list" := by rfl) (gr : Gl X "range" := by rfl) (na : starEach [a, b] X.env = (false, eval a X.env) :: starEach [b] X.env := by rfl) (nb : starEach [b] X.env = (false, eval b X.env) :: starEach [] X.env := by rfl) (hp : (backTo p2 (starEach [b] X.env)).any (·.1) = false := by rfl)
    (nc : starEach [.Call (.Name "range" p1) [a, b] [] p2] X.env = (false, eval (.Call (.Name "range" p1) [a, b] [] p2) X.env) :: starEach [] X.env := by rfl) : OkE X Y W (.Call (.Name "list" p) [.Call (.Name "range" p1) [a, b] [] p2] [] pos) (eApp gListRg2 [ra, rb]) :=
  let ⟨_, q1, s1⟩ := ha
  let ⟨_, q2, s2⟩ := hb
  ⟨_, pe_listRg hc gl hl (prg_2 gr hr q1 q2 na nb hp) nc, se_app2 s1 s2 fr_listRg2⟩
/-! ### methods of lists -/
theorem oe_meth {i : Nat} {x name : Str} {id : String} {r : V → List V → Hp → VK → Prop} {g : Fn} {q1 q2 q3 : Pos} (slot : Slot "list" name id) (hty : typeOf (.builtin id) = pure (.type "method_descriptor")) (hm : MtR X id r) (hr : FR X.K Y (rxm r) g) (h : PE X (.Name x q1) (tVar i)) (ha : OkA X Y W (e :: es) as)
    (hbase : attributeBase (.Name x q1) name X.env (eval (.Name x q1) X.env) = eval (.Name x q1) X.env := by rfl)
    (hfew : ((backTo q3 (starEach (e :: es) X.env)).all (fun x => !x.1) && (backToKw q3 (keywordEach [] X.env)).all (fun x => x.1.isSome)
      && decide ((e :: es).length + ([] : List Keyword).length + (if ([] : List Keyword).isEmpty then 0 else 1) < 30)) = true := by rfl)
    (hline : (q2.endLine == q3.line) = true := by rfl) (hs : starEach (e :: es) X.env = (false, eval e X.env) :: starEach es X.env := by rfl) (hplain : (backTo q3 (starEach es X.env)).any (·.1) = false := by rfl) :
    OkE X Y W (.Call (.Attribute (.Name x q1) name q2) (e :: es) [] q3) (eMeth g i as) := let ⟨_, q, s⟩ := ha; ⟨_, pe_bm PySem.F.plainAttrs_list slot hty hm h q hbase hfew hline hs hplain, se_meth s hr⟩
theorem oe_meth0 {i : Nat} {x name : Str} {id : String} {r : V → List V → Hp → VK → Prop} {g : Fn} {q1 q2 q3 : Pos} (slot : Slot "list" name id) (hty : typeOf (.builtin id) = pure (.type "method_descriptor")) (hm : MtR X id r) (hr : FR X.K Y (rxm r) g) (h : PE X (.Name x q1) (tVar i))
    (hbase : attributeBase (.Name x q1) name X.env (eval (.Name x q1) X.env) = eval (.Name x q1) X.env := by rfl) (hline : (q2.endLine == q3.line) = true := by rfl) :
    OkE X Y W (.Call (.Attribute (.Name x q1) name q2) [] [] q3) (eMeth g i []) := ⟨_, pe_bm0 PySem.F.plainAttrs_list slot hty hm h hbase hline, se_meth0 hr⟩
/-! ### calls of the text's own defs -/
section
variable {fA : Addr} {fd : FuncData} {ps ks : List Str} {g : Fn} {x : Str} {kws : List Keyword} {rv : Bool}
theorem oe_call (G : FnG X.prog X.w X.K X.mg X.base Y k fA fd ps g) (hr : RG k X.A) (tk : L2N.Takes X W) (hm : X.mg x = some (.ref fA)) (hk : PySem.W.keepIn X.K (.ref fA) = true) (hb : Binds X.K fd ps []) (ha : OkA X Y W (e :: es) as) (hg : Gl X x := by rfl) (hdb : (x == ("__debug__" : Str)) = false := by decide)
    (he : starEach (e :: es) X.env = (false, eval e X.env) :: starEach es X.env := by rfl) (hpl : (backTo pos (starEach es X.env)).any (·.1) = false := by rfl) : OkE X Y W (.Call (.Name x p) (e :: es) [] pos) (eApp g as) :=
  let ⟨_, q, s⟩ := ha
  ⟨_, pe_callG G hr hg hm hk hb tk q hdb he hpl, se_app s fr_call⟩
theorem oe_call0 (G : FnG X.prog X.w X.K X.mg X.base Y k fA fd ps g) (hr : RG k X.A) (tk : L2N.Takes X W) (hm : X.mg x = some (.ref fA)) (hk : PySem.W.keepIn X.K (.ref fA) = true) (hb : Binds X.K fd ps []) (hg : Gl X x := by rfl) (hdb : (x == ("__debug__" : Str)) = false := by decide) :
    OkE X Y W (.Call (.Name x p) [] [] pos) (eApp g []) := ⟨_, pe_callG0 G hr hg hm hk hb tk hdb, se_app sa_nil fr_call⟩
theorem oe_callK (G : FnG X.prog X.w X.K X.mg X.base Y k fA fd ps g) (hr : RG k X.A) (tk : L2N.Takes X W) (hm : X.mg x = some (.ref fA)) (hk : PySem.W.keepIn X.K (.ref fA) = true) (hb : KwB X.K fd ps ks rv) (ha : OkK X Y W kws as) (hg : Gl X x := by rfl)
    (hall : (backToKw pos (keywordEach kws X.env)).all (·.1.isSome) = true := by rfl) (hks : (backToKw pos (keywordEach kws X.env)).filterMap (·.1) = ks := by rfl) (hdb : (x == ("__debug__" : Str)) = false := by decide)
    (hpl : ((backTo pos (starEach [] X.env)).any (·.1) || (backToKw pos (keywordEach kws X.env)).any (·.1.isNone)) = false := by rfl) : OkE X Y W (.Call (.Name x p) [] kws pos) (eApp (revF rv g) as) :=
  let ⟨_, q, s⟩ := ha
  ⟨_, pe_callGK G hr hg hm hk hb tk q hall hks hdb hpl, se_app s (fr_revF fr_call)⟩
end
/-! ### what is walked -/
variable {tg : Expr} {src : Sl → M (List PyData)} {pt : Pt}
theorem oi_list (h : OkE X Y W e f) : OkI X Y W tg e (wList f) := let ⟨_, q, s⟩ := h; ⟨_, pi_list q, si_list s⟩
theorem oi_tup (h : OkE X Y W e f) : OkI X Y W tg e (wTup f) := let ⟨_, q, s⟩ := h; ⟨_, pi_tup q, si_tup s⟩
theorem oi_range1 (h : OkA X Y W [a] as) (hm : X.mg "range" = none) (hg : Gl X "range" := by rfl) (hs : starEach [a] X.env = [(false, eval a X.env)] := by rfl) : OkI X Y W tg (.Call (.Name "range" p) [a] [] pos) (wArgs as kRng1) :=
  let ⟨_, q, s⟩ := h; ⟨_, pi_range1 hg hm q hs, si_range1 s⟩
theorem oi_range2 (h : OkA X Y W [a, b] as) (hm : X.mg "range" = none) (hg : Gl X "range" := by rfl) (hs : starEach [a, b] X.env = [(false, eval a X.env), (false, eval b X.env)] := by rfl) (hs2 : starEach [b] X.env = [(false, eval b X.env)] := by rfl) : OkI X Y W tg (.Call (.Name "range" p) [a, b] [] pos) (wArgs as kRng2) :=
  let ⟨_, q, s⟩ := h; ⟨_, pi_range2 hg hm q hs hs2, si_range2 s⟩
theorem oi_enum {kk : Nat} (h : OkA X Y W [a] as) (hm : X.mg "enumerate" = none) (hg : Gl X "enumerate" := by rfl) (hs : starEach [a] X.env = [(false, eval a X.env)] := by rfl) : OkI X Y W (.Tuple es kk p1) (.Call (.Name "enumerate" p) [a] [] pos) (wArgs as kEnum) :=
  let ⟨_, q, s⟩ := h; ⟨_, pi_enum hg hm q hs, si_enum s⟩
theorem oi_zip {kk : Nat} (h : OkA X Y W [a, b] as) (hm : X.mg "zip" = none) (hg : Gl X "zip" := by rfl) (hs : starEach [a, b] X.env = (false, eval a X.env) :: starEach [b] X.env := by rfl) (hpl : (backTo pos (starEach [b] X.env)).any (·.1) = false := by rfl) : OkI X Y W (.Tuple es kk p1) (.Call (.Name "zip" p) [a, b] [] pos) (wArgs as kZip) :=
  let ⟨_, q, s⟩ := h; ⟨_, pi_zip hg hm q hs hpl, si_zip s⟩
theorem oi_rev (h : OkA X Y W [a] as) (hm : X.mg "reversed" = none) (hg : Gl X "reversed" := by rfl) (hs : starEach [a] X.env = [(false, eval a X.env)] := by rfl) : OkI X Y W tg (.Call (.Name "reversed" p) [a] [] pos) (wArgs as kRev) :=
  let ⟨_, q, s⟩ := h; ⟨_, pi_reversed hg hm q hs, si_rev s⟩
def wRevR (f : Sl → M O) : Sl → M (List PyData) := fun S => bnd (f S) fun o S1 => match o with
  | .d (.int n) => if inB n then some (.ok (revD 0 n.toNat), S1) else none
  | _ => none
theorem si_revr {K : PySem.W.Frag} {te : TE} (h : SE K Y W te f) : SIt K Y W (iRevR (tRg1 te)) (wRevR f) := by
  intro R T S σ H Rr out S' hl hf rel post
  rcases bnd_cases hf with ⟨e, e1, rfl⟩ | ⟨o, S1, e1, e2⟩
  · exact h R T S σ H _ _ _ hl e1 rel fun hl' => post hl'
  · refine h R T S σ H _ _ _ hl e1 rel fun hl' v H1 rel1 => ?_
    split at e2
    · rename_i n
      split at e2
      · rename_i hb
        cases e2
        have ev := scal_head (x := .int n) rfl rel1
        subst ev
        obtain ⟨b1, b2⟩ := inB_of hb
        refine ⟨n, rfl, by decide, by decide, b1, b2, ?_⟩
        have e0 : (n - 0).toNat = n.toNat := by rw [Int.sub_zero]
        rw [e0]
        exact post hl' _ [] H1 (iter_revr (lo := 0) (n := n.toNat)) rel1.drop
      · cases e2
    · cases e2
theorem oi_revr (h : OkE X Y W a f) (hm : X.mg "reversed" = none) (hr : X.mg "range" = none) (hg : Gl X "reversed" := by rfl) (gr : Gl X "range" := by rfl) (na : starEach [a] X.env = (false, eval a X.env) :: starEach [] X.env := by rfl)
    (nb : starEach [.Call (.Name "range" p1) [a] [] p2] X.env = (false, eval (.Call (.Name "range" p1) [a] [] p2) X.env) :: starEach [] X.env := by rfl) : OkI X Y W tg (.Call (.Name "reversed" p) [.Call (.Name "range" p1) [a] [] p2] [] pos) (wRevR f) :=
  let ⟨_, q, s⟩ := h; ⟨_, pi_revR hg hm (prg_1 gr hr q na) nb, si_revr s⟩
/-! ### targets -/
theorem og_name {i : Nat} {x : Str} (h : PG X (.Name x pos) (gName i)) (hi : i ∈ ws) : OkG X ws (.Name x pos) (.nm i) := ⟨_, h, sg_name hi⟩
theorem ogs_nil : OkGs X ws [] [] := ⟨_, pgs_nil, sgs_nil⟩
theorem ogs_cons {ps : List Pt} (h1 : OkG X ws e pt) (h2 : OkGs X ws es ps) (hs : (assignEach (e :: es) X.env).map (·.2) = assign e X.env :: (assignEach es X.env).map (·.2) := by rfl) : OkGs X ws (e :: es) (pt :: ps) :=
  let ⟨_, q1, s1⟩ := h1
  let ⟨_, q2, s2⟩ := h2
  ⟨_, pgs_cons q1 q2 hs, sgs_cons s1 s2⟩
theorem og_tup {j : Nat} {ps : List Pt} (hc : X.calm = true) (h : OkGs X ws es ps) (hn : (assignEach es X.env).length = ps.length := by rfl) (hst : (assignEach es X.env).findIdx? (·.1) = none := by rfl) : OkG X ws (.Tuple es j pos) (.tp ps) :=
  let ⟨_, q, s⟩ := h
  ⟨_, pg_tup hc q hn hst, sg_tup s rfl⟩
/-! ### comprehensions -/
section
/-- the weakest reading of an expression, a test, a target -/
def cE (K : PySem.W.Frag) (Y : YX) (W : WX) (f : Sl → M O) : TE := fun σ H Q => ∃ R T S out S', S.length = σ.length ∧ f S = some (out, S') ∧ Rel K H R (S.zip σ ++ T) ∧ PostE K Y W R T σ Q out S'
def cT (K : PySem.W.Frag) (Y : YX) (W : WX) (f : Sl → M Bool) : TT := fun σ H Q => ∃ R T S out S', S.length = σ.length ∧ f S = some (out, S') ∧ Rel K H R (S.zip σ ++ T) ∧ PostB K Y W R T σ Q out S'
def cG (K : PySem.W.Frag) (ws : List Nat) (p : Pt) : TG := fun v σ H Q => ∃ R T S S' x, S.length = σ.length ∧ bindP p x S = some S' ∧ Rel K H R ((.d x, some v) :: (S.zip σ ++ T)) ∧ (S'.length = σ.length → ∀ σ', Kept ws σ σ' → Rel K H R (S'.zip σ' ++ T) → Q σ' H)
theorem se_cE {K : PySem.W.Frag} : SE K Y W (cE K Y W f) f := fun R T S σ H Q out S' hl hf rel post => ⟨R, T, S, out, S', hl, hf, rel, post⟩
theorem st_cT {K : PySem.W.Frag} : ST K Y W (cT K Y W ft) ft := fun R T S σ H Q out S' hl hf rel post => ⟨R, T, S, out, S', hl, hf, rel, post⟩
theorem sg_cG {K : PySem.W.Frag} : SG K ws (cG K ws pt) pt := fun R T S S' σ H x v Q hl hb rel k => ⟨R, T, S, S', x, hl, hb, rel, k⟩
theorem pe_cE (h : OkE X Y W e f) : PE X e (cE X.K Y W f) := by
  obtain ⟨te, p, s⟩ := h
  exact ⟨fun pins s0 σ H Q I hw => by
    obtain ⟨R, T, S, out, S', h1, h2, h3, h4⟩ := hw
    exact p.run pins s0 σ H Q I (s R T S σ H Q out S' h1 h2 h3 h4)⟩
theorem pts_cT {es : List Expr} (h : OkTs X Y W es ft) : PTs X es (cT X.K Y W ft) := by
  obtain ⟨te, p, s⟩ := h
  exact ⟨fun pins s0 σ H Q I hw => by
    obtain ⟨R, T, S, out, S', h1, h2, h3, h4⟩ := hw
    exact p.run pins s0 σ H Q I (s R T S σ H Q out S' h1 h2 h3 h4)⟩
theorem pg_cG (h : OkG X ws tg pt) : PG X tg (cG X.K ws pt) := by
  obtain ⟨te, p, s⟩ := h
  exact ⟨fun pins s0 σ H v u Q I hr hw => by
    obtain ⟨R, T, S, S', x, h1, h2, h3, h4⟩ := hw
    exact p.run pins s0 σ H v u Q I hr (s R T S S' σ H x v Q h1 h2 h3 h4)⟩
variable {scope : Scope} {own : List (Str × Nat)} {elt iter : Expr} {ifs : List Expr} {cnd : Sl → M Bool} {fe : Sl → M O}
theorem oe_comp (hc : X.calm = true) (hN : X.N.Nodup) (hi : OkI X Y W tg iter src) (ok : BlkOk X.N X.env.scope scope own)
    (hg : ∀ (s : Shared) (H : Hp) (C : Addr) (cl : List (Str × Addr)) (fp : List Addr), OkG (X.blk s H scope (compEnvC scope cl C X.env) fp) (own.map (·.2)) tg pt) (ht : ∀ (s : Shared) (H : Hp) (C : Addr) (cl : List (Str × Addr)) (fp : List Addr), OkTs (X.blk s H scope (compEnvC scope cl C X.env) fp) Y W0 ifs cnd)
    (he : ∀ (s : Shared) (H : Hp) (C : Addr) (cl : List (Str × Addr)) (fp : List Addr), OkE (X.blk s H scope (compEnvC scope cl C X.env) fp) Y W0 elt fe) (hs : ∀ x, foldedSetIterable iter X.env x = pure x := by intro _; rfl) :
    OkE X Y W (.ListComp elt [⟨tg, iter, ifs, 0⟩] scope pos) (eComp src pt cnd fe (own.map (·.2))) := by
  obtain ⟨wi, pi, si⟩ := hi
  exact ⟨_, pe_lc hc hN pi ok (fun s H C cl fp => pg_cG (hg s H C cl fp)) (fun s H C cl fp => pts_cT (ht s H C cl fp)) (fun s H C cl fp => pe_cE (he s H C cl fp)) hs, se_comp si sg_cG st_cT se_cE⟩
/-- name = [..], the name a local -/
theorem os_setComp {i : Nat} {y : Str} {py spos : Pos} (hc : X.calm = true) (hN : X.N.Nodup) (hy : X.N[i]? = some y) (hyl : X.env.scope.names.lookup y = some .local) (hw : i ∈ ws)
    (hsw : swapsWith (.ListComp elt [⟨tg, iter, ifs, 0⟩] scope pos) (some (.Name y py)) spos.line X.env = pure true) (hi : OkI X Y W tg iter src) (ok : BlkOk X.N X.env.scope scope own)
    (hg : ∀ (s : Shared) (H : Hp) (C : Addr) (cl : List (Str × Addr)) (fp : List Addr), OkG (X.blk s H scope (compEnvC scope cl C X.env) fp) (own.map (·.2)) tg pt) (ht : ∀ (s : Shared) (H : Hp) (C : Addr) (cl : List (Str × Addr)) (fp : List Addr), OkTs (X.blk s H scope (compEnvC scope cl C X.env) fp) Y W0 ifs cnd)
    (he : ∀ (s : Shared) (H : Hp) (C : Addr) (cl : List (Str × Addr)) (fp : List Addr), OkE (X.blk s H scope (compEnvC scope cl C X.env) fp) Y W0 elt fe) (hs : ∀ x, foldedSetIterable iter X.env x = pure x := by intro _; rfl) :
    OkS X Y W ws (.Assign [.Name y py] (.ListComp elt [⟨tg, iter, ifs, 0⟩] scope pos) spos) (sSet i (eComp src pt cnd fe (own.map (·.2)))) := by
  obtain ⟨wi, pi, si⟩ := hi
  exact ⟨_, ps_setLc hc hN hy hyl hsw pi ok (fun s H C cl fp => pg_cG (hg s H C cl fp)) (fun s H C cl fp => pts_cT (ht s H C cl fp)) (fun s H C cl fp => pe_cE (he s H C cl fp)) hs, ss_set (se_comp si sg_cG st_cT se_cE) hw⟩
end
/-! ### statements -/
section
variable {s1 s2 : Sl → MS} {st : Stmt} {sts sa sb : List Stmt} {x : Str} {i : Nat}
theorem oss_nil : OkSs X Y W ws [] sNext := ⟨_, pss_nil, ss_next⟩
theorem oss_cons (h1 : OkS X Y W ws st s1) (h2 : OkSs X Y W ws sts s2) : OkSs X Y W ws (st :: sts) (sSeq s1 s2) :=
  let ⟨_, q1, t1⟩ := h1
  let ⟨_, q2, t2⟩ := h2
  ⟨_, pss_cons q1 q2, ss_seq t1 t2⟩
theorem oss_one (h1 : OkS X Y W ws st s1) : OkSs X Y W ws [st] s1 := let ⟨_, q, t⟩ := h1; ⟨_, pss_one q, t⟩
theorem os_stuck : OkS X Y W ws st sStuck := ⟨_, ps_never, ss_stuck⟩
theorem oss_stuck : OkSs X Y W ws sts sStuck := ⟨_, pss_never, ss_stuck⟩
theorem os_pass : OkS X Y W ws (.Pass pos) sNext := ⟨_, ps_pass, ss_next⟩
theorem os_break : OkS X Y W ws (.Break pos) sBrk := ⟨_, ps_break, ss_brk⟩
theorem os_cont : OkS X Y W ws (.Continue pos) sCont := ⟨_, ps_continue, ss_cont⟩
theorem os_do (h : OkE X Y W e f) (hs : swapsWith e none pos.line X.env = pure false := by rfl) : OkS X Y W ws (.Expr e pos) (sDo f) := let ⟨_, q, s⟩ := h; ⟨_, ps_expr q hs, ss_do s⟩
theorem os_ret (h : OkE X Y W e f) : OkS X Y W ws (.Return (some e) pos) (sRet f) := let ⟨_, q, s⟩ := h; ⟨_, ps_ret q, ss_ret s⟩
theorem os_retN : OkS X Y W ws (.Return none pos) sRetN := ⟨_, ps_retN, ss_retN⟩
theorem os_if (hc : OkT X Y W c ft) (h1 : OkSs X Y W ws sa s1) (h2 : OkSs X Y W ws sb s2) : OkS X Y W ws (.If c sa sb pos) (sIf ft s1 s2) :=
  let ⟨_, q0, t0⟩ := hc
  let ⟨_, q1, t1⟩ := h1
  let ⟨_, q2, t2⟩ := h2
  ⟨_, ps_if q0 q1 q2, ss_if t0 t1 t2⟩
theorem os_set (hN : X.N.Nodup) (hi : X.N[i]? = some x) (hx : Loc X.env.scope x) (hw : i ∈ ws) (h : OkE X Y W e f) (hs : swapsWith e (some (.Name x p)) pos.line X.env = pure false := by rfl)
    (hf : X.fn x = true ∨ X.env.scope.names.lookup x = some .local := by first | exact .inl rfl | exact .inr rfl | assumption) : OkS X Y W ws (.Assign [.Name x p] e pos) (sSet i f) := let ⟨_, q, s⟩ := h; ⟨_, ps_set hN hi hx q hs hf, ss_set s hw⟩
theorem os_asg (h : OkE X Y W e f) (hg : OkG X ws tg pt) (hs : swapsWithSole [tg] e pos.line X.env = pure false := by rfl) (hw : swappedStores [tg] e X.env = pure none := by rfl) (h1 : (assignEach [tg] X.env).map (·.2) = [assign tg X.env] := by rfl) : OkS X Y W ws (.Assign [tg] e pos) (sAsg pt f) :=
  let ⟨_, q, s⟩ := h
  let ⟨_, q2, s2⟩ := hg
  ⟨_, ps_asg q q2 hs hw h1, ss_asg s s2⟩
theorem os_par {j : Nat} {y : Str} {px py ptt : Pos} {kt k2 : Nat} {pt2 : Pos} (hc : X.calm = true) (hN : X.N.Nodup) (hi : X.N[i]? = some x) (hj : X.N[j]? = some y) (hij : i ≠ j) (hx : X.env.scope.names.lookup x = some .local) (hy : X.env.scope.names.lookup y = some .local) (hwi : i ∈ ws) (hwj : j ∈ ws) (ha : OkA X Y W [a, b] as)
    (hw : swappedStores [.Tuple [.Name x px, .Name y py] kt ptt] (.Tuple [a, b] k2 pt2) X.env = pure (some [x, y]) := by rfl) (hs : swapsWithSole [.Tuple [.Name x px, .Name y py] kt ptt] (.Tuple [a, b] k2 pt2) pos.line X.env = pure false := by rfl) :
    OkS X Y W ws (.Assign [.Tuple [.Name x px, .Name y py] kt ptt] (.Tuple [a, b] k2 pt2) pos) (sPar i j as) :=
  let ⟨_, q, s⟩ := ha
  ⟨_, ps_par hc hN hi hj hij hx hy q hw hs, ss_par s hwi hwj⟩
theorem os_store {idx : Expr} (ho : PE X (.Name x p1) (tVar i)) (hi : OkE X Y W idx fa) (h : OkE X Y W e f)
    (ha : ∀ v, assign (.Subscript (.Name x p1) idx p) X.env v = (do
      let ov ← holding [v] (eval (.Name x p1) X.env)
      let iv ← holding [v, ov] (eval idx X.env)
      standAt p
      holding [v, ov, iv] (setItem ov iv v)
      release [v, ov, iv] []) := by intro _; rfl) (hs : swapsWithSole [.Subscript (.Name x p1) idx p] e pos.line X.env = pure false := by rfl) (hw : swappedStores [.Subscript (.Name x p1) idx p] e X.env = pure none := by rfl)
    (h1 : (assignEach [.Subscript (.Name x p1) idx p] X.env).map (·.2) = [assign (.Subscript (.Name x p1) idx p) X.env] := by rfl) : OkS X Y W ws (.Assign [.Subscript (.Name x p1) idx p] e pos) (sStore i fa f) :=
  let ⟨_, q1, t1⟩ := hi
  let ⟨_, q2, t2⟩ := h
  ⟨_, ps_asg q2 (pg_sub ho q1 set_list ha) hs hw h1, ss_store t2 t1⟩
theorem os_aug {op : Operator} {r : R2} {g : Fn} (ho : OpR X (inplaceOp op) r) (hr : FR X.K Y (rx2 r) g) (hN : X.N.Nodup) (hi : X.N[i]? = some x) (hx : Loc X.env.scope x) (hw : i ∈ ws) (h : OkE X Y W e f)
    (hf : X.fn x = true ∨ X.env.scope.names.lookup x = some .local := by first | exact .inl rfl | exact .inr rfl | assumption) : OkS X Y W ws (.AugAssign (.Name x p) op e pos) (sSet i (eApp g [.v i, .e f])) :=
  let ⟨_, q, s⟩ := h
  ⟨_, ps_aug (ti := r) hN hi hx q (fun pins s σ H x y v u Q => ho pins s σ H x y v u Q) hf, ss_set (se_app2 (a := .v i) (b := .e f) rfl s hr) hw⟩
theorem os_for (hp : PassesOwn (model X.prog X.w) X.A X.env X.xe) (hc : X.calm = true) (hi : OkI X Y W tg e src) (hg : OkG X ws tg pt) (hb : OkSs X Y W ws sa s1) (hs : ∀ x, foldedSetIterable e X.env x = pure x := by intro _; rfl) : OkS X Y W ws (.For tg e sa [] pos) (sFor src pt s1) :=
  let ⟨_, q0, t0⟩ := hi
  let ⟨_, q1, t1⟩ := hg
  let ⟨_, q2, t2⟩ := hb
  ⟨_, ps_for hp hc q0 q1 q2 hs, ss_for t0 t1 t2⟩
theorem os_while {n : Nat} (hp : PassesOwn (model X.prog X.w) X.A X.env X.xe) (hc : OkT X Y W c ft) (hb : OkSs X Y W ws sa s1) : OkS X Y W ws (.While c sa [] pos) (loopW ft s1 n) :=
  let ⟨_, q0, t0⟩ := hc
  let ⟨_, q2, t2⟩ := hb
  ⟨_, ps_while hp q0 q2, ss_while t0 t2⟩
end
end
end FT
/-! FT10: methods on a list inside a list that a name holds. -/
namespace FT
open PySem PySem.Spec PyProof.Rows L2
section
variable {K : PySem.W.Frag} {Y : YX} {W : WX} {R : List Addr} {L T : List En} {H : Hp} {σ : Slots}
theorem Rel.nodup (h : Rel K H R L) : R.Nodup := by
  obtain ⟨fp, nd, _⟩ := h
  exact (List.nodup_append.mp nd).1
def gAt (j : Nat) (up : List O → Option (List O)) : Fn := fun os => match os with
  | [.l xs] => match xs[j]? with
    | some (.l ps) => match up ps with
      | some ps' => some (.ok (.d .none), [.l (xs.set j (.l ps'))])
      | none => none
    | _ => none
  | _ => none
theorem fr_at {j : Nat} {up : List O → Option (List O)} {upv : List V → List V} {r : V → Hp → VK → Prop}
    (hup : ∀ (R : List Addr) (L : List En) (H : Hp) (ps ps' : List O) (vs : List V), up ps = some ps' → ps.length = vs.length → Rel K H R (ps.zip (vs.map some) ++ L) → ps'.length = (upv vs).length ∧ Rel K H R (ps'.zip ((upv vs).map some) ++ L))
    (hr : ∀ (a : Addr) (H : Hp) (Q : VK) (vs : List V) (ps ps' : List O), up ps = some ps' → ps.length = vs.length → H a = some (.lst vs) → Q .non (upd H a (.lst (upv vs))) → r (.ref a) H Q) :
    FR K Y (rx1 fun v H Q => rIx K v (.int (j : Nat)) H fun u H1 => tyV K "list" u H1 ∧ r u H1 Q) (gAt j up) := by
  intro R L vs os os' H Q E out hl hg rel post
  unfold gAt at hg
  split at hg
  · rename_i xs
    obtain ⟨v, rfl⟩ := one_v hl
    split at hg
    · rename_i ps hps
      split at hg
      · rename_i ps' hup'
        cases hg
        have r0 : Rel K H R ((.l xs, some v) :: L) := rel
        obtain ⟨a, ws, e, ha, el, r1⟩ := r0.open
        cases e
        have hjl : j < xs.length := (List.getElem?_eq_some_iff.mp hps).1
        have hjv : j < ws.length := by omega
        have hv : ws[j]? = some ws[j] := List.getElem?_eq_getElem hjv
        have hm : (ws.map some)[j]? = some (some ws[j]) := by rw [List.getElem?_map, hv]; rfl
        have r2 := r1.take hps hm
        obtain ⟨b, us, e, hb, eu, r3⟩ := r2.open
        have eb : ws[j] = .ref b := by injection e
        have hab : a ≠ b := by
          intro h
          subst h
          exact absurd r3.nodup (by intro nd; exact (List.nodup_cons.mp nd).1 List.mem_cons_self)
        obtain ⟨q1, r4⟩ := hup _ _ _ _ _ _ hup' eu r3
        have r5 : Rel K (upd H b (.lst (upv us))) (b :: a :: R) _ := r4.hand (u := .lst (upv us)) List.mem_cons_self
        have r6 := r5.close upd_same q1
        have r7 := r6.put (i := j) (by rw [hm, eb])
        rw [List.set_set] at r7
        have ha' : (upd H b (.lst (upv us))) a = some (.lst ws) := by rw [upd_ne hab]; exact ha
        have r8 := r7.close ha' (by rw [List.length_set]; exact el)
        have hat : atI ws (j : Int) = some (.ref b) := by
          unfold atI
          have : ixN ws.length (j : Int) = some j := by
            unfold ixN
            rw [if_pos (by omega)]
            simp
            omega
          rw [this]
          exact hv.trans (by rw [eb])
        exact .inl ⟨a, ws, (j : Int), .ref b, rfl, rfl, SqL.of ha, hat, .inl ⟨rfl, us, SqL.of hb⟩, hr b H _ us ps ps' hup' eu hb (post rfl .non _ (r8.addS (x := .none) rfl))⟩
      · cases hg
    · cases hg
  · cases hg
/-- how many turns a while may take here -/
def FU : Nat := 100
def gAbs : Fn := fnD (dI fun i => if i < 0 then -i else i)
def gMax2 : Fn := fnD (dII fun i j => if j > i then j else i)
def gMin2 : Fn := fnD (dII fun i j => if j < i then j else i)
/-- repr([..]) : the list is looked at and gone -/
def gReprL : Fn := fun os => match ers os with
  | some ds => if decide (ds.length ≤ LIM) && repOk (.list ds) then some (.ok (.d (.str (PyData.shown (.list ds)))), os) else none
  | none => none
theorem fr_reprL : FR K Y (rxn fun xs H Q => xs.length ≤ sizeLine ∧ ∀ p, H p = none → rRepr K [.ref p] (upd H p (.lst xs)) Q) gReprL := by
  intro R L vs os os' H Q E out hl hg rel post
  unfold gReprL at hg
  split at hg
  · rename_i ds he
    split at hg
    · rename_i hc
      rw [Bool.and_eq_true, decide_eq_true_eq] at hc
      cases hg
      have hlen : os.length = ds.length := ers_len he
      refine ⟨by rw [← hl, hlen]; exact LIM_le hc.1, fun p hp => ?_⟩
      have r1 := rel.fresh (u := .lst vs) hp
      have q := r1.views hl he
      exact ⟨.ref p, .list ds, rfl, Dq.dp _ _ (Dq.lst upd_same q) (repOk_nd hc.2), rfl, hc.2, post hl _ _ (r1.letgo.addS (x := .str _) rfl)⟩
    · cases hg
  · cases hg
def upApp (x : PyData) : List O → Option (List O) := fun ps => if ps.length < LIM then some (ps ++ [.d x]) else none
def upRev : List O → Option (List O) := fun ps => some ps.reverse
def upClr : List O → Option (List O) := fun _ => some []
theorem fr_atApp {j : Nat} {x : PyData} (hx : scal1 x = true) : FR K Y (rx1 fun v H Q => rIx K v (.int (j : Nat)) H fun u H1 => tyV K "list" u H1 ∧ rAppend u [toV x] H1 Q) (gAt j (upApp x)) :=
  fr_at (upv := fun vs => vs ++ [toV x]) (fun R L H ps ps' vs h el r => by
    unfold upApp at h
    split at h
    · cases h
      refine ⟨by rw [List.length_append, List.length_append, el]; rfl, ?_⟩
      rw [zip_snoc el, List.append_assoc]
      exact (r.addS hx).unmid
    · cases h) fun a H Q vs ps ps' h el hH q => by
    unfold upApp at h
    split at h
    · rename_i hlim
      exact ⟨a, vs, toV x, rfl, rfl, hH, by rw [← el]; exact LIM_lt hlim, q⟩
    · cases h
theorem fr_atRev {j : Nat} : FR K Y (rx1 fun v H Q => rIx K v (.int (j : Nat)) H fun u H1 => tyV K "list" u H1 ∧ rReverse u [] H1 Q) (gAt j upRev) :=
  fr_at (upv := List.reverse) (fun R L H ps ps' vs h el r => by
    cases h
    exact ⟨by rw [List.length_reverse, List.length_reverse]; exact el, rel_rev el r⟩) fun a H Q vs ps ps' h el hH q => ⟨a, vs, rfl, rfl, hH, q⟩
theorem fr_atClr {j : Nat} : FR K Y (rx1 fun v H Q => rIx K v (.int (j : Nat)) H fun u H1 => tyV K "list" u H1 ∧ rClear u [] H1 Q) (gAt j upClr) :=
  fr_at (upv := fun _ => []) (fun R L H ps ps' vs h el r => by
    cases h
    exact ⟨rfl, r.drops⟩) fun a H Q vs ps ps' h el hH q => ⟨a, vs, rfl, rfl, hH, q⟩
end
section
variable {X : Cx} {Y : YX} {W : WX} {e : Expr} {pos p q1 q2 q3 : Pos} {x : Str} {i j : Nat} {kd : Nat}
theorem se_at {K : PySem.W.Frag} {r : V → Hp → VK → Prop} {g : Fn} (hr : FR K Y (rx1 r) g) : SE K Y W (fun σ H Q => tVar i σ H fun v H1 => r v H1 Q) (eApp g [.v i]) :=
  se_app (r := rx1 r) (sa_v (i := i) (as := []) sa_nil) hr
theorem oe_reprL {k : Nat} {es : List Expr} {as : List Ar} (hr : RG k X.A) (hm : X.mg "repr" = none) (ha : OkA X Y W es as) (hg : Gl X "repr" := by rfl)
    (he : starEach [.List es q1] X.env = (false, eval (.List es q1) X.env) :: starEach [] X.env := by rfl) (hpl : (backTo pos (starEach [] X.env)).any (·.1) = false := by rfl) :
    OkE X Y W (.Call (.Name "repr" p) [.List es q1] [] pos) (eApp gReprL as) :=
  let ⟨_, q, s⟩ := ha
  ⟨_, pe_callB (call_repr hr) hg hm (by decide +kernel) (pa_cons (pe_lst q) pa_nil he) (by decide) (by decide) he hpl, se_appn (r := fun xs H Q => xs.length ≤ sizeLine ∧ ∀ p, H p = none → rRepr X.K [.ref p] (upd H p (.lst xs)) Q) s fr_reprL⟩
theorem oe_atApp {d : PyData} (hx : scal1 d = true) (h : PE X (.Name x p) (tVar i)) (he : PE X e (tC (toV d)))
    (hbase : attributeBase (.Subscript (.Name x p) (.Constant (.int (j : Nat)) kd q1) q2) "append" X.env (eval (.Subscript (.Name x p) (.Constant (.int (j : Nat)) kd q1) q2) X.env) = eval (.Subscript (.Name x p) (.Constant (.int (j : Nat)) kd q1) q2) X.env := by rfl)
    (hfew : ((backTo q3 (starEach [e] X.env)).all (fun x => !x.1) && (backToKw q3 (keywordEach [] X.env)).all (fun x => x.1.isSome)
      && decide (([e] : List Expr).length + ([] : List Keyword).length + (if ([] : List Keyword).isEmpty then 0 else 1) < 30)) = true := by rfl)
    (hline : (pos.endLine == q3.line) = true := by rfl) (hs : starEach [e] X.env = (false, eval e X.env) :: starEach [] X.env := by rfl) (hplain : (backTo q3 (starEach [] X.env)).any (·.1) = false := by rfl) :
    OkE X Y W (.Call (.Attribute (.Subscript (.Name x p) (.Constant (.int (j : Nat)) kd q1) q2) "append" pos) [e] [] q3) (eApp (gAt j (upApp d)) [.v i]) :=
  ⟨_, pe_bm PySem.F.plainAttrs_list PySem.F.slot_list_append PySem.F.type_list_append mt_append (pe_ix ix_seq h pe_int (fun _ _ => rfl)) (pa_cons he pa_nil hs) hbase hfew hline hs hplain, se_at (fr_atApp hx)⟩
theorem oe_atRev (h : PE X (.Name x p) (tVar i))
    (hbase : attributeBase (.Subscript (.Name x p) (.Constant (.int (j : Nat)) kd q1) q2) "reverse" X.env (eval (.Subscript (.Name x p) (.Constant (.int (j : Nat)) kd q1) q2) X.env) = eval (.Subscript (.Name x p) (.Constant (.int (j : Nat)) kd q1) q2) X.env := by rfl)
    (hline : (pos.endLine == q3.line) = true := by rfl) :
    OkE X Y W (.Call (.Attribute (.Subscript (.Name x p) (.Constant (.int (j : Nat)) kd q1) q2) "reverse" pos) [] [] q3) (eApp (gAt j upRev) [.v i]) :=
  ⟨_, pe_bm0 PySem.F.plainAttrs_list PySem.F.slot_list_reverse PySem.F.type_list_reverse mt_reverse (pe_ix ix_seq h pe_int (fun _ _ => rfl)) hbase hline, se_at fr_atRev⟩
theorem oe_atClr (h : PE X (.Name x p) (tVar i))
    (hbase : attributeBase (.Subscript (.Name x p) (.Constant (.int (j : Nat)) kd q1) q2) "clear" X.env (eval (.Subscript (.Name x p) (.Constant (.int (j : Nat)) kd q1) q2) X.env) = eval (.Subscript (.Name x p) (.Constant (.int (j : Nat)) kd q1) q2) X.env := by rfl)
    (hline : (pos.endLine == q3.line) = true := by rfl) :
    OkE X Y W (.Call (.Attribute (.Subscript (.Name x p) (.Constant (.int (j : Nat)) kd q1) q2) "clear" pos) [] [] q3) (eApp (gAt j upClr) [.v i]) :=
  ⟨_, pe_bm0 PySem.F.plainAttrs_list PySem.F.slot_list_clear PySem.F.type_list_clear mt_clear (pe_ix ix_seq h pe_int (fun _ _ => rfl)) hbase hline, se_at fr_atClr⟩
end
end FT
/-! FT11: plain lemmas for what the defs come to. -/
namespace FT
open PySem
theorem cp10 : cPow 10 18 = true ∧ cPow 10 38 = true ∧ cPow 10 41 = true ∧ cPow 10 40 = true ∧ cPow 10 6 = true ∧ cPow 10 20 = true ∧ cPow 10 59 = true ∧ cPow 10 30 = true := by decide +kernel
theorem pyt_lt {x : Int} (h0 : 0 ≤ x) (h : x < 2 ^ 2000) {j : Int} (hj : 0 ≤ j) (hj2 : j ≤ 1000) : cPow x j = true := by
  unfold cPow
  rw [Bool.and_eq_true, Bool.and_eq_true, decide_eq_true_eq, decide_eq_true_eq, decide_eq_true_eq]
  refine ⟨⟨hj, hj2⟩, ?_⟩
  by_cases hx : x.natAbs = 0
  · rw [hx]; decide
  · rw [Nat.log2_lt hx]
    have : x.natAbs < 2 ^ 2000 := by
      have e : ((2:Int) ^ 2000) = ((2 ^ 2000 : Nat) : Int) := by norm_cast
      rw [e] at h
      omega
    exact Nat.lt_of_lt_of_le this (Nat.pow_le_pow_right (by decide) (by decide))
theorem cMulR {i j : Int} (h1 : -(2 ^ 64) < j) (h2 : j < 2 ^ 64) : cMul i j = true := by
  unfold cMul
  simp only [Bool.or_eq_true, Bool.and_eq_true, decide_eq_true_eq]
  exact .inl (.inr ⟨h1, h2⟩)
theorem cMulL {i j : Int} (h1 : -(2 ^ 64) < i) (h2 : i < 2 ^ 64) : cMul i j = true := by
  unfold cMul
  simp only [Bool.or_eq_true, Bool.and_eq_true, decide_eq_true_eq]
  exact .inr ⟨h1, h2⟩
theorem cMod_pos {i j : Int} (h : 0 < j) : cMod i j = true := decide_eq_true h
theorem cDiv_pos {i j : Int} (h : 0 < j) (h2 : j < 2 ^ 2000) : cDiv i j = true := by
  unfold cDiv
  rw [Bool.and_eq_true, decide_eq_true_eq, decide_eq_true_eq]
  refine ⟨h, ?_⟩
  have hx : j.natAbs ≠ 0 := by omega
  rw [Nat.log2_lt hx]
  have : j.natAbs < 2 ^ 2000 := by
    have e : ((2:Int) ^ 2000) = ((2 ^ 2000 : Nat) : Int) := by norm_cast
    rw [e] at h2
    omega
  exact Nat.lt_of_lt_of_le this (Nat.pow_le_pow_right (by decide) (by decide))
@[simp] theorem er_d (x : PyData) : er (.d x) = some x := by rw [er]
@[simp] theorem er_l (xs : List O) : er (.l xs) = (ers xs).map .list := by rw [er]
@[simp] theorem er_no : er .no = none := by rw [er]
@[simp] theorem ers_nil : ers [] = some [] := by rw [ers]
theorem ers_cons (o : O) (os : List O) : ers (o :: os) = match er o, ers os with | some x, some xs => some (x :: xs) | _, _ => none := by
  rw [ers] <;> (cases er o <;> cases ers os <;> rfl)
@[simp] theorem fn1 (g : List PyData → Option PyData) (x : PyData) : fnD g [.d x] = match g [x] with | some y => some (.ok (.d y), [.d x]) | none => none := by
  unfold fnD; rw [ers_cons, er_d, ers_nil] <;> rfl
@[simp] theorem fn2 (g : List PyData → Option PyData) (x y : PyData) : fnD g [.d x, .d y] = match g [x, y] with | some z => some (.ok (.d z), [.d x, .d y]) | none => none := by
  unfold fnD; rw [ers_cons, er_d, ers_cons, er_d, ers_nil] <;> rfl

section
variable {α β : Type} (S : Sl) (f g : Sl → MS) (fe fa fb : Sl → M O) (c d : Sl → M Bool) (i j : Nat) (as : List Ar) (G : Fn) (o o2 : O) (xs : List O) (os : List O)
theorem ap_seq : sSeq f g S = match f S with
  | none => none
  | some (.error e, S1) => some (.error e, S1)
  | some (.ok fl, S1) => (match fl with | .nx => g S1 | fl => some (.ok fl, S1)) := by
  show bnd (f S) _ = _
  generalize f S = r
  rcases r with _ | ⟨_ | _, _⟩ <;> rfl
theorem ap_if : sIf c f g S = match c S with
  | none => none
  | some (.error e, S1) => some (.error e, S1)
  | some (.ok b, S1) => (if b then f S1 else g S1) := by
  show bnd (c S) _ = _
  generalize c S = r
  rcases r with _ | ⟨_ | _, _⟩ <;> rfl
theorem ap_set : sSet i fe S = match fe S with
  | none => none
  | some (.error e, S1) => some (.error e, S1)
  | some (.ok o, S1) => (some (.ok .nx, S1.set i o)) := by
  show bnd (fe S) _ = _
  generalize fe S = r
  rcases r with _ | ⟨_ | _, _⟩ <;> rfl
theorem ap_store : sStore i fa fe S = match fe S with
  | none => none
  | some (.error e, S1) => some (.error e, S1)
  | some (.ok o, S1) => (if isNo (S1.getD i .no) then none else (match fa S1 with
    | none => none
    | some (.error e, S1) => some (.error e, S1)
    | some (.ok k, S2) => (match S2.getD i .no, k with
      | .l xs, .d (.int k) => (match L2.ixN xs.length k with
        | some j => some (.ok .nx, S2.set i (.l (xs.set j o)))
        | none => none)
      | _, _ => none))) := by
  show bnd (fe S) _ = _
  generalize fe S = r
  rcases r with _ | ⟨_ | o, S1⟩
  · rfl
  · rfl
  · by_cases hn : isNo (S1.getD i .no) = true
    · exact (if_pos hn).trans (if_pos hn).symm
    · refine (if_neg hn).trans (Eq.trans ?_ (if_neg hn).symm)
      generalize fa S1 = r2
      rcases r2 with _ | ⟨_ | _, _⟩ <;> rfl
theorem ap_ret : sRet fe S = match fe S with
  | none => none
  | some (.error e, S1) => some (.error e, S1)
  | some (.ok o, S1) => (some (.ok (.rt o), S1)) := by
  show bnd (fe S) _ = _
  generalize fe S = r
  rcases r with _ | ⟨_ | _, _⟩ <;> rfl
theorem ap_retN : sRetN S = some (.ok (.rt (.d .none)), S) := rfl
theorem ap_do : sDo fe S = match fe S with
  | none => none
  | some (.error e, S1) => some (.error e, S1)
  | some (.ok _, S1) => (some (.ok .nx, S1)) := by
  show bnd (fe S) _ = _
  generalize fe S = r
  rcases r with _ | ⟨_ | _, _⟩ <;> rfl
theorem ap_next : sNext S = some (.ok .nx, S) := rfl
theorem ap_brk : sBrk S = some (.ok .bk, S) := rfl
theorem ap_cont : sCont S = some (.ok .ct, S) := rfl
theorem ap_par : sPar i j as S = match argsE as S with
  | none => none
  | some (.error e, S1) => some (.error e, S1)
  | some (.ok hs, S1) => (match hs with
  | [.inr a, .inr b] => some (.ok .nx, (S1.set i a).set j b)
  | _ => none) := by
  show bnd (argsE as S) _ = _
  generalize argsE as S = r
  rcases r with _ | ⟨_ | _, _⟩ <;> rfl
theorem ap_asg (p : Pt) : sAsg p fe S = match fe S with
  | none => none
  | some (.error e, S1) => some (.error e, S1)
  | some (.ok o, S1) => (match o with
  | .d x => (match bindP p x S1 with
    | some S2 => some (.ok .nx, S2)
    | none => none)
  | _ => none) := by
  show bnd (fe S) _ = _
  generalize fe S = r
  rcases r with _ | ⟨_ | _, _⟩ <;> rfl
theorem ap_for (src : Sl → M (List PyData)) (p : Pt) : sFor src p f S = match src S with
  | none => none
  | some (.error e, S1) => some (.error e, S1)
  | some (.ok ds, S1) => (loopL p f ds S1) := by
  show bnd (src S) _ = _
  generalize src S = r
  rcases r with _ | ⟨_ | _, _⟩ <;> rfl
theorem ap_val : tVal fe S = match fe S with
  | none => none
  | some (.error e, S1) => some (.error e, S1)
  | some (.ok o, S1) => (match o with
  | .d (.bool b) => some (.ok b, S1)
  | _ => none) := by
  show bnd (fe S) _ = _
  generalize fe S = r
  rcases r with _ | ⟨_ | _, _⟩ <;> rfl
theorem ap_an : tAn c d S = match c S with
  | none => none
  | some (.error e, S1) => some (.error e, S1)
  | some (.ok b, S1) => (if b then d S1 else some (.ok false, S1)) := by
  show bnd (c S) _ = _
  generalize c S = r
  rcases r with _ | ⟨_ | _, _⟩ <;> rfl
theorem ap_o : tO c d S = match c S with
  | none => none
  | some (.error e, S1) => some (.error e, S1)
  | some (.ok b, S1) => (if b then some (.ok true, S1) else d S1) := by
  show bnd (c S) _ = _
  generalize c S = r
  rcases r with _ | ⟨_ | _, _⟩ <;> rfl
theorem ap_n : tN c S = match c S with
  | none => none
  | some (.error e, S1) => some (.error e, S1)
  | some (.ok b, S1) => (some (.ok (!b), S1)) := by
  show bnd (c S) _ = _
  generalize c S = r
  rcases r with _ | ⟨_ | _, _⟩ <;> rfl
theorem ap_tT : tT S = some (.ok true, S) := rfl
theorem ap_app : eApp G as S = match argsE as S with
  | none => none
  | some (.error e, S1) => some (.error e, S1)
  | some (.ok hs, S1) => (match G (grab hs S1).1 with
  | none => none
  | some (out, os') => some (out, back hs os' (grab hs S1).2)) := by
  show bnd (argsE as S) _ = _
  generalize argsE as S = r
  rcases r with _ | ⟨_ | _, _⟩ <;> rfl
theorem ap_meth : eMeth G i as S = if isLs (S.getD i .no) then eApp G (.v i :: as) S else none := rfl
theorem ap_c (x : PyData) : eC x S = some (.ok (.d x), S) := rfl
theorem ap_name : eName i S = match S.getD i .no with
  | .no => none
  | .fz ns => some (.ok (.fz ns), S)
  | .m _ => none
  | .i _ _ => none
  | .n _ => none
  | .j _ _ _ => none
  | .q _ => none
  | .g _ => none
  | .fr _ _ => none
  | .x _ => none
  | .s t => some (.ok (.s t), S)
  | .d x => some (.ok (.d x), S)
  | .l xs => match ers xs with
    | some ds => some (.ok (.d (.list ds)), S.set i (.d (.list ds)))
    | none => none := rfl
theorem ap_move : eMove i S = if isNo (S.getD i .no) then none else some (.ok (S.getD i .no), S.set i .no) := rfl
theorem ap_eif : eIf c fa fb S = match c S with
  | none => none
  | some (.error e, S1) => some (.error e, S1)
  | some (.ok k, S1) => (if k then fa S1 else fb S1) := by
  show bnd (c S) _ = _
  generalize c S = r
  rcases r with _ | ⟨_ | _, _⟩ <;> rfl
theorem ap_and : eAnd fa fb S = match fa S with
  | none => none
  | some (.error e, S1) => some (.error e, S1)
  | some (.ok o, S1) => (match bOf o with
  | some true => fb S1
  | some false => some (.ok (.d (.bool false)), S1)
  | none => none) := by
  show bnd (fa S) _ = _
  generalize fa S = r
  rcases r with _ | ⟨_ | _, _⟩ <;> rfl
theorem ap_or : eOr fa fb S = match fa S with
  | none => none
  | some (.error e, S1) => some (.error e, S1)
  | some (.ok o, S1) => (match bOf o with
  | some false => fb S1
  | some true => some (.ok (.d (.bool true)), S1)
  | none => none) := by
  show bnd (fa S) _ = _
  generalize fa S = r
  rcases r with _ | ⟨_ | _, _⟩ <;> rfl
theorem ap_not : eNot fa S = match fa S with
  | none => none
  | some (.error e, S1) => some (.error e, S1)
  | some (.ok o, S1) => (match bOf o with
  | some b => some (.ok (.d (.bool (!b))), S1)
  | none => none) := by
  show bnd (fa S) _ = _
  generalize fa S = r
  rcases r with _ | ⟨_ | _, _⟩ <;> rfl
theorem ap_wl : wList fe S = match fe S with
  | none => none
  | some (.error e, S1) => some (.error e, S1)
  | some (.ok o, S1) => (match lsOf o with
  | some ds => some (.ok ds, S1)
  | none => none) := by
  show bnd (fe S) _ = _
  generalize fe S = r
  rcases r with _ | ⟨_ | _, _⟩ <;> rfl
theorem ap_wa (k : List O → Option (List PyData)) : wArgs as k S = match argsE as S with
  | none => none
  | some (.error e, S1) => some (.error e, S1)
  | some (.ok hs, S1) => (match vals hs with
  | some os => (match k os with
    | some ds => some (.ok ds, S1)
    | none => none)
  | none => none) := by
  show bnd (argsE as S) _ = _
  generalize argsE as S = r
  rcases r with _ | ⟨_ | _, _⟩ <;> rfl
theorem ap_comp (src : Sl → M (List PyData)) (p : Pt) (vs : List Nat) : eComp src p c fe vs S = match src S with
  | none => none
  | some (.error e, S1) => some (.error e, S1)
  | some (.ok ds, S1) => (if ds.length ≤ LIM then (match compL p c fe vs ds (wipeS S1 vs) [] with
    | some (os, S2) => some (.ok (.l os), wipeS S2 vs)
    | none => none) else none) := by
  show bnd (src S) _ = _
  generalize src S = r
  rcases r with _ | ⟨_ | _, _⟩ <;> rfl
theorem ap_orF (g1 g2 : Fn) : orF g1 g2 os = match g1 os with
  | some r => some r
  | none => g2 os := rfl
theorem ap_mk (n m : Nat) (ws : List Nat) : mkFn n m ws f os = if os.length = m then (match f (os ++ List.replicate (n - m) .no) with
  | some (.ok (.rt o), S) => some (.ok o, outs ws 0 (S.take m))
  | some (.ok .nx, S) => some (.ok (.d .none), outs ws 0 (S.take m))
  | some (.error e, S) => some (.error e, outs ws 0 (S.take m))
  | _ => none) else none := rfl
theorem item_at (x : Int) : gItem [o, .d (.int x)] = match itemO x o with
  | some y => some (.ok (.d y), [o, .d (.int x)])
  | none => none := rfl
theorem len_at : gLen [o] = match lenO o with
  | some n => some (.ok (.d (.int n)), [o])
  | none => none := rfl
theorem lst_at : gLst os = if os.length ≤ LIM then some (.ok (.l os), nos os) else none := rfl
theorem app_at : gAppend [.l xs, o] = if xs.length < LIM then some (.ok (.d .none), [.l (xs ++ [o]), .no]) else none := rfl
theorem ins_at (x : Int) : gInsert [.l xs, .d (.int x), o] = if decide (xs.length < LIM) && decide (0 ≤ x) && decide (x < 100000) then some (.ok (.d .none), [.l (xs.take x.toNat ++ [o] ++ xs.drop x.toNat), .d (.int x), .no]) else none := rfl
theorem cat_at : gCat [o, o2] = match lsOf o, lsOf o2 with
    | some ds, some es => if ds.length + es.length ≤ LIM then some (.ok (dl (ds ++ es)), [nrm o, nrm o2]) else none
    | _, _ => none := rfl
theorem ar_nil : argsE [] S = some (.ok [], S) := rfl
theorem ar_v : argsE (.v i :: as) S = if isNo (S.getD i .no) then none else (match argsE as S with
  | none => none
  | some (.error e, S1) => some (.error e, S1)
  | some (.ok hs, S1) => some (.ok (.inl i :: hs), S1)) := by
  by_cases hn : isNo (S.getD i .no) = true
  · exact (if_pos hn).trans (if_pos hn).symm
  · refine (if_neg hn).trans (Eq.trans ?_ (if_neg hn).symm)
    generalize argsE as S = r2
    rcases r2 with _ | ⟨_ | _, _⟩ <;> rfl
theorem ar_e : argsE (.e fe :: as) S = match fe S with
  | none => none
  | some (.error e, S1) => some (.error e, S1)
  | some (.ok o, S1) => (match argsE as S1 with
    | none => none
    | some (.error e, S1) => some (.error e, S1)
    | some (.ok hs, S2) => some (.ok (.inr o :: hs), S2)) := by
  show bnd (fe S) _ = _
  generalize fe S = r
  rcases r with _ | ⟨_ | o, S1⟩
  · rfl
  · rfl
  · show bnd (argsE as S1) _ = _
    generalize q : argsE as S1 = r2
    simp only [q]
    rcases r2 with _ | ⟨_ | _, _⟩ <;> rfl
end
@[simp] theorem ls_d (ds : List PyData) : lsOf (.d (.list ds)) = some ds := by unfold lsOf; rw [er_d]
@[simp] theorem ls_l (ds : List PyData) : lsOf (.l (ds.map .d)) = some ds := by unfold lsOf; rw [er_l, ers_d]; rfl
@[simp] theorem ls_dl (ds : List PyData) : lsOf (dl ds) = some ds := ls_l ds
@[simp] theorem nrm_dl (ds : List PyData) : nrm (dl ds) = dl ds := by
  unfold nrm
  rw [if_pos]
  show ((ds.map O.d).all fun o => (dOf o).isSome) = true
  rw [List.all_map]
  exact List.all_eq_true.mpr fun x _ => rfl
theorem at_lt {α : Type} {xs : List α} {i : Nat} (h : i < xs.length) : L2.atI xs (i : Int) = some xs[i] := by
  unfold L2.atI L2.ixN
  rw [if_pos (Int.natCast_nonneg i), if_pos (by omega)]
  show xs[(i : Int).toNat]? = _
  rw [Int.toNat_natCast]
  exact List.getElem?_eq_getElem h
theorem at_get {α : Type} {xs : List α} {i : Nat} {x : α} (h : xs[i]? = some x) : L2.atI xs (i : Int) = some x := by
  obtain ⟨h1, h2⟩ := List.getElem?_eq_some_iff.mp h
  rw [at_lt h1, h2]
@[simp] theorem at0 {α : Type} (x : α) (xs : List α) : L2.atI (x :: xs) 0 = some x := at_get (i := 0) rfl
@[simp] theorem at1 {α : Type} (x y : α) (xs : List α) : L2.atI (x :: y :: xs) 1 = some y := at_get (i := 1) rfl
@[simp] theorem at2 {α : Type} (x y z : α) (xs : List α) : L2.atI (x :: y :: z :: xs) 2 = some z := at_get (i := 2) rfl
@[simp] theorem at3 {α : Type} (x y z u : α) (xs : List α) : L2.atI (x :: y :: z :: u :: xs) 3 = some u := at_get (i := 3) rfl
@[simp] theorem at4 {α : Type} (x y z u v : α) (xs : List α) : L2.atI (x :: y :: z :: u :: v :: xs) 4 = some v := at_get (i := 4) rfl
@[simp] theorem ix30 : L2.ixN 3 0 = some 0 := rfl
@[simp] theorem ix31 : L2.ixN 3 1 = some 1 := rfl
@[simp] theorem ix32 : L2.ixN 3 2 = some 2 := rfl
/-- a keg after at most N draws -/
def Keg (N : Nat) (o : O) : Prop := ∃ a b c : Int, o = .l [.d (.int a), .d (.int b), .d (.int c)] ∧ 0 ≤ a ∧ 0 ≤ b ∧ b < 10 ^ 40 ∧ 0 ≤ c ∧ c ≤ N
theorem Keg.mono {N M : Nat} {o : O} (h : Keg N o) (hm : N ≤ M) : Keg M o := by
  obtain ⟨a, b, c, e, h1, h2, h3, h4, h5⟩ := h
  exact ⟨a, b, c, e, h1, h2, h3, h4, by omega⟩
end FT
/-! FT12: loops by invariants; small data. -/
namespace FT
open PySem
@[simp] theorem isNo_d (x : PyData) : isNo (.d x) = false := rfl
@[simp] theorem isNo_l (x : List O) : isNo (.l x) = false := rfl
@[simp] theorem isNo_f (x : List Int) : isNo (.fz x) = false := rfl
@[simp] theorem isNo_n : isNo .no = true := rfl
@[simp] theorem isD_d (x : PyData) : isD (.d x) = true := rfl
@[simp] theorem isD_l (x : List O) : isD (.l x) = false := rfl
@[simp] theorem isD_f (x : List Int) : isD (.fz x) = true := rfl
@[simp] theorem isD_n : isD .no = false := rfl
@[simp] theorem isLs_l (x : List O) : isLs (.l x) = true := rfl
@[simp] theorem isLs_d (x : List PyData) : isLs (.d (.list x)) = true := rfl
@[simp] theorem isNo_dl (ds : List PyData) : isNo (dl ds) = false := rfl
@[simp] theorem isD_dl (ds : List PyData) : isD (dl ds) = false := rfl
@[simp] theorem isLs_dl (ds : List PyData) : isLs (dl ds) = true := rfl
@[simp] theorem er_dl (ds : List PyData) : er (dl ds) = some (.list ds) := by unfold dl; rw [er_l, ers_d]; rfl
@[simp] theorem lenO_dl (ds : List PyData) : lenO (dl ds) = some (ds.length : Int) := by show some ((ds.map O.d).length : Int) = _; rw [List.length_map]
theorem atI_map {α β : Type} (f : α → β) (xs : List α) (i : Int) : L2.atI (xs.map f) i = (L2.atI xs i).map f := by
  unfold L2.atI
  rw [List.length_map]
  cases L2.ixN xs.length i with
  | none => rfl
  | some j => show (xs.map f)[j]? = (xs[j]?).map f; rw [List.getElem?_map]
@[simp] theorem itemO_dl (ds : List PyData) (i : Int) : itemO i (dl ds) = L2.atI ds i := by
  show (L2.atI (ds.map O.d) i).bind dOf = _
  rw [atI_map]
  cases L2.atI ds i <;> rfl
@[simp] theorem itemO_ls (ds : List PyData) (i : Int) : itemO i (.d (.list ds)) = L2.atI ds i := rfl
@[simp] theorem lenO_ls (ds : List PyData) : lenO (.d (.list ds)) = some (ds.length : Int) := rfl
@[simp] theorem itemO_l (xs : List O) (i : Int) : itemO i (.l xs) = (L2.atI xs i).bind dOf := rfl
@[simp] theorem itemO_t (xs : List PyData) (i : Int) : itemO i (.d (.tuple xs)) = L2.atI xs i := rfl
@[simp] theorem itemO_f (xs : List Int) (i : Int) : itemO i (.fz xs) = (L2.atI xs i).map .int := rfl
@[simp] theorem lenO_l (xs : List O) : lenO (.l xs) = some (xs.length : Int) := rfl
@[simp] theorem lenO_f (xs : List Int) : lenO (.fz xs) = some (xs.length : Int) := rfl
@[simp] theorem dOf_d (x : PyData) : dOf (.d x) = some x := rfl
@[simp] theorem bOf_b (b : Bool) : bOf (.d (.bool b)) = some b := rfl
def nameK (o : O) (i : Nat) (S : Sl) : M O := match o with
  | .no => none
  | .fz ns => some (.ok (.fz ns), S)
  | .m _ => none
  | .i _ _ => none
  | .n _ => none
  | .j _ _ _ => none
  | .q _ => none
  | .g _ => none
  | .fr _ _ => none
  | .x _ => none
  | .s t => some (.ok (.s t), S)
  | .d x => some (.ok (.d x), S)
  | .l xs => match ers xs with
    | some ds => some (.ok (.d (.list ds)), S.set i (.d (.list ds)))
    | none => none
theorem ap_nameK (i : Nat) (S : Sl) : eName i S = nameK (S.getD i .no) i S := rfl
@[simp] theorem nameK_d (x : PyData) (i : Nat) (S : Sl) : nameK (.d x) i S = some (.ok (.d x), S) := rfl
@[simp] theorem nameK_f (x : List Int) (i : Nat) (S : Sl) : nameK (.fz x) i S = some (.ok (.fz x), S) := rfl
@[simp] theorem nameK_dl (ds : List PyData) (i : Nat) (S : Sl) : nameK (dl ds) i S = some (.ok (.d (.list ds)), S.set i (.d (.list ds))) := by
  show (match ers (ds.map O.d) with
    | some ds => some (Except.ok (O.d (PyData.list ds)), S.set i (.d (.list ds)))
    | none => none) = _
  rw [ers_d]
@[simp] theorem nameK_l (xs : List O) (i : Nat) (S : Sl) : nameK (.l xs) i S = match ers xs with
    | some ds => some (.ok (.d (.list ds)), S.set i (.d (.list ds)))
    | none => none := rfl
@[simp] theorem fn1_dl (g : List PyData → Option PyData) (ds : List PyData) : fnD g [dl ds] = match g [.list ds] with | some y => some (.ok (.d y), [dl ds]) | none => none := by
  unfold fnD; rw [ers_cons, er_dl, ers_nil] <;> rfl
theorem seq_nx {f g : Sl → MS} {S S1 : Sl} (h : f S = some (.ok .nx, S1)) : sSeq f g S = g S1 := by
  show bnd (f S) _ = _
  rw [h]
theorem mk_rt {n m : Nat} {ws : List Nat} {body : Sl → MS} {os : List O} {o : O} {S : Sl} (hl : os.length = m) (h : body (os ++ List.replicate (n - m) .no) = some (.ok (.rt o), S)) : mkFn n m ws body os = some (.ok o, outs ws 0 (S.take m)) := by
  unfold mkFn
  rw [if_pos hl, h]
theorem mk_nx {n m : Nat} {ws : List Nat} {body : Sl → MS} {os : List O} {S : Sl} (hl : os.length = m) (h : body (os ++ List.replicate (n - m) .no) = some (.ok .nx, S)) : mkFn n m ws body os = some (.ok (.d .none), outs ws 0 (S.take m)) := by
  unfold mkFn
  rw [if_pos hl, h]
/-- data at a list's place -/
def Li (o : O) (ds : List PyData) : Prop := o = dl ds ∨ o = .d (.list ds)
theorem app_dl (ds : List PyData) (x : PyData) : gAppend [dl ds, .d x] = if ds.length < LIM then some (.ok (.d .none), [dl (ds ++ [x]), .no]) else none := by
  show (if (ds.map O.d).length < LIM then some _ else none) = _
  rw [List.length_map, dl, List.map_append]
  rfl
theorem ins_dl (ds : List PyData) (i : Nat) (x : PyData) (hi : i < 100000) (hl : ds.length < LIM) : gInsert [dl ds, .d (.int i), .d x] = some (.ok (.d .none), [dl (ds.take i ++ [x] ++ ds.drop i), .d (.int i), .no]) := by
  show (if decide ((ds.map O.d).length < LIM) && decide (0 ≤ (i : Int)) && decide ((i : Int) < 100000) then some (Except.ok (O.d PyData.none), [O.l ((ds.map O.d).take (i : Int).toNat ++ [O.d x] ++ (ds.map O.d).drop (i : Int).toNat), .d (.int i), .no]) else none) = _
  rw [List.length_map, if_pos (by simp [hl]; omega), Int.toNat_natCast, dl, List.map_append, List.map_append, List.map_take, List.map_drop]
  rfl
@[simp] theorem dII_l (g : Int → Int → Int) (xs : List O) (o : O) : fnD (dII g) [.l xs, o] = none := by
  unfold fnD
  rw [ers_cons, er_l, ers_cons, ers_nil]
  cases ers xs <;> cases er o <;> rfl
@[simp] theorem dAddS_l (xs : List O) (o : O) : fnD dAddS [.l xs, o] = none := by
  unfold fnD
  rw [ers_cons, er_l, ers_cons, ers_nil]
  cases ers xs <;> cases er o <;> rfl
@[simp] theorem dII_dl (g : Int → Int → Int) (ds : List PyData) (o : O) : fnD (dII g) [dl ds, o] = none := dII_l g _ o
@[simp] theorem dAddS_dl (ds : List PyData) (o : O) : fnD dAddS [dl ds, o] = none := dAddS_l _ o
@[simp] theorem dII_dd (g : Int → Int → Int) (ds : List PyData) (o : O) : fnD (dII g) [.d (.list ds), o] = none := by
  unfold fnD
  rw [ers_cons, er_d, ers_cons, ers_nil]
  cases er o <;> rfl
@[simp] theorem dAddS_dd (ds : List PyData) (o : O) : fnD dAddS [.d (.list ds), o] = none := by
  unfold fnD
  rw [ers_cons, er_d, ers_cons, ers_nil]
  cases er o <;> rfl
@[simp] theorem cDiv3 (i : Int) : cDiv i 3 = true := cDiv_pos (by decide) (by decide +kernel)
/-! ### loops -/
theorem loop_inv {p : Pt} {body : Sl → MS} (I : Nat → Sl → Prop) : ∀ (ds : List PyData) (k : Nat) (S : Sl),
    (∀ i d S, ds[i]? = some d → I (k + i) S → ∃ S1 S2, bindP p d S = some S1 ∧ (body S1 = some (.ok .nx, S2) ∨ body S1 = some (.ok .ct, S2)) ∧ I (k + i + 1) S2) → I k S → ∃ S', loopL p body ds S = some (.ok .nx, S') ∧ I (k + ds.length) S'
  | [], k, S, _, h => ⟨S, rfl, h⟩
  | d :: ds, k, S, st, h => by
    obtain ⟨S1, S2, e1, e2, h2⟩ := st 0 d S rfl h
    obtain ⟨S', e3, h3⟩ := loop_inv I ds (k + 1) S2 (fun i d' S'' hd hI => by
      have := st (i + 1) d' S'' hd (by rw [show k + (i + 1) = k + 1 + i by omega]; exact hI)
      rw [show k + (i + 1) + 1 = k + 1 + i + 1 by omega] at this
      exact this) h2
    refine ⟨S', ?_, by rw [show k + (d :: ds).length = k + 1 + ds.length by rw [List.length_cons]; omega]; exact h3⟩
    show (match bindP p d S with
      | none => none
      | some S1 => bnd (body S1) fun fl S2 => match fl with
        | .nx => loopL p body ds S2
        | .ct => loopL p body ds S2
        | .bk => some (.ok .nx, S2)
        | .rt o => some (.ok (.rt o), S2)) = _
    rw [e1]
    rcases e2 with e2 | e2 <;> (show bnd (body S1) _ = _; rw [e2]; exact e3)
theorem for_inv {p : Pt} {body : Sl → MS} {src : Sl → M (List PyData)} {S S1 : Sl} {ds : List PyData} (I : Nat → Sl → Prop) (hs : src S = some (.ok ds, S1)) (h0 : I 0 S1)
    (st : ∀ i d S, ds[i]? = some d → I i S → ∃ S1 S2, bindP p d S = some S1 ∧ (body S1 = some (.ok .nx, S2) ∨ body S1 = some (.ok .ct, S2)) ∧ I (i + 1) S2) : ∃ S', sFor src p body S = some (.ok .nx, S') ∧ I ds.length S' := by
  obtain ⟨S', e, h⟩ := loop_inv I ds 0 S1 (fun i d S hd hI => by rw [Nat.zero_add] at *; exact st i d S hd hI) h0
  rw [Nat.zero_add] at h
  refine ⟨S', ?_, h⟩
  show bnd (src S) _ = _
  rw [hs]
  exact e
theorem while_inv {c : Sl → M Bool} {body : Sl → MS} (I : Nat → Sl → Prop) (P : Sl → Prop)
    (st : ∀ m S, I m S → (∃ S1, c S = some (.ok false, S1) ∧ P S1) ∨ ∃ S1 S2 m', c S = some (.ok true, S1) ∧ body S1 = some (.ok .nx, S2) ∧ m' < m ∧ I m' S2) : ∀ (n m : Nat) (S : Sl), m < n → I m S → ∃ S', loopW c body n S = some (.ok .nx, S') ∧ P S'
  | 0, m, S, hm, _ => absurd hm (Nat.not_lt_zero _)
  | n + 1, m, S, hm, h => by
    rcases st m S h with ⟨S1, e, hP⟩ | ⟨S1, S2, m', e1, e2, hm', h2⟩
    · refine ⟨S1, ?_, hP⟩
      show bnd (c S) _ = _
      rw [e]
      rfl
    · obtain ⟨S', e3, hP⟩ := while_inv I P st n m' S2 (by omega) h2
      refine ⟨S', ?_, hP⟩
      show bnd (c S) _ = _
      rw [e1]
      show bnd (body S1) _ = _
      rw [e2]
      exact e3
theorem comp_inv {p : Pt} {cnd : Sl → M Bool} {elt : Sl → M O} {vs : List Nat} (F : PyData → Option O) (I : Sl → Prop) : ∀ (ds : List PyData) (S : Sl) (acc : List O),
    (∀ d ∈ ds, ∀ S, I S → ∃ S1 S2, bindP p d S = some S1 ∧ ((F d = none ∧ cnd S1 = some (.ok false, S2) ∧ I (wipeS S2 vs)) ∨ ∃ o S3, F d = some o ∧ cnd S1 = some (.ok true, S2) ∧ elt S2 = some (.ok o, S3) ∧ I (wipeS S3 vs))) →
    I S → ∃ S', compL p cnd elt vs ds S acc = some (acc ++ ds.filterMap F, S') ∧ I S'
  | [], S, acc, _, h => ⟨S, by rw [List.filterMap_nil, List.append_nil]; rfl, h⟩
  | d :: ds, S, acc, st, h => by
    obtain ⟨S1, S2, e1, e2⟩ := st d List.mem_cons_self S h
    rcases e2 with ⟨f, c, h2⟩ | ⟨o, S3, f, c, q, h2⟩
    · obtain ⟨S', e3, h3⟩ := comp_inv F I ds _ acc (fun d hd => st d (List.mem_cons_of_mem _ hd)) h2
      refine ⟨S', ?_, h3⟩
      unfold compL
      simp only [e1, c]
      rw [e3, List.filterMap_cons_none f]
    · obtain ⟨S', e3, h3⟩ := comp_inv F I ds _ (acc ++ [o]) (fun d hd => st d (List.mem_cons_of_mem _ hd)) h2
      refine ⟨S', ?_, h3⟩
      unfold compL
      simp only [e1, c, q]
      rw [e3, List.filterMap_cons_some f, List.append_assoc]
      rfl
theorem eComp_inv {src : Sl → M (List PyData)} {p : Pt} {cnd : Sl → M Bool} {elt : Sl → M O} {vs : List Nat} {S S1 : Sl} {ds : List PyData} (F : PyData → Option O) (I : Sl → Prop) (hs : src S = some (.ok ds, S1)) (hl : ds.length ≤ LIM) (h0 : I (wipeS S1 vs))
    (st : ∀ d ∈ ds, ∀ S, I S → ∃ S1 S2, bindP p d S = some S1 ∧ ((F d = none ∧ cnd S1 = some (.ok false, S2) ∧ I (wipeS S2 vs)) ∨ ∃ o S3, F d = some o ∧ cnd S1 = some (.ok true, S2) ∧ elt S2 = some (.ok o, S3) ∧ I (wipeS S3 vs))) :
    ∃ S', eComp src p cnd elt vs S = some (.ok (.l (ds.filterMap F)), wipeS S' vs) ∧ I S' := by
  obtain ⟨S', e, h⟩ := comp_inv F I ds (wipeS S1 vs) [] st h0
  refine ⟨S', ?_, h⟩
  show bnd (src S) _ = _
  rw [hs]
  show (if ds.length ≤ LIM then _ else none) = _
  rw [if_pos hl, e]
  rfl
theorem inB_small {n : Int} (h0 : -1000000 ≤ n) (h : n ≤ 1000000) : inB n = true := by
  unfold inB
  rw [Bool.and_eq_true, decide_eq_true_eq, decide_eq_true_eq]
  exact ⟨Int.le_trans (by decide) h0, Int.lt_of_le_of_lt h (by decide)⟩
theorem rng_at {n i : Nat} {d : PyData} (hd : (rngD 0 n)[i]? = some d) : i < n ∧ d = .int i := by
  rw [rngD, List.getElem?_map] at hd
  by_cases h : i < n
  · rw [List.getElem?_range h] at hd
    exact ⟨h, by simpa using hd.symm⟩
  · rw [List.getElem?_eq_none (by simp; omega)] at hd
    cases hd
theorem rng_len {lo : Int} {n : Nat} : (rngD lo n).length = n := by rw [rngD, List.length_map, List.length_range]
theorem wa_one {fe : Sl → M O} {S S1 : Sl} {o : O} {kk : List O → Option (List PyData)} {ds : List PyData} (h : fe S = some (.ok o, S1)) (hk : kk [o] = some ds) : wArgs [.e fe] kk S = some (.ok ds, S1) := by
  show bnd (bnd (fe S) _) _ = _
  rw [h]
  show (match vals [.inr o] with
    | some os => (match kk os with
      | some ds => some (Except.ok ds, S1)
      | none => none)
    | none => none) = _
  show (match kk [o] with
      | some ds => some (Except.ok ds, S1)
      | none => none) = _
  rw [hk]
theorem rng1_at {fe : Sl → M O} {S S1 : Sl} {n : Nat} (h : fe S = some (.ok (.d (.int n)), S1)) (hn : n ≤ 1000000) : wArgs [.e fe] kRng1 S = some (.ok (rngD 0 n), S1) := by
  refine wa_one h ?_
  show (if inB n then some (rngD 0 (n : Int).toNat) else none) = _
  rw [if_pos (inB_small (by omega) (by omega)), Int.toNat_natCast]
theorem enum_at {fe : Sl → M O} {S S1 : Sl} {o : O} {ds : List PyData} (h : fe S = some (.ok o, S1)) (ho : lsOf o = some ds) : wArgs [.e fe] kEnum S = some (.ok (enumD ds), S1) := by
  refine wa_one h ?_
  show (lsOf o).map enumD = _
  rw [ho]; rfl
theorem wl_at {fe : Sl → M O} {S S1 : Sl} {o : O} {ds : List PyData} (h : fe S = some (.ok o, S1)) (ho : lsOf o = some ds) : wList fe S = some (.ok ds, S1) := by
  show bnd (fe S) _ = _
  rw [h]
  show (match lsOf o with
    | some ds => some (Except.ok ds, S1)
    | none => none) = _
  rw [ho]
/-! ### small data -/
structure Sm (w e : Nat) (d : PyData) : Prop where
  lay : d.canLay0 = true
  sh : d.showable = true
  nd : d.hasDict = false
  ls : d.leavesShort 400 = true
  wt : d.weight ≤ w
  dp : d.depth ≤ e
theorem Sm.mono {w e w' e' : Nat} {d : PyData} (h : Sm w e d) (h1 : w ≤ w') (h2 : e ≤ e') : Sm w' e' d := ⟨h.lay, h.sh, h.nd, h.ls, Nat.le_trans h.wt h1, Nat.le_trans h.dp h2⟩
theorem sm_none : Sm 7 0 .none := ⟨by simp only [PyData.canLay0], by simp only [PyData.showable], by simp only [PyData.hasDict], by simp only [PyData.leavesShort], by simp [PyData.weight], by simp [PyData.depth]⟩
theorem short100 : ∀ j : Nat, j < 100 → (PyData.shown (.int j)).length ≤ 400 := by decide +kernel
theorem sm_int {j : Nat} (h : j < 100) : Sm 7 0 (.int j) := by
  have hl : (j : Int).natAbs.log2 ≤ 6 := by
    rw [Int.natAbs_natCast]
    by_cases h0 : j = 0
    · subst h0; decide
    · have := (Nat.log2_lt h0 (k := 7)).mpr (by omega)
      omega
  refine ⟨by simp only [PyData.canLay0], ?_, by simp only [PyData.hasDict], ?_, ?_, by simp [PyData.depth]⟩
  · simp only [PyData.showable]
    exact decide_eq_true (by omega)
  · simp only [PyData.leavesShort]
    exact decide_eq_true (short100 j h)
  · simp only [PyData.weight]
    split <;> omega
theorem sm_list {w e n : Nat} {ds : List PyData} (h : ∀ d ∈ ds, Sm w e d) (hn : ds.length ≤ n) : Sm (n * (w + 1)) (e + 1) (.list ds) := by
  have key : PyData.canLayAll0 ds = true ∧ PyData.showableAll ds = true ∧ PyData.hasDictAll ds = false ∧ PyData.leavesShortAll 400 ds = true ∧ PyData.weightAll ds ≤ ds.length * (w + 1) ∧ PyData.depthAll ds ≤ e := by
    clear hn
    induction ds with
    | nil => exact ⟨by simp only [PyData.canLayAll0], by simp only [PyData.showableAll], by simp only [PyData.hasDictAll], by simp only [PyData.leavesShortAll], by simp [PyData.weightAll], by simp [PyData.depthAll]⟩
    | cons d ds ih =>
      obtain ⟨i1, i2, i3, i4, i5, i6⟩ := ih fun x hx => h x (List.mem_cons_of_mem _ hx)
      have hd := h d List.mem_cons_self
      refine ⟨?_, ?_, ?_, ?_, ?_, ?_⟩
      · simp only [PyData.canLayAll0, hd.lay, i1, Bool.and_self]
      · simp only [PyData.showableAll, hd.sh, i2, Bool.and_self]
      · simp only [PyData.hasDictAll, hd.nd, i3, Bool.or_self]
      · simp only [PyData.leavesShortAll, hd.ls, i4, Bool.and_self]
      · simp only [PyData.weightAll, List.length_cons]
        have := hd.wt
        rw [Nat.add_mul, Nat.one_mul]
        omega
      · simp only [PyData.depthAll]
        exact Nat.max_le.mpr ⟨hd.dp, i6⟩
  obtain ⟨i1, i2, i3, i4, i5, i6⟩ := key
  refine ⟨by simp only [PyData.canLay0, i1], by simp only [PyData.showable, i2], by simp only [PyData.hasDict, i3], by simp only [PyData.leavesShort, i4], ?_, ?_⟩
  · simp only [PyData.weight]
    exact Nat.le_trans i5 (Nat.mul_le_mul_right _ hn)
  · simp only [PyData.depth]
    omega
theorem repr_ok {o : O} {ds : List PyData} {w e : Nat} (ho : er o = some (.list ds)) (h : Sm w e (.list ds)) (hw : w ≤ 20000) (he : e ≤ 64) : fnD dRepr [o] = some (.ok (.d (.str (PyData.shown (.list ds)))), [o]) := by
  have ok : repOk (.list ds) = true := by
    unfold repOk
    have h1 := h.wt
    have h2 := h.dp
    simp only [h.sh, h.nd, h.ls, Bool.and_eq_true, decide_eq_true_eq, Bool.not_false, and_self, true_and]
    omega
  have hd : dRepr [.list ds] = some (.str (PyData.shown (.list ds))) := by
    show (if isDisp (.list ds) && repOk (.list ds) then some _ else none) = _
    rw [ok]
    rfl
  unfold fnD
  rw [ers_cons, ho, ers_nil]
  show (match dRepr [.list ds] with
    | some x => some (Except.ok (O.d x), [o])
    | none => none) = _
  rw [hd]
theorem Sm.shaped {w e : Nat} {d : PyData} (h : Sm w e d) (he : e ≤ 64) : SeqAt.shaped d = true := by
  unfold SeqAt.shaped
  rw [h.lay, Bool.true_and, decide_eq_true_eq]
  exact Nat.le_trans h.dp he
@[simp] theorem dEq_int (i j : Int) : dEq [.int i, .int j] = some (.bool (decide (i = j))) := by
  show (if SeqAt.shaped (.int i) && SeqAt.shaped (.int j) then some (PyData.bool (PyData.eqv (.int i) (.int j))) else none) = _
  rw [if_pos (by simp [SeqAt.shaped, PyData.canLay0, PyData.depth])]
  simp [PyData.eqv, BEq.beq]
@[simp] theorem dNe_int (i j : Int) : dNe [.int i, .int j] = some (.bool (!decide (i = j))) := by
  show (if SeqAt.shaped (.int i) && SeqAt.shaped (.int j) then some (PyData.bool (!PyData.eqv (.int i) (.int j))) else none) = _
  rw [if_pos (by simp [SeqAt.shaped, PyData.canLay0, PyData.depth])]
  simp [PyData.eqv, BEq.beq]
@[simp] theorem dEq_ni (j : Int) : dEq [.none, .int j] = some (.bool false) := by
  show (if SeqAt.shaped .none && SeqAt.shaped (.int j) then some (PyData.bool (PyData.eqv .none (.int j))) else none) = _
  rw [if_pos (by simp [SeqAt.shaped, PyData.canLay0, PyData.depth])]
  simp [PyData.eqv]
@[simp] theorem dNe_ni (j : Int) : dNe [.none, .int j] = some (.bool true) := by
  show (if SeqAt.shaped .none && SeqAt.shaped (.int j) then some (PyData.bool (!PyData.eqv .none (.int j))) else none) = _
  rw [if_pos (by simp [SeqAt.shaped, PyData.canLay0, PyData.depth])]
  simp [PyData.eqv]
@[simp] theorem dNe_str (x y : Str) : dNe [.str x, .str y] = some (.bool (!(x == y))) := rfl
/-! ### threads -/
def thD : Option Nat → PyData
  | none => .none
  | some j => .int j
def Th (t : List (Option Nat)) : Prop := ∀ i j : Nat, t[i]? = some (some j) → j < i
theorem Th.snoc {t : List (Option Nat)} {x : Option Nat} (h : Th t) (hx : ∀ j, x = some j → j < t.length) : Th (t ++ [x]) := by
  intro i j e
  rw [List.getElem?_append] at e
  split at e
  · exact h i j e
  · rename_i hi
    have : i - t.length = 0 := by
      by_cases q : i - t.length = 0
      · exact q
      · rw [List.getElem?_eq_none (by simp; omega)] at e
        cases e
    rw [this] at e
    have e' : x = some j := by simpa using e
    have := hx j e'
    omega
theorem sm_th {t : List (Option Nat)} (h : Th t) (hl : t.length ≤ 40) : Sm 320 1 (.list (t.map thD)) := by
  refine (sm_list (n := 40) (w := 7) (e := 0) (fun d hd => ?_) (by rw [List.length_map]; exact hl)).mono (by omega) (by omega)
  obtain ⟨x, hx, rfl⟩ := List.mem_map.mp hd
  obtain ⟨i, hi, rfl⟩ := List.getElem_of_mem hx
  cases q : t[i] with
  | none => exact sm_none
  | some j =>
    have := h i j (by rw [List.getElem?_eq_getElem hi, q])
    exact sm_int (by omega)
theorem Keg.isNo {N : Nat} {o : O} (h : Keg N o) : isNo o = false := by obtain ⟨_, _, _, rfl, _⟩ := h; rfl
theorem Keg.isD {N : Nat} {o : O} (h : Keg N o) : isD o = false := by obtain ⟨_, _, _, rfl, _⟩ := h; rfl
end FT
namespace FT
open PySem
theorem enum_mem {ds : List PyData} {d : PyData} (h : d ∈ enumD ds) : ∃ i x, ds[i]? = some x ∧ d = .tuple [.int (i : Nat), x] := by
  unfold enumD at h
  obtain ⟨⟨x, i⟩, hm, rfl⟩ := List.mem_map.mp h
  have := List.mem_zipIdx' hm
  exact ⟨i, x, by rw [List.getElem?_eq_getElem this.1]; exact congrArg some this.2.symm, rfl⟩
theorem enum_at' {ds : List PyData} {i : Nat} {d : PyData} (h : (enumD ds)[i]? = some d) : ∃ x, ds[i]? = some x ∧ d = .tuple [.int (i : Nat), x] := by
  unfold enumD at h
  rw [List.getElem?_map, List.getElem?_zipIdx] at h
  cases q : ds[i]? with
  | none => rw [q] at h; simp at h
  | some x => rw [q] at h; simp at h; exact ⟨x, rfl, h.symm⟩
theorem enum_len {ds : List PyData} : (enumD ds).length = ds.length := by unfold enumD; rw [List.length_map, List.length_zipIdx]
theorem fm_const (o : O) : ∀ ds : List PyData, ds.filterMap (fun _ => some o) = ds.map fun _ => o
  | [] => rfl
  | d :: ds => by
    show o :: ds.filterMap (fun _ => some o) = o :: ds.map fun _ => o
    rw [fm_const o ds]
theorem fm_some (f : PyData → O) : ∀ ds : List PyData, ds.filterMap (fun d => some (f d)) = ds.map f
  | [] => rfl
  | d :: ds => by
    show f d :: ds.filterMap (fun d => some (f d)) = f d :: ds.map f
    rw [fm_some f ds]
theorem map_th_at {t : List (Option Nat)} {i : Nat} {x : PyData} (h : (t.map thD)[i]? = some x) : ∃ y, t[i]? = some y ∧ x = thD y := by
  rw [List.getElem?_map] at h
  cases q : t[i]? with
  | none => rw [q] at h; cases h
  | some y => rw [q] at h; cases h; exact ⟨y, rfl, rfl⟩
theorem all_true : ∀ ds : List PyData, fnD dAll [.l (ds.map fun _ => O.d (.bool true))] = some (.ok (.d (.bool true)), [.l (ds.map fun _ => O.d (.bool true))]) := fun ds => by
  have e : (ds.map fun _ => O.d (PyData.bool true)) = (ds.map fun _ => PyData.bool true).map O.d := by rw [List.map_map]; rfl
  unfold fnD
  rw [e, ers_cons, er_l, ers_d, ers_nil]
  show (match dAll [.list (ds.map fun _ => PyData.bool true)] with
    | some x => some (Except.ok (O.d x), _)
    | none => none) = _
  have q : dAll [.list (ds.map fun _ => PyData.bool true)] = some (.bool true) := by
    have z : ∀ l : List PyData, (l.map fun _ => PyData.bool true).mapM bOf1 = some (l.map fun _ => true) := fun l => by
      induction l with
      | nil => rfl
      | cons a l ih =>
        rw [List.map_cons, List.mapM_cons, ih]
        rfl
    show ((ds.map fun _ => PyData.bool true).mapM bOf1).map (fun bs => PyData.bool (bs.all id)) = _
    rw [z]
    show some (PyData.bool ((ds.map fun _ => true).all id)) = _
    rw [List.all_map]
    simp
  rw [q]
end FT
namespace FT
open PySem
def nD (L : List Nat) : List PyData := L.map fun a : Nat => .int (a : Int)
theorem nD_len {L : List Nat} : (nD L).length = L.length := by rw [nD, List.length_map]
@[simp] theorem nD_snoc (L : List Nat) (a : Nat) : nD (L ++ [a]) = nD L ++ [.int (a : Int)] := by rw [nD, List.map_append]; rfl
theorem dRepr_ok {ds : List PyData} {w e : Nat} (h : Sm w e (.list ds)) (hw : w ≤ 20000) (he : e ≤ 64) : dRepr [.list ds] = some (.str (PyData.shown (.list ds))) := by
  have ok : repOk (.list ds) = true := by
    unfold repOk
    have h1 := h.wt
    have h2 := h.dp
    simp only [h.sh, h.nd, h.ls, Bool.and_eq_true, decide_eq_true_eq, Bool.not_false, and_self, true_and]
    omega
  show (if isDisp (.list ds) && repOk (.list ds) then some _ else none) = _
  rw [ok]
  rfl
theorem reprL_ok {os : List O} {ds : List PyData} {w e : Nat} (ho : ers os = some ds) (h : Sm w e (.list ds)) (hl : ds.length ≤ 1000) (hw : w ≤ 20000) (he : e ≤ 64) : gReprL os = some (.ok (.d (.str (PyData.shown (.list ds)))), os) := by
  have ok : repOk (.list ds) = true := by
    unfold repOk
    have h1 := h.wt
    have h2 := h.dp
    simp only [h.sh, h.nd, h.ls, Bool.and_eq_true, decide_eq_true_eq, Bool.not_false, and_self, true_and]
    omega
  unfold gReprL
  rw [ho]
  show (if decide (ds.length ≤ LIM) && repOk (.list ds) then _ else none) = _
  rw [ok, if_pos]
  rw [Bool.and_true, decide_eq_true_eq]
  exact Nat.le_trans hl (by decide)
theorem sm_pair {w e : Nat} {d : PyData} (h : Sm w e d) : Sm (2 * (w + 1)) (e + 1) (.list [d, d]) := sm_list (n := 2) (fun x hx => by
  rcases List.mem_cons.mp hx with rfl | hx
  · exact h
  · rcases List.mem_cons.mp hx with rfl | hx
    · exact h
    · cases hx) (Nat.le_refl 2)
theorem sm_nats {L : List Nat} (h : ∀ a ∈ L, a < 100) (hl : L.length ≤ 40) : Sm 320 1 (.list (nD L)) :=
  (sm_list (n := 40) (w := 7) (e := 0) (fun d hd => by
    obtain ⟨x, hx, rfl⟩ := List.mem_map.mp hd
    exact sm_int (h x hx)) (by rw [nD_len]; exact hl)).mono (by omega) (by omega)
@[simp] theorem dNe_self (x : Str) : dNe [.str x, .str x] = some (.bool false) := by
  rw [dNe_str]
  have : (x == x) = true := by first | exact beq_self_eq_true x | simp
  rw [this]; rfl
theorem fn1_l (g : List PyData → Option PyData) (xs : List O) : fnD g [.l xs] = match ers xs with | some ds => (match g [.list ds] with | some y => some (.ok (.d y), [.l xs]) | none => none) | none => none := by
  unfold fnD; rw [ers_cons, er_l, ers_nil]
  cases ers xs <;> rfl
@[simp] theorem fn2_dl (g : List PyData → Option PyData) (x : PyData) (ds : List PyData) : fnD g [.d x, dl ds] = match g [x, .list ds] with | some z => some (.ok (.d z), [.d x, dl ds]) | none => none := by
  unfold fnD; rw [ers_cons, er_d, ers_cons, er_dl, ers_nil] <;> rfl
theorem dIn_int {L : List Nat} (h : ∀ a ∈ L, a < 100) (hl : L.length ≤ 40) (j : Nat) : dIn [.int j, .list (nD L)] = some (.bool (decide (j ∈ L))) := by
  show (if SeqAt.shaped (.int j) && SeqAt.shaped (.list (nD L)) then some (PyData.bool ((nD L).any fun z => PyData.eqv z (.int j))) else none) = _
  rw [if_pos (by rw [(sm_nats h hl).shaped (by decide)]; simp [SeqAt.shaped, PyData.canLay0, PyData.depth])]
  congr 2
  rw [nD, List.any_map, Bool.eq_iff_iff, List.any_eq_true, decide_eq_true_eq]
  constructor
  · rintro ⟨a, ha, e⟩
    have : (a : Int) = j := by simpa [PyData.eqv] using e
    rw [show j = a by omega]; exact ha
  · intro hj
    exact ⟨j, hj, by simp [PyData.eqv]⟩
theorem dIn_none {L : List Nat} (h : ∀ a ∈ L, a < 100) (hl : L.length ≤ 40) : dIn [.none, .list (nD L)] = some (.bool false) := by
  show (if SeqAt.shaped .none && SeqAt.shaped (.list (nD L)) then some (PyData.bool ((nD L).any fun z => PyData.eqv z .none)) else none) = _
  rw [if_pos (by rw [(sm_nats h hl).shaped (by decide)]; simp [SeqAt.shaped, PyData.canLay0, PyData.depth])]
  congr 2
  rw [nD, List.any_map, List.any_eq_false]
  intro a _
  simp [PyData.eqv]
theorem at_app (a : List PyData) (b : O) (x : PyData) (h : a.length < 100000) : gAt 0 (upApp x) [.l [dl a, b]] = some (.ok (.d .none), [.l [dl (a ++ [x]), b]]) := by
  show (match (if (a.map O.d).length < LIM then some (a.map O.d ++ [O.d x]) else none) with
    | some ps' => some (Except.ok (O.d PyData.none), [O.l ([dl a, b].set 0 (.l ps'))])
    | none => none) = _
  rw [List.length_map, if_pos (show a.length < LIM from h)]
  show some (Except.ok (O.d PyData.none), [O.l [.l (a.map O.d ++ [O.d x]), b]]) = _
  rw [show dl (a ++ [x]) = .l (a.map O.d ++ [O.d x]) by rw [dl, List.map_append]; rfl]
end FT
namespace FT
open PySem
theorem par_at {i j : Nat} {fa fb : Sl → M O} {S S1 S2 : Sl} {a b : O} (h1 : fa S = some (.ok a, S1)) (h2 : fb S1 = some (.ok b, S2)) : sPar i j [.e fa, .e fb] S = some (.ok .nx, (S2.set i a).set j b) := by
  show bnd (bnd (fa S) _) _ = _
  rw [h1]
  show bnd (bnd (bnd (fb S1) _) _) _ = _
  rw [h2]
  rfl
theorem set_at {i : Nat} {fa : Sl → M O} {S S1 : Sl} {a : O} (h1 : fa S = some (.ok a, S1)) : sSet i fa S = some (.ok .nx, S1.set i a) := by
  show bnd (fa S) _ = _
  rw [h1]
theorem eqvAll_nD : ∀ L : List Nat, PyData.eqvAll (nD L) (nD L) = true
  | [] => by simp [nD, PyData.eqvAll]
  | a :: L => by
    have := eqvAll_nD L
    simp only [nD, List.map_cons, PyData.eqvAll, PyData.eqv] at this ⊢
    simp [this]
theorem dEq_nD {L : List Nat} (h : ∀ a ∈ L, a < 100) (hl : L.length ≤ 40) : dEq [.list (nD L), .list (nD L)] = some (.bool true) := by
  show (if SeqAt.shaped (.list (nD L)) && SeqAt.shaped (.list (nD L)) then some (PyData.bool (PyData.eqv (.list (nD L)) (.list (nD L)))) else none) = _
  rw [if_pos (by rw [(sm_nats h hl).shaped (by decide)]; rfl)]
  simp only [PyData.eqv, eqvAll_nD]
theorem fn_er2 {g : List PyData → Option PyData} {o1 o2 : O} {d1 d2 x : PyData} (h1 : er o1 = some d1) (h2 : er o2 = some d2) (h : g [d1, d2] = some x) : fnD g [o1, o2] = some (.ok (.d x), [o1, o2]) := by
  unfold fnD
  rw [ers_cons, h1, ers_cons, h2, ers_nil]
  show (match g [d1, d2] with
    | some x => some (Except.ok (O.d x), [o1, o2])
    | none => none) = _
  rw [h]
theorem app_ee {G : Fn} {fa fb : Sl → M O} {S S1 S2 : Sl} {a b r a' b' : O} (h1 : fa S = some (.ok a, S1)) (h2 : fb S1 = some (.ok b, S2)) (h : G [a, b] = some (.ok r, [a', b'])) : eApp G [.e fa, .e fb] S = some (.ok r, S2) := by
  show bnd (bnd (fa S) _) _ = _
  rw [h1]
  show bnd (bnd (bnd (fb S1) _) _) _ = _
  rw [h2]
  show (match G [a, b] with
    | none => none
    | some (out, os') => some (out, back [.inr a, .inr b] os' S2)) = _
  rw [h]
  rfl
theorem app_e {G : Fn} {fa : Sl → M O} {S S1 : Sl} {a r a' : O} (h1 : fa S = some (.ok a, S1)) (h : G [a] = some (.ok r, [a'])) : eApp G [.e fa] S = some (.ok r, S1) := by
  show bnd (bnd (fa S) _) _ = _
  rw [h1]
  show (match G [a] with
    | none => none
    | some (out, os') => some (out, back [.inr a] os' S1)) = _
  rw [h]
  rfl
theorem and_at {fa fb : Sl → M O} {S S1 : Sl} {r : Option (Except Ex O × Sl)} (h1 : fa S = some (.ok (.d (.bool true)), S1)) (h : fb S1 = r) : eAnd fa fb S = r := by
  show bnd (fa S) _ = _
  rw [h1]
  exact h
theorem ret_at {fa : Sl → M O} {S S1 : Sl} {a : O} (h1 : fa S = some (.ok a, S1)) : sRet fa S = some (.ok (.rt a), S1) := by
  show bnd (fa S) _ = _
  rw [h1]
end FT
namespace FT
open PySem
theorem app_vl {G : Fn} {i : Nat} {S : Sl} {o r o' : O} (hl : i < S.length) (hS : S.getD i .no = o) (hn : isNo o = false) (hd : isD o = false) (h : G [o] = some (.ok r, [o'])) : eApp G [.v i] S = some (.ok r, S.set i o') := by
  subst hS
  show bnd (if isNo (S.getD i .no) then none else some (.ok [Sum.inl i], S)) _ = _
  rw [hn]
  show (match G (grab [Sum.inl i] S).1 with
    | none => none
    | some (out, os') => some (out, back [Sum.inl i] os' (grab [Sum.inl i] S).2)) = _
  have e : grab [Sum.inl i] S = ([S.getD i .no], S.set i .no) := by
    show (let o := S.getD i .no; let r := grab [] (if isD o then S else S.set i .no); (o :: r.1, r.2)) = _
    simp only [hd]
    rfl
  rw [e]
  show (match G [S.getD i .no] with
    | none => none
    | some (out, os') => some (out, back [Sum.inl i] os' (S.set i .no))) = _
  rw [h]
  show some (Except.ok r, if isNo ((S.set i .no).getD i .no) then (S.set i .no).set i o' else S.set i .no) = _
  rw [if_pos (by rw [List.getD_eq_getElem?_getD, List.getElem?_set_self hl]; rfl), List.set_set]
theorem app_vd {G : Fn} {i : Nat} {S : Sl} {o r o' : O} (hS : S.getD i .no = o) (hd : isD o = true) (h : G [o] = some (.ok r, [o'])) : eApp G [.v i] S = some (.ok r, S) := by
  subst hS
  have hn : isNo (S.getD i .no) = false := by
    cases q : S.getD i .no with
    | no => rw [q] at hd; cases hd
    | fr P fp => rw [q] at hd; cases hd
    | _ => rfl
  show bnd (if isNo (S.getD i .no) then none else some (.ok [Sum.inl i], S)) _ = _
  rw [hn]
  show (match G (grab [Sum.inl i] S).1 with
    | none => none
    | some (out, os') => some (out, back [Sum.inl i] os' (grab [Sum.inl i] S).2)) = _
  have e : grab [Sum.inl i] S = ([S.getD i .no], S) := by
    show (let o := S.getD i .no; let r := grab [] (if isD o then S else S.set i .no); (o :: r.1, r.2)) = _
    simp only [hd]
    rfl
  rw [e]
  show (match G [S.getD i .no] with
    | none => none
    | some (out, os') => some (out, back [Sum.inl i] os' S)) = _
  rw [h]
  show some (Except.ok r, if isNo (S.getD i .no) then S.set i o' else S) = _
  rw [hn]
  rfl
end FT
/-! FT13: more plain lemmas. -/
namespace FT
open PySem
theorem wa_two {fa fb : Sl → M O} {S S1 S2 : Sl} {a b : O} {kk : List O → Option (List PyData)} {ds : List PyData} (h1 : fa S = some (.ok a, S1)) (h2 : fb S1 = some (.ok b, S2)) (hk : kk [a, b] = some ds) : wArgs [.e fa, .e fb] kk S = some (.ok ds, S2) := by
  show bnd (bnd (fa S) _) _ = _
  rw [h1]
  show bnd (bnd (bnd (fb S1) _) _) _ = _
  rw [h2]
  show (match kk [a, b] with
      | some ds => some (Except.ok ds, S2)
      | none => none) = _
  rw [hk]
theorem rng2_at {fa fb : Sl → M O} {S S1 S2 : Sl} {i n : Nat} (h1 : fa S = some (.ok (.d (.int i)), S1)) (h2 : fb S1 = some (.ok (.d (.int n)), S2)) (hi : i ≤ 1000000) (hn : n ≤ 1000000) : wArgs [.e fa, .e fb] kRng2 S = some (.ok (rngD i (n - i)), S2) := by
  refine wa_two h1 h2 ?_
  show (if inB i && inB n then some (rngD i ((n : Int) - i).toNat) else none) = _
  rw [inB_small (by omega) (by omega), inB_small (by omega) (by omega), show ((n : Int) - i).toNat = n - i by omega]
  rfl
theorem app_ve {G : Fn} {fb : Sl → M O} {i : Nat} {S S1 : Sl} {o b r o' b' : O} (h0 : isNo (S.getD i .no) = false) (h2 : fb S = some (.ok b, S1)) (hl : i < S1.length) (hS : S1.getD i .no = o) (hd : isD o = false) (h : G [o, b] = some (.ok r, [o', b'])) : eApp G [.v i, .e fb] S = some (.ok r, S1.set i o') := by
  subst hS
  show bnd (if isNo (S.getD i .no) then none else bnd (bnd (fb S) _) _) _ = _
  rw [h0]
  show bnd (bnd (bnd (fb S) _) _) _ = _
  rw [h2]
  show (match G (grab [Sum.inl i, Sum.inr b] S1).1 with
    | none => none
    | some (out, os') => some (out, back [Sum.inl i, Sum.inr b] os' (grab [Sum.inl i, Sum.inr b] S1).2)) = _
  have e : grab [Sum.inl i, Sum.inr b] S1 = ([S1.getD i .no, b], S1.set i .no) := by
    show (let o := S1.getD i .no; let r := grab [Sum.inr b] (if isD o then S1 else S1.set i .no); (o :: r.1, r.2)) = _
    simp only [hd]
    rfl
  rw [e]
  show (match G [S1.getD i .no, b] with
    | none => none
    | some (out, os') => some (out, back [Sum.inl i, Sum.inr b] os' (S1.set i .no))) = _
  rw [h]
  show some (Except.ok r, if isNo ((S1.set i .no).getD i .no) then (S1.set i .no).set i o' else S1.set i .no) = _
  rw [if_pos (by rw [List.getD_eq_getElem?_getD, List.getElem?_set_self hl]; rfl), List.set_set]
theorem add_dl {a b : List PyData} (h : a.length + b.length ≤ 1000) : gAdd [dl a, dl b] = some (.ok (dl (a ++ b)), [dl a, dl b]) := by
  show (match fnD (dII fun i j => i + j) [dl a, dl b] with
    | some r => some r
    | none => orF (fnD dAddS) gCat [dl a, dl b]) = _
  rw [dII_dl]
  show (match fnD dAddS [dl a, dl b] with
    | some r => some r
    | none => gCat [dl a, dl b]) = _
  rw [dAddS_dl]
  show gCat [dl a, dl b] = _
  rw [cat_at, ls_dl, ls_dl]
  show (if a.length + b.length ≤ LIM then some (Except.ok (dl (a ++ b)), [nrm (dl a), nrm (dl b)]) else none) = _
  rw [if_pos (Nat.le_trans h (by decide)), nrm_dl, nrm_dl]
theorem pop_nD {w : List Nat} {a : Nat} : gPop [dl (nD (w ++ [a]))] = some (.ok (.d (.int a)), [dl (nD w)]) := by
  show (match ((nD (w ++ [a])).map O.d)[((nD (w ++ [a])).map O.d).length - 1]? with
    | some o => some (Except.ok o, [O.l ((nD (w ++ [a])).map O.d).dropLast])
    | none => none) = _
  rw [nD_snoc, List.map_append]
  show (match ((nD w).map O.d ++ [O.d (.int a)])[((nD w).map O.d ++ [O.d (.int a)]).length - 1]? with
    | some o => some (Except.ok o, [O.l ((nD w).map O.d ++ [O.d (.int a)]).dropLast])
    | none => none) = _
  rw [List.dropLast_concat, List.length_append]
  show (match ((nD w).map O.d ++ [O.d (.int a)])[((nD w).map O.d).length + 1 - 1]? with
    | some o => some (Except.ok o, [O.l ((nD w).map O.d)])
    | none => none) = _
  rw [Nat.add_sub_cancel, List.getElem?_concat_length]
  rfl
theorem at_clr (a : List PyData) (b : O) : gAt 0 upClr [.l [dl a, b]] = some (.ok (.d .none), [.l [dl [], b]]) := rfl
theorem dEq_thn (x : Option Nat) : dEq [thD x, .none] = some (.bool (decide (x = none))) := by
  cases x with
  | none =>
    show (if SeqAt.shaped .none && SeqAt.shaped .none then some (PyData.bool (PyData.eqv .none .none)) else none) = _
    rw [if_pos (by simp [SeqAt.shaped, PyData.canLay0, PyData.depth])]
    simp [PyData.eqv]
  | some j =>
    show (if SeqAt.shaped (.int j) && SeqAt.shaped .none then some (PyData.bool (PyData.eqv (.int j) .none)) else none) = _
    rw [if_pos (by simp [SeqAt.shaped, PyData.canLay0, PyData.depth])]
    simp [PyData.eqv]
theorem dEq_thi (x : Option Nat) (a : Nat) : dEq [thD x, .int a] = some (.bool (decide (x = some a))) := by
  cases x with
  | none => exact (dEq_ni _).trans (by simp)
  | some j =>
    refine (dEq_int _ _).trans ?_
    congr 2
    rw [Bool.eq_iff_iff, decide_eq_true_eq, decide_eq_true_eq]
    constructor
    · intro h; rw [show j = a by omega]
    · intro h; injection h with h; rw [h]
theorem dNe_nD {w : List Nat} (h : ∀ a ∈ w, a < 100) (hl : w.length ≤ 40) : dNe [.list (nD w), .list []] = some (.bool (!decide (w = []))) := by
  show (if SeqAt.shaped (.list (nD w)) && SeqAt.shaped (.list []) then some (PyData.bool (!PyData.eqv (.list (nD w)) (.list []))) else none) = _
  rw [if_pos (by rw [(sm_nats h hl).shaped (by decide)]; simp [SeqAt.shaped, PyData.canLay0, PyData.canLayAll0, PyData.depth, PyData.depthAll])]
  cases w with
  | nil => simp [nD, PyData.eqv, PyData.eqvAll]
  | cons a w => simp [nD, PyData.eqv, PyData.eqvAll]
theorem dIdx {L : List Nat} (h : ∀ a ∈ L, a < 100) (hl : L.length ≤ 40) {j : Nat} (hj : j ∈ L) : dIndex [.list (nD L), .int j] = some (.int (L.idxOf j : Nat)) := by
  show (if SeqAt.shaped (.list (nD L)) && SeqAt.shaped (.int j) then ((nD L).findIdx? fun z => PyData.eqv z (.int j)).map fun k => PyData.int (k : Nat) else none) = _
  rw [if_pos (by rw [(sm_nats h hl).shaped (by decide)]; simp [SeqAt.shaped, PyData.canLay0, PyData.depth])]
  have e : ((nD L).findIdx? fun z => PyData.eqv z (.int j)) = some (L.idxOf j) := by
    clear h hl
    induction L with
    | nil => cases hj
    | cons a L ih =>
      rw [nD, List.map_cons, List.findIdx?_cons]
      by_cases q : a = j
      · subst q
        simp [PyData.eqv]
      · have hj' : j ∈ L := by
          rcases List.mem_cons.mp hj with r | r
          · exact absurd r.symm q
          · exact r
        have ih' := ih hj'
        rw [nD] at ih'
        have qz : ¬ (a : Int) = (j : Int) := by omega
        have hb : (a == j) = false := by simpa using q
        simp [PyData.eqv, qz, ih', List.idxOf_cons, hb]
  rw [e]
  rfl
end FT
/-! FT14: a comprehension over a list that its name keeps. -/
namespace FT
open PySem PySem.Spec PyProof.Rows L2
section
variable {K : PySem.W.Frag} {Y : YX} {W : WX} {ws : List Nat} {g : TG} {p : Pt}
def eCompO (i : Nat) (en : List PyData → List PyData) (p : Pt) (cnd : Sl → M Bool) (elt : Sl → M O) (vs : List Nat) : Sl → M O := fun S => match S.getD i .no with
  | .l xs => if (xs.all fun o => (dOf o).isSome) && decide ((en (xs.filterMap dOf)).length ≤ LIM) then (match compL p cnd elt vs (en (xs.filterMap dOf)) (wipeS (S.set i .no) vs) [] with
      | some (os, S2) => some (.ok (.l os), (wipeS S2 vs).set i (.l xs))
      | none => none) else none
  | _ => none
/-- the walk over the list in slot i, which the walk itself keeps -/
def SItO (K : PySem.W.Frag) (wi : TI) (i : Nat) (en : List PyData → List PyData) : Prop := ∀ (R : List Addr) (L : List En) (σ : Slots) (H : Hp) (ds : List PyData) (a : Addr), σ[i]? = some (some (.ref a)) → ∀ (Rr : It → Hp → Prop),
  Rel K H R ((.l (ds.map .d), some (.ref a)) :: L) → (∀ J H', IterOk K J (en ds) [(.l (ds.map .d), some (.ref a))] → Rel K H' R ((.l (ds.map .d), some (.ref a)) :: L) → Rr J H') → wi σ H Rr
theorem iter_enumO {a : Addr} {ds : List PyData} : IterOk K (Ite K a) (enumD ds) [(.l (ds.map .d), some (.ref a))] := by
  intro R L H rel i
  refine ⟨fun d hd => ?_, fun hi => ?_⟩
  · obtain ⟨x, hx, rfl⟩ := enum_at' hd
    have rel0 : Rel K H R ((.l (ds.map .d), some (.ref a)) :: L) := rel
    obtain ⟨a', vs, v, e, ha, el, hv, r2⟩ := rel0.itemL (j := i) (x := x) (by rw [List.getElem?_map, hx]; rfl)
    cases e
    refine ⟨⟨vs, v, SqL.of ha, hv⟩, fun y H' hy => ?_⟩
    obtain ⟨T', z, rfl, hT, rfl, fv⟩ := hy
    have e2 := (fv vs (SqL.of ha)).symm.trans hv
    cases e2
    exact Rel.pair hT (r2.addS (x := .int (i : Nat)) rfl)
  · have rel0 : Rel K H R ((.l (ds.map .d), some (.ref a)) :: L) := rel
    obtain ⟨a', vs, e, ha, el, _⟩ := rel0.open
    cases e
    have h : (enumD ds).length ≤ i := hi
    rw [enum_len] at h
    rw [List.length_map] at el
    exact ⟨vs, SqL.of ha, by omega⟩
theorem si_enumO {i : Nat} : SItO K (iEnum K (tCons (tVar i) tNil)) i enumD := by
  intro R L σ H ds a hi Rr rel q
  obtain ⟨a', vs, e, ha, _⟩ := rel.open
  cases e
  exact ⟨_, hi, a, vs, rfl, SqL.of ha, q _ H iter_enumO rel⟩
theorem se_compO {wi : TI} {i0 : Nat} {tt : TT} {cnd : Sl → M Bool} {te : TE} {elt : Sl → M O} {vs : List Nat} {en : List PyData → List PyData} (hs : SItO K wi i0 en) (hg : SG K vs g p) (ht : ST K Y W0 tt cnd) (he : SE K Y W0 te elt) :
    SE K Y W (tLc wi g tt te vs) (eCompO i0 en p cnd elt vs) := by
  intro R T S σ H Q out S' hl hf rel post
  unfold eCompO at hf
  cases hx : S.getD i0 .no with
  | no => rw [hx] at hf; cases hf
  | d x => rw [hx] at hf; cases hf
  | fz x => rw [hx] at hf; cases hf
  | m x => rw [hx] at hf; cases hf
  | s x => rw [hx] at hf; cases hf
  | i x y => rw [hx] at hf; cases hf
  | n x => rw [hx] at hf; cases hf
  | j x y z => rw [hx] at hf; cases hf
  | q x => rw [hx] at hf; cases hf
  | g x => rw [hx] at hf; cases hf
  | fr x y => rw [hx] at hf; cases hf
  | x y => rw [hx] at hf; cases hf
  | l xs =>
    rw [hx] at hf
    have hf1 : (if (xs.all fun o => (dOf o).isSome) && decide ((en (xs.filterMap dOf)).length ≤ LIM) then (match compL p cnd elt vs (en (xs.filterMap dOf)) (wipeS (S.set i0 .no) vs) [] with
      | some (os, S2) => some (Except.ok (O.l os), (wipeS S2 vs).set i0 (.l xs))
      | none => none) else none) = some (out, S') := hf
    split at hf1
    · rename_i hc
      rw [Bool.and_eq_true, decide_eq_true_eq] at hc
      obtain ⟨hfl, hlim⟩ := hc
      have hi0 : i0 < S.length := by
        refine Nat.lt_of_not_le fun h => ?_
        rw [List.getD_eq_getElem?_getD, List.getElem?_eq_none h] at hx
        cases hx
      have hS : S[i0]? = some (.l xs) := by
        rw [List.getD_eq_getElem?_getD, List.getElem?_eq_getElem hi0] at hx
        rw [List.getElem?_eq_getElem hi0]
        exact congrArg some hx
      have hw0 : σ[i0]? = some σ[i0] := List.getElem?_eq_getElem (by omega)
      obtain ⟨xd, hxd⟩ := flat_eq hfl
      have hds : xs.filterMap dOf = xd := by
        rw [hxd, List.filterMap_map]
        show xd.filterMap (fun x => dOf (.d x)) = xd
        exact List.filterMap_some
      rw [hds] at hf1 hlim
      obtain ⟨ds, hdsE⟩ : ∃ ds, ds = en xd := ⟨_, rfl⟩
      rw [← hdsE] at hf1 hlim
      cases qc : compL p cnd elt vs ds (wipeS (S.set i0 .no) vs) [] with
      | none => simp only [qc] at hf1; cases hf1
      | some q =>
        obtain ⟨os, S2⟩ := q
        simp only [qc] at hf1
        cases hf1
        have rel1 := rel.take hS hw0
        have hl1 : (S.set i0 O.no).length = σ.length := by rw [List.length_set]; exact hl
        obtain ⟨a0, ws0, ea0, _⟩ := rel1.open
        rw [hxd] at rel1
        obtain ⟨wv, hwv⟩ : ∃ wv, σ[i0] = wv := ⟨_, rfl⟩
        rw [hwv] at rel1 ea0 hw0
        subst ea0
        refine hs R _ σ H xd a0 hw0 _ rel1 fun J H1 hJ rel1' => ?_
        obtain ⟨S1, hS1⟩ : ∃ S1, S1 = S.set i0 O.no := ⟨_, rfl⟩
        rw [← hS1] at rel1' hl1 qc
        rw [← hdsE] at hJ
        obtain ⟨L0, hL0⟩ : ∃ L0 : List En, L0 = [(.l (xd.map O.d), some (.ref a0))] := ⟨_, rfl⟩
        rw [← hL0] at hJ
        have rel1 : Rel K H1 R (L0 ++ (S1.zip σ ++ T)) := by rw [hL0]; exact rel1'
        intro D hD
        have qq := kept_wipe (kw vs σ)
        refine ⟨fun i m H' => m = ds.length - i ∧ i ≤ ds.length ∧ ∃ Si acc, Si.length = σ.length ∧ acc.length ≤ i ∧ compL p cnd elt vs (ds.drop i) Si acc = some (os, S2) ∧
            Rel K H' R (L0 ++ (Si.zip (wipe σ vs) ++ ((.l acc, some (.ref D)) :: T))), ⟨ds.length, by simp, Nat.zero_le _, wipeS S1 vs, [], by rw [wipeS_len]; exact hl1, Nat.zero_le _, qc, ?_⟩, ?_⟩
        · have r1 : Rel K H1 R (S1.zip σ ++ (T ++ L0)) := rel1.rot3
          have r2 : Rel K (upd H1 D (.lst [])) (D :: R) (([] : List O).zip (([] : List V).map some) ++ ((wipeS S1 vs).zip (wipe σ vs) ++ (T ++ L0))) := (Rel.wipes vs r1).fresh (u := .lst []) hD
          have r3 : Rel K (upd H1 D (.lst [])) R ((.l [], some (.ref D)) :: ((wipeS S1 vs).zip (wipe σ vs) ++ (T ++ L0))) := r2.close upd_same rfl
          exact Rel.rot3' (C := (.l [], some (.ref D)) :: T) r3.unmid
        · rintro i m H' ⟨rfl, hi, Si, acc, hli, hai, hco, reli⟩
          by_cases hlt : i < ds.length
          · have hd : ds[i]? = some ds[i] := List.getElem?_eq_getElem hlt
            have ed : ds.drop i = ds[i] :: ds.drop (i + 1) := List.drop_eq_getElem_cons hlt
            obtain ⟨hgo, hy⟩ := (hJ _ _ H' reli i).1 _ hd
            refine .inr ⟨hgo, fun H2 => ∃ Si acc, Si.length = σ.length ∧ acc.length ≤ i + 1 ∧ compL p cnd elt vs (ds.drop (i + 1)) Si acc = some (os, S2) ∧
              Rel K H2 R (L0 ++ (Si.zip (wipe σ vs) ++ ((.l acc, some (.ref D)) :: T))), fun H2 h2 => ⟨ds.length - (i + 1), by omega, rfl, hlt, h2⟩, fun x H2 y2 => ?_⟩
            have r2 := hy x H2 y2
            rw [ed] at hco
            have hco' : (match bindP p ds[i] Si with
              | none => none
              | some S1 => match cnd S1 with
                | some (.ok true, S2) => (match elt S2 with
                  | some (.ok o, S3) => compL p cnd elt vs (ds.drop (i + 1)) (wipeS S3 vs) (acc ++ [o])
                  | _ => none)
                | some (.ok false, S2) => compL p cnd elt vs (ds.drop (i + 1)) (wipeS S2 vs) acc
                | _ => none) = some (os, S2) := hco
            cases qb : bindP p ds[i] Si with
            | none => rw [qb] at hco'; cases hco'
            | some Sb =>
              simp only [qb] at hco'
              have r3 : Rel K H2 R ((.d ds[i], some x) :: (Si.zip (wipe σ vs) ++ (((.l acc, some (.ref D)) :: T) ++ L0))) := r2.perm (.cons _ (by
                rw [← List.append_assoc (Si.zip (wipe σ vs))]
                exact List.perm_append_comm))
              refine hg R _ Si Sb (wipe σ vs) H2 ds[i] x _ (by rw [wipe_length]; exact hli) qb r3 fun hlb σ3 k3 rel3 => ⟨(kept_wipe k3).trans qq, ?_⟩
              have lb : Sb.length = σ3.length := hlb.trans k3.1.symm
              have ew : wipe σ3 vs = wipe σ vs := (kept_wipe k3).trans qq
              have l3 : σ3.length = σ.length := k3.1.trans (wipe_length σ vs)
              cases qd : cnd Sb with
              | none => simp only [qd] at hco'; cases hco'
              | some z =>
                obtain ⟨eb, S4⟩ := z
                cases eb with
                | error e => simp only [qd] at hco'; cases hco'
                | ok b =>
                  refine ht R _ Sb σ3 H2 _ _ _ lb qd rel3 fun hl4 H4 rel4 => ?_
                  cases b with
                  | false =>
                    simp only [qd] at hco'
                    rw [if_neg Bool.false_ne_true]
                    refine ⟨wipeS S4 vs, acc, by rw [wipeS_len]; exact hl4.trans l3, by omega, hco', ?_⟩
                    have r5 := Rel.wipes vs rel4
                    rw [ew] at r5
                    exact Rel.rot3' (C := (.l acc, some (.ref D)) :: T) r5
                  | true =>
                    simp only [qd] at hco'
                    rw [if_pos rfl]
                    cases qe : elt S4 with
                    | none => simp only [qe] at hco'; cases hco'
                    | some z =>
                      obtain ⟨eo, S5⟩ := z
                      cases eo with
                      | error e => simp only [qe] at hco'; cases hco'
                      | ok o =>
                        simp only [qe] at hco'
                        refine he R _ S4 σ3 H4 _ _ _ hl4 qe rel4 fun hl5 y H5 rel5 => ?_
                        have r6 : Rel K H5 R ((.l acc, some (.ref D)) :: (((o, some y) :: (S5.zip σ3 ++ (T ++ L0))))) := by
                          have q1 : Rel K H5 R (((o, some y) :: S5.zip σ3) ++ (.l acc, some (.ref D)) :: (T ++ L0)) := rel5
                          exact q1.mid
                        obtain ⟨a', av, e, hDa, hla, r7⟩ := r6.open
                        cases e
                        refine ⟨av, hDa, LIM_lt (by omega), wipeS S5 vs, acc ++ [o], by rw [wipeS_len]; exact hl5.trans l3, by rw [List.length_append]; show acc.length + 1 ≤ i + 1; omega, hco', ?_⟩
                        have r8 : Rel K (upd H5 D (.lst (av ++ [y]))) (D :: R) (acc.zip (av.map some) ++ ((o, some y) :: (S5.zip σ3 ++ (T ++ L0)))) := r7.hand List.mem_cons_self
                        have r9 : Rel K (upd H5 D (.lst (av ++ [y]))) (D :: R) ((acc ++ [o]).zip ((av ++ [y]).map some) ++ (S5.zip σ3 ++ (T ++ L0))) := by
                          rw [List.map_append, List.zip_append (by rw [List.length_map]; exact hla), List.append_assoc]
                          exact r8
                        have r10 := r9.close upd_same (by rw [List.length_append, List.length_append, hla]; rfl)
                        have r11 : Rel K (upd H5 D (.lst (av ++ [y]))) R (S5.zip σ3 ++ ((.l (acc ++ [o]), some (.ref D)) :: (T ++ L0))) := r10.unmid
                        have r12 := Rel.wipes vs r11
                        rw [ew] at r12
                        exact Rel.rot3' (C := (.l (acc ++ [o]), some (.ref D)) :: T) r12
          · have e : i = ds.length := by omega
            subst e
            rw [List.drop_length] at hco
            have hco' : some (acc, Si) = some (os, S2) := hco
            cases hco'
            refine .inl ⟨(hJ _ _ H' reli _).2 (Nat.le_refl _), ?_⟩
            have r0 : Rel K H' R ((.l (xd.map O.d), some (.ref a0)) :: (S2.zip (wipe σ vs) ++ ((.l os, some (.ref D)) :: T))) := by rw [hL0] at reli; exact reli
            have r1 : Rel K H' R (S2.zip (wipe σ vs) ++ ((.l (xd.map O.d), some (.ref a0)) :: (.l os, some (.ref D)) :: T)) := r0.unmid
            have r2 := (Rel.unwipes vs r1).mid.put hw0
            rw [← hxd] at r2
            exact post (by rw [List.length_set, wipeS_len]; exact hli) _ H' r2.mid
    · cases hf1
end
section
variable {X : Cx} {Y : YX} {W : WX} {ws : List Nat} {pos : Pos} {pt : Pt} {scope : Scope} {own : List (Str × Nat)} {elt : Expr} {ifs es : List Expr} {cnd : Sl → M Bool} {fe : Sl → M O}
/-- name = [.. for a, b in enumerate(list)], the name a local; the list stays its name's own -/
theorem os_setCompE {i j kk : Nat} {x y : Str} {p p1 p2 cpos py spos : Pos} (hc : X.calm = true) (hN : X.N.Nodup) (hy : X.N[i]? = some y) (hyl : X.env.scope.names.lookup y = some .local) (hw : i ∈ ws)
    (hsw : swapsWith (.ListComp elt [⟨.Tuple es kk p1, .Call (.Name "enumerate" p) [.Name x p2] [] cpos, ifs, 0⟩] scope pos) (some (.Name y py)) spos.line X.env = pure true)
    (hx : PE X (.Name x p2) (tVar j)) (hm : X.mg "enumerate" = none) (ok : BlkOk X.N X.env.scope scope own)
    (hg : ∀ (s : Shared) (H : Hp) (C : Addr) (cl : List (Str × Addr)) (fp : List Addr), OkG (X.blk s H scope (compEnvC scope cl C X.env) fp) (own.map (·.2)) (.Tuple es kk p1) pt) (ht : ∀ (s : Shared) (H : Hp) (C : Addr) (cl : List (Str × Addr)) (fp : List Addr), OkTs (X.blk s H scope (compEnvC scope cl C X.env) fp) Y W0 ifs cnd)
    (he : ∀ (s : Shared) (H : Hp) (C : Addr) (cl : List (Str × Addr)) (fp : List Addr), OkE (X.blk s H scope (compEnvC scope cl C X.env) fp) Y W0 elt fe) (hge : Gl X "enumerate" := by rfl) (hse : starEach [.Name x p2] X.env = [(false, eval (.Name x p2) X.env)] := by rfl)
    (hs : ∀ z, foldedSetIterable (.Call (.Name "enumerate" p) [.Name x p2] [] cpos) X.env z = pure z := by intro _; rfl) :
    OkS X Y W ws (.Assign [.Name y py] (.ListComp elt [⟨.Tuple es kk p1, .Call (.Name "enumerate" p) [.Name x p2] [] cpos, ifs, 0⟩] scope pos) spos) (sSet i (eCompO j enumD pt cnd fe (own.map (·.2)))) :=
  ⟨_, ps_setLc hc hN hy hyl hsw (pi_enum hge hm (pa_cons hx pa_nil hse) hse) ok (fun s H C cl fp => pg_cG (hg s H C cl fp)) (fun s H C cl fp => pts_cT (ht s H C cl fp)) (fun s H C cl fp => pe_cE (he s H C cl fp)) hs, ss_set (se_compO si_enumO sg_cG st_cT se_cE) hw⟩
end
end FT
/-! FT15: int of a truth value, pop at a place, sorted. -/
namespace FT
open PySem PySem.Spec PyProof.Rows L2
section
variable {K : PySem.W.Frag} {Y : YX} {R : List Addr} {L : List En} {H : Hp}
def dInt1 : List PyData → Option PyData
  | [.int i] => some (.int i)
  | [.bool b] => some (.int (if b then 1 else 0))
  | _ => none
theorem fr_int1 : FR K Y (rxn fun xs H Q => (∃ i, xs = [.int i] ∧ Q (.int i) H) ∨ ∃ k, xs = [.bl k] ∧ Q (.int (if k then 1 else 0)) H) (fnD dInt1) := fr_data
  (fun ds x h => by
    unfold dInt1 at h
    split at h
    · cases h; rfl
    · cases h; rfl
    · cases h)
  fun vs ds x H Q E hd hg q => by
    unfold dInt1 at hg
    split at hg
    · cases hg
      obtain ⟨v, rfl, a⟩ := dql1 hd
      cases a
      exact .inl ⟨_, rfl, q⟩
    · cases hg
      obtain ⟨v, rfl, a⟩ := dql1 hd
      cases a
      exact .inr ⟨_, rfl, q⟩
    · cases hg
def gPopAt : Fn := fun os => match os with
  | [.l xs, .d (.int i)] => if decide (0 ≤ i) && decide (i < 100000) then (match xs[i.toNat]? with
    | some o => some (.ok o, [.l (xs.eraseIdx i.toNat), .d (.int i)])
    | none => none) else none
  | _ => none
theorem fr_popAt : FR K Y (rxm rPopAt) gPopAt := by
  intro R L vs os os' H Q E out hl hg rel post
  unfold gPopAt at hg
  split at hg
  · rename_i xs i
    obtain ⟨v, u, rfl⟩ := two_v hl
    split at hg
    · rename_i hc
      rw [Bool.and_eq_true, decide_eq_true_eq, decide_eq_true_eq] at hc
      split at hg
      · rename_i o ho
        cases hg
        have r0 : Rel K H R ((.l xs, some v) :: (.d (.int i), some u) :: L) := rel
        have eu := scal_head (x := .int i) rfl r0.drop
        subst eu
        obtain ⟨a, ws, e, ha, el, r1⟩ := r0.open
        cases e
        have hjx : i.toNat < xs.length := (List.getElem?_eq_some_iff.mp ho).1
        have hw : ws[i.toNat]? = some (ws[i.toNat]'(by omega)) := List.getElem?_eq_getElem (by omega)
        obtain ⟨y, hy⟩ : ∃ y, ws[i.toNat]? = some y := ⟨_, hw⟩
        have hix : ixN ws.length i = some i.toNat := by
          unfold ixN
          rw [if_pos hc.1, if_pos (by omega)]
        refine ⟨a, ws, i, i.toNat, y, rfl, rfl, ha, by omega, by omega, (ixN_seq hix).1, hy, post rfl y _ ?_⟩
        have hz : (xs.zip (ws.map some))[i.toNat]? = some (o, some y) := zip_get ho (by rw [List.getElem?_map, hy]; rfl)
        have p := get_perm hz
        have r2 : Rel K H (a :: R) ((o, some y) :: ((xs.zip (ws.map some)).eraseIdx i.toNat ++ ((.d (.int i), some (.int i)) :: L))) := r1.perm (p.append_right _)
        rw [← zip_erase, map_erase] at r2
        have r3 : Rel K (upd H a (.lst (ws.eraseIdx i.toNat))) (a :: R) ((xs.eraseIdx i.toNat).zip ((ws.eraseIdx i.toNat).map some) ++ ((o, some y) :: (.d (.int i), some (.int i)) :: L)) := (r2.unmid).hand List.mem_cons_self
        have r4 := r3.close upd_same (by rw [List.length_eraseIdx, List.length_eraseIdx, el])
        exact r4.swap
      · cases hg
    · cases hg
  · cases hg
def srtI (ns : List Int) : List Int := ns.mergeSort fun a b => decide (a ≤ b)
theorem srt_eq {ns ns' : List Int} (h : ns'.Perm ns) (hs : ns'.Pairwise (· ≤ ·)) : ns' = srtI ns := by
  refine List.Perm.eq_of_pairwise (le := (· ≤ ·)) (fun a b _ _ h1 h2 => Int.le_antisymm h1 h2) hs ?_ (h.trans (List.mergeSort_perm ns _).symm)
  have := List.pairwise_mergeSort (le := fun a b : Int => decide (a ≤ b)) (fun a b c h1 h2 => by simp at *; omega) (fun a b => by simp; omega) ns
  exact this.imp fun h => of_decide_eq_true h
def intD : PyData → Option Int
  | .int i => some i
  | _ => none
theorem mapM_intD : ∀ {ds : List PyData} {ns : List Int}, ds.mapM intD = some ns → ds = ns.map .int
  | [], ns, h => by
    rw [List.mapM_nil] at h
    cases h; rfl
  | x :: xs, ns, h => by
    rw [List.mapM_cons] at h
    cases q : intD x with
    | none => rw [q] at h; cases h
    | some n =>
      rw [q] at h
      cases q2 : xs.mapM intD with
      | none => rw [q2] at h; cases h
      | some ms =>
        rw [q2] at h
        cases h
        have ex : x = .int n := by
          unfold intD at q
          split at q
          · cases q; rfl
          · cases q
        rw [ex, mapM_intD q2]; rfl
def gSorted : Fn := fun os => match os with
  | [a] => (match lsOf a with
    | some ds => (match ds.mapM intD with
      | some ns => if ns.length < 64 then some (.ok (dl ((srtI ns).map .int)), [nrm a]) else none
      | none => none)
    | none => none)
  | _ => none
theorem Rel.addInts : ∀ (ns : List Int) {L : List En}, Rel K H R L → Rel K H R (((ns.map PyData.int).map O.d).zip ((ns.map V.int).map some) ++ L)
  | [], _, h => h
  | n :: ns, _, h => (Rel.addInts ns h).addS (x := .int n) rfl
theorem fr_sorted : FR K Y (rxn (rSorted K)) gSorted := by
  intro R L vs os os' H Q E out hl hg rel post
  unfold gSorted at hg
  split at hg
  · rename_i a
    obtain ⟨v, rfl⟩ := one_v hl
    split at hg
    · rename_i ds h1
      split at hg
      · rename_i ns h2
        split at hg
        · rename_i h64
          cases hg
          have r0 : Rel K H R ((a, some v) :: L) := rel
          obtain ⟨p, xs, rfl, hp, el, hd, r1⟩ := r0.nrm h1
          have e := mapM_intD h2
          subst e
          have ex : xs = ns.map V.int := by
            have := DqL.scal (by simp [scal1]) hd
            rw [this, List.map_map]; rfl
          subst ex
          refine ⟨p, ns, rfl, SqL.of hp, h64, fun ns' c hperm hsort hc => post rfl _ _ ?_⟩
          have es := srt_eq hperm hsort
          subst es
          have r2 : Rel K H R ((nrm a, some (.ref p)) :: L) := r1.drops
          exact Rel.newL hc (by rw [List.length_map, List.length_map]) (Rel.addInts (srtI ns) r2)
        · cases hg
      · cases hg
    · cases hg
  · cases hg
/-! ### plain -/
theorem popAt_nD {w : List Nat} {i a : Nat} (h : w[i]? = some a) (hi : i < 100000) : gPopAt [dl (nD w), .d (.int i)] = some (.ok (.d (.int a)), [dl (nD (w.eraseIdx i)), .d (.int i)]) := by
  have c : (decide (0 ≤ (i : Int)) && decide ((i : Int) < 100000)) = true := by
    rw [Bool.and_eq_true, decide_eq_true_eq, decide_eq_true_eq]
    omega
  have g : ((nD w).map O.d)[i]? = some (.d (.int a)) := by
    rw [List.getElem?_map, nD, List.getElem?_map, h]
    rfl
  have e : dl (nD (w.eraseIdx i)) = .l (((nD w).map O.d).eraseIdx i) := by
    rw [dl, map_erase, show (nD w).eraseIdx i = nD (w.eraseIdx i) from map_erase _ w i]
  rw [e, dl]
  simp only [gPopAt, c, if_true, Int.toNat_natCast, g]
theorem eComp_run {src : Sl → M (List PyData)} {p : Pt} {cnd : Sl → M Bool} {elt : Sl → M O} {vs : List Nat} {S S1 S2 : Sl} {ds : List PyData} {os : List O} (hs : src S = some (.ok ds, S1)) (hl : ds.length ≤ LIM) (e : compL p cnd elt vs ds (wipeS S1 vs) [] = some (os, S2)) :
    eComp src p cnd elt vs S = some (.ok (.l os), wipeS S2 vs) := by
  show bnd (src S) _ = _
  rw [hs]
  show (if ds.length ≤ LIM then _ else none) = _
  rw [if_pos hl, e]
theorem comp_gen {p : Pt} {cnd : Sl → M Bool} {elt : Sl → M O} {vs : List Nat} (I : List O → Sl → Prop) : ∀ (ds : List PyData) (S : Sl) (acc : List O),
    (∀ (X : List PyData) (d : PyData) (Z : List PyData), ds = X ++ d :: Z → ∀ acc' S, acc'.length = acc.length + X.length → I acc' S → ∃ S1 S2 o S3, bindP p d S = some S1 ∧ cnd S1 = some (.ok true, S2) ∧ elt S2 = some (.ok o, S3) ∧ I (acc' ++ [o]) (wipeS S3 vs)) →
    I acc S → ∃ acc' S', compL p cnd elt vs ds S acc = some (acc', S') ∧ acc'.length = acc.length + ds.length ∧ I acc' S'
  | [], S, acc, _, h => ⟨acc, S, rfl, rfl, h⟩
  | d :: ds, S, acc, st, h => by
    obtain ⟨S1, S2, o, S3, e1, c, q, h2⟩ := st [] d ds rfl acc S rfl h
    obtain ⟨acc', S', e3, hl, h3⟩ := comp_gen I ds _ (acc ++ [o]) (fun X d' Z e acc'' S'' hl hI => st (d :: X) d' Z (by rw [e]; rfl) acc'' S'' (by simp only [hl, List.length_append, List.length_cons, List.length_nil]; omega) hI) h2
    refine ⟨acc', S', ?_, by simp only [hl, List.length_append, List.length_cons, List.length_nil]; omega, h3⟩
    unfold compL
    simp only [e1, c, q]
    exact e3
end
end FT
/-! FT16: an owned list's own list as a value: shared from now on. -/
namespace FT
open PySem PySem.Spec PyProof.Rows L2
section
variable {K : PySem.W.Frag} {Y : YX} {R : List Addr} {L : List En} {H : Hp}
def gItemF : Fn := fun os => match os with
  | [.l xs, .d (.int i)] => match ixN xs.length i with
    | some j => (match xs[j]? with
      | some (.l ps) => (match ers ps with
        | some ds => some (.ok (.d (.list ds)), [.l (xs.set j (.d (.list ds))), .d (.int i)])
        | none => none)
      | _ => none)
    | none => none
  | _ => none
theorem fr_itemF : FR K Y (rx2 (rIx K)) gItemF := by
  intro R L vs os os' H Q E out hl hg rel post
  unfold gItemF at hg
  split at hg
  · rename_i xs i
    obtain ⟨v, u, rfl⟩ := two_v hl
    split at hg
    · rename_i j hij
      split at hg
      · rename_i ps hps
        split at hg
        · rename_i ds hds
          cases hg
          have r0 : Rel K H R ((.l xs, some v) :: (.d (.int i), some u) :: L) := rel
          have eu := scal_head (x := .int i) rfl r0.drop
          subst eu
          obtain ⟨a, ws, e, ha, el, r1⟩ := r0.open
          cases e
          have hjx : j < xs.length := (List.getElem?_eq_some_iff.mp hps).1
          have hv : ws[j]? = some (ws[j]'(by omega)) := List.getElem?_eq_getElem (by omega)
          obtain ⟨y, hy⟩ : ∃ y, ws[j]? = some y := ⟨_, hv⟩
          have hm : (ws.map some)[j]? = some (some y) := by rw [List.getElem?_map, hy]; rfl
          have hix : atI ws i = some y := by
            unfold atI
            rw [← el, hij]
            exact hy
          have r2 := r1.take hps hm
          have r3 := r2.freeze (x := .list ds) (by rw [er_l, hds]; rfl)
          have r4 : Rel K H (a :: R) ((.d (.list ds), some y) :: ((xs.set j .no).zip (ws.map some) ++ ((.d (.list ds), some y) :: (.d (.int i), some (.int i)) :: L))) := r3.dup.perm (.cons _ List.perm_middle.symm)
          have r5 := r4.put hm
          rw [List.set_set] at r5
          have r6 := r5.close ha (by rw [List.length_set]; exact el)
          exact .inl ⟨a, ws, i, y, rfl, rfl, SqL.of ha, hix, post rfl y H r6.swap⟩
        · cases hg
      · cases hg
    · cases hg
  · cases hg
def gItemX : Fn := orF gItem gItemF
theorem fr_itemX : FR K Y (rx2 (rIx K)) gItemX := by
  intro R L vs os os' H Q E out hl hg rel post
  unfold gItemX orF at hg
  cases q : gItem os with
  | some r =>
    rw [q] at hg
    exact fr_item R L vs os os' H Q E out hl (q.trans hg) rel post
  | none =>
    rw [q] at hg
    exact fr_itemF R L vs os os' H Q E out hl hg rel post
end
section
variable {X : Cx} {Y : YX} {W : WX} {a b : Expr} {ra rb : Ar} {pos : Pos}
theorem oe_itemX (ha : OkR X Y W a ra) (hb : OkR X Y W b rb) (hs : PlainIx b := by exact fun _ _ => rfl) : OkE X Y W (.Subscript a b pos) (eApp gItemX [ra, rb]) :=
  let ⟨_, q1, s1⟩ := ha
  let ⟨_, q2, s2⟩ := hb
  ⟨_, pe_ix ix_seq q1 q2 hs, se_app2 s1 s2 fr_itemX⟩
end
theorem itemX_at (a b : O) (ds : List PyData) (hd : b = dl ds) : gItemX [.l [a, b], .d (.int 1)] = some (.ok (.d (.list ds)), [.l [a, .d (.list ds)], .d (.int 1)]) := by
  subst hd
  unfold gItemX orF
  have e : gItem [.l [a, dl ds], .d (.int 1)] = none := rfl
  rw [e]
  show (match ers (ds.map O.d) with
      | some ds => some (Except.ok (O.d (.list ds)), [O.l [a, .d (.list ds)], .d (.int 1)])
      | none => none) = _
  rw [ers_d]
end FT
/-! FT17: whole numbers of the module, sum, repr of a number, displays with a star. -/
namespace FT
open PySem PySem.Spec PyProof.Rows L2
section
variable {K : PySem.W.Frag} {Y : YX} {R : List Addr} {L : List En} {H : Hp}
def dSum : List PyData → Option PyData
  | [.list ds] => (ds.mapM intD).map fun ns => .int ns.sum
  | _ => none
theorem fr_sum : FR K Y (rxn (rSum K)) (fnD dSum) := fr_data
  (fun ds x h => by
    unfold dSum at h
    split at h
    · obtain ⟨j, _, e⟩ := Option.map_eq_some_iff.mp h
      rw [← e]; rfl
    · cases h)
  fun vs ds x H Q E hd hg q => by
    unfold dSum at hg
    split at hg
    · rename_i es
      obtain ⟨ns, hns, e⟩ := Option.map_eq_some_iff.mp hg
      cases e
      obtain ⟨v, rfl, a⟩ := dql1 hd
      cases a with
      | lst hp t =>
        have e1 := mapM_intD hns
        subst e1
        rename_i ad xs
        have e2 : xs = ns.map V.int := by
          have := DqL.scal (by simp [scal1]) t
          rw [this, List.map_map]; rfl
        subst e2
        exact ⟨ad, ns, rfl, SqL.of hp, q⟩
    · cases hg
def rReprI : List V → Hp → VK → Prop := fun xs H Q => ∃ i : Int, xs = [.int i] ∧ i.natAbs.log2 < 1920 ∧ Q (.str (toString i)) H
def dReprI : List PyData → Option PyData
  | [.int i] => if i.natAbs.log2 < 1920 then some (.str (toString i : String)) else none
  | _ => none
theorem fr_reprI : FR K Y (rxn rReprI) (fnD dReprI) := fr_data
  (fun ds x h => by
    unfold dReprI at h
    split at h
    · split at h
      · cases h; rfl
      · cases h
    · cases h)
  fun vs ds x H Q E hd hg q => by
    unfold dReprI at hg
    split at hg
    · split at hg
      · rename_i hc
        cases hg
        obtain ⟨v, rfl, a⟩ := dql1 hd
        cases a
        exact ⟨_, rfl, hc, q⟩
      · cases hg
    · cases hg
def gReprA : Fn := orF (fnD dRepr) (fnD dReprI)
def rReprA (K : PySem.W.Frag) : List V → Hp → VK → Prop := fun xs H Q => rRepr K xs H Q ∨ rReprI xs H Q
theorem fr_reprA : FR K Y (rxn (rReprA K)) gReprA := by
  intro R L vs os os' H Q E out hl hg rel post
  unfold gReprA orF at hg
  cases q : fnD dRepr os with
  | some r =>
    rw [q] at hg
    exact .inl (fr_repr R L vs os os' H Q E out hl (q.trans hg) rel post)
  | none =>
    rw [q] at hg
    exact .inr (fr_reprI R L vs os os' H Q E out hl hg rel post)
theorem call_reprA {X : Cx} {k : Nat} (hr : RG k X.A) : CallR X (.builtin "repr") (rReprA X.K) := by
  intro pins s σ H xs us Q I r h
  rcases h with h | h
  · exact call_repr hr pins s σ H xs us Q I r h
  · exact SkE.call_repr_int pins s σ H xs us Q I r h
def gStarL (c : PyData) : Fn := fun os => match os with
  | [a] => (match lsOf a with
    | some ds => if ds.length < LIM then some (.ok (dl (c :: ds)), [nrm a]) else none
    | none => none)
  | _ => none
def gStarR (c : PyData) : Fn := fun os => match os with
  | [a] => (match lsOf a with
    | some ds => if ds.length < LIM then some (.ok (dl (ds ++ [c])), [nrm a]) else none
    | none => none)
  | _ => none
theorem fr_starL {c : PyData} (hx : scal1 c = true) : FR K Y (rx1 fun x H Q => ∃ p xs, x = V.ref p ∧ (SqT K H p xs ∨ SqL K H p xs) ∧ ((toV c :: (xs ++ [])).length ≤ sizeLine ∧ ∀ p', H p' = none → Q (.ref p') (upd H p' (.lst (toV c :: (xs ++ [])))))) (gStarL c) := by
  intro R L vs os os' H Q E out hl hg rel post
  unfold gStarL at hg
  split at hg
  · rename_i a
    obtain ⟨v, rfl⟩ := one_v hl
    split at hg
    · rename_i ds h1
      split at hg
      · rename_i hlim
        cases hg
        have r0 : Rel K H R ((a, some v) :: L) := rel
        obtain ⟨p, xs, rfl, hp, el, hd, r1⟩ := r0.nrm h1
        refine ⟨p, xs, rfl, .inr (SqL.of hp), ?_, fun c' hc => post rfl _ _ ?_⟩
        · rw [List.append_nil, List.length_cons, ← el]; exact LIM_lt hlim
        · rw [List.append_nil]
          have r2 : Rel K H R (((c :: ds).map O.d).zip ((toV c :: xs).map some) ++ ((nrm a, some (.ref p)) :: L)) := r1.addS hx
          exact Rel.newL hc (by rw [List.length_cons, List.length_cons, el]) r2
      · cases hg
    · cases hg
  · cases hg
theorem fr_starR {c : PyData} (hx : scal1 c = true) : FR K Y (rx1 fun x H Q => ∃ p xs, x = V.ref p ∧ (SqT K H p xs ∨ SqL K H p xs) ∧ ((xs ++ [toV c]).length ≤ sizeLine ∧ ∀ p', H p' = none → Q (.ref p') (upd H p' (.lst (xs ++ [toV c]))))) (gStarR c) := by
  intro R L vs os os' H Q E out hl hg rel post
  unfold gStarR at hg
  split at hg
  · rename_i a
    obtain ⟨v, rfl⟩ := one_v hl
    split at hg
    · rename_i ds h1
      split at hg
      · rename_i hlim
        cases hg
        have r0 : Rel K H R ((a, some v) :: L) := rel
        obtain ⟨p, xs, rfl, hp, el, hd, r1⟩ := r0.nrm h1
        refine ⟨p, xs, rfl, .inr (SqL.of hp), ?_, fun c' hc => post rfl _ _ ?_⟩
        · rw [List.length_append, ← el]; exact LIM_lt hlim
        · have r2 : Rel K H R (((ds ++ [c]).map O.d).zip ((xs ++ [toV c]).map some) ++ ((nrm a, some (.ref p)) :: L)) := by
            rw [List.map_append]
            show Rel K H R ((ds.map O.d ++ [O.d c]).zip ((xs ++ [toV c]).map some) ++ _)
            rw [zip_snoc (by rw [List.length_map]; exact el), List.append_assoc]
            exact (r1.addS hx).unmid
          exact Rel.newL hc (by rw [List.length_append, List.length_append, el]; rfl) r2
      · cases hg
    · cases hg
  · cases hg
end
section
variable {X : Cx} {Y : YX} {W : WX} {e : Expr} {x : Str} {i : Nat} {pos p q2 q3 : Pos}
theorem oe_gint {n : Int} {t : Tok} {x : Str} (hm : X.mg x = some (.int n t)) (hg : Gl X x := by rfl) (hd : (x == ("__debug__" : Str)) = false := by decide) : OkE X Y W (.Name x pos) (eC (.int n)) :=
  ⟨_, pe_glob (v := .int n) hg hm ⟨_, rfl⟩ hd, se_c (x := .int n)⟩
theorem oe_starL {c : PyData} (hx : scal1 c = true) (hc : PE X e (tC (toV c))) (h : PE X (.Name x p) (tVar i)) (h1 : starEach [e, .Starred (.Name x p) q2] X.env = (false, eval e X.env) :: starEach [.Starred (.Name x p) q2] X.env := by rfl)
    (h2 : starEach [.Starred (.Name x p) q2] X.env = (true, eval (.Name x p) X.env) :: starEach [] X.env := by rfl) : OkE X Y W (.List [e, .Starred (.Name x p) q2] pos) (eApp (gStarL c) [.v i]) :=
  ⟨_, pe_lst (pa_cons hc (StX.pa_star h pa_nil h2) h1), se_at (fr_starL hx)⟩
theorem oe_starR {c : PyData} (hx : scal1 c = true) (hc : PE X e (tC (toV c))) (h : PE X (.Name x p) (tVar i)) (h1 : starEach [e] X.env = (false, eval e X.env) :: starEach [] X.env := by rfl)
    (h2 : starEach [.Starred (.Name x p) q2, e] X.env = (true, eval (.Name x p) X.env) :: starEach [e] X.env := by rfl) : OkE X Y W (.List [.Starred (.Name x p) q2, e] pos) (eApp (gStarR c) [.v i]) :=
  ⟨_, pe_lst (StX.pa_star h (pa_cons hc pa_nil h1) h2), se_at (fr_starR hx)⟩
end
end FT
/-! FT18: xs[i] += e, of whole numbers. -/
namespace FT
open PySem PySem.Spec PyProof.Rows L2
def rGetL (K : PySem.W.Frag) : V → V → Hp → VK → Prop := fun x y H Q => ∃ p xs i v, x = .ref p ∧ y = .int i ∧ SqL K H p xs ∧ 0 ≤ i ∧ atI xs i = some v ∧ Q v H
theorem pget_list {X : Cx} : PGet X (rGetL X.K) := by
  intro pins s σ H x y v u Q I rx ry h
  obtain ⟨p, xs, i, z, rfl, rfl, hq, h0, he, q⟩ := h
  cases rx
  obtain ⟨t, rfl⟩ := ry
  obtain ⟨its, r, pl, hz⟩ := I.list hq
  obtain ⟨j, h1, h2, h3, h4, h5⟩ := atI_get he
  obtain ⟨w, ew, rw'⟩ := r.get h2
  have hl := r.length
  have hn := line63
  have hj : i.toNat = j := by
    rw [seqIndex_of h0 h5] at h1
    exact Option.some.inj h1
  exact wpAny_getItem_list (x := w) pl.isList h0 (by omega) (by rw [hj]; simpa using ew) ⟨z, H, I, rw', q⟩
section
variable {K : PySem.W.Frag} {Y : YX} {W : WX}
def sAugS (i : Nat) (fi fe : Sl → M O) : Sl → MS := fun S => if isNo (S.getD i .no) then none else bnd (fi S) fun k S1 => match S1.getD i .no, k with
  | .l xs, .d (.int k) => if 0 ≤ k then (match xs[k.toNat]? with
    | some (.d (.int a)) => bnd (fe S1) fun b S2 => (match S2.getD i .no, b with
      | .l ys, .d (.int b) => if k.toNat < ys.length then some (.ok .nx, S2.set i (.l (ys.set k.toNat (.d (.int (a + b)))))) else none
      | _, _ => none)
    | _ => none) else none
  | _, _ => none
theorem ss_augS {ws : List Nat} {i : Nat} {te ti : TE} {fi fe : Sl → M O} (hi : SE K Y W ti fi) (he : SE K Y W te fe) : SS K Y W ws (tAugS (tVar i) ti te (rGetL K) (ipI fun a b => a + b) rSetL) (sAugS i fi fe) := by
  intro R T S σ H D out S' hl hf rel post
  unfold sAugS at hf
  split at hf
  · cases hf
  · rename_i hn
    obtain ⟨x, hx⟩ := slot_val hl (by simpa using hn) rel
    refine ⟨x, hx, ?_⟩
    rcases bnd_cases hf with ⟨e, e1, rfl⟩ | ⟨k, S1, e1, e2⟩
    · exact hi R T S σ H _ _ _ hl e1 rel (post_err post)
    · refine hi R T S σ H _ _ _ hl e1 rel fun hl1 u H1 rel1 => ?_
      split at e2
      · rename_i xs k' hS
        split at e2
        · rename_i h0
          split at e2
          · rename_i a hxa
            have eu := scal_head (x := .int k') rfl rel1
            subst eu
            have relA : Rel K H1 R (S1.zip σ ++ T) := rel1.drop
            have hi1 : i < S1.length := lt_of_slot hl1 hx
            have r3 : Rel K H1 R ((.l xs, some x) :: ((S1.set i .no).zip σ ++ T)) := relA.take (by rw [getD_some hi1, hS]) hx
            obtain ⟨ad, vs, v, ex, ha, el, hv, r4⟩ := r3.itemL hxa
            cases ex
            have ev := scal_head (x := .int a) rfl r4
            subst ev
            have hjl : k'.toNat < xs.length := (List.getElem?_eq_some_iff.mp hxa).1
            have hat : atI vs k' = some (V.int a) := by
              unfold atI ixN
              rw [if_pos h0, if_pos (by omega)]
              exact hv
            refine ⟨ad, vs, k', _, rfl, rfl, SqL.of ha, h0, hat, ?_⟩
            rcases bnd_cases e2 with ⟨e, e3, rfl⟩ | ⟨b, S2, e3, e4⟩
            · exact he R T S1 σ H1 _ _ _ hl1 e3 relA (post_err post)
            · refine he R T S1 σ H1 _ _ _ hl1 e3 relA fun hl2 y H2 rel2 => ?_
              split at e4
              · rename_i ys b' hS2
                split at e4
                · rename_i hky
                  cases e4
                  have ey := scal_head (x := .int b') rfl rel2
                  subst ey
                  refine ⟨a, b', rfl, rfl, ?_⟩
                  have relB : Rel K H2 R (S2.zip σ ++ T) := rel2.drop
                  have hi2 : i < S2.length := lt_of_slot hl2 hx
                  have r5 : Rel K H2 R ((.l ys, some (.ref ad)) :: ((S2.set i .no).zip σ ++ T)) := relB.take (by rw [getD_some hi2, hS2]) hx
                  obtain ⟨ad2, ws2, ex2, ha2, el2, r6⟩ := r5.open
                  cases ex2
                  have hix : ixN ws2.length k' = some k'.toNat := by
                    unfold ixN
                    rw [if_pos h0, if_pos (by omega)]
                  refine ⟨ad, ws2, k', k'.toNat, rfl, rfl, ha2, hix, ?_⟩
                  have hjz : k'.toNat < (ys.zip (ws2.map some)).length := by
                    rw [List.length_zip, List.length_map, ← el2]
                    omega
                  have r7 : Rel K H2 (ad :: R) ((.d (.int (a + b')), some (.int (a + b'))) :: (ys.zip (ws2.map some) ++ ((S2.set i .no).zip σ ++ T))) := r6.addS (x := .int (a + b')) rfl
                  have r8 : Rel K H2 (ad :: R) ((ys.set k'.toNat (.d (.int (a + b')))).zip ((ws2.set k'.toNat (.int (a + b'))).map some) ++ ((S2.set i .no).zip σ ++ T)) := by
                    have em : (ws2.set k'.toNat (V.int (a + b'))).map some = (ws2.map some).set k'.toNat (some (.int (a + b'))) := List.map_set
                    rw [em, zip_set]
                    refine Rel.perm ?_ ((set_perm hjz).symm.append_right _)
                    have p := r7.perm (.cons _ ((get_perm (List.getElem?_eq_getElem hjz)).append_right _))
                    exact p.swap.drop
                  have r9 := (r8.hand (u := .lst (ws2.set k'.toNat (.int (a + b')))) List.mem_cons_self).close upd_same (by rw [List.length_set, List.length_set]; exact el2)
                  have r10 := r9.put hx
                  rw [List.set_set] at r10
                  exact post (by rw [List.length_set]; exact hl2) σ _ .refl r10
                · cases e4
              · cases e4
          · cases e2
        · cases e2
      · cases e2
end
section
variable {X : Cx} {Y : YX} {W : WX} {ws : List Nat} {idx e : Expr} {x : Str} {i : Nat} {pos p p1 : Pos} {fa f : Sl → M O}
theorem os_augS (ho : PE X (.Name x p1) (tVar i)) (hi : OkE X Y W idx fa) (h : OkE X Y W e f)
    (ha : ∀ ov iv new, augStore idx ov iv new = (do holding [new, ov, iv] (setItem ov iv new); release [new, ov, iv] []; pure .next) := by intros; rfl) : OkS X Y W ws (.AugAssign (.Subscript (.Name x p1) idx p) .Add e pos) (sAugS i fa f) :=
  let ⟨_, q1, t1⟩ := hi
  let ⟨_, q2, t2⟩ := h
  ⟨_, ps_augS ho q1 pget_list q2 ip_add set_list ha, ss_augS t1 t2⟩
end
end FT
/-! FT19: {} as data, repr of any data, x is True, a op b op c of numbers. -/
namespace FT
open PySem PySem.Spec PyProof.Rows L2
/-! ### data as it stands; no dict in it but empty ones of the program's own -/
mutual
inductive Rdl (h : Heap) : Value → PyData → Prop
  | none : Rdl h .none .none
  | bool (b : Bool) : Rdl h (.bool b) (.bool b)
  | int (i : Int) (t : Tok) : Rdl h (.int i t) (.int i)
  | str (x : Str) (t : Tok) : Rdl h (.str x t) (.str x)
  | list {a : Addr} {o : Obj} {vs : Array Value} {n : Nat} {xs : List PyData} (e1 : h.get? a = some o) (e2 : o.cls = .type "list") (e3 : o.data = .seq vs n) (t : RdlA h vs.toList xs) : Rdl h (.ref a) (.list xs)
  | tuple {a : Addr} {o : Obj} {vs : Array Value} {n : Nat} {xs : List PyData} (e1 : h.get? a = some o) (e2 : o.cls = .type "tuple") (e3 : o.data = .seq vs n) (t : RdlA h vs.toList xs) : Rdl h (.ref a) (.tuple xs)
  | emp {a : Addr} {o : Obj} {n : Nat} (e1 : h.get? a = some o) (e2 : o.cls = .type "dict") (e3 : o.data = .dict #[] n) (e4 : (a == sysModules) = false) : Rdl h (.ref a) (.dict [])
inductive RdlA (h : Heap) : List Value → List PyData → Prop
  | nil : RdlA h [] []
  | cons {v : Value} {vs : List Value} {d : PyData} {ds : List PyData} (x : Rdl h v d) (t : RdlA h vs ds) : RdlA h (v :: vs) (d :: ds)
end
section
variable {h : Heap} {prog : Program} {w : World}
mutual
theorem Rdl.reads : ∀ (d : PyData) (v : Value), Rdl h v d → ∃ as, Reads h v d as
  | .none, _, x => by cases x; exact ⟨_, .none⟩
  | .bool _, _, x => by cases x; exact ⟨_, .bool _⟩
  | .int _, _, x => by cases x; exact ⟨_, .int _ _⟩
  | .str _, _, x => by cases x; exact ⟨_, .str _ _⟩
  | .list ds, _, x => by
    cases x with
    | list e1 e2 e3 t =>
      obtain ⟨as, r⟩ := RdlA.reads ds _ t
      exact ⟨_, .list e1 e2 e3 r⟩
  | .tuple ds, _, x => by
    cases x with
    | tuple e1 e2 e3 t =>
      obtain ⟨as, r⟩ := RdlA.reads ds _ t
      exact ⟨_, .tuple e1 e2 e3 r⟩
  | .dict _, _, x => by
    cases x with
    | emp e1 e2 e3 e4 => exact ⟨_, .dict e1 e2 e3 .nil .nil⟩
theorem RdlA.reads : ∀ (ds : List PyData) (vs : List Value), RdlA h vs ds → ∃ as, ReadsAll h vs ds as
  | [], _, x => by cases x; exact ⟨_, .nil⟩
  | d :: ds, _, x => by
    cases x with
    | cons a t =>
      obtain ⟨as, r⟩ := Rdl.reads d _ a
      obtain ⟨bs, q⟩ := RdlA.reads ds _ t
      exact ⟨_, .cons r q⟩
end
mutual
theorem Rdl.reprK : ∀ (d : PyData) (v : Value), Rdl h v d → d.showable = true → d.shown.length ≤ sizeLine → ∃ bs, ReadAtMost h d.depth bs ∧ ReprK prog w bs h d.depth v d.shown
  | .none, _, x, _, _ => by
    cases x
    exact ⟨[], (fun _ h => nomatch h), by simp only [PyData.shown]; exact .of_is ReprIs.none _ _ _⟩
  | .bool b, _, x, _, _ => by
    cases x
    exact ⟨[], (fun _ h => nomatch h), by simp only [PyData.shown]; exact .of_is (ReprIs.bool b) _ _ _⟩
  | .int i, _, x, hs, _ => by
    cases x
    exact ⟨[], (fun _ h => nomatch h), by simp only [PyData.shown]; exact .of_is (ReprIs.int _ (by simpa [PyData.showable] using hs)) _ _ _⟩
  | .str y, _, x, _, hz => by
    cases x
    exact ⟨[], (fun _ h => nomatch h), by simp only [PyData.shown]; exact .of_is (ReprIs.str y _ (by simpa only [PyData.shown] using hz)) _ _ _⟩
  | .list ds, _, x, hs, hz => by
    cases x with
    | list h1 h2 h3 h4 =>
      rename_i a o vs n
      have hz' : (listText (PyData.shownAll ds)).length ≤ sizeLine := by simpa only [PyData.shown] using hz
      obtain ⟨bs, hb, hk⟩ := RdlA.reprK ds _ h4 (by simpa [PyData.showable] using hs) (fun t ht => Nat.le_trans (listText_mem_le ht) hz')
      obtain ⟨as, ra⟩ := RdlA.reads ds _ h4
      have r : Reads h (.ref a) (.list ds) _ := .list h1 h2 h3 ra
      have hna : a ∉ bs := not_mem_of_deeper r (by simp only [PyData.depth]; omega) hb
      refine ⟨a :: bs, ReadAtMost.cons r (by simp only [PyData.depth]; omega) hb, ?_⟩
      simp only [PyData.depth, PyData.shown]
      obtain ⟨l⟩ := vs
      cases l with
      | nil =>
        have h4' : ReadsAll h [] ds _ := ra
        cases h4'
        simp only [PyData.shownAll, listText_nil]
        exact ReprK.listEmpty h1 h2 h3
      | cons x l => exact ReprK.list h1 h2 h3 hna (by simpa using hk.length_eq) (fun i y e => hk.item i y (by simpa using e))
  | .tuple ds, _, x, hs, hz => by
    cases x with
    | tuple h1 h2 h3 h4 =>
      rename_i a o vs n
      have hz' : (tupleText (PyData.shownAll ds)).length ≤ sizeLine := by simpa only [PyData.shown] using hz
      obtain ⟨bs, hb, hk⟩ := RdlA.reprK ds _ h4 (by simpa [PyData.showable] using hs) (fun t ht => Nat.le_trans (tupleText_mem_le ht) hz')
      obtain ⟨as, ra⟩ := RdlA.reads ds _ h4
      have r : Reads h (.ref a) (.tuple ds) _ := .tuple h1 h2 h3 ra
      have hna : a ∉ bs := not_mem_of_deeper r (by simp only [PyData.depth]; omega) hb
      refine ⟨a :: bs, ReadAtMost.cons r (by simp only [PyData.depth]; omega) hb, ?_⟩
      simp only [PyData.depth, PyData.shown]
      exact ReprK.tuple h1 h2 h3 hna hk
  | .dict _, _, x, hs, hz => by
    cases x with
    | emp h1 h2 h3 h4 =>
      rename_i a o n
      have hz' : (dictText (PyData.shownKv [])).length ≤ sizeLine := by simpa only [PyData.shown] using hz
      have r : Reads h (.ref a) (.dict []) _ := .dict h1 h2 h3 .nil .nil
      have hb : ReadAtMost h (PyData.depthKv []) [] := fun _ z => nomatch z
      refine ⟨[a], ReadAtMost.cons r (by simp only [PyData.depth]; omega) hb, ?_⟩
      simp only [PyData.depth, PyData.shown]
      exact ReprK.dict h1 h2 h3 h4 (fun z => nomatch z) .nil
theorem RdlA.reprK : ∀ (ds : List PyData) (vs : List Value), RdlA h vs ds → PyData.showableAll ds = true → (∀ t ∈ PyData.shownAll ds, t.length ≤ sizeLine) → ∃ bs, ReadAtMost h (PyData.depthAll ds) bs ∧ ReprAllK prog w bs h (PyData.depthAll ds) vs (PyData.shownAll ds)
  | [], _, x, _, _ => by
    cases x
    exact ⟨[], (fun _ h => nomatch h), by simp only [PyData.shownAll]; exact .nil⟩
  | d :: ds, _, x, hs, hz => by
    cases x with
    | cons r rs =>
      have hs' : d.showable = true ∧ PyData.showableAll ds = true := by simpa [PyData.showableAll] using hs
      obtain ⟨b1, hb1, k1⟩ := Rdl.reprK d _ r hs'.1 (hz _ (by simp only [PyData.shownAll]; exact List.mem_cons_self ..))
      obtain ⟨b2, hb2, k2⟩ := RdlA.reprK ds _ rs hs'.2 (fun t ht => hz t (by simp only [PyData.shownAll]; exact List.mem_cons_of_mem _ ht))
      refine ⟨b1 ++ b2, ?_, ?_⟩
      · intro b hm
        simp only [PyData.depthAll]
        rcases List.mem_append.mp hm with hm | hm
        · obtain ⟨d', as', r', hd'⟩ := hb1 b hm
          exact ⟨d', as', r', Nat.le_trans hd' (Nat.le_max_left _ _)⟩
        · obtain ⟨d', as', r', hd'⟩ := hb2 b hm
          exact ⟨d', as', r', Nat.le_trans hd' (Nat.le_max_right _ _)⟩
      · simp only [PyData.depthAll, PyData.shownAll]
        exact .cons ((k1.more fun b hb => List.mem_append_left _ hb).level_le (Nat.le_max_left _ _)) (k2.more_le (fun b hb => List.mem_append_right _ hb) (Nat.le_max_right _ _))
end
/-- repr of a display that stands so -/
theorem Rdl.call {A : Around} {E : Value → Shared → Prop} {s : Shared} {Q : Value → Shared → Prop} {a : Addr} {d : PyData} (r : Rdl s.heap (.ref a) d) (hs : d.showable = true) (hg : A.guards = some []) (hu : A.units + (d.depth + 1) < cLine)
    (hQ : ∀ h' u tk, (∀ b o, s.heap.get? b = some o → h'.get? b = some o) → Q (.str d.shown u) { s with heap := h', toks := tk }) (hsz : d.shown.length ≤ sizeLine) : wpAny (model prog w) A (call (.builtin "repr") [.ref a]) Q E s := by
  have key : ∃ T idr, ShowsBy prog w s.heap a d T idr := by
    cases r with
    | list h1 h2 h3 h4 =>
      rename_i o vs n xs
      have hz' : (listText (PyData.shownAll xs)).length ≤ sizeLine := by simpa only [PyData.shown] using hsz
      obtain ⟨as, ra⟩ := RdlA.reads xs _ h4
      obtain ⟨bs, hb, hk⟩ := RdlA.reprK (prog := prog) (w := w) xs _ h4 (by simpa [PyData.showable] using hs) (fun t ht => Nat.le_trans (listText_mem_le ht) hz')
      have hna : a ∉ bs := not_mem_of_deeper (.list h1 h2 h3 ra) (by simp only [PyData.depth]; omega) hb
      refine ⟨"list", "list.__repr__", F.slot_list_repr.toG, F.slot_list_str, F.slot_list_format, fun s hk0 => ⟨o, hk0 _ _ h1, h2⟩, fun A E s Q hg hu hk0 hQ => ?_⟩
      simp only [PyData.depth] at hu
      simp only [PyData.shown] at hQ
      obtain ⟨l⟩ := vs
      cases l with
      | nil =>
        have h4' : ReadsAll _ [] xs _ := ra
        cases h4'
        simp only [PyData.shownAll, listText_nil] at hQ
        exact call_list_repr_empty ⟨o, hk0 _ _ h1, h2⟩ (hk0 _ _ h1) h3 (hQ s.heap _ _ fun _ _ e => e)
      | cons x l =>
        exact call_list_reprK h1 h2 h3 hna (by simpa using hk.length_eq) (fun i y e => hk.item i y (by simpa using e)) hg (fun b _ => Clear.nil b) hu hk0 hQ hz'
    | tuple h1 h2 h3 h4 =>
      rename_i o vs n xs
      have hz' : (tupleText (PyData.shownAll xs)).length ≤ sizeLine := by simpa only [PyData.shown] using hsz
      obtain ⟨as, ra⟩ := RdlA.reads xs _ h4
      obtain ⟨bs, hb, hk⟩ := RdlA.reprK (prog := prog) (w := w) xs _ h4 (by simpa [PyData.showable] using hs) (fun t ht => Nat.le_trans (tupleText_mem_le ht) hz')
      have hna : a ∉ bs := not_mem_of_deeper (.tuple h1 h2 h3 ra) (by simp only [PyData.depth]; omega) hb
      refine ⟨"tuple", "tuple.__repr__", F.slot_tuple_repr, F.slot_tuple_str, F.slot_tuple_format, fun s hk0 => ⟨o, hk0 _ _ h1, h2⟩, fun A E s Q hg hu hk0 hQ => ?_⟩
      simp only [PyData.depth] at hu
      simp only [PyData.shown] at hQ
      exact call_tuple_reprK h1 h2 h3 hna hk hg (fun b _ => Clear.nil b) hu hk0 hQ hz'
    | emp h1 h2 h3 h4 =>
      rename_i o n
      have hz' : (dictText (PyData.shownKv [])).length ≤ sizeLine := by simpa only [PyData.shown] using hsz
      refine ⟨"dict", "dict.__repr__", F.slot_dict_repr, F.slot_dict_str, F.slot_dict_format, fun s hk0 => ⟨o, hk0 _ _ h1, h2⟩, fun A E s Q hg hu hk0 hQ => ?_⟩
      simp only [PyData.depth] at hu
      simp only [PyData.shown] at hQ
      exact call_dict_reprK (as := []) h1 h2 h3 h4 (fun z => nomatch z) .nil hg (fun b _ => Clear.nil b) hu hk0 hQ hz'
  obtain ⟨T, idr, S⟩ := key
  exact call_repr_slot (by omega) (S.typeIs s fun _ _ e => e) S.slotRepr (S.call A.in1 E s _ hg (by show A.units + 1 + d.depth < cLine; omega) (fun _ _ e => e) fun h' u tk hk => ⟨_, _, rfl, hQ h' u tk hk⟩)
end
section
variable {X : Cx} {pins : List (Addr × Obj)} {σ : Slots} {H : Hp} {s : Shared}
mutual
theorem Dq.rdl (I : Inv X pins σ H s) : ∀ (d : PyData) (v : V) (u : Value), Dq H v d → RelV v u → Rdl s.heap u d
  | .none, _, _, h, r => by
    cases h
    cases r
    exact .none
  | .bool b, _, _, h, r => by
    cases h
    cases r
    exact .bool b
  | .int i, _, _, h, r => by
    cases h
    obtain ⟨t, rfl⟩ := r
    exact .int i t
  | .str x, _, _, h, r => by
    cases h
    obtain ⟨t, rfl⟩ := r
    exact .str x t
  | .list ds, _, _, h, r => by
    cases h with
    | lst ha ht =>
      cases r
      obtain ⟨_, its, n, rv, e⟩ := (show ObjOk X.prog X.w H s.heap _ (.lst _) from I.hok _ _ ha)
      exact .list e rfl rfl (DqL.rdl I ds _ its ht rv)
  | .tuple ds, _, _, h, r => by
    cases h with
    | tup ha ht =>
      cases r
      obtain ⟨_, its, rv, o, e, hc, n, hd⟩ := (show ObjOk X.prog X.w H s.heap _ (.tup _) from I.hok _ _ ha)
      exact .tuple e hc hd (DqL.rdl I ds _ its ht rv)
  | .dict _, _, _, h, r => by
    cases h with
    | emp ha =>
      cases r
      obtain ⟨_, hsm, vs, kv, o, es, ep, e, ex, hd, ks, ps, _⟩ := (show ObjOk X.prog X.w H s.heap _ (.dK []) from I.hok _ _ ha)
      cases kv
      have hes : es = #[] := by
        cases es with
        | mk l => cases l with
          | nil => rfl
          | cons a l => cases ps
      subst hes
      exact .emp e ex.1 hd hsm
theorem DqL.rdl (I : Inv X pins σ H s) : ∀ (ds : List PyData) (vs : List V) (us : List Value), DqL H vs ds → Vals vs us → RdlA s.heap us ds
  | [], _, _, h, r => by
    cases h
    cases r
    exact .nil
  | d :: ds, _, _, h, r => by
    cases h with
    | cons h1 h2 =>
      cases r with
      | cons r1 r2 => exact .cons (Dq.rdl I d _ _ h1 r1) (DqL.rdl I ds _ _ h2 r2)
end
end
/-! ### {} as data -/
section
variable {K : PySem.W.Frag} {Y : YX} {W : WX} {R : List Addr} {L : List En} {H : Hp}
theorem Rel.empD {p : Addr} (hp : H p = some (.dK [])) (h : Rel K H (p :: R) L) : Rel K H R ((.d (.dict []), some (.ref p)) :: L) := by
  obtain ⟨fp, nd, ht, ho⟩ := h
  have nd' : (p :: (R ++ fp)).Nodup := nd
  have g : Gr (hid H (p :: R ++ fp)) (hid H (R ++ fp)) := hid_sub fun b m => List.mem_cons_of_mem _ m
  refine ⟨fp, (List.nodup_cons.mp nd').2, fun b m => ht b (List.mem_cons_of_mem _ m), ?_⟩
  exact OwnP.cons (f1 := []) (.d (.emp (hid_get hp (List.nodup_cons.mp nd').1))) (OwnP.mono g _ _ (fun _ _ => rfl) ho)
def eDict0 : Sl → M O := fun S => some (.ok (.d (.dict [])), S)
theorem se_dict0 : SE K Y W tDNewK eDict0 := by
  intro R T S σ H Q out S' hl hf rel post
  cases hf
  intro p hp
  exact post hl _ _ (Rel.empD upd_same (rel.fresh hp))
/-! ### repr of any data -/
def repQ (d : PyData) : Bool := d.showable && d.leavesShort 400 && decide (d.weight ≤ 20000) && decide (d.depth ≤ 64)
def dReprQ : List PyData → Option PyData
  | [d] => if repQ d then some (.str d.shown) else none
  | _ => none
def rReprQ : List V → Hp → VK → Prop := fun xs H Q => ∃ x d, xs = [x] ∧ Dq H x d ∧ repQ d = true ∧ Q (.str d.shown) H
theorem fr_reprQ : FR K Y (rxn rReprQ) (fnD dReprQ) := fr_data
  (fun ds x h => by
    unfold dReprQ at h
    split at h
    · split at h
      · cases h; rfl
      · cases h
    · cases h)
  fun vs ds x H Q E hd hg q => by
    unfold dReprQ at hg
    split at hg
    · rename_i d
      split at hg
      · rename_i hc
        cases hg
        obtain ⟨v, rfl, a⟩ := dql1 hd
        exact ⟨v, d, rfl, a, hc, q⟩
      · cases hg
    · cases hg
theorem repQ_fits {d : PyData} (h : repQ d = true) : d.shown.length ≤ sizeLine := by
  unfold repQ at h
  simp only [Bool.and_eq_true, decide_eq_true_eq] at h
  have h1 := PyData.shown_le 400 (by decide) d h.1.1.2
  have h2 := h.1.2
  have h3 : (400 + 2) * d.weight ≤ (400 + 2) * 20000 := Nat.mul_le_mul_left _ h2
  have e := sizeLine_eq
  omega
theorem call_reprQ {X : Cx} {k : Nat} (hr : RG k X.A) : CallR X (.builtin "repr") rReprQ := by
  intro pins s σ H xs us Q I r h
  obtain ⟨x, d, rfl, hd, hok, q⟩ := h
  obtain ⟨u, rfl, rx⟩ := vals1 r
  have hz := repQ_fits hok
  have rd := Dq.rdl I d x u hd rx
  unfold repQ at hok
  simp only [Bool.and_eq_true, decide_eq_true_eq] at hok
  have hun := hr.rm.un
  have go : ∀ a, u = .ref a → wpAny (model X.prog X.w) X.A (call (.builtin "repr") [u]) (fun w s' => ∃ x H', Inv X pins σ H' s' ∧ RelV x w ∧ Q x H') X.xe s := by
    rintro a rfl
    refine rd.call hok.1.1.1 hr.gd (by have := hok.2; omega) (fun h' t tk hk => ?_) hz
    exact ⟨.str d.shown, H, I.kept hk, ⟨t, rfl⟩, q⟩
  cases rd with
  | none => exact PySem.P.repr_of_none ⟨.str _, H, I.tok _, ⟨_, rfl⟩, by simpa only [PyData.shown] using q⟩
  | bool b => exact PySem.P.repr_of_bool ⟨.str _, H, I.tok _, ⟨_, rfl⟩, by simpa only [PyData.shown] using q⟩
  | int i t => exact PySem.P.repr_of_int (by simpa only [PyData.showable, decide_eq_true_eq] using hok.1.1.1) ⟨.str _, H, I.tok _, ⟨_, rfl⟩, by simpa only [PyData.shown] using q⟩
  | str y t => exact PySem.P.repr_of_str ⟨.str _, H, I.tok _, ⟨_, rfl⟩, by simpa only [PyData.shown] using q⟩ (by simpa only [PyData.shown] using hz)
  | list h1 h2 h3 h4 => exact go _ rfl
  | tuple h1 h2 h3 h4 => exact go _ rfl
  | emp h1 h2 h3 h4 => exact go _ rfl
/-! ### is of truth values -/
def dIsB : List PyData → Option PyData
  | [.bool a, .bool b] => some (.bool (decide (a = b)))
  | _ => none
def cIsB : Fn := fnD dIsB
theorem fr_isB : FR K Y (rx2 rIsB) cIsB := fr_data
  (fun ds x h => by
    unfold dIsB at h
    split at h
    · cases h; rfl
    · cases h)
  fun vs ds x H Q E hd hg q => by
    unfold dIsB at hg
    split at hg
    · cases hg
      obtain ⟨v, u, rfl, a, b⟩ := dql2 hd
      cases a; cases b
      exact ⟨_, _, rfl, rfl, q⟩
    · cases hg
/-! ### a op b op' c of numbers -/
def eChain (f g : Int → Int → Bool) (fa fb fc : Sl → M O) : Sl → M O := fun S => bnd (fa S) fun a S1 => bnd (fb S1) fun b S2 => match a, b with
  | .d (.int i), .d (.int j) => if f i j then bnd (fc S2) fun c S3 => (match c with
    | .d (.int k) => some (.ok (.d (.bool (g j k))), S3)
    | _ => none) else some (.ok (.d (.bool false)), S2)
  | _, _ => none
theorem se_chain {f g : Int → Int → Bool} {ta tb tc : TE} {fa fb fc : Sl → M O} (h1 : SE K Y W ta fa) (h2 : SE K Y W tb fb) (h3 : SE K Y W tc fc) :
    SE K Y W (tChain (rI0 fun i j => .bl (f i j)) (rI0 fun i j => .bl (g i j)) ta tb tc) (eChain f g fa fb fc) := by
  intro R T S σ H Q out S' hl hf rel post
  rcases bnd_cases hf with ⟨e, e1, rfl⟩ | ⟨a, S1, e1, e2⟩
  · exact h1 R T S σ H _ _ _ hl e1 rel (fun hl' => post hl')
  · refine h1 R T S σ H _ _ _ hl e1 rel fun hl1 x H1 rel1 => ?_
    rcases bnd_cases e2 with ⟨e, e3, rfl⟩ | ⟨b, S2, e3, e4⟩
    · exact h2 R T S1 σ H1 _ _ _ hl1 e3 rel1.drop (fun hl' => post hl')
    · refine h2 R T S1 σ H1 _ _ _ hl1 e3 rel1.drop fun hl2 y H2 rel2 => ?_
      split at e4
      · rename_i i j
        have ex := scal_head (x := .int i) rfl rel1
        have ey := scal_head (x := .int j) rfl rel2
        subst ex ey
        refine ⟨i, j, rfl, rfl, f i j, rfl, ?_⟩
        split at e4
        · rename_i hc
          rw [if_pos hc]
          rcases bnd_cases e4 with ⟨e, e5, rfl⟩ | ⟨c, S3, e5, e6⟩
          · exact h3 R T S2 σ H2 _ _ _ hl2 e5 rel2.drop (fun hl' => post hl')
          · refine h3 R T S2 σ H2 _ _ _ hl2 e5 rel2.drop fun hl3 z H3 rel3 => ?_
            split at e6
            · rename_i k
              cases e6
              have ez := scal_head (x := .int k) rfl rel3
              subst ez
              exact ⟨j, k, rfl, rfl, post hl3 _ H3 (rel3.drop.addS (x := .bool (g j k)) rfl)⟩
            · cases e6
        · rename_i hc
          rw [if_neg hc]
          cases e4
          exact post hl2 _ H2 (rel2.drop.addS (x := .bool false) rfl)
      · cases e4
end
section
variable {X : Cx} {Y : YX} {W : WX} {a b c : Expr} {ra rb : Ar} {fa fb fc : Sl → M O} {pos : Pos}
theorem oe_dict0 : OkE X Y W (.Dict [] [] pos) eDict0 := ⟨_, pe_dnewK, se_dict0⟩
theorem oe_isB (ha : OkR X Y W a ra) (hb : OkR X Y W b rb) : OkE X Y W (.Compare a [.Is] [b] pos) (eApp cIsB [ra, rb]) := oe_cmp op_isBl fr_isB ha hb (nomark _)
theorem ot_isB (ha : OkR X Y W a ra) (hb : OkR X Y W b rb) : OkT X Y W (.Compare a [.Is] [b] pos) (tVal (eApp cIsB [ra, rb])) := ot_cmp op_isBl fr_isB ha hb (nomark _)
theorem oe_chain {op op' : CmpOp} {f g : Int → Int → Bool} (ho : OpR X (compareOp op) (rI0 fun i j => .bl (f i j))) (ho' : OpR X (compareOp op') (rI0 fun i j => .bl (g i j))) (ha : OkE X Y W a fa) (hb : OkE X Y W b fb) (hc : OkE X Y W c fc)
    (hm : lastMarks [op, op'] [b, c] = false := by with_unfolding_all rfl) : OkE X Y W (.Compare a [op, op'] [b, c] pos) (eChain f g fa fb fc) :=
  let ⟨_, q1, s1⟩ := ha
  let ⟨_, q2, s2⟩ := hb
  let ⟨_, q3, s3⟩ := hc
  ⟨_, pe_chain ho ho' q1 q2 q3 hm, se_chain s1 s2 s3⟩
theorem ot_chain {op op' : CmpOp} {f g : Int → Int → Bool} (ho : OpR X (compareOp op) (rI0 fun i j => .bl (f i j))) (ho' : OpR X (compareOp op') (rI0 fun i j => .bl (g i j))) (ha : OkE X Y W a fa) (hb : OkE X Y W b fb) (hc : OkE X Y W c fc)
    (hm : lastMarks [op, op'] [b, c] = false := by with_unfolding_all rfl) : OkT X Y W (.Compare a [op, op'] [b, c] pos) (tVal (eChain f g fa fb fc)) :=
  let ⟨_, q1, s1⟩ := ha
  let ⟨_, q2, s2⟩ := hb
  let ⟨_, q3, s3⟩ := hc
  ⟨_, pt_chain ho ho' q1 q2 q3 hm, st_val (se_chain s1 s2 s3)⟩
end
end FT
/-! FT20: a list != [], whatever the items. -/
namespace FT
open PySem PySem.Spec PyProof.Rows L2 PySem.SeqAt
theorem RdlA.len {h : Heap} : ∀ {vs : List Value} {ds : List PyData}, RdlA h vs ds → vs.length = ds.length
  | [], _, x => by cases x; rfl
  | _ :: _, _, x => by cases x with | cons _ t => simp [RdlA.len t]
def dNeE : List PyData → Option PyData
  | [.list ds, .list []] => some (.bool (!ds.isEmpty))
  | _ => none
def rNeE : R2 := fun x y H Q => ∃ ds, Dq H x (.list ds) ∧ Dq H y (.list []) ∧ Q (.bl (!ds.isEmpty)) H
theorem fr_neE {K : PySem.W.Frag} {Y : YX} : FR K Y (rx2 rNeE) (fnD dNeE) := fr_data
  (fun ds x h => by
    unfold dNeE at h
    split at h
    · cases h; rfl
    · cases h)
  fun vs ds x H Q E hd hg q => by
    unfold dNeE at hg
    split at hg
    · cases hg
      obtain ⟨v, u, rfl, a, b⟩ := dql2 hd
      exact ⟨_, a, b, q⟩
    · cases hg
theorem op_neE {X : Cx} (hu : X.A.units + 64 < cLine) : OpR X (compareOp .NotEq) rNeE := by
  intro pins s σ H x y v u Q I rx ry h
  obtain ⟨ds, hx, hy, q⟩ := h
  have r1 := Dq.rdl I _ x v hx rx
  have r2 := Dq.rdl I _ y u hy ry
  cases r1 with
  | list e1 e2 e3 t1 =>
    rename_i l o vs n
    cases r2 with
    | list f1 f2 f3 t2 =>
      rename_i l' o' vs' n'
      have hl : s.heap.IsList l vs := ⟨_, e1, e2, _, e3⟩
      have hl' : s.heap.IsList l' vs' := ⟨_, f1, f2, _, f3⟩
      have n1 : vs.size = ds.length := by simpa using t1.len
      have n2 : vs'.size = 0 := by simpa using t2.len
      have key : RcNeAt X.A s (.ref l) (.ref l') (!PyData.eqvAll ds []) := by
        by_cases hsz : vs.size = vs'.size
        · have hz : ds = [] := List.eq_nil_of_length_eq_zero (by omega)
          rw [← eqvAll_same_length (by rw [hz] : ds.length = ([] : List PyData).length), ← n1]
          exact RcNeAt.lists hl hl' hsz (by omega) (fun j j1 j2 => absurd j2 (by omega))
        · have : ds.length ≠ ([] : List PyData).length := by show ds.length ≠ 0; omega
          rw [eqvAll_other_length this]
          exact RcNeAt.lists_lengths hl hl' (by simpa using hsz) (by omega)
      have e : (!PyData.eqvAll ds []) = !ds.isEmpty := by cases ds <;> simp [PyData.eqvAll]
      rw [e] at key
      exact key X.prog X.w _ _ ⟨.bl _, H, I, rfl, q⟩
section
variable {X : Cx} {Y : YX} {W : WX} {a b : Expr} {ra rb : Ar} {pos : Pos} {k : Nat}
theorem oe_neE (hr : RG k X.A) (ha : OkR X Y W a ra) (hb : OkR X Y W b rb) : OkE X Y W (.Compare a [.NotEq] [b] pos) (eApp (fnD dNeE) [ra, rb]) := oe_cmp (op_neE (units64 hr)) fr_neE ha hb (nomark _)
theorem ot_neE (hr : RG k X.A) (ha : OkR X Y W a ra) (hb : OkR X Y W b rb) : OkT X Y W (.Compare a [.NotEq] [b] pos) (tVal (eApp (fnD dNeE) [ra, rb])) := ot_cmp (op_neE (units64 hr)) fr_neE ha hb (nomark _)
end
end FT
/-! FT21: plain lemmas: what can be shown, lists put together, cuts, names that stay. -/
namespace FT
open PySem PySem.Spec PyProof.Rows L2
/-! ### what can be shown, dicts among it -/
structure Sq (w e : Nat) (d : PyData) : Prop where
  sh : d.showable = true
  ls : d.leavesShort 400 = true
  wt : d.weight ≤ w
  dp : d.depth ≤ e
theorem Sq.mono {w e w' e' : Nat} {d : PyData} (h : Sq w e d) (h1 : w ≤ w') (h2 : e ≤ e') : Sq w' e' d := ⟨h.sh, h.ls, Nat.le_trans h.wt h1, Nat.le_trans h.dp h2⟩
theorem Sm.sq {w e : Nat} {d : PyData} (h : Sm w e d) : Sq w e d := ⟨h.sh, h.ls, h.wt, h.dp⟩
theorem sq_none : Sq 0 0 .none := ⟨by simp only [PyData.showable], by simp only [PyData.leavesShort], by simp [PyData.weight], by simp [PyData.depth]⟩
theorem sq_bool (b : Bool) : Sq 0 0 (.bool b) := ⟨by simp only [PyData.showable], by simp only [PyData.leavesShort], by simp [PyData.weight], by simp [PyData.depth]⟩
theorem sq_emp : Sq 0 1 (.dict []) := ⟨by simp [PyData.showable, PyData.showableKv], by simp [PyData.leavesShort, PyData.leavesShortKv], by simp [PyData.weight, PyData.weightKv], by simp [PyData.depth, PyData.depthKv]⟩
theorem log_lt {x : Int} {k m : Nat} (h0 : 0 ≤ x) (h : x < 10 ^ m) (hk : 10 ^ m ≤ 2 ^ k) (hp : 0 < k) : x.natAbs.log2 < k := by
  by_cases hx : x.natAbs = 0
  · rw [hx]; simpa using hp
  · rw [Nat.log2_lt hx]
    have e1 : (x.natAbs : Int) = x := Int.natAbs_of_nonneg h0
    have e3 : ((10 ^ m : Nat) : Int) = (10 : Int) ^ m := by norm_cast
    have : (x.natAbs : Int) < ((10 ^ m : Nat) : Int) := by omega
    omega
theorem wt_int {x : Int} {k : Nat} (h : x.natAbs.log2 < k) : (PyData.int x).weight ≤ k := by
  rw [PyData.weight]
  split <;> omega
theorem sq_int {x : Int} (h0 : 0 ≤ x) (h : x < 10 ^ 60) : Sq 200 0 (.int x) := by
  have hl : x.natAbs.log2 < 200 := log_lt h0 h (by decide +kernel) (by decide)
  refine ⟨?_, ?_, wt_int hl, by simp [PyData.depth]⟩
  · simp only [PyData.showable]
    exact decide_eq_true (by omega)
  · simp only [PyData.leavesShort]
    refine decide_eq_true ?_
    rw [PyData.shown]
    exact Nat.le_trans (PyProof.Rows.toString_length_le h0 (by decide) h) (by decide)
theorem sq_nat {j : Nat} (h : j < 100) : Sq 7 0 (.int j) := (sm_int h).sq
theorem sq_m1 : Sq 7 0 (.int (-1)) := ⟨by decide +kernel, by decide +kernel, by decide +kernel, by simp [PyData.depth]⟩
theorem sq_all {w e n : Nat} {ds : List PyData} (h : ∀ d ∈ ds, Sq w e d) (hn : ds.length ≤ n) : PyData.showableAll ds = true ∧ PyData.leavesShortAll 400 ds = true ∧ PyData.weightAll ds ≤ n * (w + 1) ∧ PyData.depthAll ds ≤ e := by
  have key : PyData.showableAll ds = true ∧ PyData.leavesShortAll 400 ds = true ∧ PyData.weightAll ds ≤ ds.length * (w + 1) ∧ PyData.depthAll ds ≤ e := by
    clear hn
    induction ds with
    | nil => exact ⟨by simp only [PyData.showableAll], by simp only [PyData.leavesShortAll], by simp [PyData.weightAll], by simp [PyData.depthAll]⟩
    | cons d ds ih =>
      obtain ⟨i2, i4, i5, i6⟩ := ih fun x hx => h x (List.mem_cons_of_mem _ hx)
      have hd := h d List.mem_cons_self
      refine ⟨?_, ?_, ?_, ?_⟩
      · simp only [PyData.showableAll, hd.sh, i2, Bool.and_self]
      · simp only [PyData.leavesShortAll, hd.ls, i4, Bool.and_self]
      · simp only [PyData.weightAll, List.length_cons]
        have := hd.wt
        rw [Nat.add_mul, Nat.one_mul]
        omega
      · simp only [PyData.depthAll]
        exact Nat.max_le.mpr ⟨hd.dp, i6⟩
  exact ⟨key.1, key.2.1, Nat.le_trans key.2.2.1 (Nat.mul_le_mul_right _ hn), key.2.2.2⟩
theorem sq_list {w e : Nat} (n : Nat) {ds : List PyData} (h : ∀ d ∈ ds, Sq w e d) (hn : ds.length ≤ n) : Sq (n * (w + 1)) (e + 1) (.list ds) := by
  obtain ⟨a, b, c, d⟩ := sq_all h hn
  refine ⟨by simp only [PyData.showable, a], by simp only [PyData.leavesShort, b], by simp only [PyData.weight]; exact c, ?_⟩
  simp only [PyData.depth]
  omega
theorem sq_tuple {w e : Nat} (n : Nat) {ds : List PyData} (h : ∀ d ∈ ds, Sq w e d) (hn : ds.length ≤ n) : Sq (n * (w + 1)) (e + 1) (.tuple ds) := by
  obtain ⟨a, b, c, d⟩ := sq_all h hn
  refine ⟨by simp only [PyData.showable, a], by simp only [PyData.leavesShort, b], by simp only [PyData.weight]; exact c, ?_⟩
  simp only [PyData.depth]
  omega
theorem Sq.repQ {w e : Nat} {d : PyData} (h : Sq w e d) (hw : w ≤ 20000) (he : e ≤ 64) : repQ d = true := by
  unfold FT.repQ
  rw [h.sh, h.ls, decide_eq_true (Nat.le_trans h.wt hw), decide_eq_true (Nat.le_trans h.dp he)]
  rfl
theorem reprQ_ok {w e : Nat} {d : PyData} (h : Sq w e d) (hw : w ≤ 20000) (he : e ≤ 64) : fnD dReprQ [.d d] = some (.ok (.d (.str d.shown)), [.d d]) := by
  rw [fn1]
  have : dReprQ [d] = some (.str d.shown) := by
    show (if FT.repQ d = true then _ else none) = _
    rw [if_pos (h.repQ hw he)]
  rw [this]
theorem reprQ_er {o : O} {w e : Nat} {d : PyData} (ho : er o = some d) (h : Sq w e d) (hw : w ≤ 20000) (he : e ≤ 64) : fnD dReprQ [o] = some (.ok (.d (.str d.shown)), [o]) := by
  unfold fnD
  rw [ers_cons, ho, ers_nil]
  have : dReprQ [d] = some (.str d.shown) := by
    show (if FT.repQ d = true then _ else none) = _
    rw [if_pos (h.repQ hw he)]
  simp only [this]
/-! ### a name that stays as it was -/
theorem li_isNo {o : O} {ds : List PyData} (h : Li o ds) : isNo o = false := by rcases h with rfl | rfl <;> rfl
theorem app_same {G : Fn} {i : Nat} {S : Sl} {o r : O} {ds : List PyData} (hS : S[i]? = some o) (hc : Li o ds) (h : G [o] = some (.ok r, [o])) : eApp G [.v i] S = some (.ok r, S) := by
  have hl : i < S.length := (List.getElem?_eq_some_iff.mp hS).1
  have hd : S.getD i .no = o := by rw [List.getD_eq_getElem?_getD, hS]; rfl
  by_cases q : isD o = true
  · exact app_vd hd q h
  · rw [app_vl hl hd (li_isNo hc) (by simpa using q) h, FT.set_self hS]
theorem do_at {fa : Sl → M O} {S S1 : Sl} {a : O} (h1 : fa S = some (.ok a, S1)) : sDo fa S = some (.ok .nx, S1) := by
  show bnd (fa S) _ = _
  rw [h1]
theorem nrm_dd (x : PyData) : nrm (.d x) = .d x := by
  unfold nrm
  split
  · rfl
  · rw [er_d]
theorem li_ls {o : O} {ds : List PyData} (h : Li o ds) : lsOf o = some ds ∧ nrm o = o ∧ er o = some (.list ds) := by
  rcases h with rfl | rfl
  · exact ⟨ls_dl _, nrm_dl _, er_dl _⟩
  · exact ⟨ls_d _, nrm_dd _, er_d _⟩
theorem gAdd_li {o p : O} {A B : List PyData} (h1 : Li o A) (h2 : Li p B) (hl : A.length + B.length ≤ 1000) : gAdd [o, p] = some (.ok (dl (A ++ B)), [o, p]) := by
  obtain ⟨a1, a2, a3⟩ := li_ls h1
  obtain ⟨b1, b2, b3⟩ := li_ls h2
  have g : gCat [o, p] = some (.ok (dl (A ++ B)), [o, p]) := by
    rw [cat_at, a1, b1, a2, b2]
    simp only
    rw [if_pos (by rw [LIM]; omega)]
  have er2 : ers [o, p] = some [.list A, .list B] := by rw [ers_cons, ers_cons, a3, b3, ers_nil]
  unfold gAdd orF
  have f1 : fnD (dII fun i j => i + j) [o, p] = none := by
    unfold fnD
    rw [er2]; rfl
  have f2 : fnD dAddS [o, p] = none := by
    unfold fnD
    rw [er2]; rfl
  rw [f1, f2]
  exact g
theorem gMul_li {o : O} {A : List PyData} {k : Nat} (h1 : Li o A) (hk : k ≤ 1000) (hl : A.length * k ≤ 1000) : gMul [o, .d (.int k)] = some (.ok (dl (List.replicate k A).flatten), [o, .d (.int k)]) := by
  obtain ⟨a1, a2, a3⟩ := li_ls h1
  have e : fnD (dIIc cMul fun i j => i * j) [o, .d (.int k)] = none := by
    unfold fnD
    rw [ers_cons, a3, ers_cons, er_d, ers_nil]
    rfl
  have c : (decide ((k : Int) < 100000) && decide (-100000 < (k : Int)) && decide (A.length * (k : Int).toNat ≤ LIM)) = true := by
    rw [Int.toNat_natCast, decide_eq_true (show (k : Int) < 100000 by omega), decide_eq_true (show -100000 < (k : Int) by omega)]
    have : A.length * k ≤ LIM := by
      rw [LIM]
      omega
    rw [decide_eq_true this]; rfl
  have g : gRep [o, .d (.int k)] = some (.ok (dl (List.replicate k A).flatten), [o, .d (.int k)]) := by
    unfold gRep
    simp only [a1]
    rw [if_pos c, a2, Int.toNat_natCast]
  unfold gMul orF
  rw [e]
  exact g
/-! ### cuts -/
theorem cut_to {α : Type} (xs : List α) (n : Nat) : cutL xs none (some (n : Int)) = xs.take n := by
  unfold cutL
  rw [HT.sIx_nat, HT.sIx_none, Nat.sub_zero, List.drop_zero]
  by_cases h : n ≤ xs.length
  · rw [Nat.min_eq_left h]
  · rw [Nat.min_eq_right (by omega), List.take_length, List.take_of_length_le (by omega)]
theorem cut_from {α : Type} (xs : List α) (n : Nat) : cutL xs (some (n : Int)) none = xs.drop n := by
  unfold cutL
  rw [HT.sIx_nat, HT.sIx_none]
  by_cases h : n ≤ xs.length
  · rw [Nat.min_eq_left h, List.take_of_length_le (by rw [List.length_drop]; exact Nat.le_refl _)]
  · rw [Nat.min_eq_right (by omega), List.drop_length, List.drop_of_length_le (by omega), List.take_nil]
theorem cut_mem {α : Type} {xs : List α} {lo hi : Option Int} {x : α} (h : x ∈ cutL xs lo hi) : x ∈ xs := List.mem_of_mem_drop (List.mem_of_mem_take h)
theorem cut_len {α : Type} {xs : List α} {lo hi : Option Int} : (cutL xs lo hi).length ≤ xs.length := by
  unfold cutL
  rw [List.length_take, List.length_drop]
  omega
theorem slO_li {o : O} {ds : List PyData} (h : Li o ds) (lo hi : Option Int) : slO o lo hi = some (dl (cutL ds lo hi), o) := by
  obtain ⟨a1, a2, _⟩ := li_ls h
  unfold slO
  split
  · rename_i x
    rcases h with h | h <;> cases h
  · rw [a1, a2]
theorem slV_at {i : Nat} {lo hi : Option (Sl → M Int)} {S : Sl} {o : O} {ds : List PyData} {l h : Option Int} (hS : S[i]? = some o) (ho : Li o ds) (h1 : runB lo S = some (.ok l, S)) (h2 : runB hi S = some (.ok h, S)) : eSlV i lo hi S = some (.ok (dl (cutL ds l h)), S) := by
  have hd : S.getD i .no = o := by rw [List.getD_eq_getElem?_getD, hS]; rfl
  unfold eSlV
  rw [hd, li_isNo ho, h1]
  show bnd (runB hi S) _ = _
  rw [h2]
  show (match slO (S.getD i .no) l h with
    | some (o, o') => some (Except.ok o, S.set i o')
    | none => none) = _
  rw [hd, slO_li ho]
  simp only [FT.set_self hS]
theorem slE_li {f : Sl → M O} {lo hi : Option (Sl → M Int)} {S S1 : Sl} {o : O} {ds : List PyData} {l h : Option Int} (h0 : f S = some (.ok o, S1)) (ho : Li o ds) (h1 : runB lo S1 = some (.ok l, S1)) (h2 : runB hi S1 = some (.ok h, S1)) : eSlE f lo hi S = some (.ok (dl (cutL ds l h)), S1) := by
  show bnd (f S) _ = _
  rw [h0]
  show bnd (runB lo S1) _ = _
  rw [h1]
  show bnd (runB hi S1) _ = _
  rw [h2]
  show (match slO o l h with
    | some (o, _) => some (Except.ok o, S1)
    | none => none) = _
  rw [slO_li ho]
theorem runB_n (S : Sl) : runB none S = some (.ok none, S) := rfl
theorem runB_i {f : Sl → M O} {S S1 : Sl} {x : Int} (h : f S = some (.ok (.d (.int x)), S1)) : runB (some (ckI f)) S = some (.ok (some x), S1) := by
  show bnd (bnd (f S) _) _ = _
  rw [h]
  try rfl
/-! ### an item of a list of data -/
theorem item_li {o : O} {ds : List PyData} {i : Nat} {x : PyData} (h : Li o ds) (hi : ds[i]? = some x) : gItem [o, .d (.int i)] = some (.ok (.d x), [o, .d (.int i)]) := by
  rw [item_at]
  have e : itemO (i : Int) o = some x := by
    rcases h with rfl | rfl
    · show (L2.atI (ds.map O.d) (i : Int)).bind dOf = _
      rw [at_get (x := O.d x) (by rw [List.getElem?_map, hi]; rfl)]
      rfl
    · exact at_get hi
  rw [e]
/-! ### calls, from the first argument on -/
theorem app_ev {G : Fn} {fa : Sl → M O} {i : Nat} {S S1 : Sl} {a o r a' : O} {ds : List PyData} (h1 : fa S = some (.ok a, S1)) (hS : S1[i]? = some o) (ho : Li o ds) (h : G [a, o] = some (.ok r, [a', o])) : eApp G [.e fa, .v i] S = some (.ok r, S1) := by
  have hd : S1.getD i .no = o := by rw [List.getD_eq_getElem?_getD, hS]; rfl
  have hl : i < S1.length := (List.getElem?_eq_some_iff.mp hS).1
  rw [ap_app, ar_e, h1]
  simp only [ar_v, ar_nil, hd, li_isNo ho]
  by_cases q : isD o = true
  · simp [grab, back, ← List.getD_eq_getElem?_getD, hd, q, h, li_isNo ho]
  · have q' : isD o = false := by simpa using q
    have e : (S1.set i O.no).set i o = S1 := by rw [List.set_set]; exact FT.set_self hS
    have z : (S1.set i O.no).getD i .no = .no := by
      rw [List.getD_eq_getElem?_getD, List.getElem?_set_self hl]; rfl
    have eg : grab [.inr a, .inl i] S1 = ([a, o], S1.set i .no) := by
      simp [grab, ← List.getD_eq_getElem?_getD, hd, q']
    have eb : back [.inr a, .inl i] [a', o] (S1.set i .no) = S1 := by
      show (if isNo ((S1.set i O.no).getD i .no) then (S1.set i O.no).set i o else S1.set i .no) = _
      rw [z, if_pos (show isNo O.no = true from rfl), e]
    show (match G (grab [.inr a, .inl i] S1).1 with
      | none => none
      | some (out, os') => some (out, back [.inr a, .inl i] os' (grab [.inr a, .inl i] S1).2)) = _
    rw [eg, h]
    show some (Except.ok r, back [.inr a, .inl i] [a', o] (S1.set i .no)) = _
    rw [eb]
theorem app_ve' {G : Fn} {fb : Sl → M O} {i : Nat} {S S1 : Sl} {o b r b' : O} {ds : List PyData} (h0 : isNo (S.getD i .no) = false) (h2 : fb S = some (.ok b, S1)) (hS : S1[i]? = some o) (ho : Li o ds) (h : G [o, b] = some (.ok r, [o, b'])) : eApp G [.v i, .e fb] S = some (.ok r, S1) := by
  have hd : S1.getD i .no = o := by rw [List.getD_eq_getElem?_getD, hS]; rfl
  have hl : i < S1.length := (List.getElem?_eq_some_iff.mp hS).1
  by_cases q : isD o = true
  · rw [ap_app, ar_v, h0]
    simp only [ar_e, ar_nil, h2]
    simp [grab, back, ← List.getD_eq_getElem?_getD, hd, q, h, li_isNo ho]
  · have q' : isD o = false := by simpa using q
    rw [app_ve h0 h2 hl hd q' h, FT.set_self hS]
end FT
/-! FT22: min and max of a list, extend, count, dicts of tuples of ints. -/
namespace FT
open PySem PySem.Spec PyProof.Rows L2
section
variable {K : PySem.W.Frag} {Y : YX} {W : WX} {R : List Addr} {L : List En} {H : Hp}
/-! ### min, max of a list of ints -/
def mnI : List Int → Int
  | [] => 0
  | [a] => a
  | a :: b :: L => min a (mnI (b :: L))
def mxI : List Int → Int
  | [] => 0
  | [a] => a
  | a :: b :: L => max a (mxI (b :: L))
theorem mnI_le : ∀ {L : List Int} {y : Int}, y ∈ L → mnI L ≤ y
  | [a], y, h => by rw [List.mem_singleton.mp h]; exact Int.le_refl _
  | a :: b :: L, y, h => by
    show min a (mnI (b :: L)) ≤ y
    rcases List.mem_cons.mp h with rfl | h
    · omega
    · have := mnI_le h
      omega
theorem mnI_mem : ∀ {L : List Int}, L ≠ [] → mnI L ∈ L
  | [], h => absurd rfl h
  | [a], _ => List.mem_singleton.mpr rfl
  | a :: b :: L, _ => by
    show min a (mnI (b :: L)) ∈ _
    have := mnI_mem (L := b :: L) (by simp)
    by_cases h : a ≤ mnI (b :: L)
    · rw [show min a (mnI (b :: L)) = a by omega]; exact List.mem_cons_self
    · rw [show min a (mnI (b :: L)) = mnI (b :: L) by omega]; exact List.mem_cons_of_mem _ this
theorem mxI_le : ∀ {L : List Int} {y : Int}, y ∈ L → y ≤ mxI L
  | [a], y, h => by rw [List.mem_singleton.mp h]; exact Int.le_refl _
  | a :: b :: L, y, h => by
    show y ≤ max a (mxI (b :: L))
    rcases List.mem_cons.mp h with rfl | h
    · omega
    · have := mxI_le h
      omega
theorem mxI_mem : ∀ {L : List Int}, L ≠ [] → mxI L ∈ L
  | [], h => absurd rfl h
  | [a], _ => List.mem_singleton.mpr rfl
  | a :: b :: L, _ => by
    show max a (mxI (b :: L)) ∈ _
    have := mxI_mem (L := b :: L) (by simp)
    by_cases h : mxI (b :: L) ≤ a
    · rw [show max a (mxI (b :: L)) = a by omega]; exact List.mem_cons_self
    · rw [show max a (mxI (b :: L)) = mxI (b :: L) by omega]; exact List.mem_cons_of_mem _ this
def dExt (f : List Int → Int) : List PyData → Option PyData
  | [.list ds] => match ds.mapM intD with
    | some (n :: ns) => some (.int (f (n :: ns)))
    | _ => none
  | _ => none
theorem dExt_ints {f : List Int → Int} {vs : List V} {ds : List PyData} {x : PyData} (hd : DqL H vs ds) (hg : dExt f ds = some x) : ∃ (a : Addr) (ns : List Int), vs = [V.ref a] ∧ SqL K H a (ns.map V.int) ∧ ns ≠ [] ∧ x = .int (f ns) := by
  unfold dExt at hg
  split at hg
  · rename_i es
    split at hg
    · rename_i n ns hns
      cases hg
      obtain ⟨v, rfl, a⟩ := dql1 hd
      cases a with
      | lst hp t =>
        have e1 := mapM_intD hns
        subst e1
        rename_i ad xs
        have e2 : xs = (n :: ns).map V.int := by
          have := DqL.scal (by simp [scal1]) t
          rw [this, List.map_map]; rfl
        subst e2
        exact ⟨ad, n :: ns, rfl, SqL.of hp, by simp, rfl⟩
    · cases hg
  · cases hg
theorem dExt_scal {f : List Int → Int} {ds : List PyData} {x : PyData} (h : dExt f ds = some x) : scal1 x = true := by
  unfold dExt at h
  split at h
  · split at h
    · cases h; rfl
    · cases h
  · cases h
theorem fr_min : FR K Y (rxn (rMin K)) (fnD (dExt mnI)) := fr_data (fun ds x h => dExt_scal h)
  fun vs ds x H Q E hd hg q => by
    obtain ⟨a, ns, e, hs, hne, rfl⟩ := dExt_ints (K := K) hd hg
    refine ⟨a, ns, e, hs, List.length_pos_iff.mpr hne, fun m hm hle => ?_⟩
    have : m = mnI ns := Int.le_antisymm (hle _ (mnI_mem hne)) (mnI_le hm)
    rw [this]; exact q
theorem fr_max : FR K Y (rxn (rMax K)) (fnD (dExt mxI)) := fr_data (fun ds x h => dExt_scal h)
  fun vs ds x H Q E hd hg q => by
    obtain ⟨a, ns, e, hs, hne, rfl⟩ := dExt_ints (K := K) hd hg
    refine ⟨a, ns, e, hs, List.length_pos_iff.mpr hne, fun m hm hle => ?_⟩
    have : m = mxI ns := Int.le_antisymm (mxI_le hm) (hle _ (mxI_mem hne))
    rw [this]; exact q
/-! ### extend, count -/
def gExtend : Fn := fun os => match os with
  | [.l xs, .l ys] => if xs.length + ys.length ≤ LIM then some (.ok (.d .none), [.l (xs ++ ys), .no]) else none
  | _ => none
theorem zip_app {α β : Type} : ∀ {A C : List α} {B D : List β}, A.length = B.length → (A ++ C).zip (B ++ D) = A.zip B ++ C.zip D
  | [], C, [], D, _ => rfl
  | a :: A, C, b :: B, D, h => by
    show (a, b) :: (A ++ C).zip (B ++ D) = (a, b) :: (A.zip B ++ C.zip D)
    rw [zip_app (by simpa using h)]
theorem fr_extend : FR K Y (rxm rExtend) gExtend := by
  intro R L vs os os' H Q E out hl hg rel post
  unfold gExtend at hg
  split at hg
  · rename_i xs ys
    obtain ⟨v, u, rfl⟩ := two_v hl
    split at hg
    · rename_i hlim
      cases hg
      have r0 : Rel K H R ((.l xs, some v) :: (.l ys, some u) :: L) := rel
      obtain ⟨a, ws, e, ha, el, r1⟩ := r0.open
      cases e
      have r2 : Rel K H (a :: R) ((.l ys, some u) :: (xs.zip (ws.map some) ++ L)) := r1.mid
      obtain ⟨b, zs, e, hb, el2, r3⟩ := r2.open
      cases e
      have r4 : Rel K H (a :: R) (ys.zip (zs.map some) ++ (xs.zip (ws.map some) ++ L)) := r3.letgo
      have r5 : Rel K H (a :: R) (xs.zip (ws.map some) ++ (ys.zip (zs.map some) ++ L)) := by
        refine r4.perm ?_
        rw [← List.append_assoc, ← List.append_assoc]
        exact List.Perm.append_right _ List.perm_append_comm
      refine ⟨a, b, ws, zs, rfl, rfl, ha, hb, by rw [← el, ← el2]; exact LIM_le hlim, post rfl .non _ ?_⟩
      have r6 : Rel K (upd H a (.lst (ws ++ zs))) (a :: R) ((xs ++ ys).zip ((ws ++ zs).map some) ++ L) := by
        rw [List.map_append, zip_app (by rw [List.length_map]; exact el), List.append_assoc]
        exact r5.hand List.mem_cons_self
      have r7 := r6.close upd_same (by rw [List.length_append, List.length_append, el, el2])
      exact (((r7.addNo (w := some (.ref b))).swap).addS (x := .none) rfl)
    · cases hg
  · cases hg
def dCount : List PyData → Option PyData
  | [.list ds, .int k] => (ds.mapM intD).map fun ns => .int (ns.count k : Nat)
  | _ => none
theorem fr_count : FR K Y (rxm (rCntI K)) (fnD dCount) := fr_data
  (fun ds x h => by
    unfold dCount at h
    split at h
    · obtain ⟨j, _, e⟩ := Option.map_eq_some_iff.mp h
      rw [← e]; rfl
    · cases h)
  fun vs ds x H Q E hd hg q => by
    unfold dCount at hg
    split at hg
    · rename_i es k
      obtain ⟨ns, hns, e⟩ := Option.map_eq_some_iff.mp hg
      cases e
      obtain ⟨v, u, rfl, a, b⟩ := dql2 hd
      cases b
      cases a with
      | lst hp t =>
        have e1 := mapM_intD hns
        subst e1
        rename_i ad xs
        have e2 : xs = ns.map V.int := by
          have := DqL.scal (by simp [scal1]) t
          rw [this, List.map_map]; rfl
        subst e2
        exact ⟨ad, ns, k, rfl, rfl, SqL.of hp, q⟩
    · cases hg
/-! ### dicts whose keys are tuples of ints, whose values are ints -/
def lookM (kvs : List (List Int × Int)) (k : List Int) : Option Int := (kvs.find? fun p => decide (p.1 = k)).map (·.2)
def putM (kvs : List (List Int × Int)) (k : List Int) (v : Int) : List (List Int × Int) :=
  if (kvs.any fun p => decide (p.1 = k)) = true then kvs.map (fun p => if p.1 = k then (p.1, v) else p) else kvs ++ [(k, v)]
theorem inl_inj : ∀ {a b : List Int}, a.map (Sum.inl : Int → Key) = b.map Sum.inl ↔ a = b
  | [], [] => by simp
  | [], b :: B => by simp
  | a :: A, [] => by simp
  | a :: A, b :: B => by
    rw [List.map_cons, List.map_cons, List.cons.injEq, List.cons.injEq, inl_inj]
    constructor
    · rintro ⟨h1, h2⟩; exact ⟨Sum.inl.inj h1, h2⟩
    · rintro ⟨h1, h2⟩; exact ⟨by rw [h1], h2⟩
theorem look_ok (k : List Int) : ∀ kvs : List (List Int × Int), valV (mKV kvs) (k.map .inl) = (lookM kvs k).map .int
  | [] => rfl
  | p :: kvs => by
    have ih := look_ok k kvs
    by_cases h : p.1 = k
    · have h' : (p.1.map (Sum.inl : Int → Key)) = k.map .inl := by rw [h]
      show valV ((p.1.map .inl, .int p.2) :: mKV kvs) (k.map .inl) = _
      rw [valV_pos h']
      simp [lookM, List.find?_cons, h]
    · have h' : ¬ (p.1.map (Sum.inl : Int → Key)) = k.map .inl := fun e => h (inl_inj.mp e)
      show valV ((p.1.map .inl, .int p.2) :: mKV kvs) (k.map .inl) = _
      rw [valV_neg h', ih]
      simp [lookM, List.find?_cons, h]
theorem put_ok (kvs : List (List Int × Int)) (k : List Int) (v : Int) : mKV (putM kvs k v) = putK (mKV kvs) (k.map .inl) (.int v) := by
  have ha : ((mKV kvs).any fun kv => decide (kv.1 = k.map .inl)) = kvs.any fun p => decide (p.1 = k) := by
    unfold mKV
    rw [List.any_map]
    congr 1
    funext p
    simp [inl_inj]
  unfold putM putK
  rw [ha]
  split
  · unfold mKV
    rw [List.map_map, List.map_map]
    refine List.map_congr_left fun p _ => ?_
    by_cases h : p.1 = k
    · simp [h]
    · simp [h, inl_inj]
  · unfold mKV
    rw [List.map_append]; rfl
def eDNewT : Sl → M O := fun S => some (.ok (.m []), S)
theorem se_dnewT : SE K Y W tDNewT eDNewT := by
  intro R T S σ H Q out S' hl hf rel post
  cases hf
  intro p hp
  exact post hl _ _ (Rel.closeM (kvs := []) upd_same (rel.fresh hp))
theorem tup_ints {ds : List PyData} {ns : List Int} {w : Option V} (h : Rel K H R ((.d (.tuple ds), w) :: L)) (hn : ds.mapM intD = some ns) : ∃ b, w = some (.ref b) ∧ H b = some (.tup ((ns.map (Sum.inl : Int → Key)).map kV)) := by
  obtain ⟨b, vs, e, hb, hl, hd, _⟩ := h.itemsT
  have e1 := mapM_intD hn
  subst e1
  have e2 : vs = ((ns.map (Sum.inl : Int → Key)).map kV) := by
    have := DqL.scal (by simp [scal1]) hd
    rw [this, List.map_map, List.map_map]; rfl
  subst e2
  exact ⟨b, e, hb⟩
def gDGet : Fn := fun os => match os with
  | [.m kvs, .d (.tuple ks)] => (match ks.mapM intD with
    | some ns => (match lookM kvs ns with
      | some v => some (.ok (.d (.int v)), [.m kvs, .d (.tuple ks)])
      | none => none)
    | none => none)
  | _ => none
def rDGet : R2 := fun x y H Q => ∃ a v, x = .ref a ∧ DGet H a y (some v) ∧ Q v H
theorem fr_dget : FR K Y (rx2 rDGet) gDGet := by
  intro R L vs os os' H Q E out hl hg rel post
  unfold gDGet at hg
  split at hg
  · rename_i kvs ks
    obtain ⟨v, u, rfl⟩ := two_v hl
    split at hg
    · rename_i ns hns
      split at hg
      · rename_i z hz
        cases hg
        have r0 : Rel K H R ((.m kvs, some v) :: (.d (.tuple ks), some u) :: L) := rel
        obtain ⟨b, e, hb⟩ := tup_ints r0.drop hns
        cases e
        obtain ⟨a, e, ha, _⟩ := r0.openM
        cases e
        refine ⟨a, .int z, rfl, ?_, post rfl _ H (r0.addS (x := .int z) rfl)⟩
        have := DGet.t ha hb
        rw [look_ok, hz] at this
        exact this
      · cases hg
    · cases hg
  · cases hg
def sDSet (i : Nat) (fk fv : Sl → M O) : Sl → MS := fun S => bnd (fv S) fun o S1 => if isNo (S1.getD i .no) then none else bnd (fk S1) fun k S2 => match o, S2.getD i .no, k with
  | .d (.int v), .m kvs, .d (.tuple ks) => (match ks.mapM intD with
    | some ns => if kvs.length < LIM then some (.ok .nx, S2.set i (.m (putM kvs ns v))) else none
    | none => none)
  | _, _, _ => none
theorem ss_dset {ws : List Nat} {i : Nat} {ty tv : TE} {fk fv : Sl → M O} (hv : SE K Y W tv fv) (hk : SE K Y W ty fk) : SS K Y W ws (sDPut (tVar i) ty tv) (sDSet i fk fv) := by
  intro R T S σ H D out S' hl hf rel post
  rcases bnd_cases hf with ⟨e, e1, rfl⟩ | ⟨o, S1, e1, e2⟩
  · exact hv R T S σ H _ _ _ hl e1 rel (post_err post)
  · refine hv R T S σ H _ _ _ hl e1 rel fun hl1 v H1 rel1 => ?_
    have rel1' : Rel K H1 R (S1.zip σ ++ ((o, some v) :: T)) := rel1.unmid
    split at e2
    · cases e2
    · rename_i hn
      obtain ⟨x, hx⟩ := slot_val hl1 (by simpa using hn) rel1'
      refine ⟨x, hx, ?_⟩
      rcases bnd_cases e2 with ⟨e, e3, rfl⟩ | ⟨k, S2, e3, e4⟩
      · exact hk R _ S1 σ H1 _ _ _ hl1 e3 rel1' fun hle cls dd H' hy r => post_err post hle cls dd H' hy r.mid.drop
      · refine hk R _ S1 σ H1 _ _ _ hl1 e3 rel1' fun hl2 u H2 rel2 => ?_
        split at e4
        · rename_i v' kvs ks hS
          split at e4
          · rename_i ns hns
            split at e4
            · rename_i hlim
              cases e4
              obtain ⟨b, eb, hb⟩ := tup_ints rel2 hns
              cases eb
              have hi2 : i < S2.length := lt_of_slot hl2 hx
              have ev : v = .int v' := by
                have : Rel K H2 R ((.d (.int v'), some v) :: (S2.zip σ ++ T)) := rel2.drop.mid
                exact scal_head (x := .int v') rfl this
              subst ev
              have r3 : Rel K H2 R ((.m kvs, some x) :: ((S2.set i .no).zip σ ++ ((.d (.int v'), some (.int v')) :: T))) := rel2.drop.take (by rw [getD_some hi2, hS]) hx
              obtain ⟨a, e, ha, r4⟩ := r3.openM
              cases e
              refine ⟨a, _, rfl, DPut.t ha hb (by unfold mKV; rw [List.length_map]; exact LIM_lt hlim), ?_⟩
              rw [← put_ok]
              have r5 : Rel K (upd H2 a (.dT (mKV (putM kvs ns v')))) (a :: R) ((S2.set i .no).zip σ ++ ((.d (.int v'), some (.int v')) :: T)) := r4.hand List.mem_cons_self
              have r6 := (r5.closeM upd_same).put hx
              rw [List.set_set] at r6
              exact post (by rw [List.length_set]; exact hl2) σ _ .refl r6.mid.drop
            · cases e4
          · cases e4
        · cases e4
end
section
variable {X : Cx} {Y : YX} {W : WX} {a b e idx : Expr} {ra rb : Ar} {fa f : Sl → M O} {pos p p1 : Pos} {k i : Nat} {x : Str} {ws : List Nat}
theorem oe_dnewT : OkE X Y W (.Dict [] [] pos) eDNewT := ⟨_, pe_dnewT, se_dnewT⟩
theorem oe_dget (hr : RG k X.A) (ha : OkR X Y W a ra) (hb : OkR X Y W b rb) (hs : NoSl b := by exact fun _ _ => rfl) : OkE X Y W (.Subscript a b pos) (eApp gDGet [ra, rb]) :=
  let ⟨_, q1, s1⟩ := ha
  let ⟨_, q2, s2⟩ := hb
  ⟨_, pe_dget (by have := units64 hr; omega) q1 q2 hs, se_app2 s1 s2 fr_dget⟩
theorem os_dset (hr : RG k X.A) (ho : PE X (.Name x p1) (tVar i)) (hi : OkE X Y W idx fa) (h : OkE X Y W e f)
    (hs : swapsWith e (some (.Subscript (.Name x p1) idx p)) pos.line X.env = pure false := by rfl) : OkS X Y W ws (.Assign [.Subscript (.Name x p1) idx p] e pos) (sDSet i fa f) :=
  let ⟨_, q1, t1⟩ := hi
  let ⟨_, q2, t2⟩ := h
  ⟨_, ps_dput (by have := units64 hr; omega) ho q1 q2 hs, ss_dset t2 t1⟩
end
end FT
/-! FT23: an item given away with its list (the list's last use). -/
namespace FT
open PySem PySem.Spec PyProof.Rows L2
section
variable {K : PySem.W.Frag} {Y : YX}
def gItemM : Fn := fun os => match os with
  | [.l xs, .d (.int i)] => match ixN xs.length i with
    | some j => some (.ok (xs.getD j .no), [.no, .d (.int i)])
    | none => none
  | _ => none
theorem fr_itemM : FR K Y (rx2 (rIx K)) gItemM := by
  intro R L vs os os' H Q E out hl hg rel post
  unfold gItemM at hg
  split at hg
  · rename_i xs i
    obtain ⟨v, u, rfl⟩ := two_v hl
    split at hg
    · rename_i j hij
      cases hg
      have r0 : Rel K H R ((.l xs, some v) :: (.d (.int i), some u) :: L) := rel
      have eu := scal_head (x := .int i) rfl r0.drop
      subst eu
      obtain ⟨a, ws, e, ha, el, r1⟩ := r0.open
      cases e
      have hjx : j < xs.length := ixN_lt hij
      obtain ⟨y, hy⟩ : ∃ y, ws[j]? = some y := ⟨_, List.getElem?_eq_getElem (show j < ws.length by omega)⟩
      have hm : (ws.map some)[j]? = some (some y) := by rw [List.getElem?_map, hy]; rfl
      have hix : atI ws i = some y := by
        unfold atI
        rw [← el, hij]
        exact hy
      have hx : xs[j]? = some (xs.getD j .no) := by rw [List.getD_eq_getElem?_getD, List.getElem?_eq_getElem hjx]; rfl
      have r2 := r1.take hx hm
      have r3 : Rel K H (a :: R) ((xs.set j .no).zip (ws.map some) ++ ((xs.getD j .no, some y) :: ((.d (.int i), some (.int i)) :: L))) := r2.perm List.perm_middle.symm
      have r4 := r3.drops.letgo
      have r5 : Rel K H R ((xs.getD j .no, some y) :: (.no, some (.ref a)) :: ((.d (.int i), some (.int i)) :: L)) := (r4.addNo).swap
      exact .inl ⟨a, ws, i, y, rfl, rfl, SqL.of ha, hix, post rfl y H r5⟩
    · cases hg
  · cases hg
end
section
variable {X : Cx} {Y : YX} {W : WX} {a b : Expr} {ra rb : Ar} {pos : Pos}
theorem oe_itemM (ha : OkR X Y W a ra) (hb : OkR X Y W b rb) (hs : PlainIx b := by exact fun _ _ => rfl) : OkE X Y W (.Subscript a b pos) (eApp gItemM [ra, rb]) :=
  let ⟨_, q1, s1⟩ := ha
  let ⟨_, q2, s2⟩ := hb
  ⟨_, pe_ix ix_seq q1 q2 hs, se_app2 s1 s2 fr_itemM⟩
end
end FT
/-! FT24: a method of a list that an expression gives. -/
namespace FT
open PySem PySem.Spec PyProof.Rows L2
section
variable {K : PySem.W.Frag} {Y : YX} {W : WX}
def eLs (f : Sl → M O) : Sl → M O := fun S => bnd (f S) fun o S1 => if isLs o then some (.ok o, S1) else none
theorem se_ls {te : TE} {f : Sl → M O} (h : SE K Y W te f) : SE K Y W (fun σ H Q => te σ H fun x H1 => tyV K "list" x H1 ∧ Q x H1) (eLs f) := by
  intro R T S σ H Q out S' hl hf rel post
  rcases bnd_cases hf with ⟨e, e1, rfl⟩ | ⟨o, S1, e1, e2⟩
  · exact h R T S σ H _ _ _ hl e1 rel (fun hl' => post hl')
  · refine h R T S σ H _ _ _ hl e1 rel fun hl1 x H1 rel1 => ?_
    split at e2
    · rename_i hi
      cases e2
      exact ⟨isLs_ty hi rel1, post hl1 x H1 rel1⟩
    · cases e2
def eMethE (g : Fn) (fo : Sl → M O) (as : List Ar) : Sl → M O := eApp g (.e (eLs fo) :: as)
theorem se_methE {te : TE} {fo : Sl → M O} {t : TA} {as : List Ar} {r : V → List V → Hp → VK → Prop} {g : Fn} (ho : SE K Y W te fo) (ha : SA K Y W t as) (hr : FR K Y (rxm r) g) : SE K Y W (tBM K "list" r te t) (eMethE g fo as) :=
  se_app (r := rxm r) (sa_e (se_ls ho) ha) hr
end
section
variable {X : Cx} {Y : YX} {W : WX} {o e : Expr} {es : List Expr} {fo : Sl → M O} {as : List Ar}
theorem oe_methE {name : Str} {id : String} {r : V → List V → Hp → VK → Prop} {g : Fn} {q2 q3 : Pos} (slot : Slot "list" name id) (hty : typeOf (.builtin id) = pure (.type "method_descriptor")) (hm : MtR X id r) (hr : FR X.K Y (rxm r) g) (h : OkE X Y W o fo) (ha : OkA X Y W (e :: es) as)
    (hbase : attributeBase o name X.env (eval o X.env) = eval o X.env := by rfl)
    (hfew : ((backTo q3 (starEach (e :: es) X.env)).all (fun x => !x.1) && (backToKw q3 (keywordEach [] X.env)).all (fun x => x.1.isSome)
      && decide ((e :: es).length + ([] : List Keyword).length + (if ([] : List Keyword).isEmpty then 0 else 1) < 30)) = true := by rfl)
    (hline : (q2.endLine == q3.line) = true := by rfl) (hs : starEach (e :: es) X.env = (false, eval e X.env) :: starEach es X.env := by rfl) (hplain : (backTo q3 (starEach es X.env)).any (·.1) = false := by rfl) :
    OkE X Y W (.Call (.Attribute o name q2) (e :: es) [] q3) (eMethE g fo as) :=
  let ⟨_, q0, s0⟩ := h
  let ⟨_, q, s⟩ := ha
  ⟨_, pe_bm PySem.F.plainAttrs_list slot hty hm q0 q hbase hfew hline hs hplain, se_methE s0 s hr⟩
end
end FT
/-! FT25: instances of own classes: attributes, methods, making. -/
namespace FT
open PySem PySem.Spec PyProof.Rows L2
def clsI : O → Option Str
  | .s (.ob c _) => some c
  | .i c _ => some c
  | _ => none
def fldI (f : Str) : O → Option Ins
  | .s (.ob _ ps) => ps.get f
  | .i _ ps => ps.get f
  | _ => none
def toO : Ins → O
  | .da x => .d x
  | .ob c ps => .s (.ob c ps)
/-- as what stands in an attribute -/
def insOf : O → Option Ins
  | .s t => some t
  | .i c ps => some (.ob c ps)
  | o => (er o).map .da
section
variable {K : PySem.W.Frag} {Y : YX} {W : WX} {G : Hp} {R : List Addr} {T L : List En} {H : Hp} {σ : Slots}
theorem own_toO {v : V} : ∀ {t : Ins}, Sh K G v t → Own K G H (toO t) (some v) []
  | .da _, h => by cases h with | da q => exact .d q
  | .ob _ _, h => .s h
theorem Rel.inst {o : O} {w : Option V} {c : Str} (h : Rel K H R ((o, w) :: L)) (hc : clsI o = some c) :
    ∃ a C dx fs, w = some (.ref a) ∧ PySem.W.nsIn K mainGlobals c = some (some (.ref C)) ∧ H a = some (.ins C dx fs) ∧
      ∀ f, match fldI f o with
        | some t => ∃ v, fs.lookup f = some v ∧ Rel K H R ((toO t, some v) :: (o, w) :: L)
        | none => fs.lookup f = none := by
  obtain ⟨fp, nd, ht, ho⟩ := h
  cases ho with
  | cons a t =>
    cases a with
    | s q =>
      cases q with
      | da _ => cases hc
      | ob hC e sp =>
        rename_i f2 a C dx c' fs ps
        cases hc
        refine ⟨_, _, _, _, rfl, hC, hid_le _ _ e, fun f => ?_⟩
        have g := ShP.get (f := f) _ _ sp
        show match ps.get f with
          | some t => _
          | none => _
        cases hq : ps.get f with
        | none => rw [hq] at g; exact g
        | some t =>
          rw [hq] at g
          obtain ⟨v, l, sh⟩ := g
          exact ⟨v, l, _, nd, ht, OwnP.cons (f1 := []) (own_toO sh) (OwnP.cons (f1 := []) (.s (.ob hC e sp)) (by assumption))⟩
    | i hC e sp =>
      rename_i f2 a C dx c' fs ps
      cases hc
      refine ⟨_, _, _, _, rfl, hC, e, fun f => ?_⟩
      have g := ShP.get (f := f) _ _ sp
      show match ps.get f with
        | some t => _
        | none => _
      cases hq : ps.get f with
      | none => rw [hq] at g; exact g
      | some t =>
        rw [hq] at g
        obtain ⟨v, l, sh⟩ := g
        exact ⟨v, l, _, nd, ht, OwnP.cons (f1 := []) (own_toO sh) (OwnP.cons (.i hC e sp) (by assumption))⟩
    | _ => cases hc
theorem Rel.shareI {o : O} {v : V} {t : Ins} (h : Rel K H R ((o, some v) :: L)) (e : insOf o = some t) : Rel K H R ((.s t, some v) :: L) := by
  have dat : ∀ x : PyData, er o = some x → t = .da x → Rel K H R ((.s t, some v) :: L) := fun x q z => by
    subst z
    obtain ⟨fp, nd, ht, ho⟩ := h.freeze q
    cases ho with
    | cons a b => cases a with | d q => exact ⟨_, nd, ht, OwnP.cons (f1 := []) (.s (.da q)) b⟩
  cases o with
  | no => cases e
  | d x => exact dat x rfl (by cases e; rfl)
  | l xs =>
    have e' : (er (.l xs)).map Ins.da = some t := e
    cases q : er (.l xs) with
    | none => rw [q] at e'; cases e'
    | some x =>
      rw [q] at e'
      exact dat x q (by cases e'; rfl)
  | fz ns => cases e
  | m kvs => cases e
  | n kvs => cases e
  | j _ _ _ => cases e
  | q _ => cases e
  | g _ => cases e
  | fr _ _ => cases e
  | x _ => cases e
  | s u => cases e; exact h
  | i c ps =>
    cases e
    obtain ⟨fp, nd, ht, ho⟩ := h
    cases ho with
    | cons a b =>
      rename_i f1 f2
      cases a with
      | i hC e sp =>
        rename_i a C dx fs
        have nd2 : (R ++ f2).Nodup := nd.sublist ((List.sublist_append_right [a] f2).append_left R)
        have g : Gr (hid H (R ++ ([a] ++ f2))) (hid H (R ++ f2)) := hid_sub fun b m => (List.mem_append.mp m).elim (List.mem_append_left _) fun m => List.mem_append_right _ (List.mem_append_right _ m)
        refine ⟨f2, nd2, ht, OwnP.cons (f1 := []) (.s (.ob hC (hid_get e fun z => ?_) (ShP.mono g _ _ sp))) (OwnP.mono g _ _ (fun _ _ => rfl) b)⟩
        have d1 := List.nodup_append.mp nd
        have d2 := List.nodup_append.mp d1.2.1
        rcases List.mem_append.mp z with z | z
        · exact d1.2.2 a z a (List.mem_append_left _ List.mem_cons_self) rfl
        · exact d2.2.2 a List.mem_cons_self a z rfl
/-- an attribute is set -/
theorem Rel.setI {t : Ins} {y : V} {w : Option V} {c : Str} {ps : InsL} (f : Str) (h : Rel K H R ((.s t, some y) :: (.i c ps, w) :: L)) :
    ∃ a C dx fs, w = some (.ref a) ∧ PySem.W.nsIn K mainGlobals c = some (some (.ref C)) ∧ H a = some (.ins C dx fs) ∧ fs.length = ps.len ∧ Rel K (upd H a (.ins C dx (putF f y fs))) R ((.i c (ps.put f t), w) :: L) := by
  obtain ⟨fp, nd, ht, ho⟩ := h
  cases ho with
  | cons x b =>
    rename_i g1 g2
    cases x with
    | s sh =>
      cases b with
      | cons z b =>
        rename_i f1 f2
        cases z with
        | i hC e sp =>
          rename_i a C dx fs
          have nd2 : (R ++ ([a] ++ f2)).Nodup := nd
          have hid' : hid H (R ++ ([] ++ ([a] ++ f2))) = hid (upd H a (.ins C dx (putF f y fs))) (R ++ ([a] ++ f2)) := (hid_upd (show a ∈ R ++ ([a] ++ f2) by simp)).symm
          have d1 := List.nodup_append.mp nd2
          have d2 := List.nodup_append.mp d1.2.1
          refine ⟨a, C, dx, fs, rfl, hC, e, ShP.len _ _ sp, [a] ++ f2, nd2, fun b m => ?_, ?_⟩
          · by_cases q : b = a
            · rw [q, upd_same]; exact fun z => nomatch z
            · rw [upd_ne q]; exact ht b m
          · rw [← hid']
            exact OwnP.cons (.i hC upd_same (ShP.put sh _ _ sp)) (OwnP.mono Gr.rfl _ _ (fun b m => upd_ne fun q => d2.2.2 a List.mem_cons_self b m q.symm) b)
theorem Rel.closeI {a C dx : Addr} {c : Str} (hC : PySem.W.nsIn K mainGlobals c = some (some (.ref C))) (ha : H a = some (.ins C dx [])) (h : Rel K H (a :: R) L) : Rel K H R ((.i c .nil, some (.ref a)) :: L) := by
  obtain ⟨fp, nd, ht, ho⟩ := h
  have pp : (a :: R ++ fp).Perm (R ++ ([a] ++ fp)) := by
    show (a :: (R ++ fp)).Perm (R ++ (a :: fp))
    exact List.perm_middle.symm
  have eh := hid_iff (H := H) fun b => pp.mem_iff (a := b)
  refine ⟨[a] ++ fp, pp.nodup_iff.mp nd, fun b m => ht b (List.mem_cons_of_mem _ m), ?_⟩
  rw [← eh]
  exact .cons (.i hC ha .nil) ho

/-! ### an attribute -/
/-- of what a name holds -/
def eFld (c f : Str) (i : Nat) : Sl → M O := fun S => if clsI (S.getD i .no) = some c then (match fldI f (S.getD i .no) with
  | some t => some (.ok (toO t), S)
  | none => none) else none
theorem clsI_no {o : O} {c : Str} (h : clsI o = some c) : isNo o = false := by
  cases o <;> first | rfl | cases h
theorem se_fld {c f : Str} {i : Nat} {C : Addr} (hC : PySem.W.nsIn K mainGlobals c = some (some (.ref C))) (c1 : Cls K C) (n1 : NoAttr K C f) : SE K Y W (tFld K (tVar i) f) (eFld c f i) := by
  intro R T S σ H Q out S' hl hf rel post
  unfold eFld at hf
  split at hf
  · rename_i hc
    have hn := clsI_no hc
    obtain ⟨v, hv⟩ := slot_val hl hn rel
    have hs := getD_some (slot_lt hn)
    have r1 := rel.take hs hv
    obtain ⟨a, C', dx, fs, ew, hC', ha, F⟩ := r1.inst hc
    cases ew
    rw [hC] at hC'
    cases hC'
    have g := F f
    split at hf
    · rename_i t ht
      rw [ht] at g
      obtain ⟨v', l, r2⟩ := g
      cases hf
      refine ⟨_, hv, a, C, dx, fs, v', rfl, ha, c1, n1, l, post hl v' H ?_⟩
      have r3 : Rel K H R ((S.getD i .no, some (.ref a)) :: ((S.set i .no).zip σ ++ ((toO t, some v') :: T))) := r2.swap.perm (.cons _ List.perm_middle.symm)
      have r4 := r3.put hv
      rw [List.set_set, set_self hs] at r4
      exact r4.mid
    · cases hf
  · cases hf
/-- of what an expression gives -/
def eFldE (c f : Str) (g : Sl → M O) : Sl → M O := fun S => bnd (g S) fun o S1 => if clsI o = some c then (match fldI f o with
  | some t => some (.ok (toO t), S1)
  | none => none) else none
theorem se_fldE {c f : Str} {te : TE} {g : Sl → M O} {C : Addr} (hC : PySem.W.nsIn K mainGlobals c = some (some (.ref C))) (c1 : Cls K C) (n1 : NoAttr K C f) (h : SE K Y W te g) : SE K Y W (tFld K te f) (eFldE c f g) := by
  intro R T S σ H Q out S' hl hf rel post
  rcases bnd_cases hf with ⟨e, e1, rfl⟩ | ⟨o, S1, e1, e2⟩
  · exact h R T S σ H _ _ _ hl e1 rel (fun hl' => post hl')
  · refine h R T S σ H _ _ _ hl e1 rel fun hl1 x H1 rel1 => ?_
    split at e2
    · rename_i hc
      obtain ⟨a, C', dx, fs, ew, hC', ha, F⟩ := rel1.inst hc
      cases ew
      rw [hC] at hC'
      cases hC'
      have q := F f
      split at e2
      · rename_i t ht
        rw [ht] at q
        obtain ⟨v', l, r2⟩ := q
        cases e2
        exact ⟨a, C, dx, fs, v', rfl, ha, c1, n1, l, post hl1 v' H1 r2.swap.drop⟩
      · cases e2
    · cases e2
/-- is set -/
def sFldSet (c f : Str) (i : Nat) (fe : Sl → M O) : Sl → MS := fun S => bnd (fe S) fun o S1 => match insOf o, S1.getD i .no with
  | some t, .i c' ps => if c' = c ∧ ps.len < 1000 then some (.ok .nx, S1.set i (.i c (ps.put f t))) else none
  | _, _ => none
theorem ss_fld {ws : List Nat} {c f : Str} {i : Nat} {te : TE} {fe : Sl → M O} {C : Addr} (hC : PySem.W.nsIn K mainGlobals c = some (some (.ref C))) (c1 : Cls K C) (n1 : NoAttr K C f) (h : SE K Y W te fe) : SS K Y W ws (sFld K (tVar i) te f) (sFldSet c f i fe) := by
  intro R T S σ H D out S' hl hf rel post
  rcases bnd_cases hf with ⟨e, e1, rfl⟩ | ⟨o, S1, e1, e2⟩
  · exact h R T S σ H _ _ _ hl e1 rel (post_err post)
  · refine h R T S σ H _ _ _ hl e1 rel fun hl1 y H1 rel1 => ?_
    split at e2
    · rename_i t c' ps ht hS
      split at e2
      · rename_i hcl
        obtain ⟨rfl, hlt⟩ := hcl
        cases e2
        have r1 := rel1.shareI ht
        have hn : isNo (S1.getD i .no) = false := by rw [hS]; rfl
        obtain ⟨v, hv⟩ := slot_val hl1 hn r1.drop
        have hs := getD_some (slot_lt hn)
        have r2 : Rel K H1 R (S1.zip σ ++ ((.s t, some y) :: T)) := r1.unmid
        have r3 := r2.take hs hv
        rw [hS] at r3
        have r4 : Rel K H1 R ((.s t, some y) :: (.i c' ps, some v) :: ((S1.set i .no).zip σ ++ T)) := (r3.perm (.cons _ List.perm_middle)).swap
        obtain ⟨a, C', dx, fs, ew, hC', ha, hfl, r5⟩ := r4.setI f
        cases ew
        rw [hC] at hC'
        cases hC'
        refine ⟨_, hv, a, C, dx, fs, rfl, ha, c1, n1, by rw [hfl]; exact hlt, ?_⟩
        have r6 := r5.put hv
        rw [List.set_set] at r6
        exact post (by rw [List.length_set]; exact hl1) σ _ .refl r6
      · cases e2
    · cases e2

/-! ### a method -/
def eMethC (c m : Str) (g : Fn) (i : Nat) (as : List Ar) : Sl → M O := fun S => if clsI (S.getD i .no) = some c ∧ (fldI m (S.getD i .no)).isNone = true then eApp g (.v i :: as) S else none
def tMethI (K : PySem.W.Frag) (Y : YX) (W : WX) (C : Addr) (m : Str) (g : Fn) (ta : TE) (t : TA) : TE := fun σ H Q => ta σ H fun x H1 => ∃ a dx fs, x = .ref a ∧ H1 a = some (.ins C dx fs) ∧ fs.lookup m = none ∧
  t σ H1 fun vs H2 => rCall K Y g (x :: vs) H2 Q fun cls dd H3 => W cls dd σ H3
theorem se_methC {c m : Str} {i : Nat} {t : TA} {as : List Ar} {g : Fn} {C : Addr} (hC : PySem.W.nsIn K mainGlobals c = some (some (.ref C))) (ha : SA K Y W t as) : SE K Y W (tMethI K Y W C m g (tVar i) t) (eMethC c m g i as) := by
  intro R T S σ H Q out S' hl hf rel post
  unfold eMethC at hf
  split at hf
  · rename_i hc
    obtain ⟨hc, hm⟩ := hc
    have hn := clsI_no hc
    obtain ⟨v, hv⟩ := slot_val hl hn rel
    have r1 := rel.take (getD_some (slot_lt hn)) hv
    obtain ⟨a, C', dx, fs, ew, hC', ha', F⟩ := r1.inst hc
    cases ew
    rw [hC] at hC'
    cases hC'
    have g1 := F m
    have hlk : fs.lookup m = none := by
      cases q : fldI m (S.getD i .no) with
      | none => rw [q] at g1; exact g1
      | some _ => rw [q] at hm; cases hm
    have q := se_app (r := rCall K Y g) (sa_v (i := i) ha) fr_call R T S σ H Q out S' hl hf rel post
    obtain ⟨v', hv', q⟩ := q
    rw [hv] at hv'
    cases hv'
    exact ⟨_, hv, a, dx, fs, rfl, ha', hlk, q⟩
  · cases hf
/-! ### an instance is made -/
def gMake (c : Str) (gi : Fn) : Fn := fun os => match gi (.i c .nil :: os) with
  | some (.ok (.d .none), .i c' ps :: os') => some (.ok (.s (.ob c' ps)), os')
  | _ => none
def rMake (K : PySem.W.Frag) (Y : YX) (C : Addr) (gi : Fn) : RX := fun vs H Q E => ∀ x dx, H x = none → H dx = none → dx ≠ x → rCall K Y gi (.ref x :: vs) (upd (upd H dx (.own x)) x (.ins C dx [])) (fun v H2 => v = .non ∧ Q (.ref x) H2) E
theorem fr_make {c : Str} {gi : Fn} {C : Addr} (hC : PySem.W.nsIn K mainGlobals c = some (some (.ref C))) : FR K Y (rMake K Y C gi) (gMake c gi) := by
  intro R L vs os os' H Q E out hl hg rel post x dx hx hdx hne
  have r1 := (rel.fresh (u := .own x) hdx).letgo
  have hx2 : upd H dx (.own x) x = none := by rw [upd_ne (fun z => hne z.symm)]; exact hx
  have r2 := Rel.closeI hC (dx := dx) (by rw [upd_same]) (r1.fresh (u := .ins C dx []) hx2)
  unfold gMake at hg
  split at hg
  · rename_i c' ps os2 hgi
    cases hg
    refine ⟨R, L, .i c .nil :: os, _, _, by simp [hl], hgi, r2, ?_⟩
    intro hl' v H' rel'
    have ev : some v = some V.non := Rel.scal (x := .none) rfl rel'
    cases ev
    refine ⟨rfl, post (by simpa using hl') _ H' ?_⟩
    exact rel'.drop.shareI rfl
  · cases hg
/-! ### is None -/
def gIsNS : Fn := fun os => match os with
  | [.s (.ob c ps), .d .none] => some (.ok (.d (.bool false)), [.s (.ob c ps), .d .none])
  | [.i c ps, .d .none] => some (.ok (.d (.bool false)), [.i c ps, .d .none])
  | _ => none
def cIsNI : Fn := orF cIsN gIsNS
def gNotNS : Fn := fun os => match os with
  | [.s (.ob c ps), .d .none] => some (.ok (.d (.bool true)), [.s (.ob c ps), .d .none])
  | [.i c ps, .d .none] => some (.ok (.d (.bool true)), [.i c ps, .d .none])
  | _ => none
def cNotNI : Fn := orF cNotN gNotNS
theorem inst_ref {o : O} {v u : V} {c : Str} (hc : clsI o = some c) (h : Rel K H R ((o, some v) :: (.d .none, some u) :: L)) : decide (v = .non) = false ∧ u = .non := by
  obtain ⟨a, C, dx, fs, ew, _⟩ := h.inst hc
  cases ew
  have : some u = some V.non := Rel.scal (x := .none) rfl h.drop
  cases this
  exact ⟨rfl, rfl⟩
theorem fr_isNS : FR K Y (rx2 fun x y H Q => y = .non ∧ Q (.bl (decide (x = .non))) H) gIsNS := by
  intro R L vs os os' H Q E out hl hg rel post
  unfold gIsNS at hg
  split at hg
  · cases hg
    match vs, hl with
    | [v, u], _ =>
      obtain ⟨h1, h2⟩ := inst_ref rfl rel
      refine ⟨h2, ?_⟩
      rw [h1]
      exact post rfl _ H (Rel.addS (x := .bool false) rfl rel)
  · cases hg
    match vs, hl with
    | [v, u], _ =>
      obtain ⟨h1, h2⟩ := inst_ref rfl rel
      refine ⟨h2, ?_⟩
      rw [h1]
      exact post rfl _ H (Rel.addS (x := .bool false) rfl rel)
  · cases hg
theorem fr_isNI : FR K Y (rx2 fun x y H Q => y = .non ∧ Q (.bl (decide (x = .non))) H) cIsNI := by
  intro R L vs os os' H Q E out hl hg rel post
  unfold cIsNI orF at hg
  cases q : cIsN os with
  | some r => rw [q] at hg; exact fr_isN R L vs os os' H Q E out hl (q.trans hg) rel post
  | none => rw [q] at hg; exact fr_isNS R L vs os os' H Q E out hl hg rel post
end
section
variable {X : Cx} {Y : YX} {W : WX} {ws : List Nat} {k : Nat} {fA C : Addr} {fd : FuncData} {psn : List Str} {g : Fn} {x c f m : Str} {p p1 p2 p3 pos apos : Pos} {e o a b : Expr} {ra rb : Ar} {es : List Expr} {as : List Ar} {t : TA} {i : Nat} {fe : Sl → M O} {ta : TE}
theorem oe_isNI (ha : OkR X Y W a ra) (hb : OkR X Y W b rb) : OkE X Y W (.Compare a [.Is] [b] pos) (eApp cIsNI [ra, rb]) := oe_cmp op_isN fr_isNI ha hb (nomark _)
theorem ot_isNI (ha : OkR X Y W a ra) (hb : OkR X Y W b rb) : OkT X Y W (.Compare a [.Is] [b] pos) (tVal (eApp cIsNI [ra, rb])) := ot_cmp op_isN fr_isNI ha hb (nomark _)
theorem oe_fld (hC : PySem.W.nsIn X.K mainGlobals c = some (some (.ref C))) (c1 : Cls X.K C) (n1 : NoAttr X.K C f) (h : PE X (.Name x p1) (tVar i)) (hb : attributeBase (.Name x p1) f X.env (eval (.Name x p1) X.env) = eval (.Name x p1) X.env := by rfl) : OkE X Y W (.Attribute (.Name x p1) f pos) (eFld c f i) :=
  ⟨_, pe_fld h hb, se_fld hC c1 n1⟩
theorem oe_fldE (hC : PySem.W.nsIn X.K mainGlobals c = some (some (.ref C))) (c1 : Cls X.K C) (n1 : NoAttr X.K C f) (h : OkE X Y W e fe) (hb : attributeBase e f X.env (eval e X.env) = eval e X.env := by rfl) : OkE X Y W (.Attribute e f pos) (eFldE c f fe) :=
  let ⟨_, q, s⟩ := h
  ⟨_, pe_fld q hb, se_fldE hC c1 n1 s⟩
theorem os_fld (hC : PySem.W.nsIn X.K mainGlobals c = some (some (.ref C))) (c1 : Cls X.K C) (n1 : NoAttr X.K C f) (ho : PE X (.Name x p1) (tVar i)) (h : OkE X Y W e fe) (hs : swapsWith e (some (.Attribute (.Name x p1) f p2)) pos.line X.env = pure false := by rfl) : OkS X Y W ws (.Assign [.Attribute (.Name x p1) f p2] e pos) (sFldSet c f i fe) :=
  let ⟨_, q, s⟩ := h
  ⟨_, ps_fld ho q hs, ss_fld hC c1 n1 s⟩
theorem pe_methI {pl : Sem Bool} (he : PE X o ta) (c1 : Cls X.K C) (hm : Meth X.K C m fA) (F : FnG X.prog X.w X.K X.mg X.base Y k fA fd psn g) (hr : RG k X.A) (hb : Binds X.K fd psn []) (tk : L2N.Takes X W) (ha : PA X (e :: es) t)
    (hst : starEach (e :: es) X.env = (false, eval e X.env) :: starEach es X.env := by rfl) (hpl : (backTo pos (starEach es X.env)).any (·.1) = false := by rfl)
    (ht : eval (.Call (.Attribute o m apos) (e :: es) [] pos) X.env = (do
      let ov ← eval o X.env
      standAt apos.atName
      let (f, first) ← holding [ov] (getMethod ov m pl)
      callWith pos f first (backTo pos (starEach (e :: es) X.env)) (backToKw pos (keywordEach [] X.env))) := by rfl) :
    PE X (.Call (.Attribute o m apos) (e :: es) [] pos) (tMethI X.K Y W C m g ta t) := by
  refine ⟨fun pins s σ H Q I h => ?_⟩
  refine PySem.W.methodCall_KW (pl := pl) (thn (he.run pins s σ H _ I h) fun u s1 ⟨x, H1, I1, rx, a, dx, fs, ex, ea, l, q⟩ => ?_) ht
  subst ex
  obtain rfl : u = Value.ref a := rx
  refine getmeth_ok I1 ea c1 hm l ?_
  refine PySem.W.callWith_K (first := [.ref a]) (h₀ := X.base) I.ok.mod.kin hm.kp (thn (ha.run pos pins s1 σ H1 _ I1 q) fun us s2 ⟨vs, H2, I2, r, q2⟩ => ⟨I2.kIn, ?_⟩) hst hpl
  exact run_g (us := .ref a :: us) (vs := .ref a :: vs) F hr tk (fun hl => by simpa using hb s2 (.ref a :: us) I2.kIn (by simpa using hl)) I2 (.cons rfl r) q2
theorem oe_methI {pl : Sem Bool} (hC : PySem.W.nsIn X.K mainGlobals c = some (some (.ref C))) (c1 : Cls X.K C) (hm : Meth X.K C m fA) (F : FnG X.prog X.w X.K X.mg X.base Y k fA fd psn g) (hr : RG k X.A) (hb : Binds X.K fd psn []) (tk : L2N.Takes X W)
    (he : PE X (.Name x p1) (tVar i)) (ha : OkA X Y W (e :: es) as)
    (hst : starEach (e :: es) X.env = (false, eval e X.env) :: starEach es X.env := by rfl) (hpl : (backTo pos (starEach es X.env)).any (·.1) = false := by rfl)
    (ht : eval (.Call (.Attribute (.Name x p1) m apos) (e :: es) [] pos) X.env = (do
      let ov ← eval (.Name x p1) X.env
      standAt apos.atName
      let (f, first) ← holding [ov] (getMethod ov m pl)
      callWith pos f first (backTo pos (starEach (e :: es) X.env)) (backToKw pos (keywordEach [] X.env))) := by rfl) :
    OkE X Y W (.Call (.Attribute (.Name x p1) m apos) (e :: es) [] pos) (eMethC c m g i as) :=
  let ⟨_, q, s⟩ := ha
  ⟨_, pe_methI (pl := pl) he c1 hm F hr hb tk q hst hpl ht, se_methC hC s⟩
theorem RG.make {A : Around} (r : RG (k + 1) A) (C : Addr) (us : List Value) (kw : List (Str × Value)) : RG k (A.under (.builtin "type.__call__" ⟨.ref C :: us, kw⟩)) := ⟨r.rm.make C us kw, r.gd⟩
theorem run_makeI {pins : List (Addr × Obj)} {σ : Slots} {H : Hp} {s : Shared} {Q : VK} {us : List Value} {vs : List V} (M : Mk X.K C fA) (F : FnG X.prog X.w X.K X.mg X.base Y k fA fd psn g) (hr : RG (k + 1) X.A) (hb : Binds X.K fd psn []) (tk : L2N.Takes X W)
    (I : Inv X pins σ H s) (r : Vals vs us) (h : rMake X.K Y C g vs H Q fun cls dd H2 => W cls dd σ H2) : wpAny (model X.prog X.w) X.A (call (.ref C) us) (EP X pins σ Q) X.xe s := by
  have hq := h (s.heap.objs.size + 1) s.heap.objs.size (I.hok.fresh (Nat.le_succ _)) (I.hok.fresh (Nat.le_refl _)) (Nat.ne_of_lt (Nat.lt_succ_self _))
  have I2 := Inv.made (C := C) I
  have r2 : Vals (V.ref (s.heap.objs.size + 1) :: vs) (Value.ref (s.heap.objs.size + 1) :: us) := .cons rfl r
  obtain ⟨R, L, os, os', out, hl, hg, rel, post⟩ := hq
  have hlu : (Value.ref (s.heap.objs.size + 1) :: us).length = psn.length := by rw [← r2.length, ← hl]; exact F.ar os _ hg
  refine wpAny_call (make_map (f := fA) I.kIn M.makes M.init (beq_iff_eq.mp M.fn) (codeAny_mono (F.run _ X.stack _ _ ⟨Value.ref (s.heap.objs.size + 1) :: us, []⟩ (Value.ref (s.heap.objs.size + 1) :: us) _ _ _ R L os os' out (hr.make C us [])
    (I2.env0.make C us []) (by simpa using hb _ (Value.ref (s.heap.objs.size + 1) :: us) I2.kIn (by simpa using hlu)) r2 hl hg rel post) fun q s' hq' => ?_))
  match q, hq' with
  | .error ev, hq' => exact L2N.passAt tk σ pins _ _ ev s' I2 hq'
  | .ok (.ret u), hq' =>
    obtain ⟨v, H', I3, rv, ev, q3⟩ := I2.after hq'
    subst ev
    exact ⟨rv, ⟨V.ref (s.heap.objs.size + 1), H', I3, rfl, q3⟩⟩
  | .ok .next, hq' => exact hq'.elim
  | .ok .brk, hq' => exact hq'.elim
  | .ok .cont, hq' => exact hq'.elim
theorem oe_make (hC : PySem.W.nsIn X.K mainGlobals x = some (some (.ref C))) (M : Mk X.K C fA) (F : FnG X.prog X.w X.K X.mg X.base Y k fA fd psn g) (hr : RG (k + 1) X.A) (hm : X.mg x = some (.ref C)) (hb : Binds X.K fd psn []) (tk : L2N.Takes X W)
    (ha : OkA X Y W (e :: es) as) (hg : Gl X x := by rfl) (hdb : (x == ("__debug__" : Str)) = false := by decide) (he : starEach (e :: es) X.env = (false, eval e X.env) :: starEach es X.env := by rfl) (hpl : (backTo pos (starEach es X.env)).any (·.1) = false := by rfl) :
    OkE X Y W (.Call (.Name x p) (e :: es) [] pos) (eApp (gMake x g) as) := by
  obtain ⟨t, q, s⟩ := ha
  refine ⟨_, ⟨fun pins s σ H Q I h => ?_⟩, se_app s (fr_make hC)⟩
  refine wpAny_Call_Name_kw (ld_glob I hg hm ?_ hdb)
  refine PySem.W.callWith_K (h₀ := X.base) I.ok.mod.kin M.kp (thn (q.run pos pins s σ H _ I h) fun us s1 ⟨vs, H1, I1, r, q⟩ => ⟨I1.kIn, ?_⟩) he hpl
  exact run_makeI M F hr hb tk I1 r q
end
/-! ### xs[i], xs[j] = a, b -/
def stV (i : Nat) (fi : Sl → M O) (x : PyData) : Sl → MS := fun S1 => if isNo (S1.getD i .no) then none else bnd (fi S1) fun k S2 => match S2.getD i .no, k with
  | .l xs, .d (.int k) => (match ixN xs.length k with
    | some j => some (.ok .nx, S2.set i (.l (xs.set j (.d x))))
    | none => none)
  | _, _ => none
def sSwap (i : Nat) (f1 f2 fe : Sl → M O) : Sl → MS := fun S => bnd (fe S) fun o S1 => match o with
  | .d (.tuple [x, y]) => bnd (stV i f1 x S1) fun _ S2 => stV i f2 y S2
  | _ => none
section
variable {K : PySem.W.Frag} {Y : YX} {W : WX} {R : List Addr} {T L : List En} {H : Hp} {σ : Slots} {ws : List Nat}
theorem sg_v {i : Nat} {ti : TE} {fi : Sl → M O} {x : PyData} {v : V} {S1 S' : Sl} {out : Except Ex Fl} {Q : Slots → Hp → Prop} (hi : SE K Y W ti fi) (hl1 : S1.length = σ.length) (e2 : stV i fi x S1 = some (out, S')) (rel1 : Rel K H R ((.d x, some v) :: (S1.zip σ ++ T)))
    (post : match out with
      | .ok .nx => S'.length = σ.length → ∀ H', Rel K H' R (S'.zip σ ++ T) → Q σ H'
      | .ok _ => True
      | .error e => S'.length = σ.length → ∀ cls dd H', Y e cls dd H' → Rel K H' R (S'.zip σ ++ T) → W cls dd σ H') : gSub (tVar i) ti rSetL v σ H Q := by
  have rel1' : Rel K H R (S1.zip σ ++ ((.d x, some v) :: T)) := rel1.unmid
  unfold stV at e2
  split at e2
  · cases e2
  · rename_i hn
    obtain ⟨z, hx⟩ := slot_val hl1 (by simpa using hn) rel1'
    refine ⟨z, hx, ?_⟩
    rcases bnd_cases e2 with ⟨e, e3, rfl⟩ | ⟨k, S2, e3, e4⟩
    · exact hi R _ S1 σ H _ _ _ hl1 e3 rel1' fun hle cls dd H' hy r => post hle cls dd H' hy r.mid.drop
    · refine hi R _ S1 σ H _ _ _ hl1 e3 rel1' fun hl2 u H2 rel2 => ?_
      split at e4
      · rename_i xs k' hS
        split at e4
        · rename_i j hj
          cases e4
          have eu := scal_head (x := .int k') rfl rel2
          subst eu
          have hi2 : i < S2.length := lt_of_slot hl2 hx
          have r3 : Rel K H2 R ((.l xs, some z) :: ((S2.set i .no).zip σ ++ ((.d x, some v) :: T))) := rel2.drop.take (by rw [getD_some hi2, hS]) hx
          obtain ⟨a, vs, e, ha, el, r4⟩ := r3.open
          cases e
          refine ⟨a, vs, k', j, rfl, rfl, ha, by rw [← el]; exact hj, ?_⟩
          have hjl : j < (xs.zip (vs.map some)).length := by
            have := ixN_lt hj
            rw [List.length_zip, List.length_map, ← el]
            omega
          have r5 : Rel K H2 (a :: R) ((.d x, some v) :: (xs.zip (vs.map some) ++ ((S2.set i .no).zip σ ++ T))) := by
            have q : Rel K H2 (a :: R) ((xs.zip (vs.map some) ++ (S2.set i .no).zip σ) ++ (.d x, some v) :: T) := by rw [List.append_assoc]; exact r4
            have q2 := q.mid
            rw [List.append_assoc] at q2
            exact q2
          have r6 : Rel K H2 (a :: R) ((xs.set j (.d x)).zip ((vs.set j v).map some) ++ ((S2.set i .no).zip σ ++ T)) := by
            have em : (vs.set j v).map some = (vs.map some).set j (some v) := List.map_set
            rw [em, zip_set]
            refine Rel.perm ?_ ((set_perm hjl).symm.append_right _)
            have p := r5.perm (.cons _ ((get_perm (List.getElem?_eq_getElem hjl)).append_right _))
            exact p.swap.drop
          have r7 := (r6.hand (u := .lst (vs.set j v)) List.mem_cons_self).close upd_same (by rw [List.length_set, List.length_set]; exact el)
          have r8 := r7.put hx
          rw [List.set_set] at r8
          exact post (by rw [List.length_set]; exact hl2) _ r8
        · cases e4
      · cases e4
theorem stV_nx {i : Nat} {fi : Sl → M O} {x : PyData} {S S' : Sl} {r : Fl} (h : stV i fi x S = some (.ok r, S')) : r = .nx := by
  unfold stV at h
  split at h
  · cases h
  · rcases bnd_cases h with ⟨_, _, q⟩ | ⟨k, S2, e3, e4⟩
    · cases q
    · split at e4
      · split at e4
        · cases e4; rfl
        · cases e4
      · cases e4
theorem ss_swap {i : Nat} {te t1 t2 : TE} {fe f1 f2 : Sl → M O} (h : SE K Y W te fe) (h1 : SE K Y W t1 f1) (h2 : SE K Y W t2 f2) : SS K Y W ws (tAsg te (gTup K 2 (gCons (gSub (tVar i) t1 rSetL) (gCons (gSub (tVar i) t2 rSetL) gNil)))) (sSwap i f1 f2 fe) := by
  intro R T S σ H D out S' hl hf rel post
  rcases bnd_cases hf with ⟨e, e1, rfl⟩ | ⟨o, S1, e1, e2⟩
  · exact h R T S σ H _ _ _ hl e1 rel (post_err post)
  · refine h R T S σ H _ _ _ hl e1 rel fun hl1 v H1 rel1 => ?_
    split at e2
    · rename_i x y
      obtain ⟨a, vs, ew, ha, hln, _, r1⟩ := rel1.itemsT
      cases ew
      match vs, hln, ha, r1 with
      | [v1, v2], _, ha, r1 =>
        refine ⟨a, [v1, v2], rfl, SqT.of ha, rfl, v1, [v2], rfl, ?_⟩
        have r2 : Rel K H1 R ((.d x, some v1) :: (.d y, some v2) :: (.d (.tuple [x, y]), some (.ref a)) :: (S1.zip σ ++ T)) := r1
        have r3 : Rel K H1 R ((.d x, some v1) :: (S1.zip σ ++ ((.d y, some v2) :: T))) := (((r2.swap.perm (.cons _ (.swap ..))).perm (.cons _ (.refl _))).swap.drop.swap.perm (.cons _ (.refl _))).perm (by
          first
          | exact .cons _ List.perm_middle.symm
          | exact (List.Perm.swap ..).trans (.cons _ List.perm_middle.symm))
        rcases bnd_cases e2 with ⟨e, e3, rfl⟩ | ⟨q, S2, e3, e4⟩
        · exact sg_v h1 hl1 e3 r3 fun hle cls dd H' hy r => post_err post hle cls dd H' hy r.mid.drop
        · have z := stV_nx e3
          subst z
          refine sg_v h1 hl1 e3 r3 fun hl2 H2 rel2 => ?_
          refine ⟨v2, [], rfl, ?_⟩
          cases out with
          | error e => exact sg_v h2 hl2 e4 rel2.mid fun hle cls dd H' hy r => post_err post hle cls dd H' hy r
          | ok q =>
            have z := stV_nx e4
            subst z
            exact sg_v h2 hl2 e4 rel2.mid fun hl3 H3 rel3 => ⟨rfl, post hl3 σ H3 .refl rel3⟩
    · cases e2
end
section
variable {X : Cx} {Y : YX} {W : WX} {ws : List Nat} {x y : Str} {p1 p2 p3 p4 p5 pos : Pos} {kt : Nat} {e i1 i2 : Expr} {i : Nat} {fe f1 f2 : Sl → M O}
theorem os_swap (hc : X.calm = true) (ho1 : PE X (.Name x p1) (tVar i)) (ho2 : PE X (.Name x p2) (tVar i)) (h1 : OkE X Y W i1 f1) (h2 : OkE X Y W i2 f2) (h : OkE X Y W e fe)
    (ha1 : ∀ v, assign (.Subscript (.Name x p1) i1 p3) X.env v = (do
      let ov ← holding [v] (eval (.Name x p1) X.env)
      let iv ← holding [v, ov] (eval i1 X.env)
      standAt p3
      holding [v, ov, iv] (setItem ov iv v)
      release [v, ov, iv] []) := by intro _; rfl)
    (ha2 : ∀ v, assign (.Subscript (.Name x p2) i2 p4) X.env v = (do
      let ov ← holding [v] (eval (.Name x p2) X.env)
      let iv ← holding [v, ov] (eval i2 X.env)
      standAt p4
      holding [v, ov, iv] (setItem ov iv v)
      release [v, ov, iv] []) := by intro _; rfl)
    (hs : swapsWithSole [.Tuple [.Subscript (.Name x p1) i1 p3, .Subscript (.Name x p2) i2 p4] kt p5] e pos.line X.env = pure false := by rfl) (hw : swappedStores [.Tuple [.Subscript (.Name x p1) i1 p3, .Subscript (.Name x p2) i2 p4] kt p5] e X.env = pure none := by rfl)
    (hz : (assignEach [.Tuple [.Subscript (.Name x p1) i1 p3, .Subscript (.Name x p2) i2 p4] kt p5] X.env).map (·.2) = [assign (.Tuple [.Subscript (.Name x p1) i1 p3, .Subscript (.Name x p2) i2 p4] kt p5) X.env] := by rfl)
    (he1 : (assignEach [.Subscript (.Name x p1) i1 p3, .Subscript (.Name x p2) i2 p4] X.env).map (·.2) = assign (.Subscript (.Name x p1) i1 p3) X.env :: (assignEach [.Subscript (.Name x p2) i2 p4] X.env).map (·.2) := by rfl)
    (he2 : (assignEach [.Subscript (.Name x p2) i2 p4] X.env).map (·.2) = assign (.Subscript (.Name x p2) i2 p4) X.env :: (assignEach [] X.env).map (·.2) := by rfl)
    (hn : (assignEach [.Subscript (.Name x p1) i1 p3, .Subscript (.Name x p2) i2 p4] X.env).length = 2 := by rfl) (hst : (assignEach [.Subscript (.Name x p1) i1 p3, .Subscript (.Name x p2) i2 p4] X.env).findIdx? (·.1) = none := by rfl) :
    OkS X Y W ws (.Assign [.Tuple [.Subscript (.Name x p1) i1 p3, .Subscript (.Name x p2) i2 p4] kt p5] e pos) (sSwap i f1 f2 fe) :=
  let ⟨_, q1, t1⟩ := h1
  let ⟨_, q2, t2⟩ := h2
  let ⟨_, q, t⟩ := h
  ⟨_, ps_asg q (pg_tup hc (pgs_cons (pg_sub ho1 q1 set_list ha1) (pgs_cons (pg_sub ho2 q2 set_list ha2) pgs_nil he2) he1) hn hst) hs hw hz, ss_swap t t1 t2⟩
end
/-! ### a, b, c = x, y, z with plain names -/
def sPar3 (i j l : Nat) (as : List Ar) : Sl → MS := fun S => bnd (argsE as S) fun hs S1 => match hs with
  | [.inr a, .inr b, .inr c] => some (.ok .nx, ((S1.set i a).set j b).set l c)
  | _ => none
section
variable {K : PySem.W.Frag} {Y : YX} {W : WX} {ws : List Nat}
theorem ss_par3 {i j l : Nat} {ta : TA} {as : List Ar} (h : SA K Y W ta as) (hi : i ∈ ws) (hj : j ∈ ws) (hl3 : l ∈ ws) : SS K Y W ws (tPar3 i j l ta) (sPar3 i j l as) := by
  intro R T S σ H D out S' hl hf rel post
  rcases bnd_cases hf with ⟨e, e1, rfl⟩ | ⟨hs, S1, e1, e2⟩
  · exact h R T S σ H _ _ _ hl e1 rel (post_err post)
  · refine h R T S σ H _ _ _ hl e1 rel fun hl' vs L H' hv rel' => ?_
    split at e2
    · rename_i a b c
      cases e2
      cases hv with
      | r hv => cases hv with
        | r hv => cases hv with
          | r hv =>
          cases hv
          rename_i u v w
          refine ⟨u, v, w, rfl, ?_⟩
          have r1 : Rel K H' R ((a, some u) :: (S1.zip σ ++ ((b, some v) :: (c, some w) :: T))) := by
            have q : Rel K H' R ((a, some u) :: (b, some v) :: (c, some w) :: (S1.zip σ ++ T)) := rel'
            refine q.perm (.cons _ ?_)
            exact ((List.Perm.cons _ List.perm_middle.symm).trans List.perm_middle.symm)
          have r2 := (r1.assign (i := i) hl').mid
          have r3 := (r2.assign (i := j) (by rw [List.length_set, List.length_set]; exact hl')).mid
          have r4 := r3.assign (i := l) (by rw [List.length_set, List.length_set, List.length_set, List.length_set]; exact hl')
          exact post (by rw [List.length_set, List.length_set, List.length_set]; exact hl') _ H' (Kept.trans (Kept.trans (.set hi) (.set hj)) (.set hl3)) r4
    · cases e2
end
section
variable {X : Cx} {Y : YX} {W : WX} {ws : List Nat} {x y z : Str} {px py pz pt pt2 pos : Pos} {kt k2 i j l : Nat} {a b c : Expr} {as : List Ar}
theorem os_par3 (hc : X.calm = true) (hN : X.N.Nodup) (hi : X.N[i]? = some x) (hj : X.N[j]? = some y) (hl : X.N[l]? = some z) (hij : i ≠ j) (hil : i ≠ l) (hjl : j ≠ l) (hx : X.env.scope.names.lookup x = some .local) (hy : X.env.scope.names.lookup y = some .local) (hz : X.env.scope.names.lookup z = some .local)
    (hwi : i ∈ ws) (hwj : j ∈ ws) (hwl : l ∈ ws) (ha : OkA X Y W [a, b, c] as)
    (hw : swappedStores [.Tuple [.Name x px, .Name y py, .Name z pz] kt pt] (.Tuple [a, b, c] k2 pt2) X.env = pure (some [x, y, z]) := by rfl) (hs : swapsWithSole [.Tuple [.Name x px, .Name y py, .Name z pz] kt pt] (.Tuple [a, b, c] k2 pt2) pos.line X.env = pure false := by rfl) :
    OkS X Y W ws (.Assign [.Tuple [.Name x px, .Name y py, .Name z pz] kt pt] (.Tuple [a, b, c] k2 pt2) pos) (sPar3 i j l as) :=
  let ⟨_, q, s⟩ := ha
  ⟨_, ps_par3 hc hN hi hj hl hij hil hjl hx hy hz q hw hs, ss_par3 s hwi hwj hwl⟩
end
end FT
/-! FT26: dicts whose keys are None and ints (leaf dicts). -/
namespace FT
open PySem PySem.Spec PyProof.Rows L2
/-! ### the kind of such keys does not ask for the program or the world -/
def noT : PySem.Leaf → Bool
  | .text _ => false
  | _ => true
theorem lf_hash {P P' : Program} {w w' : World} {k : PySem.Leaf} (h : noT k = true) : (leafKind P w).hash k = (leafKind P' w').hash k := by
  cases k with
  | none => rfl
  | num i => rfl
  | text x => cases h
theorem lf_pairs {P P' : Program} {w w' : World} {es : List DictEntry} {vs : List (PySem.Leaf × Value)} (h : Pairs (leafKind P w) es vs) : Pairs (leafKind P' w') es vs := by
  induction h with
  | nil => exact .nil
  | cons h1 h2 _ ih => exact .cons h1 h2 ih
theorem lf_mem {P : Program} {w : World} {es : List DictEntry} {vs : List (PySem.Leaf × Value)} (h : Pairs (leafKind P w) es vs) : ∀ e ∈ es, ∃ p ∈ vs, (leafKind P w).is p.1 e.key = true := by
  induction h with
  | nil => intro e m; cases m
  | cons h1 h2 _ ih =>
    intro e m
    rcases List.mem_cons.mp m with rfl | m
    · exact ⟨_, List.mem_cons_self, h1⟩
    · obtain ⟨p, hp, q⟩ := ih e m
      exact ⟨p, List.mem_cons_of_mem _ hp, q⟩
theorem lf_any {P P' : Program} {w w' : World} {h : Heap} {a : Addr} {vs : List (PySem.Leaf × Value)} (ht : ∀ p ∈ vs, noT p.1 = true) (d : h.DictOf (leafKind P w) a vs) : h.DictOf (leafKind P' w') a vs := by
  obtain ⟨o, es, ep, h1, h2, h3, h4, h5, h6⟩ := d
  refine ⟨o, es, ep, h1, h2, h3, fun e he => ?_, lf_pairs h5, h6⟩
  obtain ⟨k, hk, hh⟩ := h4 e he
  obtain ⟨p, hp, q⟩ := lf_mem h5 e (by simpa using he)
  have : k = p.1 := (leafKind P w).inj e.key k p.1 hk q
  subst this
  exact ⟨p.1, hk, hh.trans (lf_hash (ht p hp))⟩
def lfV : PySem.Leaf → V
  | .none => .non
  | .num i => .int i
  | .text x => .str x
theorem lfV_is {P : Program} {w : World} {k : PySem.Leaf} {u : Value} (r : RelV (lfV k) u) : (leafKind P w).is k u = true := by
  cases k with
  | none => cases (show u = Value.none from r); rfl
  | num i => obtain ⟨t, rfl⟩ := (show ∃ t, u = Value.int i t from r); exact decide_eq_true rfl
  | text x =>
    obtain ⟨t, rfl⟩ := (show ∃ t, u = Value.str x t from r)
    show Value.isStrOf x (.str x t) = true
    simp [Value.isStrOf]
def NT (kvs : List (PySem.Leaf × V)) : Prop := ∀ p ∈ kvs, noT p.1 = true
theorem NT.of {kvs : List (PySem.Leaf × V)} {vs : List (PySem.Leaf × Value)} (r : KV kvs vs) (h : NT kvs) : ∀ p ∈ vs, noT p.1 = true := fun p hp => by
  have e := r.keys
  have m : p.1 ∈ vs.map (·.1) := List.mem_map.mpr ⟨p, hp, rfl⟩
  rw [← e] at m
  obtain ⟨q, hq, e2⟩ := List.mem_map.mp m
  rw [← e2]
  exact h q hq
theorem NT.put {kvs : List (PySem.Leaf × V)} {k : PySem.Leaf} {v : V} (h : NT kvs) (hk : noT k = true) : NT (putK kvs k v) := by
  unfold putK
  split
  · intro p hp
    obtain ⟨q, hq, rfl⟩ := List.mem_map.mp hp
    split
    · exact h q hq
    · exact h q hq
  · intro p hp
    rcases List.mem_append.mp hp with hp | hp
    · exact h p hp
    · rw [List.mem_singleton.mp hp]; exact hk
section
variable {P : Program} {w : World} {H H' : Hp} {h h' : Heap} {a : Addr} {kvs : List (PySem.Leaf × V)}
theorem lf_of (ok : HOk P w H h) (e : H a = some (LfO a kvs)) : kvs.length ≤ sizeLine ∧ (a == sysModules) = false ∧ ∃ vs, KV kvs vs ∧ h.DictOf (leafKind P w) a vs := by
  obtain ⟨⟨z, y, vs, r, d⟩, _⟩ := (show ObjOk P w H h a (LfO a kvs) from ok a _ e)
  exact ⟨z, y, vs, r, d P w⟩
theorem lf_new {vs : List (PySem.Leaf × Value)} (z : kvs.length ≤ sizeLine) (hd : (a == sysModules) = false) (rel : KV kvs vs) (nt : NT kvs) (dd : h'.DictOf (leafKind P w) a vs) : ObjOk P w H' h' a (LfO a kvs) := by
  refine ⟨⟨z, hd, vs, rel, fun P' w' => lf_any (nt.of rel) dd⟩, ?_, ?_⟩
  · obtain ⟨o, _, _, q, _⟩ := dd
    exact ⟨o, q⟩
  · rintro h1 h2 ⟨z, y, vs, r, d⟩ k
    refine ⟨z, y, vs, r, fun P' w' => ?_⟩
    obtain ⟨o, es, ep, q, rest⟩ := d P' w'
    exact ⟨o, es, ep, k o q, rest⟩
theorem lf_empty (h : Heap) (hb : sysModules < h.objs.size) : ObjOk P w H (h.push { cls := .type "dict", data := .dict #[] }) h.objs.size (LfO h.objs.size []) :=
  lf_new (Nat.zero_le _) (beq_eq_false_iff_ne.mpr (Ne.symm (Nat.ne_of_lt hb))) .nil (fun p hp => by cases hp) (Heap.DictOf.new h)
end
/-! ### readings -/
def tLNew : TE := fun _ H Q => ∀ p, H p = none → Q (.ref p) (upd H p (LfO p []))
def rLGet : R2 := fun x y H Q => ∃ a kvs k v, x = .ref a ∧ H a = some (LfO a kvs) ∧ y = lfV k ∧ valV kvs k = some v ∧ Q v H
def rLIn : R2 := fun y x H Q => ∃ a kvs k, x = .ref a ∧ H a = some (LfO a kvs) ∧ y = lfV k ∧ Q (.bl (valV kvs k).isSome) H
def rLNotIn : R2 := fun y x H Q => ∃ a kvs k, x = .ref a ∧ H a = some (LfO a kvs) ∧ y = lfV k ∧ Q (.bl (!(valV kvs k).isSome)) H
def sLPut (td ty tv : TE) : TS := fun D σ H => tv σ H fun v H1 => td σ H1 fun x H2 => ty σ H2 fun y H3 => ∃ a kvs k, x = .ref a ∧ H3 a = some (LfO a kvs) ∧ y = lfV k ∧ noT k = true ∧ NT kvs ∧ kvs.length < sizeLine ∧ D.nx σ (upd H3 a (LfO a (putK kvs k v)))
section
variable {X : Cx} {o i e value : Expr} {pos pos' tpos : Pos} {td ty tv : TE}
theorem pe_lnew : PE X (.Dict [] [] pos) tLNew := ⟨fun pins s σ H Q I h =>
  wpAny_Dict_empty ⟨.ref s.heap.objs.size, _, I.laid (a := s.heap.objs.size) (o := LfO s.heap.objs.size []) (t' := s.toks) (fun _ _ q => Heap.get?_push_of_some _ q) (Nat.le_refl _) (lf_empty s.heap I.big), rfl, h _ (I.hok.fresh (Nat.le_refl _))⟩⟩
theorem pe_lget (ho : PE X o td) (hi : PE X i ty) (hs : NoSl i) : PE X (.Subscript o i pos) (fun σ H Q => td σ H fun x H1 => ty σ H1 fun y H2 => rLGet x y H2 Q) := by
  refine ⟨fun pins s σ H Q I h => ?_⟩
  refine subD_of PySem.F.slot_dict_getitem.lookup hs (thn (ho.run pins s σ H _ I h) fun u s1 ⟨x, H1, I1, rx, q1⟩ => thn (hi.run pins s1 σ H1 _ I1 q1) fun iv s2 ⟨y, H2, I2, ry, a, kvs, k, v, ex, e, ey, l, q2⟩ => ?_)
  subst ex ey
  obtain rfl : u = Value.ref a := rx
  obtain ⟨z, hd, vs, rel, dd⟩ := lf_of I2.hok e
  obtain ⟨w', hw, rw'⟩ := RelO.some_of (v := v) (o := valueAt vs k) (by rw [← l]; exact rel.val k)
  exact ⟨dd.typeIs, wpAny_getItem_of (lfV_is ry) dd.mapOf hw ⟨v, H2, I2.tok _, rw', q2⟩⟩
theorem ps_lput (ho : PE X o td) (hi : PE X i ty) (hv : PE X value tv) (hs : swapsWith value (some (.Subscript o i pos')) pos.line X.env = pure false) :
    PS X (.Assign [.Subscript o i pos'] value pos) (sLPut td ty tv) := by
  refine ⟨fun pins s σ H D I h => ?_⟩
  refine wpAny_Assign_Subscript (thn (hv.run pins s σ H _ I h) fun r s1 ⟨v, H1, I1, rv, q1⟩ => thn (ho.run pins s1 σ H1 _ I1 q1) fun u s2 ⟨x, H2, I2, rx, q2⟩ => thn (hi.run pins s2 σ H2 _ I2 q2) fun iv s3 ⟨y, H3, I3, ry, a, kvs, k, ex, e, ey, hk, nt, l, q3⟩ => ?_) hs
  subst ex ey
  obtain rfl : u = Value.ref a := rx
  obtain ⟨z, hd, vs, rel, dd⟩ := lf_of I3.hok e
  have hz : vs.length ≤ sizeLine := by rw [← rel.length]; exact z
  have hl : (putK kvs k v).length ≤ sizeLine := by have := length_putK kvs k v; omega
  refine wpAny_setItem_pairs (hsz := hz) (lfV_is ry) dd fun h' dd' hs => ⟨σ, _, ?_, q3⟩
  have he : ∃ q, h'.get? a = some q := let ⟨q, _, _, hq, _⟩ := dd'; ⟨q, hq⟩
  exact d_write I3 (by rw [e]; exact True.intro) hs he (lf_new hl hd (rel.put k rv) (nt.put hk) dd')
theorem pc_lin (hi : PE X i ty) (ho : PE X o td) : PC X .In i o (fun σ H Q => ty σ H fun y H1 => td σ H1 fun x H2 => rLIn y x H2 Q) := by
  refine ⟨fun pins s σ H Q I h => ?_⟩
  refine thn (hi.run pins s σ H _ I h) fun iv s1 ⟨y, H1, I1, ry, q1⟩ => thn (ho.run pins s1 σ H1 _ I1 q1) fun u s2 ⟨x, H2, I2, rx, a, kvs, k, ex, e, ey, q2⟩ => ?_
  subst ex ey
  obtain rfl : u = Value.ref a := rx
  obtain ⟨z, hd, vs, rel, dd⟩ := lf_of I2.hok e
  refine wpAny_in_of (lfV_is ry) hd dd.mapOf ?_
  rw [← (rel.val k).isSome_eq]
  exact ⟨.bl (valV kvs k).isSome, H2, I2.tok _, rfl, q2⟩
theorem pc_lnotin (hi : PE X i ty) (ho : PE X o td) : PC X .NotIn i o (fun σ H Q => ty σ H fun y H1 => td σ H1 fun x H2 => rLNotIn y x H2 Q) := by
  refine ⟨fun pins s σ H Q I h => ?_⟩
  refine thn (hi.run pins s σ H _ I h) fun iv s1 ⟨y, H1, I1, ry, q1⟩ => thn (ho.run pins s1 σ H1 _ I1 q1) fun u s2 ⟨x, H2, I2, rx, a, kvs, k, ex, e, ey, q2⟩ => ?_
  subst ex ey
  obtain rfl : u = Value.ref a := rx
  obtain ⟨z, hd, vs, rel, dd⟩ := lf_of I2.hok e
  refine wpAny_notIn_of (lfV_is ry) hd dd.mapOf ?_
  rw [← (rel.val k).isSome_eq]
  exact ⟨.bl (!(valV kvs k).isSome), H2, I2.tok _, rfl, q2⟩
theorem call_lenN : CallR X (.builtin "len") (fun xs H Q => ∃ a kvs, xs = [.ref a] ∧ H a = some (LfO a kvs) ∧ Q (.int kvs.length) H) := by
  intro pins s σ H xs us Q I r h
  obtain ⟨a, kvs, rfl, e, q⟩ := h
  obtain ⟨u, rfl, rx⟩ := vals1 r
  obtain rfl : u = Value.ref a := rx
  obtain ⟨z, hd, vs, rel, dd⟩ := lf_of I.hok e
  refine call_len_dict hd dd (by rw [← rel.length]; rw [sizeLine_eq] at z; omega) ?_
  rw [← rel.length]
  exact ⟨.int kvs.length, H, I.tok _, ⟨_, rfl⟩, q⟩
end
end FT
/-! FT27: leaf dicts as abstract values; [a, *b]. -/
namespace FT
open PySem PySem.Spec PyProof.Rows L2
def lkD : PyData → Option (Option Int)
  | .none => some none
  | .int i => some (some i)
  | _ => none
def oD : Option Int → PyData
  | none => .none
  | some i => .int i
theorem lkD_eq {d : PyData} {k : Option Int} (h : lkD d = some k) : d = oD k := by
  cases d <;> first | (cases h; rfl) | cases h
theorem oD_scal (k : Option Int) : scal1 (oD k) = true := by cases k <;> rfl
theorem oD_V (k : Option Int) : toV (oD k) = lfV (lfK k) := by cases k <;> rfl
theorem oV_V (k : Option Int) : toV (oD k) = oV k := by cases k <;> rfl
theorem lkD_oD (k : Option Int) : lkD (oD k) = some k := by cases k <;> rfl
theorem lfK_no (k : Option Int) : noT (lfK k) = true := by cases k <;> rfl
theorem lfK_inj {a b : Option Int} : lfK a = lfK b ↔ a = b := by
  constructor
  · intro h
    cases a <;> cases b <;> first | rfl | (injection h with h; rw [h]) | cases h
  · rintro rfl; rfl
def lookN (kvs : List (Option Int × Option Int)) (k : Option Int) : Option (Option Int) := (kvs.find? fun p => decide (p.1 = k)).map (·.2)
def putN (kvs : List (Option Int × Option Int)) (k v : Option Int) : List (Option Int × Option Int) :=
  if (kvs.any fun p => decide (p.1 = k)) = true then kvs.map (fun p => if p.1 = k then (p.1, v) else p) else kvs ++ [(k, v)]
theorem nNT (kvs : List (Option Int × Option Int)) : NT (nKV kvs) := fun p hp => by
  obtain ⟨q, _, rfl⟩ := List.mem_map.mp hp
  exact lfK_no _
theorem lookN_ok (k : Option Int) : ∀ kvs : List (Option Int × Option Int), valV (nKV kvs) (lfK k) = (lookN kvs k).map oV
  | [] => rfl
  | p :: kvs => by
    have ih := lookN_ok k kvs
    by_cases h : p.1 = k
    · have h' : lfK p.1 = lfK k := by rw [h]
      show valV ((lfK p.1, oV p.2) :: nKV kvs) (lfK k) = _
      rw [valV_pos h']
      simp [lookN, List.find?_cons, h]
    · have h' : ¬ lfK p.1 = lfK k := fun e => h (lfK_inj.mp e)
      show valV ((lfK p.1, oV p.2) :: nKV kvs) (lfK k) = _
      rw [valV_neg h', ih]
      simp [lookN, List.find?_cons, h]
theorem putN_ok (kvs : List (Option Int × Option Int)) (k v : Option Int) : nKV (putN kvs k v) = putK (nKV kvs) (lfK k) (oV v) := by
  have ha : ((nKV kvs).any fun kv => decide (kv.1 = lfK k)) = kvs.any fun p => decide (p.1 = k) := by
    unfold nKV
    rw [List.any_map]
    congr 1
    funext p
    simp [lfK_inj]
  unfold putN putK
  rw [ha]
  split
  · unfold nKV
    rw [List.map_map, List.map_map]
    refine List.map_congr_left fun p _ => ?_
    by_cases h : p.1 = k
    · simp [h]
    · simp [h, lfK_inj]
  · unfold nKV
    rw [List.map_append]; rfl
theorem putN_len (kvs : List (Option Int × Option Int)) (k v : Option Int) : (putN kvs k v).length ≤ kvs.length + 1 := by
  unfold putN
  split
  · rw [List.length_map]; omega
  · rw [List.length_append]; exact Nat.le_refl _
section
variable {K : PySem.W.Frag} {Y : YX} {W : WX} {R : List Addr} {T L : List En} {H : Hp} {σ : Slots}
def eLNew : Sl → M O := fun S => some (.ok (.n []), S)
theorem se_lnew : SE K Y W tLNew eLNew := by
  intro R T S σ H Q out S' hl hf rel post
  cases hf
  intro p hp
  exact post hl _ _ (Rel.closeN (kvs := []) upd_same (rel.fresh hp))
def gLGet : Fn := fun os => match os with
  | [.n kvs, .d k] => (match lkD k with
    | some j => (match lookN kvs j with
      | some v => some (.ok (.d (oD v)), [.n kvs, .d k])
      | none => none)
    | none => none)
  | _ => none
theorem fr_lget : FR K Y (rx2 rLGet) gLGet := by
  intro R L vs os os' H Q E out hl hg rel post
  unfold gLGet at hg
  split at hg
  · rename_i kvs k
    obtain ⟨v, u, rfl⟩ := two_v hl
    split at hg
    · rename_i j hj
      have ek := lkD_eq hj
      subst ek
      split at hg
      · rename_i z hz
        cases hg
        have r0 : Rel K H R ((.n kvs, some v) :: (.d (oD j), some u) :: L) := rel
        have eu := scal_head (oD_scal j) r0.drop
        subst eu
        obtain ⟨a, e, ha, _⟩ := r0.openN
        cases e
        refine ⟨a, nKV kvs, lfK j, oV z, rfl, ha, oD_V j, by rw [lookN_ok, hz]; rfl, ?_⟩
        rw [← oV_V]
        exact post rfl _ H (r0.addS (oD_scal z))
      · cases hg
    · cases hg
  · cases hg
def gLIn (b : Bool) : Fn := fun os => match os with
  | [.d k, .n kvs] => (match lkD k with
    | some j => some (.ok (.d (.bool (if b then (lookN kvs j).isSome else !(lookN kvs j).isSome))), [.d k, .n kvs])
    | none => none)
  | _ => none
theorem fr_lin : FR K Y (rx2 rLIn) (gLIn true) := by
  intro R L vs os os' H Q E out hl hg rel post
  unfold gLIn at hg
  split at hg
  · rename_i k kvs
    obtain ⟨v, u, rfl⟩ := two_v hl
    split at hg
    · rename_i j hj
      have ek := lkD_eq hj
      subst ek
      cases hg
      have r0 : Rel K H R ((.d (oD j), some v) :: (.n kvs, some u) :: L) := rel
      have eu := scal_head (oD_scal j) r0
      subst eu
      obtain ⟨a, e, ha, _⟩ := r0.drop.openN
      cases e
      refine ⟨a, nKV kvs, lfK j, rfl, ha, oD_V j, ?_⟩
      rw [lookN_ok, Option.isSome_map]
      exact post rfl _ H (r0.addS (x := .bool (lookN kvs j).isSome) rfl)
    · cases hg
  · cases hg
theorem fr_lnotin : FR K Y (rx2 rLNotIn) (gLIn false) := by
  intro R L vs os os' H Q E out hl hg rel post
  unfold gLIn at hg
  split at hg
  · rename_i k kvs
    obtain ⟨v, u, rfl⟩ := two_v hl
    split at hg
    · rename_i j hj
      have ek := lkD_eq hj
      subst ek
      cases hg
      have r0 : Rel K H R ((.d (oD j), some v) :: (.n kvs, some u) :: L) := rel
      have eu := scal_head (oD_scal j) r0
      subst eu
      obtain ⟨a, e, ha, _⟩ := r0.drop.openN
      cases e
      refine ⟨a, nKV kvs, lfK j, rfl, ha, oD_V j, ?_⟩
      rw [lookN_ok, Option.isSome_map]
      exact post rfl _ H (r0.addS (x := .bool (!(lookN kvs j).isSome)) rfl)
    · cases hg
  · cases hg
def gLLen : Fn := fun os => match os with
  | [.n kvs] => some (.ok (.d (.int kvs.length)), [.n kvs])
  | _ => none
theorem fr_llen : FR K Y (rxn fun xs H Q => ∃ a kvs, xs = [.ref a] ∧ H a = some (LfO a kvs) ∧ Q (.int kvs.length) H) gLLen := by
  intro R L vs os os' H Q E out hl hg rel post
  unfold gLLen at hg
  split at hg
  · rename_i kvs
    obtain ⟨v, rfl⟩ := one_v hl
    cases hg
    have r0 : Rel K H R ((.n kvs, some v) :: L) := rel
    obtain ⟨a, e, ha, _⟩ := r0.openN
    cases e
    refine ⟨a, nKV kvs, rfl, ha, ?_⟩
    have : (nKV kvs).length = kvs.length := List.length_map ..
    rw [this]
    exact post rfl _ H (r0.addS (x := .int kvs.length) rfl)
  · cases hg
def sLSet (i : Nat) (fk fv : Sl → M O) : Sl → MS := fun S => bnd (fv S) fun o S1 => if isNo (S1.getD i .no) then none else bnd (fk S1) fun k S2 => match o, S2.getD i .no, k with
  | .d v, .n kvs, .d k => (match lkD v, lkD k with
    | some v', some k' => if kvs.length < LIM then some (.ok .nx, S2.set i (.n (putN kvs k' v'))) else none
    | _, _ => none)
  | _, _, _ => none
theorem ss_lset {ws : List Nat} {i : Nat} {ty tv : TE} {fk fv : Sl → M O} (hv : SE K Y W tv fv) (hk : SE K Y W ty fk) : SS K Y W ws (sLPut (tVar i) ty tv) (sLSet i fk fv) := by
  intro R T S σ H D out S' hl hf rel post
  rcases bnd_cases hf with ⟨e, e1, rfl⟩ | ⟨o, S1, e1, e2⟩
  · exact hv R T S σ H _ _ _ hl e1 rel (post_err post)
  · refine hv R T S σ H _ _ _ hl e1 rel fun hl1 v H1 rel1 => ?_
    have rel1' : Rel K H1 R (S1.zip σ ++ ((o, some v) :: T)) := rel1.unmid
    split at e2
    · cases e2
    · rename_i hn
      obtain ⟨x, hx⟩ := slot_val hl1 (by simpa using hn) rel1'
      refine ⟨x, hx, ?_⟩
      rcases bnd_cases e2 with ⟨e, e3, rfl⟩ | ⟨k, S2, e3, e4⟩
      · exact hk R _ S1 σ H1 _ _ _ hl1 e3 rel1' fun hle cls dd H' hy r => post_err post hle cls dd H' hy r.mid.drop
      · refine hk R _ S1 σ H1 _ _ _ hl1 e3 rel1' fun hl2 u H2 rel2 => ?_
        split at e4
        · rename_i vd kvs kd hS
          split at e4
          · rename_i v' k' hv' hk'
            have ev0 := lkD_eq hv'
            have ek0 := lkD_eq hk'
            subst ev0 ek0
            split at e4
            · rename_i hlim
              cases e4
              have eu := scal_head (oD_scal k') rel2
              subst eu
              have hi2 : i < S2.length := lt_of_slot hl2 hx
              have ev : v = toV (oD v') := by
                have : Rel K H2 R ((.d (oD v'), some v) :: (S2.zip σ ++ T)) := rel2.drop.mid
                exact scal_head (oD_scal v') this
              subst ev
              have r3 : Rel K H2 R ((.n kvs, some x) :: ((S2.set i .no).zip σ ++ ((.d (oD v'), some (toV (oD v'))) :: T))) := rel2.drop.take (by rw [getD_some hi2, hS]) hx
              obtain ⟨a, e, ha, r4⟩ := r3.openN
              cases e
              refine ⟨a, nKV kvs, lfK k', rfl, ha, oD_V k', lfK_no k', nNT kvs, by unfold nKV; rw [List.length_map]; exact LIM_lt hlim, ?_⟩
              rw [oV_V, ← putN_ok]
              have r5 : Rel K (upd H2 a (LfO a (nKV (putN kvs k' v')))) (a :: R) ((S2.set i .no).zip σ ++ ((.d (oD v'), some (toV (oD v'))) :: T)) := r4.hand List.mem_cons_self
              have r6 := (r5.closeN upd_same).put hx
              rw [List.set_set] at r6
              exact post (by rw [List.length_set]; exact hl2) σ _ .refl r6.mid.drop
            · cases e4
          · cases e4
        · cases e4
/-! ### [a, *b] -/
def gStar1 : Fn := fun os => match os with
  | [.d x, p] => (match lsOf p with
    | some ds => if ds.length < LIM then some (.ok (dl (x :: ds)), [.d x, nrm p]) else none
    | none => none)
  | _ => none
def rStar1 (K : PySem.W.Frag) : R2 := fun x y H Q => ∃ p xs, y = .ref p ∧ (SqT K H p xs ∨ SqL K H p xs) ∧ ((x :: (xs ++ [])).length ≤ sizeLine ∧ ∀ l, H l = none → Q (.ref l) (upd H l (.lst (x :: (xs ++ [])))))
theorem fr_star1 : FR K Y (rx2 (rStar1 K)) gStar1 := by
  intro R L vs os os' H Q E out hl hg rel post
  unfold gStar1 at hg
  split at hg
  · rename_i x p
    obtain ⟨v, u, rfl⟩ := two_v hl
    split at hg
    · rename_i ds h1
      split at hg
      · rename_i hlim
        cases hg
        have r0 : Rel K H R ((.d x, some v) :: (p, some u) :: L) := rel
        have r1 : Rel K H R ((p, some u) :: (.d x, some v) :: (.d x, some v) :: L) := r0.dup.perm (List.Perm.trans (.cons _ (.swap ..)) (.swap ..))
        obtain ⟨a, xs, rfl, hp, el, hd, r2⟩ := r1.nrm h1
        refine ⟨a, xs, rfl, .inr (SqL.of hp), by rw [List.append_nil, List.length_cons, ← el]; exact LIM_lt hlim, fun c hc => ?_⟩
        rw [List.append_nil]
        refine post rfl _ _ ?_
        have r3 : Rel K H R (((x :: ds).map O.d).zip ((v :: xs).map some) ++ ((.d x, some v) :: (nrm p, some (.ref a)) :: L)) := by
          show Rel K H R ((.d x, some v) :: ((ds.map O.d).zip (xs.map some) ++ ((.d x, some v) :: (nrm p, some (.ref a)) :: L)))
          refine r2.perm ?_
          refine List.Perm.trans ?_ List.perm_middle
          refine List.Perm.append_left _ ?_
          exact List.Perm.trans (.swap ..) (.cons _ (.swap ..))
        exact Rel.newL hc (by simp [el]) r3
      · cases hg
    · cases hg
  · cases hg
end
section
variable {X : Cx} {Y : YX} {W : WX} {a b e idx : Expr} {ra rb : Ar} {fa f : Sl → M O} {pos p p1 p2 : Pos} {k i : Nat} {x : Str} {ws : List Nat}
theorem oe_lnew : OkE X Y W (.Dict [] [] pos) eLNew := ⟨_, pe_lnew, se_lnew⟩
theorem oe_lget (ha : OkR X Y W a ra) (hb : OkR X Y W b rb) (hs : NoSl b := by exact fun _ _ => rfl) : OkE X Y W (.Subscript a b pos) (eApp gLGet [ra, rb]) :=
  let ⟨_, q1, s1⟩ := ha
  let ⟨_, q2, s2⟩ := hb
  ⟨_, pe_lget q1 q2 hs, se_app2 s1 s2 fr_lget⟩
theorem os_lset (ho : PE X (.Name x p1) (tVar i)) (hi : OkE X Y W idx fa) (h : OkE X Y W e f)
    (hs : swapsWith e (some (.Subscript (.Name x p1) idx p)) pos.line X.env = pure false := by rfl) : OkS X Y W ws (.Assign [.Subscript (.Name x p1) idx p] e pos) (sLSet i fa f) :=
  let ⟨_, q1, t1⟩ := hi
  let ⟨_, q2, t2⟩ := h
  ⟨_, ps_lput ho q1 q2 hs, ss_lset t2 t1⟩
theorem oe_star1 (ha : OkR X Y W a ra) (hb : OkR X Y W b rb) (hs : starEach [.Starred b p] X.env = [(true, eval b X.env)] := by rfl) (ht : starEach [a, .Starred b p] X.env = (false, eval a X.env) :: starEach [.Starred b p] X.env := by rfl) : OkE X Y W (.List [a, .Starred b p] pos) (eApp gStar1 [ra, rb]) :=
  let ⟨_, q1, s1⟩ := ha
  let ⟨_, q2, s2⟩ := hb
  ⟨_, pe_lst (pa_cons q1 (StX.pa_star q2 pa_nil hs) ht), se_app2 s1 s2 fr_star1⟩
end
end FT
/-! FT28: {k: v for .. in ..} of a leaf dict. -/
namespace FT
open PySem PySem.Spec PyProof.Rows L2
theorem lf_dictSet {X : Cx} {pins : List (Addr × Obj)} {σ : L2.St} {H : Hp} {s : Shared} {E : Value → Shared → Prop} {D : Addr} {kvs : List (PySem.Leaf × V)} {k : PySem.Leaf} {v : V} {u r : Value} {Q : Unit → Shared → Prop} (I : Inv X pins σ H s) (hD : H D = some (LfO D kvs)) (hz : kvs.length < sizeLine) (hk : noT k = true) (nt : NT kvs)
    (ry : RelV (lfV k) u) (rv : RelV v r) (h : ∀ s', Inv X pins σ (upd H D (LfO D (putK kvs k v))) s' → Q () s') : wpAny (model X.prog X.w) X.A (dictSet D u r) Q E s := by
  obtain ⟨z, hd, vs, rel, dd⟩ := lf_of I.hok hD
  have hl : (putK kvs k v).length ≤ sizeLine := by have := length_putK kvs k v; omega
  refine wpAny_dictSet_pairs (hsz := by rw [← rel.length]; exact z) (lfV_is ry) dd fun h' dd' hs => h _ ?_
  exact d_write I (by rw [hD]; exact True.intro) hs (let ⟨q, _, _, hq, _⟩ := dd'; ⟨q, hq⟩) (lf_new hl hd (rel.put k rv) (nt.put hk) dd')
/-- how a new dict stands, and how a key and a value are put into one -/
abbrev PutT := Hp → Addr → V → V → (Hp → Prop) → Prop
abbrev PutL : PutT := fun H D y z Nx => ∃ kvs k, y = lfV k ∧ H D = some (LfO D kvs) ∧ kvs.length < sizeLine ∧ noT k = true ∧ NT kvs ∧ Nx (upd H D (LfO D (putK kvs k z)))
structure LdK (F0 : Addr → HO) (Put : PutT) (U : Around → Prop) : Prop where
  emp : ∀ {P : Program} {w : World} {H : Hp} (h : Heap), sysModules < h.objs.size → ObjOk P w H (h.push { cls := .type "dict", data := .dict #[] }) h.objs.size (F0 h.objs.size)
  put : ∀ {X : Cx} {pins : List (Addr × Obj)} {σ : L2.St} {H : Hp} {s : Shared} {E : Value → Shared → Prop} {D : Addr} {y z : V} {u r : Value} {Q : Unit → Shared → Prop} {Nx : Hp → Prop}, U X.A → Inv X pins σ H s → Put H D y z Nx → RelV y u → RelV z r →
    (∀ s' H', Inv X pins σ H' s' → Nx H' → Q () s') → wpAny (model X.prog X.w) X.A (dictSet D u r) Q E s
theorem ldk_leaf : LdK (fun D => LfO D []) PutL (fun _ => True) := ⟨fun h hb => lf_empty h hb, fun _ I ⟨kvs, k, ek, hD, hz, hkn, nt, nx⟩ ry rv h => by
  subst ek
  exact lf_dictSet I hD hz hkn nt ry rv fun s' I' => h s' _ I' nx⟩
section
variable {X : Cx} {F0 : Addr → HO} {Put : PutT} {U : Around → Prop}
/-- what such a comprehension asks: D is the new dict -/
def tLdG (F0 : Addr → HO) (Put : PutT) (wi : TI) (g : TG) (tt : TT) (tk tv : TE) (vs : List Nat) : TE := fun σ H Q => wi σ H fun J H1 => ∀ D, H1 D = none → ∃ W : Nat → Nat → Hp → Prop, (∃ m, W 0 m (upd H1 D (F0 D))) ∧ ∀ i m H, W i m H →
  (J.stop i H ∧ Q (.ref D) H) ∨ (J.go i H ∧ ∃ Nx : Hp → Prop, (∀ H', Nx H' → ∃ m', m' < m ∧ W (i + 1) m' H') ∧ ∀ x H', J.yld i H x H' → g x (wipe σ vs) H' fun σ2 H2 => wipe σ2 vs = wipe σ vs ∧ tt σ2 H2 fun b H3 =>
    if b = true then tk σ2 H3 fun y H4 => tv σ2 H4 fun z H5 => Put H5 D y z Nx else Nx H3)
abbrev tLd (wi : TI) (g : TG) (tt : TT) (tk tv : TE) (vs : List Nat) : TE := tLdG (fun D => LfO D []) PutL wi g tt tk tv vs
theorem ld_run {pins : List (Addr × Obj)} {s : Shared} {σ : L2.St} {H : Hp} {Q : VK} {kx vx tg iter : Expr} {ifs : List Expr} {scope : Scope} {own : List (Str × Nat)} {pos pos' : Pos} {wi : TI} {g : TG} {tt : TT} {tk tv : TE} {use : Option (Value → Sem Unit)} {Qf : Value → Shared → Prop}
    (kd : LdK F0 Put U) (hu : U X.A) (hc : X.calm = true) (hN : X.N.Nodup) (I : Inv X pins σ H s) (hi : PI X tg iter wi) (ok : BlkOk X.N X.env.scope scope own)
    (hg : ∀ (s : Shared) (H : Hp) (C : Addr) (cl : List (Str × Addr)) (fp : List Addr), PG (X.blk s H scope (compEnvC scope cl C X.env) fp) tg g) (ht : ∀ (s : Shared) (H : Hp) (C : Addr) (cl : List (Str × Addr)) (fp : List Addr), PTs (X.blk s H scope (compEnvC scope cl C X.env) fp) ifs tt)
    (hk : ∀ (s : Shared) (H : Hp) (C : Addr) (cl : List (Str × Addr)) (fp : List Addr), PE (X.blk s H scope (compEnvC scope cl C X.env) fp) kx tk)
    (he : ∀ (s : Shared) (H : Hp) (C : Addr) (cl : List (Str × Addr)) (fp : List Addr), PE (X.blk s H scope (compEnvC scope cl C X.env) fp) vx tv) (hs : ∀ x, foldedSetIterable iter X.env x = pure x)
    (h : tLdG F0 Put wi g tt tk tv (own.map (·.2)) σ H Q)
    (hRR : ∀ D C s' m H', Inv X pins σ H' s' → Q (.ref D) H' → s'.heap.Ns C m → FpOk X pins H' C → compPost (model X.prog X.w) X.A X.xe use Qf (.ref D) C (.ok .next) s') :
    wpAny (model X.prog X.w) X.A (comprehension (.DictComp kx vx [⟨tg, iter, ifs, 0⟩] scope pos) scope X.env pos' newDict false (eval iter X.env) use) Qf X.xe s := by
  have free : ∀ y ∈ scope.names, y.2 = .free → ∃ c, X.env.cells.lookup y.1 = some c := fun y hy e =>
    I.ok.has _ ((ok.free y hy e).elim .inl .inr)
  refine wpAny_comprehension_free (use := use) rfl hs (closure_ok free) ok.kind (fun y hy e => by rw [ok.uniq y hy, e])
    (thn (hi.run pins s σ H _ I h) fun xv s1 hx => thn hx fun itv s2 ⟨it, fp, tn, J, H2, e, I2, T, st2, f2, q⟩ => ?_)
  subst e
  refine wpAny_newObj_type (newEnv_comp ?_)
  generalize hD : s2.heap.objs.size = D
  obtain ⟨W, ⟨m0, w0⟩, turn⟩ := q D (I2.hok.fresh (Nat.le_of_eq hD))
  generalize hs3 : ({ s2 with heap := s2.heap.push { cls := .type "dict", data := .dict #[] } } : Shared) = s3
  have I3 : Inv X pins σ (upd H2 D (F0 D)) s3 := by
    subst hs3 hD
    exact I2.laid (t' := s2.toks) (fun b o e => Heap.get?_push_of_some _ e) (Nat.le_refl _) (kd.emp s2.heap I2.big)
  have h3 : s3.heap = s2.heap.push { cls := .type "dict", data := .dict #[] } := by rw [← hs3]
  have f3 : ∀ b ∈ fp, FpOk X pins (upd H2 D (F0 D)) b ∧ b < s3.heap.objs.size := fun b hb => by
    obtain ⟨o, e, _⟩ := T.obj _ _ st2 b hb
    have hlt := Heap.lt_size e
    refine ⟨⟨?_, (f2 b hb).2⟩, by rw [h3, Heap.size_push]; exact Nat.lt_succ_of_lt hlt⟩
    rw [upd_ne (by rw [← hD]; exact Nat.ne_of_lt hlt)]
    exact (f2 b hb).1
  have st3 : tn 0 s3.heap := T.keep _ _ _ st2 fun b _ o e => by rw [h3]; exact Heap.get?_push_of_some _ e
  have I4 := block_start I3 ok hN f3
  have pg := hg s3 (upd H2 D (F0 D)) s3.heap.objs.size (cellsFrom (s3.heap.objs.size + 1) scope.names (cloFrom X.env.cells scope.names [])) fp
  have pt := ht s3 (upd H2 D (F0 D)) s3.heap.objs.size (cellsFrom (s3.heap.objs.size + 1) scope.names (cloFrom X.env.cells scope.names [])) fp
  have pk := hk s3 (upd H2 D (F0 D)) s3.heap.objs.size (cellsFrom (s3.heap.objs.size + 1) scope.names (cloFrom X.env.cells scope.names [])) fp
  have pe := he s3 (upd H2 D (F0 D)) s3.heap.objs.size (cellsFrom (s3.heap.objs.size + 1) scope.names (cloFrom X.env.cells scope.names [])) fp
  show codeAny _ _ (.compStart (.DictComp kx vx [⟨tg, iter, ifs, 0⟩] scope pos) 0 (.ref it) (.ref D) (compEnvC scope (cellsFrom (s3.heap.objs.size + 1) scope.names (cloFrom X.env.cells scope.names [])) s3.heap.objs.size X.env)) (compPost (model X.prog X.w) X.A X.xe use Qf (.ref D) s3.heap.objs.size) { s3 with heap := pushCells (s3.heap.push { cls := .type "dict", data := .dict #[] }) scope.names }
  have nfp : ∀ b ∈ fp, (upd H2 D (F0 D)) b = none := fun b hb => (f3 b hb).1.1
  generalize hce : compEnvC scope (cellsFrom (s3.heap.objs.size + 1) scope.names (cloFrom X.env.cells scope.names [])) s3.heap.objs.size X.env = ce at I4 pg pt pk pe ⊢
  have cL : ce.locals = s3.heap.objs.size := by subst hce; rfl
  generalize hH3 : upd H2 D (F0 D) = H3 at I3 I4 pg pt pk pe w0 nfp f3
  generalize hs4 : ({ s3 with heap := pushCells (s3.heap.push { cls := .type "dict", data := .dict #[] }) scope.names } : Shared) = s4 at I4 ⊢
  have st4 : tn 0 s4.heap := T.keep _ _ _ st3 fun b _ o e => by rw [← hs4]; exact pushCells_keeps _ _ _ _ (Heap.get?_push_of_some _ e)
  have stat : ∀ {σ' : L2.St} {H' : Hp} {s' : Shared}, Inv (X.blk s3 H3 scope ce fp) [] σ' H' s' → (∀ b ∈ fp, H' b = none) → ∀ b ∈ fp, FpOk (X.blk s3 H3 scope ce fp) [] H' b := fun {σ' H' s'} I' hn b hb =>
    ⟨hn b hb, (I'.ok.exf b hb).1, I'.ok.exfs b hb, .inl hb, fun x c e => (I'.ok.exf b hb).2 x c e, fun p hp => absurd (show p ∈ ([] : List (Addr × Obj)) ++ [] from hp) (by simp)⟩
  refine codeAny_compStart_dict ?loop (T.self X.A 0 _ _ _ st4 ?loop)
  refine compLoop_anyD (fun n s' => ∃ i H', Inv (X.blk s3 H3 scope ce fp) [] (wipe σ (own.map (·.2))) H' s' ∧ tn i s'.heap ∧ (∀ b ∈ fp, H' b = none) ∧ W i n H') ?_ m0 ⟨0, H3, I4, st4, nfp, w0⟩
  rintro n s5 ⟨i, H5, I5, st5, n5, w5⟩
  rcases turn i n H5 w5 with ⟨stop, qq⟩ | ⟨go, Nx, hNx, step⟩
  · refine thnF (T.done (X.blk s3 H3 scope ce fp) rfl rfl rfl hc i [] s5 _ H5 (fun _ _ => False) I5 (stat I5 n5) st5 stop) fun r s6 ⟨hr, I6⟩ => ?_
    subst hr
    have I7 : Inv X pins σ H5 s6 := I3.call' (ch := fp) I6.os I6.base I6.hok I6.bare fun b hb => ⟨(f3 b hb).1.2.2.2.1, (f3 b hb).1.2.1, (f3 b hb).1.2.2.2.2.1, (f3 b hb).1.2.2.2.2.2⟩
    have nC : H5 ce.locals = none := I6.free
    rw [cL] at nC
    obtain ⟨m, hn, _⟩ := I6.loc
    have hn : s6.heap.Ns ce.locals m := hn
    rw [cL] at hn
    exact hRR D s3.heap.objs.size s6 m H5 I7 qq hn (I3.fpOk (Nat.le_refl _) nC)
  · refine thnF (T.item (X.blk s3 H3 scope ce fp) rfl rfl rfl hc i [] s5 _ H5 (fun _ _ => False) I5 (stat I5 n5) st5 go) fun r s6 ⟨u, hr, h6⟩ => ?_
    subst hr
    refine thnF h6 fun _ s7 ⟨x, H7, I7, r7, y7, st7, n7⟩ => ?_
    have I7' := I7.pinned (stat I7 n7) (T.obj _ _ st7)
    refine thnF (pg.run _ s7 _ H7 x u _ I7' r7 (step x H7 y7)) fun _ s8 ⟨σ8, H8, I8, hw8, q8⟩ => ?_
    refine thnF (pt.run _ s8 σ8 H8 _ I8 q8) fun b s9 ⟨H9, I9, q9⟩ => ?_
    have fin : ∀ {s' : Shared} {H' : Hp}, Inv (X.blk s3 H3 scope ce fp) ([] ++ pinsAt fp s7.heap) σ8 H' s' → Nx H' → ∃ m, m < n ∧ ∃ i H', Inv (X.blk s3 H3 scope ce fp) [] (wipe σ (own.map (·.2))) H' s' ∧ tn i s'.heap ∧ (∀ b ∈ fp, H' b = none) ∧ W i m H' := fun {s' H'} I' nx => by
      obtain ⟨m', hm, w'⟩ := hNx H' nx
      have pin' : ∀ b ∈ fp, ∀ o, s7.heap.get? b = some o → s'.heap.get? b = some o ∧ H' b = none := fun b hb o e =>
        let z := I'.pin (b, o) (List.mem_append_right _ (List.mem_append_right _ (mem_pinsAt hb e)))
        ⟨z.1, z.2.1⟩
      have hl : (wipe σ (own.map (·.2))).length = σ8.length := by rw [← hw8, wipe_length]
      refine ⟨m', hm, i + 1, H', (I'.unpinned (pins := [])).weak hl (fun j v e => ?_), T.keep _ _ _ st7 fun b hb o e => (pin' b hb o e).1, fun b hb => ?_, w'⟩
      · rw [← hw8] at e
        exact (wipe_some e).1
      · obtain ⟨o, e, _⟩ := T.obj _ _ st7 b hb
        exact (pin' b hb o e).2
    cases b with
    | false =>
      simp only [Bool.false_eq_true, if_false] at q9 ⊢
      exact fin I9 q9
    | true =>
      simp only [if_true] at q9 ⊢
      refine thnF (pk.run _ s9 σ8 H9 _ I9 q9) fun z s10 ⟨yk, H10, I10, r10, q10⟩ => ?_
      refine thnF (pe.run _ s10 σ8 H10 _ I10 q10) fun z2 s11 ⟨yv, H11, I11, r11, pp⟩ => ?_
      exact kd.put (X := X.blk s3 H3 scope ce fp) hu I11 pp r10 r11 fun s12 H12 I12 nx => fin I12 nx
theorem pe_ldG {kx vx tg iter : Expr} {ifs : List Expr} {scope : Scope} {own : List (Str × Nat)} {pos : Pos} {wi : TI} {g : TG} {tt : TT} {tk tv : TE} (kd : LdK F0 Put U) (hu : U X.A) (hc : X.calm = true) (hN : X.N.Nodup) (hi : PI X tg iter wi) (ok : BlkOk X.N X.env.scope scope own)
    (hg : ∀ (s : Shared) (H : Hp) (C : Addr) (cl : List (Str × Addr)) (fp : List Addr), PG (X.blk s H scope (compEnvC scope cl C X.env) fp) tg g) (ht : ∀ (s : Shared) (H : Hp) (C : Addr) (cl : List (Str × Addr)) (fp : List Addr), PTs (X.blk s H scope (compEnvC scope cl C X.env) fp) ifs tt)
    (hk : ∀ (s : Shared) (H : Hp) (C : Addr) (cl : List (Str × Addr)) (fp : List Addr), PE (X.blk s H scope (compEnvC scope cl C X.env) fp) kx tk)
    (he : ∀ (s : Shared) (H : Hp) (C : Addr) (cl : List (Str × Addr)) (fp : List Addr), PE (X.blk s H scope (compEnvC scope cl C X.env) fp) vx tv) (hs : ∀ x, foldedSetIterable iter X.env x = pure x := by intro _; rfl) :
    PE X (.DictComp kx vx [⟨tg, iter, ifs, 0⟩] scope pos) (tLdG F0 Put wi g tt tk tv (own.map (·.2))) := by
  refine ⟨fun pins s σ H Q I h => ?_⟩
  rw [arm_eval_DictComp]
  refine ld_run kd hu hc hN I hi ok hg ht hk he hs h fun D C s' m H' I' q hn ⟨f0, f1, f2, f3, f4, f5⟩ => ⟨m, hn, fun h'' sb => ?_⟩
  exact ⟨.ref D, H', I'.turned (t' := s'.toks) (fun b o hb e => (sb.2 b hb).trans e) f0 f1 f3 f4 f5, rfl, q⟩
end
/-- name = {..} on one line, the name a local -/
theorem ps_setLdG {X : Cx} {F0 : Addr → HO} {Put : PutT} {U : Around → Prop} (kd : LdK F0 Put U) (hu : U X.A) {i : Nat} {y : Str} {py : Pos} {kx vx tg iter : Expr} {ifs : List Expr} {scope : Scope} {own : List (Str × Nat)} {pos spos : Pos} {wi : TI} {g : TG} {tt : TT} {tk tv : TE} (hc : X.calm = true) (hN : X.N.Nodup) (hy : X.N[i]? = some y) (hyl : X.env.scope.names.lookup y = some .local)
    (hsw : swapsWith (.DictComp kx vx [⟨tg, iter, ifs, 0⟩] scope pos) (some (.Name y py)) spos.line X.env = pure true) (hi : PI X tg iter wi) (ok : BlkOk X.N X.env.scope scope own)
    (hg : ∀ (s : Shared) (H : Hp) (C : Addr) (cl : List (Str × Addr)) (fp : List Addr), PG (X.blk s H scope (compEnvC scope cl C X.env) fp) tg g) (ht : ∀ (s : Shared) (H : Hp) (C : Addr) (cl : List (Str × Addr)) (fp : List Addr), PTs (X.blk s H scope (compEnvC scope cl C X.env) fp) ifs tt)
    (hk : ∀ (s : Shared) (H : Hp) (C : Addr) (cl : List (Str × Addr)) (fp : List Addr), PE (X.blk s H scope (compEnvC scope cl C X.env) fp) kx tk)
    (he : ∀ (s : Shared) (H : Hp) (C : Addr) (cl : List (Str × Addr)) (fp : List Addr), PE (X.blk s H scope (compEnvC scope cl C X.env) fp) vx tv) (hs : ∀ x, foldedSetIterable iter X.env x = pure x := by intro _; rfl) :
    PS X (.Assign [.Name y py] (.DictComp kx vx [⟨tg, iter, ifs, 0⟩] scope pos) spos) (tAsg (tLdG F0 Put wi g tt tk tv (own.map (·.2))) (gName i)) := by
  refine ⟨fun pins s σ H D I h => ?_⟩
  rw [exec_Assign_Name_used _ _ _ _ hsw]
  refine wpAny_bind (wpAny_standAt (wpAny_bind ?_))
  show wpAny _ X.A (do let _ ← comprehension (.DictComp kx vx [⟨tg, iter, ifs, 0⟩] scope pos) scope X.env (firstIterPos [⟨tg, iter, ifs, 0⟩] pos) newDict false (eval iter X.env) (some (assign (.Name y py) X.env))) _ _ s
  have h : tLdG F0 Put wi g tt tk tv (own.map (·.2)) σ H (fun x H1 => gName i x σ H1 D.nx) := h
  refine wpAny_bind (thn (ld_run (Qf := fun _ s' => SP X pins D .next s') kd hu hc hN I hi ok hg ht hk he hs h fun L C s' m H' I' q hn ⟨f0, f1, f2, f3, f4, f5⟩ => ?_) fun _ s' hq => wpAny_pure (wpAny_pure hq))
  show wpAny _ _ (assign (.Name y py) X.env (.ref L)) _ _ _
  refine wpAny_assign_Name (store_ok2 (v := V.ref L) I' hN hy (.inl hyl) rfl (fun s2 I2 ⟨a, sb, ha⟩ => ?_) (.inr hyl))
  have haC : C ≠ a := ha.elim (fun z => by rw [z]; exact f1) fun z e => f4 y a z e.symm
  exact ⟨m, hn.sameBut sb haC, fun h3 sb3 => ⟨_, H', I2.turned (t' := s2.toks) (fun b o hb e => (sb3.2 b hb).trans e) f0 f1 f3 f4 f5, q⟩⟩
theorem sw_trueD {kx vx : Expr} {gs : List Comprehension} {scope : Scope} {pos py : Pos} {y : Str} {l : Nat} {env : Env} (hk : env.scope.kind = .function) (hy : env.scope.names.lookup y = some .local) (hl : (py.line == pos.line) = true)
    (ha : (scope.names.any fun (n, k) => n == y && (k == .local || k == .cell)) = false) : swapsWith (.DictComp kx vx gs scope pos) (some (.Name y py)) l env = pure true := by
  have ky : env.kindOf y = some .local := hy
  have hb : env.blockKind = .function := by unfold Env.blockKind; rw [hk]; rfl
  unfold swapsWith
  simp only [hb, ky, ha, Expr.pos, hl]
  rfl
/-! ### as abstract values -/
def compD (p : Pt) (cnd : Sl → M Bool) (ke ve : Sl → M O) (vs : List Nat) : List PyData → Sl → List (Option Int × Option Int) → Option (List (Option Int × Option Int) × Sl)
  | [], S, acc => some (acc, S)
  | d :: ds, S, acc => match bindP p d S with
    | none => none
    | some S1 => match cnd S1 with
      | some (.ok true, S2) => (match ke S2 with
        | some (.ok (.d k), S3) => (match ve S3 with
          | some (.ok (.d v), S4) => (match lkD k, lkD v with
            | some k', some v' => compD p cnd ke ve vs ds (wipeS S4 vs) (putN acc k' v')
            | _, _ => none)
          | _ => none)
        | _ => none)
      | some (.ok false, S2) => compD p cnd ke ve vs ds (wipeS S2 vs) acc
      | _ => none
def eLComp (src : Sl → M (List PyData)) (p : Pt) (cnd : Sl → M Bool) (ke ve : Sl → M O) (vs : List Nat) : Sl → M O := fun S => bnd (src S) fun ds S1 =>
  if ds.length ≤ LIM then (match compD p cnd ke ve vs ds (wipeS S1 vs) [] with
    | some (kvs, S2) => some (.ok (.n kvs), wipeS S2 vs)
    | none => none) else none
section
variable {K : PySem.W.Frag} {Y : YX} {W : WX} {ws : List Nat} {g : TG} {p : Pt}
theorem se_lcomp {wi : TI} {src : Sl → M (List PyData)} {tt : TT} {cnd : Sl → M Bool} {tk tv : TE} {ke ve : Sl → M O} {vs : List Nat} (hs : SIt K Y W wi src) (hg : SG K vs g p) (ht : ST K Y W0 tt cnd) (hk : SE K Y W0 tk ke) (he : SE K Y W0 tv ve) :
    SE K Y W (tLd wi g tt tk tv vs) (eLComp src p cnd ke ve vs) := by
  intro R T S σ H Q out S' hl hf rel post
  rcases bnd_cases hf with ⟨e, e1, rfl⟩ | ⟨ds, S1, e1, e2⟩
  · exact hs R T S σ H _ _ _ hl e1 rel post
  · refine hs R T S σ H _ _ _ hl e1 rel fun hl1 J L0 H1 hJ rel1 => ?_
    split at e2
    · rename_i hlim
      cases qc : compD p cnd ke ve vs ds (wipeS S1 vs) [] with
      | none => simp only [qc] at e2; cases e2
      | some q =>
        obtain ⟨os, S2⟩ := q
        simp only [qc] at e2
        cases e2
        intro D hD
        have qq := kept_wipe (kw vs σ)
        refine ⟨fun i m H' => m = ds.length - i ∧ i ≤ ds.length ∧ ∃ Si acc, Si.length = σ.length ∧ acc.length ≤ i ∧ compD p cnd ke ve vs (ds.drop i) Si acc = some (os, S2) ∧
            Rel K H' R (L0 ++ (Si.zip (wipe σ vs) ++ ((.n acc, some (.ref D)) :: T))), ⟨ds.length, by simp, Nat.zero_le _, wipeS S1 vs, [], by rw [wipeS_len]; exact hl1, Nat.zero_le _, qc, ?_⟩, ?_⟩
        · have r1 : Rel K H1 R (S1.zip σ ++ (T ++ L0)) := rel1.rot3
          have r2 : Rel K (upd H1 D (LfO D [])) (D :: R) ((wipeS S1 vs).zip (wipe σ vs) ++ (T ++ L0)) := (Rel.wipes vs r1).fresh (u := LfO D []) hD
          have r3 : Rel K (upd H1 D (LfO D [])) R ((.n [], some (.ref D)) :: ((wipeS S1 vs).zip (wipe σ vs) ++ (T ++ L0))) := Rel.closeN (kvs := []) upd_same r2
          exact Rel.rot3' (C := (.n [], some (.ref D)) :: T) r3.unmid
        · rintro i m H' ⟨rfl, hi, Si, acc, hli, hai, hco, reli⟩
          by_cases hlt : i < ds.length
          · have hd : ds[i]? = some ds[i] := List.getElem?_eq_getElem hlt
            have ed : ds.drop i = ds[i] :: ds.drop (i + 1) := List.drop_eq_getElem_cons hlt
            obtain ⟨hgo, hy⟩ := (hJ _ _ H' reli i).1 _ hd
            refine .inr ⟨hgo, fun H2 => ∃ Si acc, Si.length = σ.length ∧ acc.length ≤ i + 1 ∧ compD p cnd ke ve vs (ds.drop (i + 1)) Si acc = some (os, S2) ∧
              Rel K H2 R (L0 ++ (Si.zip (wipe σ vs) ++ ((.n acc, some (.ref D)) :: T))), fun H2 h2 => ⟨ds.length - (i + 1), by omega, rfl, hlt, h2⟩, fun x H2 y2 => ?_⟩
            have r2 := hy x H2 y2
            rw [ed] at hco
            unfold compD at hco
            cases qb : bindP p ds[i] Si with
            | none => rw [qb] at hco; cases hco
            | some Sb =>
              simp only [qb] at hco
              have r3 : Rel K H2 R ((.d ds[i], some x) :: (Si.zip (wipe σ vs) ++ (((.n acc, some (.ref D)) :: T) ++ L0))) := r2.perm (.cons _ (by
                rw [← List.append_assoc (Si.zip (wipe σ vs))]
                exact List.perm_append_comm))
              refine hg R _ Si Sb (wipe σ vs) H2 ds[i] x _ (by rw [wipe_length]; exact hli) qb r3 fun hlb σ3 k3 rel3 => ⟨(kept_wipe k3).trans qq, ?_⟩
              have lb : Sb.length = σ3.length := hlb.trans k3.1.symm
              have ew : wipe σ3 vs = wipe σ vs := (kept_wipe k3).trans qq
              have l3 : σ3.length = σ.length := k3.1.trans (wipe_length σ vs)
              cases qd : cnd Sb with
              | none => simp only [qd] at hco; cases hco
              | some z =>
                obtain ⟨eb, S4⟩ := z
                cases eb with
                | error e => simp only [qd] at hco; cases hco
                | ok b =>
                  refine ht R _ Sb σ3 H2 _ _ _ lb qd rel3 fun hl4 H4 rel4 => ?_
                  cases b with
                  | false =>
                    simp only [qd] at hco
                    rw [if_neg Bool.false_ne_true]
                    refine ⟨wipeS S4 vs, acc, by rw [wipeS_len]; exact hl4.trans l3, by omega, hco, ?_⟩
                    have r5 := Rel.wipes vs rel4
                    rw [ew] at r5
                    exact Rel.rot3' (C := (.n acc, some (.ref D)) :: T) r5
                  | true =>
                    simp only [qd] at hco
                    rw [if_pos rfl]
                    split at hco
                    · rename_i kd S5 qe
                      split at hco
                      · rename_i vd S6 qf
                        split at hco
                        · rename_i k' v' hk' hv'
                          have ek := lkD_eq hk'
                          have ev := lkD_eq hv'
                          subst ek ev
                          refine hk R _ S4 σ3 H4 _ _ _ hl4 qe rel4 fun hl5 y H5 rel5 => ?_
                          have rel5' : Rel K H5 R (S5.zip σ3 ++ ((.d (oD k'), some y) :: ((.n acc, some (.ref D)) :: T ++ L0))) := rel5.unmid
                          refine he R _ S5 σ3 H5 _ _ _ hl5 qf rel5' fun hl6 z H6 rel6 => ?_
                          have ez := scal_head (oD_scal v') rel6
                          have r7 : Rel K H6 R ((.d (oD k'), some y) :: (S6.zip σ3 ++ ((.n acc, some (.ref D)) :: T ++ L0))) := rel6.drop.mid
                          have ey := scal_head (oD_scal k') r7
                          subst ez ey
                          have r8 : Rel K H6 R ((.n acc, some (.ref D)) :: (S6.zip σ3 ++ (T ++ L0))) := (show Rel K H6 R (S6.zip σ3 ++ ((.n acc, some (.ref D)) :: (T ++ L0))) from r7.drop).mid
                          obtain ⟨a', e, hDa, r9⟩ := r8.openN
                          cases e
                          refine ⟨nKV acc, lfK k', oD_V k', hDa, by unfold nKV; rw [List.length_map]; exact LIM_lt (by omega), lfK_no k', nNT acc, wipeS S6 vs, putN acc k' v', by rw [wipeS_len]; exact hl6.trans l3, by have := putN_len acc k' v'; omega, hco, ?_⟩
                          rw [oV_V, ← putN_ok]
                          have r10 : Rel K (upd H6 D (LfO D (nKV (putN acc k' v')))) (D :: R) (S6.zip σ3 ++ (T ++ L0)) := r9.hand List.mem_cons_self
                          have r11 : Rel K (upd H6 D (LfO D (nKV (putN acc k' v')))) R (S6.zip σ3 ++ ((.n (putN acc k' v'), some (.ref D)) :: (T ++ L0))) := (r10.closeN upd_same).unmid
                          have r12 := Rel.wipes vs r11
                          rw [ew] at r12
                          exact Rel.rot3' (C := (.n (putN acc k' v'), some (.ref D)) :: T) r12
                        · cases hco
                      · cases hco
                    · cases hco
          · have e : i = ds.length := by omega
            subst e
            rw [List.drop_length] at hco
            have hco' : some (acc, Si) = some (os, S2) := hco
            cases hco'
            refine .inl ⟨(hJ _ _ H' reli _).2 (Nat.le_refl _), ?_⟩
            have r1 : Rel K H' R (S2.zip (wipe σ vs) ++ ((.n os, some (.ref D)) :: T)) := reli.drops
            have r2 := Rel.unwipes vs r1
            exact post (by rw [wipeS_len]; exact hli) _ H' r2.mid
    · cases e2
end
section
variable {X : Cx} {Y : YX} {W : WX} {ws : List Nat} {pos : Pos} {scope : Scope} {own : List (Str × Nat)} {kx vx tg iter : Expr} {ifs : List Expr} {cnd : Sl → M Bool} {ke ve : Sl → M O} {src : Sl → M (List PyData)} {pt : Pt}
theorem oe_lcomp (hc : X.calm = true) (hN : X.N.Nodup) (hi : OkI X Y W tg iter src) (ok : BlkOk X.N X.env.scope scope own)
    (hg : ∀ (s : Shared) (H : Hp) (C : Addr) (cl : List (Str × Addr)) (fp : List Addr), OkG (X.blk s H scope (compEnvC scope cl C X.env) fp) (own.map (·.2)) tg pt) (ht : ∀ (s : Shared) (H : Hp) (C : Addr) (cl : List (Str × Addr)) (fp : List Addr), OkTs (X.blk s H scope (compEnvC scope cl C X.env) fp) Y W0 ifs cnd)
    (hk : ∀ (s : Shared) (H : Hp) (C : Addr) (cl : List (Str × Addr)) (fp : List Addr), OkE (X.blk s H scope (compEnvC scope cl C X.env) fp) Y W0 kx ke)
    (he : ∀ (s : Shared) (H : Hp) (C : Addr) (cl : List (Str × Addr)) (fp : List Addr), OkE (X.blk s H scope (compEnvC scope cl C X.env) fp) Y W0 vx ve) (hs : ∀ x, foldedSetIterable iter X.env x = pure x := by intro _; rfl) :
    OkE X Y W (.DictComp kx vx [⟨tg, iter, ifs, 0⟩] scope pos) (eLComp src pt cnd ke ve (own.map (·.2))) := by
  obtain ⟨wi, pi, si⟩ := hi
  exact ⟨_, pe_ldG ldk_leaf trivial hc hN pi ok (fun s H C cl fp => pg_cG (hg s H C cl fp)) (fun s H C cl fp => pts_cT (ht s H C cl fp)) (fun s H C cl fp => pe_cE (hk s H C cl fp)) (fun s H C cl fp => pe_cE (he s H C cl fp)) hs, se_lcomp si sg_cG st_cT se_cE se_cE⟩
theorem os_setLComp {i : Nat} {y : Str} {py spos : Pos} (hc : X.calm = true) (hN : X.N.Nodup) (hy : X.N[i]? = some y) (hyl : X.env.scope.names.lookup y = some .local) (hw : i ∈ ws)
    (hsw : swapsWith (.DictComp kx vx [⟨tg, iter, ifs, 0⟩] scope pos) (some (.Name y py)) spos.line X.env = pure true) (hi : OkI X Y W tg iter src) (ok : BlkOk X.N X.env.scope scope own)
    (hg : ∀ (s : Shared) (H : Hp) (C : Addr) (cl : List (Str × Addr)) (fp : List Addr), OkG (X.blk s H scope (compEnvC scope cl C X.env) fp) (own.map (·.2)) tg pt) (ht : ∀ (s : Shared) (H : Hp) (C : Addr) (cl : List (Str × Addr)) (fp : List Addr), OkTs (X.blk s H scope (compEnvC scope cl C X.env) fp) Y W0 ifs cnd)
    (hk : ∀ (s : Shared) (H : Hp) (C : Addr) (cl : List (Str × Addr)) (fp : List Addr), OkE (X.blk s H scope (compEnvC scope cl C X.env) fp) Y W0 kx ke)
    (he : ∀ (s : Shared) (H : Hp) (C : Addr) (cl : List (Str × Addr)) (fp : List Addr), OkE (X.blk s H scope (compEnvC scope cl C X.env) fp) Y W0 vx ve) (hs : ∀ x, foldedSetIterable iter X.env x = pure x := by intro _; rfl) :
    OkS X Y W ws (.Assign [.Name y py] (.DictComp kx vx [⟨tg, iter, ifs, 0⟩] scope pos) spos) (sSet i (eLComp src pt cnd ke ve (own.map (·.2)))) := by
  obtain ⟨wi, pi, si⟩ := hi
  exact ⟨_, ps_setLdG ldk_leaf trivial hc hN hy hyl hsw pi ok (fun s H C cl fp => pg_cG (hg s H C cl fp)) (fun s H C cl fp => pts_cT (ht s H C cl fp)) (fun s H C cl fp => pe_cE (hk s H C cl fp)) (fun s H C cl fp => pe_cE (he s H C cl fp)) hs, ss_set (se_lcomp si sg_cG st_cT se_cE se_cE) hw⟩
end
end FT
/-! FT29: a list or another one, by truth. -/
namespace FT
open PySem PySem.Spec PyProof.Rows L2
def eOrL (fa fb : Sl → M O) : Sl → M O := fun S => bnd (fa S) fun o S1 => match lsOf o with
  | some (_ :: _) => some (.ok (nrm o), S1)
  | _ => none
section
variable {K : PySem.W.Frag} {Y : YX} {W : WX} {R : List Addr} {T L : List En} {H : Hp} {σ : Slots} {te ue : TE} {fe ge : Sl → M O}
theorem se_orL (h1 : SE K Y W te fe) : SE K Y W (tOrT K te ue) (eOrL fe ge) := by
  intro R T S σ H Q out S' hl hf rel post
  rcases bnd_cases hf with ⟨e, e1, rfl⟩ | ⟨o, S1, e1, e2⟩
  · exact h1 R T S σ H _ _ _ hl e1 rel fun hl' => post hl'
  · refine h1 R T S σ H _ _ _ hl e1 rel fun hl' v H1 rel1 => ?_
    split at e2
    · rename_i x ds hls
      cases e2
      obtain ⟨a, xs, rfl, ha, el, hd, r2⟩ := rel1.nrm hls
      have tv : TruV K (.ref a) H1 true := .inl ⟨xs, SqL.of ha, by
        cases xs with
        | nil => cases el
        | cons _ _ => rfl⟩
      exact ⟨true, tv, (by rw [if_pos (show true = true from rfl)]; exact post hl' _ H1 r2.drops)⟩
    · cases e2
end
section
variable {X : Cx} {Y : YX} {W : WX} {a b : Expr} {es : List Expr} {fa fb : Sl → M O} {pos : Pos}
theorem oe_orL (h1 : OkE X Y W a fa) (h2 : OkE X Y W b fb) : OkE X Y W (.BoolOp .Or [a, b] pos) (eOrL fa fb) :=
  let ⟨_, q1, s1⟩ := h1
  let ⟨_, q2, s2⟩ := oe_one h2
  ⟨_, pe_orT q1 q2, se_orL s1⟩
end
end FT
/-! FT30: items of a list of lists that one holder alone reaches, by names: xs[a][b] and xs[a][b] = v. -/
namespace FT
open PySem PySem.Spec PyProof.Rows L2
def look2 (S : Sl) (i a b : Nat) : Option (List O × Nat × List O × Nat) := match S.getD i .no, S.getD a .no, S.getD b .no with
  | .l rows, .d (.int x), .d (.int y) => (match ixN rows.length x with
    | some j => (match rows[j]? with
      | some (.l row) => (match ixN row.length y with
        | some m => some (rows, j, row, m)
        | none => none)
      | _ => none)
    | none => none)
  | _, _, _ => none
theorem look2_eq {S : Sl} {i a b : Nat} {rows row : List O} {j m : Nat} (h : look2 S i a b = some (rows, j, row, m)) :
    ∃ x y, S.getD i .no = .l rows ∧ S.getD a .no = .d (.int x) ∧ S.getD b .no = .d (.int y) ∧ ixN rows.length x = some j ∧ rows[j]? = some (.l row) ∧ ixN row.length y = some m := by
  unfold look2 at h
  split at h
  · rename_i rs x y h1 h2 h3
    split at h
    · rename_i j' h4
      split at h
      · rename_i row' h5
        split at h
        · rename_i m' h6
          cases h
          exact ⟨x, y, h1, h2, h3, h4, h5, h6⟩
        · cases h
      · cases h
    · cases h
  · cases h
def eIt2 (i a b : Nat) : Sl → M O := fun S => match look2 S i a b with
  | some (_, _, row, m) => (match row[m]? with
    | some (.d x) => some (.ok (.d x), S)
    | _ => none)
  | none => none
def sStore2 (i a b : Nat) (fe : Sl → M O) : Sl → MS := fun S => bnd (fe S) fun o S1 => match look2 S1 i a b with
  | some (rows, j, row, m) => some (.ok .nx, S1.set i (.l (rows.set j (.l (row.set m o)))))
  | none => none
section
variable {K : PySem.W.Frag} {Y : YX} {W : WX} {R : List Addr} {T L : List En} {H : Hp} {σ : Slots} {te : TE} {fe : Sl → M O}
/-- the rows opened: the base, its row, and what is left -/
theorem Rel.rows {S : Sl} {i a b : Nat} {rows row : List O} {j m : Nat} {x y : Int} (hl : S.length = σ.length) (rel : Rel K H R (S.zip σ ++ T)) (h1 : S.getD i .no = .l rows) (h2 : S.getD a .no = .d (.int x)) (h3 : S.getD b .no = .d (.int y)) (h4 : ixN rows.length x = some j) (h5 : rows[j]? = some (.l row)) (h6 : ixN row.length y = some m) :
    ∃ p ws q us, σ[i]? = some (some (.ref p)) ∧ σ[a]? = some (some (.int x)) ∧ σ[b]? = some (some (.int y)) ∧ H p = some (.lst ws) ∧ rows.length = ws.length ∧ (ws.map some)[j]? = some (some (.ref q)) ∧ atI ws x = some (.ref q) ∧ H q = some (.lst us) ∧ row.length = us.length ∧ p ≠ q ∧ Rel K H (q :: p :: R) (row.zip (us.map some) ++ ((rows.set j .no).zip (ws.map some) ++ ((S.set i .no).zip σ ++ T))) := by
  obtain ⟨v, hv⟩ := slot_val (i := i) hl (by rw [h1]; rfl) rel
  obtain ⟨va, hva⟩ := slot_val (i := a) hl (by rw [h2]; rfl) rel
  obtain ⟨vb, hvb⟩ := slot_val (i := b) hl (by rw [h3]; rfl) rel
  have ra := rel.take (by rw [getD_some (lt_of_slot hl hva), h2]) hva
  have ea := scal_head (x := .int x) rfl ra
  have rb := rel.take (by rw [getD_some (lt_of_slot hl hvb), h3]) hvb
  have eb := scal_head (x := .int y) rfl rb
  have r1 := rel.take (by rw [getD_some (lt_of_slot hl hv), h1]) hv
  obtain ⟨p, ws, e, hp, el, r2⟩ := r1.open
  cases e
  have hjx : j < rows.length := (List.getElem?_eq_some_iff.mp h5).1
  have hw : ws[j]? = some (ws[j]'(by omega)) := List.getElem?_eq_getElem (by omega)
  obtain ⟨z, hz⟩ : ∃ z, ws[j]? = some z := ⟨_, hw⟩
  have hm : (ws.map some)[j]? = some (some z) := by rw [List.getElem?_map, hz]; rfl
  obtain ⟨q, us, e2, hq, el2, r4⟩ := (r2.take h5 hm).open
  cases e2
  have npq : p ≠ q := by
    obtain ⟨fp, nd, _⟩ := r4
    intro e
    subst e
    simp at nd
  refine ⟨p, ws, q, us, hv, by rw [hva, ea]; rfl, by rw [hvb, eb]; rfl, hp, el, hm, ?_, hq, el2, npq, r4⟩
  unfold atI
  rw [← el, h4]
  exact hz
theorem Rel.unrows {S : Sl} {i j : Nat} {rows row : List O} {p q : Addr} {ws us : List V} (hp : H p = some (.lst ws)) (el : rows.length = ws.length) (hm : (ws.map some)[j]? = some (some (.ref q))) (hq : H q = some (.lst us)) (el2 : row.length = us.length) (hi : σ[i]? = some (some (.ref p))) (r : Rel K H (q :: p :: R) (row.zip (us.map some) ++ ((rows.set j .no).zip (ws.map some) ++ ((S.set i .no).zip σ ++ T)))) :
    Rel K H R ((S.set i (.l (rows.set j (.l row)))).zip σ ++ T) := by
  have r1 := r.close hq el2
  have r2 := r1.put hm
  rw [List.set_set] at r2
  have r3 := r2.close hp (by rw [List.length_set]; exact el)
  have r4 := r3.put hi
  rw [List.set_set] at r4
  exact r4
theorem se_it2 {i a b : Nat} : SE K Y W (tOp (rIx K) (tOp (rIx K) (tVar i) (tVar a)) (tVar b)) (eIt2 i a b) := by
  intro R T S σ H Q out S' hl hf rel post
  unfold eIt2 at hf
  split at hf
  · rename_i rows j row m hk
    obtain ⟨x, y, h1, h2, h3, h4, h5, h6⟩ := look2_eq hk
    split at hf
    · rename_i d hd
      cases hf
      obtain ⟨p, ws, q, us, hi, ha, hb, hp, el, hm, hat, hq, el2, npq, r⟩ := rel.rows hl h1 h2 h3 h4 h5 h6
      have hmx : m < row.length := (List.getElem?_eq_some_iff.mp hd).1
      obtain ⟨z, hz⟩ : ∃ z, us[m]? = some z := ⟨_, List.getElem?_eq_getElem (by omega)⟩
      have hzm : (us.map some)[m]? = some (some z) := by rw [List.getElem?_map, hz]; rfl
      have hat2 : atI us y = some z := by
        unfold atI
        rw [← el2, h6]
        exact hz
      have p1 := get_perm (zip_get hd hzm)
      have r1 := r.perm (p1.append_right _)
      have r2 := r1.dup.perm (.cons _ (p1.symm.append_right _))
      have hRows : rows.set j (.l row) = rows := by
        have := (List.getElem?_eq_some_iff.mp h5)
        rw [← this.2, List.set_getElem_self]
      have hS : S.set i (.l rows) = S := by
        have hi' := lt_of_slot hl hi
        have e := getD_some hi'
        rw [h1] at e
        have := (List.getElem?_eq_some_iff.mp e)
        rw [← this.2, List.set_getElem_self]
      have r3 : Rel K H (q :: p :: R) (row.zip (us.map some) ++ ((rows.set j .no).zip (ws.map some) ++ ((S.set i .no).zip σ ++ ((.d d, some z) :: T)))) := by
        refine r2.perm ?_
        have e1 : row.zip (us.map some) ++ ((rows.set j .no).zip (ws.map some) ++ ((S.set i .no).zip σ ++ ((.d d, some z) :: T))) = (row.zip (us.map some) ++ ((rows.set j .no).zip (ws.map some) ++ (S.set i .no).zip σ)) ++ (.d d, some z) :: T := by simp
        have e2 : row.zip (us.map some) ++ ((rows.set j .no).zip (ws.map some) ++ ((S.set i .no).zip σ ++ T)) = (row.zip (us.map some) ++ ((rows.set j .no).zip (ws.map some) ++ (S.set i .no).zip σ)) ++ T := by simp
        rw [e1, e2]
        exact List.perm_middle.symm
      have r4 := r3.unrows hp el hm hq el2 hi
      rw [hRows, hS] at r4
      exact ⟨_, hi, _, ha, .inl ⟨p, ws, x, _, rfl, rfl, SqL.of hp, hat, _, hb, .inl ⟨q, us, y, z, rfl, rfl, SqL.of hq, hat2, post hl z H r4.mid⟩⟩⟩
    · cases hf
  · cases hf
theorem ss_store2 {ws' : List Nat} {i a b : Nat} (he : SE K Y W te fe) : SS K Y W ws' (tAsg te (gSub (tOp (rIx K) (tVar i) (tVar a)) (tVar b) rSetL)) (sStore2 i a b fe) := by
  intro R T S σ H D out S' hl hf rel post
  rcases bnd_cases hf with ⟨e, e1, rfl⟩ | ⟨o, S1, e1, e2⟩
  · exact he R T S σ H _ _ _ hl e1 rel (post_err post)
  · refine he R T S σ H _ _ _ hl e1 rel fun hl1 v H1 rel1 => ?_
    have rel1' : Rel K H1 R (S1.zip σ ++ ((o, some v) :: T)) := rel1.unmid
    split at e2
    · rename_i rows j row m hk
      obtain ⟨x, y, h1, h2, h3, h4, h5, h6⟩ := look2_eq hk
      cases e2
      obtain ⟨p, ws, q, us, hi, ha, hb, hp, el, hm, hat, hq, el2, npq, r⟩ := rel1'.rows hl1 h1 h2 h3 h4 h5 h6
      have hml : m < (row.zip (us.map some)).length := by
        have := ixN_lt h6
        rw [List.length_zip, List.length_map, ← el2]
        omega
      have r5 : Rel K H1 (q :: p :: R) ((o, some v) :: (row.zip (us.map some) ++ ((rows.set j .no).zip (ws.map some) ++ ((S1.set i .no).zip σ ++ T)))) := by
        refine r.perm ?_
        have e1 : row.zip (us.map some) ++ ((rows.set j .no).zip (ws.map some) ++ ((S1.set i .no).zip σ ++ ((o, some v) :: T))) = (row.zip (us.map some) ++ ((rows.set j .no).zip (ws.map some) ++ (S1.set i .no).zip σ)) ++ (o, some v) :: T := by simp
        have e2 : row.zip (us.map some) ++ ((rows.set j .no).zip (ws.map some) ++ ((S1.set i .no).zip σ ++ T)) = (row.zip (us.map some) ++ ((rows.set j .no).zip (ws.map some) ++ (S1.set i .no).zip σ)) ++ T := by simp
        rw [e1, e2]
        exact List.perm_middle
      have r6 : Rel K H1 (q :: p :: R) ((row.set m o).zip ((us.set m v).map some) ++ ((rows.set j .no).zip (ws.map some) ++ ((S1.set i .no).zip σ ++ T))) := by
        have em : (us.set m v).map some = (us.map some).set m (some v) := List.map_set
        rw [em, zip_set]
        refine Rel.perm ?_ ((set_perm hml).symm.append_right _)
        have p := r5.perm (.cons _ ((get_perm (List.getElem?_eq_getElem hml)).append_right _))
        exact p.swap.drop
      have r7 := r6.hand (u := .lst (us.set m v)) List.mem_cons_self
      have r8 := r7.unrows (by rw [upd_ne npq]; exact hp) el hm upd_same (by rw [List.length_set, List.length_set]; exact el2) hi
      exact ⟨_, hi, _, ha, .inl ⟨p, ws, x, _, rfl, rfl, SqL.of hp, hat, _, hb, q, us, y, m, rfl, rfl, hq, by rw [← el2]; exact h6, post (by rw [List.length_set]; exact hl1) σ _ .refl r8⟩⟩
    · cases e2
end
section
variable {X : Cx} {Y : YX} {W : WX} {ws : List Nat} {e : Expr} {x y z : Str} {i a b : Nat} {pos p p1 p2 p3 p4 : Pos} {f : Sl → M O}
theorem oe_it2 (h1 : PE X (.Name x p1) (tVar i)) (h2 : PE X (.Name y p2) (tVar a)) (h3 : PE X (.Name z p3) (tVar b)) (hs : PlainIx (.Name y p2) := by exact fun _ _ => rfl) (hs2 : PlainIx (.Name z p3) := by exact fun _ _ => rfl) : OkE X Y W (.Subscript (.Subscript (.Name x p1) (.Name y p2) p4) (.Name z p3) pos) (eIt2 i a b) :=
  ⟨_, pe_ix ix_seq (pe_ix ix_seq h1 h2 hs) h3 hs2, se_it2⟩
theorem os_store2 (h1 : PE X (.Name x p1) (tVar i)) (h2 : PE X (.Name y p2) (tVar a)) (h3 : PE X (.Name z p3) (tVar b)) (h : OkE X Y W e f) (hs : PlainIx (.Name y p2) := by exact fun _ _ => rfl)
    (ha : ∀ v, assign (.Subscript (.Subscript (.Name x p1) (.Name y p2) p4) (.Name z p3) p) X.env v = (do
      let ov ← holding [v] (eval (.Subscript (.Name x p1) (.Name y p2) p4) X.env)
      let iv ← holding [v, ov] (eval (.Name z p3) X.env)
      standAt p
      holding [v, ov, iv] (setItem ov iv v)
      release [v, ov, iv] []) := by intro _; rfl) (hsw : swapsWithSole [.Subscript (.Subscript (.Name x p1) (.Name y p2) p4) (.Name z p3) p] e pos.line X.env = pure false := by rfl) (hw : swappedStores [.Subscript (.Subscript (.Name x p1) (.Name y p2) p4) (.Name z p3) p] e X.env = pure none := by rfl)
    (he : (assignEach [.Subscript (.Subscript (.Name x p1) (.Name y p2) p4) (.Name z p3) p] X.env).map (·.2) = [assign (.Subscript (.Subscript (.Name x p1) (.Name y p2) p4) (.Name z p3) p) X.env] := by rfl) : OkS X Y W ws (.Assign [.Subscript (.Subscript (.Name x p1) (.Name y p2) p4) (.Name z p3) p] e pos) (sStore2 i a b f) :=
  let ⟨_, q2, t2⟩ := h
  ⟨_, ps_asg q2 (pg_sub (pe_ix ix_seq h1 h2 hs) h3 set_list ha) hsw hw he, ss_store2 t2⟩
end
/-- a comprehension in a comprehension: its scope within the outer one's -/
def relabelS (sc1 sc0 : Scope) : Scope :=
  { sc1 with names := sc1.names.map fun (n, k) => if (k == .free && sc0.kind == .function && sc0.names.lookup n == some .cell) then (n, .cell) else (n, k) }
theorem blkOk_nest {N : List Str} {sc0 sc1 scope : Scope} {own : List (Str × Nat)} {env : Env} (he : env.scope = sc0) (h : blkC N (relabelS sc1 sc0) scope own = true) : BlkOk N (relabel sc1 env) scope own := by
  have e : relabel sc1 env = relabelS sc1 sc0 := by
    unfold relabel relabelS Env.kindOf
    rw [he]
  rw [e]
  exact blkOk_by h
/-- [*e, name] -/
def eStar2 (fa : Sl → M O) (j : Nat) : Sl → M O := fun S => bnd (fa S) fun o S1 => match lsOf o, S1.getD j .no with
  | some ds, .d x => if ds.length < LIM then some (.ok (dl (ds ++ [x])), S1) else none
  | _, _ => none
section
variable {K : PySem.W.Frag} {Y : YX} {W : WX} {te : TE} {fe : Sl → M O}
theorem se_star2 {j : Nat} (h1 : SE K Y W te fe) : SE K Y W (tLst (StX.tStar K te (tCons (tVar j) tNil))) (eStar2 fe j) := by
  intro R T S σ H Q out S' hl hf rel post
  rcases bnd_cases hf with ⟨e, e1, rfl⟩ | ⟨o, S1, e1, e2⟩
  · exact h1 R T S σ H _ _ _ hl e1 rel fun hl' => post hl'
  · refine h1 R T S σ H _ _ _ hl e1 rel fun hl1 v H1 rel1 => ?_
    split at e2
    · rename_i ds x hd hx
      split at e2
      · rename_i hlim
        cases e2
        obtain ⟨a, xs, rfl, hp, el, hq, r2⟩ := rel1.nrm hd
        have r3 : Rel K H1 R (((ds.map O.d).zip (xs.map some) ++ [(nrm o, some (.ref a))]) ++ (List.zip S' σ ++ T)) := by
          rw [List.append_assoc]; exact r2
        obtain ⟨u, hu⟩ := slot_val (i := j) hl1 (by rw [hx]; rfl) r3.drops
        have r4 := Rel.copyT r3 (o := .d x) rfl (by rw [getD_some (lt_of_slot hl1 hu), hx]) hu
        refine ⟨a, xs, rfl, .inr (SqL.of hp), u, hu, ?_, fun c hc => post hl1 _ _ ?_⟩
        · rw [List.length_append, ← el]; exact LIM_lt hlim
        · have r5 : Rel K H1 R (((ds ++ [x]).map O.d).zip ((xs ++ [u]).map some) ++ ((nrm o, some (.ref a)) :: (List.zip S' σ ++ T))) := by
            rw [List.map_append]
            show Rel K H1 R ((ds.map O.d ++ [O.d x]).zip ((xs ++ [u]).map some) ++ _)
            rw [List.map_append]
            show Rel K H1 R ((ds.map O.d ++ [O.d x]).zip (xs.map some ++ [some u]) ++ _)
            rw [List.zip_append (by rw [List.length_map, List.length_map]; exact el), List.append_assoc]
            refine r4.perm ?_
            have q1 : (List.map O.d ds).zip (List.map some xs) ++ [(nrm o, some (V.ref a))] ++ (List.zip S' σ ++ (O.d x, some u) :: T) = ((List.map O.d ds).zip (List.map some xs) ++ ((nrm o, some (V.ref a)) :: List.zip S' σ)) ++ (O.d x, some u) :: T := by simp
            have q2 : (List.map O.d ds).zip (List.map some xs) ++ ([O.d x].zip [some u] ++ (nrm o, some (V.ref a)) :: (List.zip S' σ ++ T)) = (List.map O.d ds).zip (List.map some xs) ++ (O.d x, some u) :: (((nrm o, some (V.ref a)) :: List.zip S' σ) ++ T) := by simp
            rw [q1, q2]
            refine List.perm_middle.trans ?_
            rw [List.append_assoc]
            exact List.perm_middle.symm
          have r6 := Rel.newL hc (by rw [List.length_append, List.length_append, el]; rfl) r5
          exact r6.perm (.cons _ (List.Perm.refl _)) |>.swap.drop
      · cases e2
    · cases e2
end
section
variable {X : Cx} {Y : YX} {W : WX} {e : Expr} {x : Str} {j : Nat} {pos p q2 : Pos} {fe : Sl → M O}
theorem oe_star2 (h : OkE X Y W e fe) (hx : PE X (.Name x p) (tVar j)) (h1 : starEach [.Name x p] X.env = (false, eval (.Name x p) X.env) :: starEach [] X.env := by rfl)
    (h2 : starEach [.Starred e q2, .Name x p] X.env = (true, eval e X.env) :: starEach [.Name x p] X.env := by rfl) : OkE X Y W (.List [.Starred e q2, .Name x p] pos) (eStar2 fe j) :=
  let ⟨_, q, s⟩ := h
  ⟨_, pe_lst (StX.pa_star q (pa_cons hx pa_nil h1) h2), se_star2 s⟩
end
end FT
/-! FT31: the script != []. -/
namespace FT
open PySem PySem.Spec PyProof.Rows L2 PySem.SeqAt
def gNeS : Fn := fun os => match os with
  | [.fz ns, .l []] => some (.ok (.d (.bool (!ns.isEmpty))), [.fz ns, .l []])
  | _ => none
def rNeS (K : PySem.W.Frag) : R2 := fun x y H Q => ∃ p q xs, x = .ref p ∧ y = .ref q ∧ SqL K H p xs ∧ SqL K H q [] ∧ Q (.bl (!xs.isEmpty)) H
theorem fr_neS {K : PySem.W.Frag} {Y : YX} : FR K Y (rx2 (rNeS K)) gNeS := by
  intro R L vs os os' H Q E out hl hg rel post
  unfold gNeS at hg
  split at hg
  · rename_i ns
    cases hg
    obtain ⟨v, u, rfl⟩ := two_v hl
    have r0 : Rel K H R ((.fz ns, some v) :: (.l [], some u) :: L) := rel
    obtain ⟨a, e, ha⟩ := r0.viewF
    cases e
    obtain ⟨b, us, e2, hb, el, _⟩ := r0.drop.open
    cases e2
    have : us = [] := by
      cases us with
      | nil => rfl
      | cons _ _ => cases el
    subst this
    refine ⟨a, b, _, rfl, rfl, ha, SqL.of hb, ?_⟩
    have : (!(ns.map V.int).isEmpty) = !ns.isEmpty := by cases ns <;> rfl
    rw [this]
    exact post rfl _ H (rel.addS (x := .bool (!ns.isEmpty)) rfl)
  · cases hg
theorem op_neS {X : Cx} (hu : X.A.units + 64 < cLine) : OpR X (compareOp .NotEq) (rNeS X.K) := by
  intro pins s σ H x y v u Q I rx ry h
  obtain ⟨p, q, xs, rfl, rfl, hp, hq, hQ⟩ := h
  obtain rfl : v = Value.ref p := rx
  obtain rfl : u = Value.ref q := ry
  obtain ⟨its, r, pl, hz⟩ := I.list hp
  obtain ⟨its', r', pl', hz'⟩ := I.list hq
  have n1 := r.length
  have n2 := r'.length
  have n2' : its'.length = 0 := n2.symm
  have key : RcNeAt X.A s (.ref p) (.ref q) (!xs.isEmpty) := by
    by_cases hsz : its.length = its'.length
    · have hx : xs = [] := List.eq_nil_of_length_eq_zero (by omega)
      subst hx
      have := RcNeAt.lists (A := X.A) (e := fun _ => true) pl.isList pl'.isList (by simpa using hsz) (by omega) (fun j j1 j2 => absurd j2 (by simp; omega))
      have z : its.length = 0 := by omega
      simpa [z] using this
    · have : (!xs.isEmpty) = true := by
        cases xs with
        | nil => exact absurd (show its.length = its'.length by simp at n1; omega) hsz
        | cons _ _ => rfl
      rw [this]
      exact RcNeAt.lists_lengths pl.isList pl'.isList (by simpa using hsz) (by omega)
  exact key X.prog X.w _ _ ⟨.bl _, H, I, rfl, hQ⟩
section
variable {X : Cx} {Y : YX} {W : WX} {a b : Expr} {ra rb : Ar} {pos : Pos} {k : Nat}
theorem oe_neS (hr : RG k X.A) (ha : OkR X Y W a ra) (hb : OkR X Y W b rb) : OkE X Y W (.Compare a [.NotEq] [b] pos) (eApp gNeS [ra, rb]) := oe_cmp (op_neS (units64 hr)) fr_neS ha hb (nomark _)
theorem ot_neS (hr : RG k X.A) (ha : OkR X Y W a ra) (hb : OkR X Y W b rb) : OkT X Y W (.Compare a [.NotEq] [b] pos) (tVal (eApp gNeS [ra, rb])) := ot_cmp (op_neS (units64 hr)) fr_neS ha hb (nomark _)
end
end FT
/-! FT32: dicts whose keys are pairs of None and ints. -/
namespace FT
open PySem PySem.Spec PyProof.Rows L2
abbrev Pk := Option Int × Option Int
abbrev Px := Pk × Addr × Int
def pkL (k : Pk) : List PySem.Leaf := [lfK k.1, lfK k.2]
def pkV (k : Pk) : List V := [oV k.1, oV k.2]
theorem pkL_inj {k j : Pk} (h : pkL k = pkL j) : k = j := by
  obtain ⟨a, b⟩ := k
  obtain ⟨c, d⟩ := j
  injection h with h1 h2
  injection h2 with h2 _
  have h1 : lfK a = lfK c := h1
  have h2 : lfK b = lfK d := h2
  rw [lfK_inj.mp h1, lfK_inj.mp h2]
def putP (xs : List Px) (k : Pk) (b : Addr) (i : Int) : List Px := if xs.any (fun x => decide (x.1 = k)) = true then xs.map (fun x => if x.1 = k then (x.1, x.2.1, i) else x) else xs ++ [(k, b, i)]
def putQ (kvs : List (Pk × Int)) (k : Pk) (i : Int) : List (Pk × Int) := if kvs.any (fun x => decide (x.1 = k)) = true then kvs.map (fun x => if x.1 = k then (x.1, i) else x) else kvs ++ [(k, i)]
def lookQ (kvs : List (Pk × Int)) (k : Pk) : Option Int := (kvs.find? fun x => decide (x.1 = k)).map (·.2)
theorem prK_put {xs : List Px} {k : Pk} {b : Addr} {i : Int} : prK (putP xs k b i) = putQ (prK xs) k i := by
  have e : (prK xs).any (fun x => decide (x.1 = k)) = xs.any (fun x => decide (x.1 = k)) := by
    unfold prK
    rw [List.any_map]
    rfl
  unfold putP putQ
  rw [e]
  by_cases q : xs.any (fun x => decide (x.1 = k)) = true
  · rw [if_pos q, if_pos q]
    unfold prK
    rw [List.map_map, List.map_map]
    refine List.map_congr_left fun x _ => ?_
    show ((if x.1 = k then (x.1, x.2.1, i) else x).1, (if x.1 = k then (x.1, x.2.1, i) else x).2.2) = if x.1 = k then (x.1, i) else (x.1, x.2.2)
    split <;> rfl
  · rw [if_neg q, if_neg q]
    unfold prK
    rw [List.map_append]
    rfl
theorem putP_len {xs : List Px} {k : Pk} {b : Addr} {i : Int} : (putP xs k b i).length ≤ xs.length + 1 := by
  unfold putP
  split
  · rw [List.length_map]; omega
  · rw [List.length_append]; exact Nat.le_refl _
theorem putP_mem {xs : List Px} {k : Pk} {b : Addr} {i : Int} {x : Px} (h : x ∈ putP xs k b i) : (∃ y ∈ xs, y.1 = x.1 ∧ y.2.1 = x.2.1) ∨ x = (k, b, i) := by
  unfold putP at h
  split at h
  · obtain ⟨y, hy, e⟩ := List.mem_map.mp h
    subst e
    refine .inl ⟨y, hy, ?_⟩
    split <;> exact ⟨rfl, rfl⟩
  · rcases List.mem_append.mp h with m | m
    · exact .inl ⟨x, m, rfl, rfl⟩
    · exact .inr (List.mem_singleton.mp m)
/-! ### as the library holds it -/
theorem prv_any {xs : List Px} {vs : List (List PySem.Leaf × Addr × Value)} (r : Paired PrV xs vs) (k : Pk) : (atKey vs (pkL k)).isSome = xs.any (fun x => decide (x.1 = k)) := by
  induction r with
  | nil => rfl
  | @cons x y xs vs h t ih =>
    have e : decide (y.1 = pkL k) = decide (x.1 = k) := by
      rw [h.1]
      by_cases q : x.1 = k
      · rw [decide_eq_true q]
        exact decide_eq_true (by rw [q]; rfl)
      · rw [decide_eq_false q]
        exact decide_eq_false fun z => q (pkL_inj z)
    unfold atKey at ih ⊢
    rw [List.find?_cons, List.any_cons, e]
    cases q : decide (x.1 = k) with
    | true => rfl
    | false =>
      rw [Bool.false_or]
      exact ih
theorem paired_snoc {α β : Type} {F : α → β → Prop} {l : List α} {m : List β} (r : Paired F l m) {a : α} {b : β} (h : F a b) : Paired F (l ++ [a]) (m ++ [b]) := by
  induction r with
  | nil => exact .cons h .nil
  | cons h' _ ih => exact .cons h' ih
theorem prv_put {xs : List Px} {vs : List (List PySem.Leaf × Addr × Value)} (r : Paired PrV xs vs) {k : Pk} {b : Addr} {i : Int} {u : Value} (ru : RelV (.int i) u) : Paired PrV (putP xs k b i) (storedH vs (pkL k) b u) := by
  unfold putP storedH
  rw [prv_any r k]
  by_cases q : xs.any (fun x => decide (x.1 = k)) = true
  · rw [if_pos q, if_pos q]
    clear q
    induction r with
    | nil => exact .nil
    | @cons x y xs vs h t ih =>
      refine .cons ?_ ih
      show PrV (if x.1 = k then (x.1, x.2.1, i) else x) (if y.1 = pkL k then (y.1, y.2.1, u) else y)
      by_cases q : x.1 = k
      · have q2 : y.1 = pkL k := by rw [h.1, q]; rfl
        rw [if_pos q, if_pos q2]
        exact ⟨h.1, h.2.1, ru⟩
      · have q2 : ¬ y.1 = pkL k := fun z => q (pkL_inj (by rw [← z, h.1]; rfl))
        rw [if_neg q, if_neg q2]
        exact h
  · rw [if_neg q, if_neg q]
    exact paired_snoc r ⟨rfl, rfl, ru⟩
theorem prv_get {xs : List Px} {vs : List (List PySem.Leaf × Addr × Value)} (r : Paired PrV xs vs) (k : Pk) {z : V} {f : Value} (rz : RelV z f) : RelV (match lookQ (prK xs) k with | some i => .int i | none => z) (((atKey vs (pkL k)).map (·.2)).getD f) := by
  induction r with
  | nil => exact rz
  | @cons x y xs vs h t ih =>
    have e : decide (y.1 = pkL k) = decide (x.1 = k) := by
      rw [h.1]
      by_cases q : x.1 = k
      · rw [decide_eq_true q]
        exact decide_eq_true (by rw [q]; rfl)
      · rw [decide_eq_false q]
        exact decide_eq_false fun z => q (pkL_inj z)
    have e1 : lookQ (prK (x :: xs)) k = if decide (x.1 = k) = true then some x.2.2 else lookQ (prK xs) k := by
      unfold lookQ prK
      rw [List.map_cons, List.find?_cons]
      show Option.map _ (match decide (x.1 = k) with | true => some (x.1, x.2.2) | false => _) = _
      cases decide (x.1 = k) <;> rfl
    have e2 : atKey (y :: vs) (pkL k) = if decide (x.1 = k) = true then some y.2 else atKey vs (pkL k) := by
      unfold atKey
      rw [List.find?_cons, e]
      cases decide (x.1 = k) <;> rfl
    rw [e1, e2]
    cases decide (x.1 = k) with
    | true => exact h.2.2
    | false => exact ih
section
variable {P : Program} {w : World} {H H' : Hp} {h h' : Heap} {a b : Addr} {xs : List Px} {vs : List (List PySem.Leaf × Addr × Value)}
theorem oV_lf (k : Option Int) : oV k = lfV (lfK k) := by cases k <;> rfl
theorem key_ofP {k : Pk} (ok : HOk P w H h) (e : H b = some (.tup (pkV k))) : (tupleKind (leafKind P w)).is h (pkL k) b := by
  obtain ⟨_, its, r, o, h1, h2, n, h3⟩ := (show ObjOk P w H h b (.tup (pkV k)) from ok b _ e)
  refine ⟨o, its.toArray, n, h1, h2, h3, ?_⟩
  have r' : Vals [oV k.1, oV k.2] its := r
  cases r' with
  | cons r1 r2 =>
    cases r2 with
    | cons r2 r3 =>
      cases r3
      rw [oV_lf] at r1 r2
      exact .cons (lfV_is r1) (.cons (lfV_is r2) .nil)
theorem prO_of (ok : HOk P w H h) (e : H a = some (PrO a xs)) (hk : ∀ x ∈ xs, H x.2.1 = some (.tup (pkV x.1))) : xs.length ≤ sizeLine ∧ (a == sysModules) = false ∧ ∃ vs, Paired PrV xs vs ∧ h.DictOfH (tupleKind (leafKind P w)) a vs := by
  obtain ⟨⟨z, y, vs, r, nd, d⟩, _⟩ := (show ObjOk P w H h a (PrO a xs) from ok a _ e)
  refine ⟨z, y, vs, r, ?_⟩
  obtain ⟨o, es, ep, h1, h2, h3, h4⟩ := d P w
  refine ⟨o, es, ep, h1, h2, h3, h4, ?_, nd⟩
  have all : ∀ {l : List Px} {m : List (List PySem.Leaf × Addr × Value)}, Paired PrV l m → (∀ x ∈ l, H x.2.1 = some (.tup (pkV x.1))) → ∀ y ∈ m, (tupleKind (leafKind P w)).is h y.1 y.2.1 := by
    intro l m q
    induction q with
    | nil => intro _ y hy; cases hy
    | @cons p q ps qs hq t ih =>
      intro hl y hy
      rcases List.mem_cons.mp hy with e | hy
      · subst e
        rw [hq.1, hq.2.1]
        exact key_ofP ok (hl p List.mem_cons_self)
      · exact ih (fun x hx => hl x (List.mem_cons_of_mem _ hx)) y hy
  exact all r hk
theorem pr_hash {P P' : Program} {w w' : World} {ks : List PySem.Leaf} (e : ks.map (leafKind P w).hash = ks.map (leafKind P' w').hash) : (tupleKind (leafKind P w)).hash ks = (tupleKind (leafKind P' w')).hash ks := by
  have e1 : (tupleKind (leafKind P w)).hash = tupleKeyHash (leafKind P w) := by unfold tupleKind; rfl
  have e2 : (tupleKind (leafKind P' w')).hash = tupleKeyHash (leafKind P' w') := by unfold tupleKind; rfl
  rw [e1, e2]
  unfold tupleKeyHash
  rw [e]
theorem pr_map {P P' : Program} {w w' : World} (k : Pk) : (pkL k).map (leafKind P w).hash = (pkL k).map (leafKind P' w').hash := by
  have e1 : (leafKind P w).hash (lfK k.1) = (leafKind P' w').hash (lfK k.1) := lf_hash (lfK_no k.1)
  have e2 : (leafKind P w).hash (lfK k.2) = (leafKind P' w').hash (lfK k.2) := lf_hash (lfK_no k.2)
  unfold pkL
  rw [List.map_cons, List.map_cons, List.map_nil, List.map_cons, List.map_cons, List.map_nil, e1, e2]
theorem pr_ents {P P' : Program} {w w' : World} {xs : List Px} {vs : List (List PySem.Leaf × Addr × Value)} (rel : Paired PrV xs vs) : vs.map (entryOfKey (tupleKind (leafKind P w))) = vs.map (entryOfKey (tupleKind (leafKind P' w'))) := by
  induction rel with
  | nil => rw [List.map_nil, List.map_nil]
  | @cons x y xs vs h t ih =>
    have e : (tupleKind (leafKind P w)).hash y.1 = (tupleKind (leafKind P' w')).hash y.1 := by
      refine pr_hash ?_
      rw [h.1]
      exact pr_map x.1
    rw [List.map_cons, List.map_cons, ih]
    have e2 : entryOfKey (tupleKind (leafKind P w)) y = entryOfKey (tupleKind (leafKind P' w')) y := by
      unfold entryOfKey
      rw [e]
    rw [e2]
def PrF (a : Addr) (xs : List Px) (h : Heap) : Prop := xs.length ≤ sizeLine ∧ (a == sysModules) = false ∧ ∃ vs, Paired PrV xs vs ∧ (vs.map (·.1)).Nodup ∧
  ∀ (P : Program) (w : World), ∃ o es ep, h.get? a = some o ∧ o.ExactDict ∧ o.data = .dict es ep ∧ es.toList = vs.map (entryOfKey (tupleKind (leafKind P w)))
theorem prF_new (z : xs.length ≤ sizeLine) (hd : (a == sysModules) = false) (rel : Paired PrV xs vs) (dd : h'.DictOfH (tupleKind (leafKind P w)) a vs) : PrF a xs h' ∧ ∃ o, h'.get? a = some o := by
  obtain ⟨o, es, ep, h1, h2, h3, h4, hki, nd⟩ := dd
  exact ⟨⟨z, hd, vs, rel, nd, fun P' w' => ⟨o, es, ep, h1, h2, h3, h4.trans (pr_ents rel)⟩⟩, o, h1⟩
theorem prF_stay : ∀ h1 h2 : Heap, PrF a xs h1 → (∀ o, h1.get? a = some o → h2.get? a = some o) → PrF a xs h2 := by
  rintro h1 h2 ⟨z, y, vs, r, nd, d⟩ k
  refine ⟨z, y, vs, r, nd, fun P' w' => ?_⟩
  obtain ⟨o, es, ep, q, rest⟩ := d P' w'
  exact ⟨o, es, ep, k o q, rest⟩
theorem prO_new (z : xs.length ≤ sizeLine) (hd : (a == sysModules) = false) (rel : Paired PrV xs vs) (dd : h'.DictOfH (tupleKind (leafKind P w)) a vs) : ObjOk P w H' h' a (PrO a xs) :=
  have f := prF_new z hd rel dd
  ⟨f.1, f.2, prF_stay⟩
theorem prO_empty (h : Heap) (hb : sysModules < h.objs.size) : ObjOk P w H (h.push { cls := .type "dict", data := .dict #[] }) h.objs.size (PrO h.objs.size []) :=
  prO_new (P := P) (w := w) (vs := []) (Nat.zero_le _) (beq_eq_false_iff_ne.mpr (Ne.symm (Nat.ne_of_lt hb))) .nil (Heap.DictOfH.new h)
end
abbrev PutP : PutT := fun H D y z Nx => ∃ xs k b i, y = .ref b ∧ z = .int i ∧ H D = some (PrO D xs) ∧ (∀ x ∈ xs, H x.2.1 = some (.tup (pkV x.1))) ∧ H b = some (.tup (pkV k)) ∧ xs.length < sizeLine ∧ Nx (upd H D (PrO D (putP xs k b i)))
theorem ldk_pair : LdK (fun D => PrO D []) PutP (fun A => A.units < cLine) := ⟨fun h hb => prO_empty h hb, fun {X pins σ H s E D y z u r Q Nx} hu I ⟨xs, k, b, i, ey, ez, hD, hk, hb, hz, nx⟩ ry rv hQ => by
  subst ey ez
  cases (show u = Value.ref b from ry)
  obtain ⟨z, hd, vs, rel, dd⟩ := prO_of I.hok hD hk
  have hl : (putP xs k b i).length ≤ sizeLine := by have := putP_len (xs := xs) (k := k) (b := b) (i := i); omega
  refine wpAny_dictSet_heap (knd := tupleKind (leafKind X.prog X.w)) (hsz := by rw [← rel.length]; exact z) hu (key_ofP I.hok hb) dd fun h' dd' hs => hQ _ _ ?_ nx
  exact d_write I (by rw [hD]; exact True.intro) hs (let ⟨q, _, _, hq, _⟩ := dd'; ⟨q, hq⟩) (prO_new hl hd (prv_put rel rv) dd')⟩
/-- d.get(y, x) -/
def tPrGet (td ty tx : TE) : TE := fun σ H Q => td σ H fun x H1 => ∃ a xs, x = .ref a ∧ H1 a = some (PrO a xs) ∧ ty σ H1 fun y H2 => tx σ H2 fun z H3 => ∃ xs k b, H3 a = some (PrO a xs) ∧ (∀ x ∈ xs, H3 x.2.1 = some (.tup (pkV x.1))) ∧ y = .ref b ∧ H3 b = some (.tup (pkV k)) ∧
  Q (match lookQ (prK xs) k with | some i => .int i | none => z) H3
section
variable {X : Cx} {o e f : Expr} {apos cpos : Pos} {td ty tx : TE}
theorem pe_prget (hu : X.A.units + 1 < cLine) (ho : PE X o td) (he : PE X e ty) (hf : PE X f tx) (m : M2 X o "get" apos e f cpos) : PE X (.Call (.Attribute o "get" apos) [e, f] [] cpos) (tPrGet td ty tx) := by
  refine ⟨fun pins s σ H Q I h => ?_⟩
  refine wpAny_Call_method m.base m.few m.line PySem.F.plainAttrs_dict PySem.F.slot_dict_get PySem.F.type_dict_get (thn (ho.run pins s σ H _ I h) fun u s1 ⟨x, H1, I1, rx, a, xs, ex, e1, q1⟩ => ?_)
  subst ex
  obtain rfl : u = Value.ref a := rx
  obtain ⟨⟨_, _, _, _, _, d⟩, _⟩ := (show ObjOk X.prog X.w H1 s1.heap a (PrO a xs) from I1.hok a _ e1)
  obtain ⟨ob, _, _, h1, h2, _⟩ := d X.prog X.w
  refine ⟨⟨ob, h1, h2.1⟩, fun b q => ?_, ?_⟩
  · cases q
    exact ⟨ob, h1, h2.2.1⟩
  · rw [m.trees]
    refine Calls.callWith_builtin rfl (Calls.evalArgs_plain (Calls.spliced_cons (thn (he.run pins s1 σ H1 _ I1 q1) fun iv s2 ⟨y, H2, I2, ry, q2⟩ =>
      Calls.spliced_cons (thn (hf.run pins s2 σ H2 _ I2 q2) fun fv s3 ⟨z, H3, I3, rz, xs', k, b, e3, hk, ey, eb, q3⟩ => Calls.spliced_nil ?_))))
    subst ey
    cases (show iv = Value.ref b from ry)
    obtain ⟨_, hd, vs, rel, dd⟩ := prO_of I3.hok e3 hk
    refine call_meetsIn PySem.F.slot_dict_get dd.typeIs PySem.F.entry_dict_get (PySem.F.args_dict_get_3 _ _ _) (meetsH_dict_get_default (tupleKind (leafKind X.prog X.w)) a b hd fv) ⟨tupleKind_room_in1 hu, pkL k, vs, key_ofP I3.hok eb, dd, ?_⟩
    exact ⟨_, H3, I3.tok _, prv_get rel k rz, q3⟩
end
/-! ### as abstract values -/
section
variable {K : PySem.W.Frag} {H : Hp} {R : List Addr} {L : List En}
theorem Rel.isQ {kvs : List (Pk × Int)} {w : Option V} (h : Rel K H R ((.q kvs, w) :: L)) : ∃ D xs, w = some (.ref D) ∧ H D = some (PrO D xs) := by
  obtain ⟨fp, nd, ht, ho⟩ := h
  cases ho with
  | cons a t =>
    cases a with
    | q e h hk => exact ⟨_, _, rfl, h⟩
theorem dq_pair {G : Hp} {k : Pk} {y : V} (h : Dq G y (.tuple [oD k.1, oD k.2])) : ∃ b, y = .ref b ∧ G b = some (.tup (pkV k)) := by
  cases h with
  | tup e t =>
    cases t with
    | cons h1 t =>
      cases t with
      | cons h2 t =>
        cases t
        have e1 := Dq.scalV (oD_scal k.1) h1
        have e2 := Dq.scalV (oD_scal k.2) h2
        subst e1 e2
        refine ⟨_, rfl, ?_⟩
        rw [e]
        unfold pkV
        rw [oV_V, oV_V]
theorem Rel.seeQ {kvs : List (Pk × Int)} {w : Option V} {y : V} {k : Pk} (h : Rel K H R ((.d (.tuple [oD k.1, oD k.2]), some y) :: (.q kvs, w) :: L)) : ∃ D xs b, w = some (.ref D) ∧ kvs = prK xs ∧ H D = some (PrO D xs) ∧ (∀ x ∈ xs, H x.2.1 = some (.tup (pkV x.1))) ∧ y = .ref b ∧ H b = some (.tup (pkV k)) ∧
    ∀ i, Rel K (upd H D (PrO D (putP xs k b i))) R ((.q (putQ kvs k i), some (.ref D)) :: L) := by
  obtain ⟨fp, nd, ht, ho⟩ := h
  cases ho with
  | cons a t =>
    cases a with
    | d hd =>
      cases t with
      | cons q t2 =>
        rename_i f2
        cases q with
        | q e h hk =>
          rename_i D xs
          obtain ⟨b, ey, eb⟩ := dq_pair hd
          have nd' : (R ++ ([D] ++ f2)).Nodup := nd
          have mD : D ∈ R ++ ([D] ++ f2) := List.mem_append_right _ (List.mem_append_left _ List.mem_cons_self)
          refine ⟨D, xs, b, rfl, e, h, fun x hx => hid_le _ _ (hk x hx), ey, hid_le _ _ eb, fun i => ⟨[D] ++ f2, nd', fun a ha => ?_, ?_⟩⟩
          · by_cases z : a = D
            · rw [z, upd_same]; exact fun q => nomatch q
            · rw [upd_ne z]; exact ht a ha
          · rw [hid_upd mD]
            refine .cons (.q (xs := putP xs k b i) (by rw [prK_put, e]) upd_same fun x hx => ?_) (OwnP.mono Gr.rfl _ _ (fun a ha => ?_) t2)
            · rcases putP_mem hx with ⟨z, hz, e1, e2⟩ | e1
              · rw [← e1, ← e2]; exact hk z hz
              · rw [e1]; exact eb
            · refine upd_ne fun z => ?_
              subst z
              have := (List.nodup_append.mp nd').2.1
              exact (List.nodup_append.mp this).2.2 a List.mem_cons_self a ha rfl
/-- a new one -/
theorem Rel.newQ {D : Addr} (hD : H D = none) (h : Rel K H R L) : Rel K (upd H D (PrO D [])) R ((.q [], some (.ref D)) :: L) := by
  obtain ⟨fp, nd, ht, ho⟩ := h
  have nD : D ∉ R ++ fp := fun m => by
    rcases List.mem_append.mp m with m | m
    · exact ht D m hD
    · exact OwnP.there _ _ ho D m hD
  have pp : (D :: (R ++ fp)).Perm (R ++ ([D] ++ fp)) := by
    show (D :: (R ++ fp)).Perm (R ++ (D :: fp))
    exact List.perm_middle.symm
  have nd' : (R ++ ([D] ++ fp)).Nodup := pp.nodup_iff.mp (List.nodup_cons.mpr ⟨nD, nd⟩)
  refine ⟨[D] ++ fp, nd', fun a ha => ?_, ?_⟩
  · rw [upd_ne fun z => nD (by rw [← z]; exact List.mem_append_left _ ha)]
    exact ht a ha
  · rw [hid_upd (pp.mem_iff.mp List.mem_cons_self), ← hid_iff (R := D :: (R ++ fp)) fun b => pp.mem_iff, hid_none hD]
    exact .cons (.q rfl upd_same fun x hx => by cases hx) (OwnP.mono Gr.rfl _ _ (fun a ha => upd_ne fun z => nD (by rw [← z]; exact List.mem_append_right _ ha)) ho)
end
def compQ (p : Pt) (cnd : Sl → M Bool) (ke ve : Sl → M O) (vs : List Nat) : List PyData → Sl → List (Pk × Int) → Option (List (Pk × Int) × Sl)
  | [], S, acc => some (acc, S)
  | d :: ds, S, acc => match bindP p d S with
    | none => none
    | some S1 => match cnd S1 with
      | some (.ok true, S2) => (match ke S2 with
        | some (.ok (.d (.tuple [x, y])), S3) => (match ve S3 with
          | some (.ok (.d (.int i)), S4) => (match lkD x, lkD y with
            | some a, some b => compQ p cnd ke ve vs ds (wipeS S4 vs) (putQ acc (a, b) i)
            | _, _ => none)
          | _ => none)
        | _ => none)
      | some (.ok false, S2) => compQ p cnd ke ve vs ds (wipeS S2 vs) acc
      | _ => none
def eQComp (src : Sl → M (List PyData)) (p : Pt) (cnd : Sl → M Bool) (ke ve : Sl → M O) (vs : List Nat) : Sl → M O := fun S => bnd (src S) fun ds S1 =>
  if ds.length ≤ LIM then (match compQ p cnd ke ve vs ds (wipeS S1 vs) [] with
    | some (kvs, S2) => some (.ok (.q kvs), wipeS S2 vs)
    | none => none) else none
theorem putQ_len {kvs : List (Pk × Int)} {k : Pk} {i : Int} : (putQ kvs k i).length ≤ kvs.length + 1 := by
  unfold putQ
  split
  · rw [List.length_map]; omega
  · rw [List.length_append]; exact Nat.le_refl _
section
variable {K : PySem.W.Frag} {Y : YX} {W : WX} {ws : List Nat} {g : TG} {p : Pt}
theorem se_qcomp {wi : TI} {src : Sl → M (List PyData)} {tt : TT} {cnd : Sl → M Bool} {tk tv : TE} {ke ve : Sl → M O} {vs : List Nat} (hs : SIt K Y W wi src) (hg : SG K vs g p) (ht : ST K Y W0 tt cnd) (hk : SE K Y W0 tk ke) (he : SE K Y W0 tv ve) :
    SE K Y W (tLdG (fun D => PrO D []) PutP wi g tt tk tv vs) (eQComp src p cnd ke ve vs) := by
  intro R T S σ H Q out S' hl hf rel post
  rcases bnd_cases hf with ⟨e, e1, rfl⟩ | ⟨ds, S1, e1, e2⟩
  · exact hs R T S σ H _ _ _ hl e1 rel post
  · refine hs R T S σ H _ _ _ hl e1 rel fun hl1 J L0 H1 hJ rel1 => ?_
    split at e2
    · rename_i hlim
      cases qc : compQ p cnd ke ve vs ds (wipeS S1 vs) [] with
      | none => simp only [qc] at e2; cases e2
      | some q =>
        obtain ⟨os, S2⟩ := q
        simp only [qc] at e2
        cases e2
        intro D hD
        have qq := kept_wipe (kw vs σ)
        refine ⟨fun i m H' => m = ds.length - i ∧ i ≤ ds.length ∧ ∃ Si acc, Si.length = σ.length ∧ acc.length ≤ i ∧ compQ p cnd ke ve vs (ds.drop i) Si acc = some (os, S2) ∧
            Rel K H' R (L0 ++ (Si.zip (wipe σ vs) ++ ((.q acc, some (.ref D)) :: T))), ⟨ds.length, by simp, Nat.zero_le _, wipeS S1 vs, [], by rw [wipeS_len]; exact hl1, Nat.zero_le _, qc, ?_⟩, ?_⟩
        · have r1 : Rel K H1 R (S1.zip σ ++ (T ++ L0)) := rel1.rot3
          have r2 : Rel K H1 R ((wipeS S1 vs).zip (wipe σ vs) ++ (T ++ L0)) := Rel.wipes vs r1
          have r3 : Rel K (upd H1 D (PrO D [])) R ((.q [], some (.ref D)) :: ((wipeS S1 vs).zip (wipe σ vs) ++ (T ++ L0))) := r2.newQ hD
          exact Rel.rot3' (C := (.q [], some (.ref D)) :: T) r3.unmid
        · rintro i m H' ⟨rfl, hi, Si, acc, hli, hai, hco, reli⟩
          by_cases hlt : i < ds.length
          · have hd : ds[i]? = some ds[i] := List.getElem?_eq_getElem hlt
            have ed : ds.drop i = ds[i] :: ds.drop (i + 1) := List.drop_eq_getElem_cons hlt
            obtain ⟨hgo, hy⟩ := (hJ _ _ H' reli i).1 _ hd
            refine .inr ⟨hgo, fun H2 => ∃ Si acc, Si.length = σ.length ∧ acc.length ≤ i + 1 ∧ compQ p cnd ke ve vs (ds.drop (i + 1)) Si acc = some (os, S2) ∧
              Rel K H2 R (L0 ++ (Si.zip (wipe σ vs) ++ ((.q acc, some (.ref D)) :: T))), fun H2 h2 => ⟨ds.length - (i + 1), by omega, rfl, hlt, h2⟩, fun x H2 y2 => ?_⟩
            have r2 := hy x H2 y2
            rw [ed] at hco
            unfold compQ at hco
            cases qb : bindP p ds[i] Si with
            | none => rw [qb] at hco; cases hco
            | some Sb =>
              simp only [qb] at hco
              have r3 : Rel K H2 R ((.d ds[i], some x) :: (Si.zip (wipe σ vs) ++ (((.q acc, some (.ref D)) :: T) ++ L0))) := r2.perm (.cons _ (by
                rw [← List.append_assoc (Si.zip (wipe σ vs))]
                exact List.perm_append_comm))
              refine hg R _ Si Sb (wipe σ vs) H2 ds[i] x _ (by rw [wipe_length]; exact hli) qb r3 fun hlb σ3 k3 rel3 => ⟨(kept_wipe k3).trans qq, ?_⟩
              have lb : Sb.length = σ3.length := hlb.trans k3.1.symm
              have ew : wipe σ3 vs = wipe σ vs := (kept_wipe k3).trans qq
              have l3 : σ3.length = σ.length := k3.1.trans (wipe_length σ vs)
              cases qd : cnd Sb with
              | none => simp only [qd] at hco; cases hco
              | some z =>
                obtain ⟨eb, S4⟩ := z
                cases eb with
                | error e => simp only [qd] at hco; cases hco
                | ok b =>
                  refine ht R _ Sb σ3 H2 _ _ _ lb qd rel3 fun hl4 H4 rel4 => ?_
                  cases b with
                  | false =>
                    simp only [qd] at hco
                    rw [if_neg Bool.false_ne_true]
                    refine ⟨wipeS S4 vs, acc, by rw [wipeS_len]; exact hl4.trans l3, by omega, hco, ?_⟩
                    have r5 := Rel.wipes vs rel4
                    rw [ew] at r5
                    exact Rel.rot3' (C := (.q acc, some (.ref D)) :: T) r5
                  | true =>
                    simp only [qd] at hco
                    rw [if_pos rfl]
                    split at hco
                    · rename_i kx ky S5 qe
                      split at hco
                      · rename_i iv S6 qf
                        split at hco
                        · rename_i a' b' ha' hb'
                          have ea := lkD_eq ha'
                          have eb := lkD_eq hb'
                          subst ea eb
                          refine hk R _ S4 σ3 H4 _ _ _ hl4 qe rel4 fun hl5 y H5 rel5 => ?_
                          have rel5' : Rel K H5 R (S5.zip σ3 ++ ((.d (.tuple [oD a', oD b']), some y) :: ((.q acc, some (.ref D)) :: T ++ L0))) := rel5.unmid
                          refine he R _ S5 σ3 H5 _ _ _ hl5 qf rel5' fun hl6 z H6 rel6 => ?_
                          have ez := scal_head (x := .int iv) rfl rel6
                          have r7 : Rel K H6 R ((.d (.tuple [oD a', oD b']), some y) :: (S6.zip σ3 ++ ((.q acc, some (.ref D)) :: (T ++ L0)))) := rel6.drop.mid
                          have r8 : Rel K H6 R ((.d (.tuple [oD a', oD b']), some y) :: (.q acc, some (.ref D)) :: (S6.zip σ3 ++ (T ++ L0))) := r7.perm (.cons _ List.perm_middle)
                          obtain ⟨D', xs, b, eD, ek, hDa, hks, ey, hb, r9⟩ := Rel.seeQ (k := (a', b')) r8
                          cases eD
                          subst ez
                          have hlx : xs.length = acc.length := by rw [ek, prK, List.length_map]
                          refine ⟨xs, (a', b'), b, iv, ey, rfl, hDa, hks, hb, LIM_lt (by omega), wipeS S6 vs, putQ acc (a', b') iv, by rw [wipeS_len]; exact hl6.trans l3, by have := putQ_len (kvs := acc) (k := (a', b')) (i := iv); omega, hco, ?_⟩
                          have r11 : Rel K (upd H6 D (PrO D (putP xs (a', b') b iv))) R (S6.zip σ3 ++ ((.q (putQ acc (a', b') iv), some (.ref D)) :: (T ++ L0))) := (r9 iv).unmid
                          have r12 := Rel.wipes vs r11
                          rw [ew] at r12
                          exact Rel.rot3' (C := (.q (putQ acc (a', b') iv), some (.ref D)) :: T) r12
                        · cases hco
                      · cases hco
                    · cases hco
          · have e : i = ds.length := by omega
            subst e
            rw [List.drop_length] at hco
            have hco' : some (acc, Si) = some (os, S2) := hco
            cases hco'
            refine .inl ⟨(hJ _ _ H' reli _).2 (Nat.le_refl _), ?_⟩
            have r1 : Rel K H' R (S2.zip (wipe σ vs) ++ ((.q os, some (.ref D)) :: T)) := reli.drops
            have r2 := Rel.unwipes vs r1
            exact post (by rw [wipeS_len]; exact hli) _ H' r2.mid
    · cases e2
/-- d.get((a, b), z) of the dict in slot i -/
def eQGet (i : Nat) (fk fe : Sl → M O) : Sl → M O := fun S => match S.getD i .no with
  | .q _ => bnd (fk S) fun k S1 => bnd (fe S1) fun o S2 => (match S2.getD i .no, k, o with
    | .q kvs, .d (.tuple [x, y]), .d (.int z) => (match lkD x, lkD y with
      | some a, some b => some (.ok (.d (.int ((lookQ kvs (a, b)).getD z))), S2)
      | _, _ => none)
    | _, _, _ => none)
  | _ => none
theorem se_qget {i : Nat} {tk tz : TE} {fk fe : Sl → M O} (hk : SE K Y W tk fk) (hz : SE K Y W tz fe) : SE K Y W (tPrGet (tVar i) tk tz) (eQGet i fk fe) := by
  intro R T S σ H Q out S' hl hf rel post
  unfold eQGet at hf
  split at hf
  · rename_i kv0 hS
    obtain ⟨x, hx⟩ := slot_val (i := i) hl (by rw [hS]; rfl) rel
    have r0 := rel.take (by rw [getD_some (lt_of_slot hl hx), hS]) hx
    obtain ⟨D, xs, ex, hD⟩ := r0.isQ
    cases ex
    refine ⟨_, hx, D, xs, rfl, hD, ?_⟩
    rcases bnd_cases hf with ⟨e, e1, rfl⟩ | ⟨k, S1, e1, e2⟩
    · exact hk R T S σ H _ _ _ hl e1 rel fun hl' => post hl'
    · refine hk R T S σ H _ _ _ hl e1 rel fun hl1 y H1 rel1 => ?_
      have rel1' : Rel K H1 R (S1.zip σ ++ ((k, some y) :: T)) := rel1.unmid
      rcases bnd_cases e2 with ⟨e, e3, rfl⟩ | ⟨o, S2, e3, e4⟩
      · exact hz R _ S1 σ H1 _ _ _ hl1 e3 rel1' fun hle cls dd H' hy r => post hle cls dd H' hy r.mid.drop
      · refine hz R _ S1 σ H1 _ _ _ hl1 e3 rel1' fun hl2 z H2 rel2 => ?_
        split at e4
        · rename_i kvs kx ky zz hS2
          split at e4
          · rename_i a b ha hb
            have ea := lkD_eq ha
            have eb := lkD_eq hb
            subst ea eb
            cases e4
            have ez := scal_head (x := .int zz) rfl rel2
            subst ez
            have r3 : Rel K H2 R (List.zip S' σ ++ ((.d (.tuple [oD a, oD b]), some y) :: T)) := rel2.drop
            have r4 := r3.take (by rw [getD_some (lt_of_slot hl2 hx), hS2]) hx
            have r5 : Rel K H2 R ((.d (.tuple [oD a, oD b]), some y) :: (.q kvs, some (.ref D)) :: ((List.set S' i .no).zip σ ++ T)) := by
              refine r4.perm ?_
              have e1 : (.q kvs, some (.ref D)) :: ((List.set S' i .no).zip σ ++ ((.d (.tuple [oD a, oD b]), some y) :: T)) = ((.q kvs, some (.ref D)) :: (List.set S' i .no).zip σ) ++ ((O.d (.tuple [oD a, oD b]), some y) :: T) := rfl
              rw [e1]
              exact List.perm_middle
            obtain ⟨D', xs', bb, eD, ek, hDa, hks, ey, hbb, _⟩ := Rel.seeQ (k := (a, b)) r5
            cases eD
            refine ⟨xs', (a, b), bb, hDa, hks, ey, hbb, ?_⟩
            have ev : (match lookQ (prK xs') (a, b) with | some i => V.int i | none => V.int zz) = V.int ((lookQ kvs (a, b)).getD zz) := by
              rw [← ek]
              cases lookQ kvs (a, b) <;> rfl
            have ev2 : (match lookQ (prK xs') (a, b) with | some i => V.int i | none => toV (PyData.int zz)) = V.int ((lookQ kvs (a, b)).getD zz) := ev
            rw [ev2]
            exact post hl2 _ H2 ((r3.mid.drop).addS (x := .int ((lookQ kvs (a, b)).getD zz)) rfl)
          · cases e4
        · cases e4
  · cases hf
end
section
variable {X : Cx} {Y : YX} {W : WX} {ws : List Nat} {pos : Pos} {scope : Scope} {own : List (Str × Nat)} {kx vx tg iter : Expr} {ifs : List Expr} {cnd : Sl → M Bool} {ke ve : Sl → M O} {src : Sl → M (List PyData)} {pt : Pt}
theorem os_setQComp {i k : Nat} {y : Str} {py spos : Pos} (hr : RG k X.A) (hc : X.calm = true) (hN : X.N.Nodup) (hy : X.N[i]? = some y) (hyl : X.env.scope.names.lookup y = some .local) (hw : i ∈ ws)
    (hsw : swapsWith (.DictComp kx vx [⟨tg, iter, ifs, 0⟩] scope pos) (some (.Name y py)) spos.line X.env = pure true) (hi : OkI X Y W tg iter src) (ok : BlkOk X.N X.env.scope scope own)
    (hg : ∀ (s : Shared) (H : Hp) (C : Addr) (cl : List (Str × Addr)) (fp : List Addr), OkG (X.blk s H scope (compEnvC scope cl C X.env) fp) (own.map (·.2)) tg pt) (ht : ∀ (s : Shared) (H : Hp) (C : Addr) (cl : List (Str × Addr)) (fp : List Addr), OkTs (X.blk s H scope (compEnvC scope cl C X.env) fp) Y W0 ifs cnd)
    (hk : ∀ (s : Shared) (H : Hp) (C : Addr) (cl : List (Str × Addr)) (fp : List Addr), OkE (X.blk s H scope (compEnvC scope cl C X.env) fp) Y W0 kx ke)
    (he : ∀ (s : Shared) (H : Hp) (C : Addr) (cl : List (Str × Addr)) (fp : List Addr), OkE (X.blk s H scope (compEnvC scope cl C X.env) fp) Y W0 vx ve) (hs : ∀ x, foldedSetIterable iter X.env x = pure x := by intro _; rfl) :
    OkS X Y W ws (.Assign [.Name y py] (.DictComp kx vx [⟨tg, iter, ifs, 0⟩] scope pos) spos) (sSet i (eQComp src pt cnd ke ve (own.map (·.2)))) := by
  obtain ⟨wi, pi, si⟩ := hi
  exact ⟨_, ps_setLdG ldk_pair (by have := units64 hr; show X.A.units < cLine; omega) hc hN hy hyl hsw pi ok (fun s H C cl fp => pg_cG (hg s H C cl fp)) (fun s H C cl fp => pts_cT (ht s H C cl fp)) (fun s H C cl fp => pe_cE (hk s H C cl fp)) (fun s H C cl fp => pe_cE (he s H C cl fp)) hs, ss_set (se_qcomp si sg_cG st_cT se_cE se_cE) hw⟩
theorem oe_qget {i k : Nat} {x : Str} {p1 apos cpos : Pos} {e f : Expr} {fk fe : Sl → M O} (hr : RG k X.A) (ho : PE X (.Name x p1) (tVar i)) (hk : OkE X Y W e fk) (hf : OkE X Y W f fe) (m : M2 X (.Name x p1) "get" apos e f cpos := by exact ⟨rfl, rfl, rfl, rfl⟩) : OkE X Y W (.Call (.Attribute (.Name x p1) "get" apos) [e, f] [] cpos) (eQGet i fk fe) :=
  let ⟨_, q1, s1⟩ := hk
  let ⟨_, q2, s2⟩ := hf
  ⟨_, pe_prget (by have := units64 hr; omega) ho q1 q2 m, se_qget s1 s2⟩
end
end FT
/-! FT33: how many different items a list of None and ints has: len(set(xs)). -/
namespace FT
open PySem PySem.Spec PyProof.Rows
def metK {α : Type} [DecidableEq α] (l : List α) : Nat → List α
  | 0 => []
  | i + 1 => match l[i]? with
    | some x => if x ∈ metK l i then metK l i else metK l i ++ [x]
    | none => metK l i
theorem metK_len {α : Type} [DecidableEq α] (l : List α) : ∀ i, (metK l i).length ≤ i
  | 0 => Nat.le_refl _
  | i + 1 => by
    have ih := metK_len l i
    unfold metK
    split
    · split
      · omega
      · rw [List.length_append, List.length_singleton]; omega
    · omega
section
variable {prog : Program} {w : World} {α : Type} [DecidableEq α] {knd : KeyKind prog w α}
theorem setOf_cg {h : Heap} {a : Addr} {S S' : α → Bool} {n n' : Nat} (x : h.SetOf knd a S n) (e : ∀ k, S k = S' k) (en : n = n') : h.SetOf knd a S' n' := by
  have e1 : S = S' := funext e
  subst e1 en
  exact x
section
variable {A : Around} {R : Result → Shared → Prop} {I : Addr} {fp wr : List Addr} {G : Array GenState → Array GenState → Prop} {n : Nat} {P : Nat → Value → Prop} {St : Nat → Shared → Prop}
theorem setLoop (W : WalksS prog w A.in1 I fp wr G n P St) (S : Addr) (hSf : S ∉ fp) (l : List α)
    (hval : ∀ i v, P i v → ∃ x, l[i]? = some x ∧ knd.is x v = true ∧ v.scannable = true) (hb : n + 1 < scanBound) :
    ∀ (k i : Nat) (s : Shared), n - i = k → i ≤ n → St i s → s.heap.SetOf knd S (fun z => decide (z ∈ metK l i)) (metK l i).length →
      (∀ s', Moved (S :: wr) G s s' → s'.heap.SetOf knd S (fun z => decide (z ∈ metK l n)) (metK l n).length → R (.ok (.ret .none)) s') →
      codeAny (model prog w) A (.builtin "set.update.loop" ⟨[.ref S, .ref I], []⟩) R s := by
  have nw : S ∉ wr := fun h => hSf (W.sub _ h)
  have more : ∀ b ∈ wr, b ∈ S :: wr := fun b hb => List.mem_cons_of_mem _ hb
  intro k
  induction k with
  | zero =>
    intro i s hk hi hst hS hR
    obtain rfl : i = n := by omega
    refine codeAny_builtin PyProof.Rows.F.entry_set_update_loop ?_
    rw [Around.under_plainId PyProof.Rows.F.plain_set_update_loop _]
    show wpAny _ A.in1 (pyNext (.ref I) >>= _) _ _ s
    refine wpAny_bind (W.done s _ _ hst fun s' hm => ?_)
    show wpAny _ A.in1 (ret Value.none) _ _ s'
    obtain ⟨o, es, ep, t, ho, rest⟩ := hS
    exact wpAny_pure (hR s' (hm.mono more) ⟨o, es, ep, t, hm.heap S _ nw ho, rest⟩)
  | succ k ih =>
    intro i s hk hi hst hS hR
    have hlt : i < n := by omega
    refine codeAny_builtin PyProof.Rows.F.entry_set_update_loop ?_
    rw [Around.under_plainId PyProof.Rows.F.plain_set_update_loop _]
    show wpAny _ A.in1 (pyNext (.ref I) >>= _) _ _ s
    refine wpAny_bind (W.item i s _ _ hlt hst fun v s' hP hst' hm => ?_)
    obtain ⟨x, hx, hxv, hsc⟩ := hval i v hP
    have hS' : s'.heap.SetOf knd S (fun z => decide (z ∈ metK l i)) (metK l i).length := by
      obtain ⟨o, es, ep, t, ho, rest⟩ := hS
      exact ⟨o, es, ep, t, hm.heap S _ nw ho, rest⟩
    show wpAny _ A.in1 (holding [v] (setAdd S v) >>= _) _ _ s'
    refine wpAny_bind (wpAny_holding ?_)
    unfold setAdd
    refine wpAny_holding ?_
    refine wpAny_bind (knd.pyHash hxv ?_)
    have room : (metK l i).length + 1 < scanBound := by have := metK_len l i; omega
    refine wpAny_setAddHashed_of (knd := knd) (s := { s' with toks := s'.toks + 1 }) hxv hsc hS' room fun h' hsb hS2 => ?_
    have hSi : h'.SetOf knd S (fun z => decide (z ∈ metK l (i + 1))) (metK l (i + 1)).length := by
      refine setOf_cg hS2 (fun z => ?_) ?_
      · show (decide (z ∈ metK l i) || decide (z = x)) = decide (z ∈ metK l (i + 1))
        rw [metK, hx]
        show _ = decide (z ∈ if x ∈ metK l i then metK l i else metK l i ++ [x])
        by_cases q : x ∈ metK l i
        · rw [if_pos q]
          by_cases q2 : z = x
          · rw [q2, decide_eq_true q]; rfl
          · rw [decide_eq_false q2, Bool.or_false]
        · rw [if_neg q]
          simp [List.mem_append]
      · rw [metK, hx]
        show (if decide (x ∈ metK l i) = true then (metK l i).length else (metK l i).length + 1) = (if x ∈ metK l i then metK l i else metK l i ++ [x]).length
        by_cases q : x ∈ metK l i
        · rw [if_pos q, if_pos (decide_eq_true q)]
        · rw [if_neg q, if_neg (by simpa using q), List.length_append, List.length_singleton]
    refine wpAny_pure ⟨plainId_quiet PyProof.Rows.F.plain_set_update_loop _, ih (i + 1) _ (by omega) hlt (W.frame _ s' _ _ hst' (Nat.le_succ _) fun b hb o e => ?_) hSi fun s'' hm'' hS'' => ?_⟩
    · rw [hsb.2 b (fun h : b = S => hSf (by rw [← h]; exact hb))]; exact e
    · refine hR s'' (Moved.trans W.gtrans ((hm.mono more).then_heap (Nat.le_succ _) fun b o hb e => ?_) hm'') hS''
      rw [hsb.2 b (fun h : b = S => hb (by rw [h]; exact List.mem_cons_self))]; exact e
end
end
end FT
namespace PySem
open FT
section
variable {prog : Program} {w : World} {A : Around} {E : Value → Shared → Prop} {s : Shared} {α : Type} [DecidableEq α] {knd : KeyKind prog w α}
theorem call_set_any {l : Addr} {items : Array Value} {xs : List α} {Q : Value → Shared → Prop}
    (hh : A.handled = none) (hl : s.heap.IsList l items) (hi : ∀ (i : Nat) (v : Value), items[i]? = some v → ∃ x, xs[i]? = some x ∧ knd.is x v = true ∧ v.scannable = true) (hb : items.size + 1 < scanBound)
    (h : ∀ (h' : Heap) (tk : Nat), h'.SetOf knd s.heap.objs.size (fun z => decide (z ∈ metK xs items.size)) (metK xs items.size).length →
      (∀ b o, b < s.heap.objs.size → s.heap.get? b = some o → h'.get? b = some o) → Q (.ref s.heap.objs.size) { s with heap := h', toks := tk }) :
    wpAny (model prog w) A (call (.type "set") [.ref l]) Q E s := by
  obtain ⟨c, tl, hmro⟩ := F.called_set.mro
  have hmade := F.called_set.made
  have hsub := F.called_set.sub
  refine wpAny_call (codeAny_of_tree ?_)
  show wpAny _ _ (callAny (.type "set") _) _ _ _
  refine wpAny_pure ⟨Code.quiet_builtin _ (by decide +kernel), codeAny_builtin F.entry_type_call ?_⟩
  rw [Around.under_plain (weight_type_call_type "set" [.ref l] []) rfl]
  have h1 := F.called_set.notType
  have h2 := F.called_set.canCreate
  have hct := F.typeCall_set_1 (.ref l)
  repeat (any_goals (first | assumption | wp_step))
  refine codeAny_mono (code_set_new_1 (.ref l) (E := E) (Q₁ := fun obj s₁ => ∃ led : Bool, obj = .ref s.heap.objs.size ∧ s₁ = { s with heap := s.heap.push { cls := .type "set", dict := none, data := .set #[] 0 (.fresh 0 0 led) } }) fun led => ⟨led, rfl, rfl⟩) fun r s₁ hr => ?_
  cases r with
  | error e => exact hr
  | ok fl =>
    cases fl with
    | ret obj =>
      obtain ⟨led, rfl, rfl⟩ := hr
      have hS : (s.heap.push { cls := .type "set", dict := none, data := .set #[] 0 (.fresh 0 0 led) }).get? s.heap.objs.size = some { cls := .type "set", dict := none, data := .set #[] 0 (.fresh 0 0 led) } := Heap.get?_push_size _ rfl
      have hT : Shared.TypeIs { s with heap := s.heap.push { cls := .type "set", dict := none, data := .set #[] 0 (.fresh 0 0 led) } } (.ref s.heap.objs.size) "set" := ⟨_, hS, rfl⟩
      have hli := F.called_set.init.lookup
      have hbi := F.called_set.init.bind (.ref s.heap.objs.size)
      repeat (any_goals (first | assumption | wp_step))
      refine codeAny_mono (codeAny_call_builtin (R := wants (fun r s₂ => r = .none ∧ ∃ h' tk, s₂ = { s with heap := h', toks := tk } ∧
          h'.SetOf knd s.heap.objs.size (fun z => decide (z ∈ metK xs items.size)) (metK xs items.size).length ∧
          (∀ b o, b < s.heap.objs.size → s.heap.get? b = some o → h'.get? b = some o)) E) F.called_set.init.plain F.entry_set_init (check_set_init_1 hT ?_)) fun r₂ s₂ hr₂ => ?_
      · obtain ⟨ol, hol, hcl, nl, hdl⟩ := hl
        obtain ⟨ocls, odict, odata, oslots⟩ := ol
        simp only at hcl hdl
        subst hcl; subst hdl
        have hol' : (s.heap.push { cls := .type "set", dict := none, data := .set #[] 0 (.fresh 0 0 led) }).get? l = some { cls := .type "list", dict := odict, data := .seq items nl, slots := oslots } := Heap.get?_push_of_some _ hol
        have hsls := F.sub_list_set
        have hslf := F.sub_list_frozenset
        have hne : (Value.type "list" == Value.type "dict") = false := by decide
        have hl1 : (s.heap.push { cls := .type "set", dict := none, data := .set #[] 0 (.fresh 0 0 led) }).IsList l items := ⟨_, hol', rfl, nl, rfl⟩
        unfold Builtin.«set.__init__» noKeywords Builtin.Frozenset.updateFrom
        generalize hPI : pyIter = PI
        wp_walk
        subst hPI
        refine wpAny_pyIter_list hl1 ?_
        refine wpAny_bind (wpAny_runValue ?_)
        have hlS : l < s.heap.objs.size := Heap.lt_size hol
        have hh3 : A.in1.in1.in1.handled = none := by simp [hh]
        have hneI : l ≠ (s.heap.push { cls := .type "set", dict := none, data := .set #[] 0 (.fresh 0 0 led) }).objs.size := by
          rw [Heap.size_push]; exact Nat.ne_of_lt (Nat.lt_succ_of_lt hlS)
        have hSf : s.heap.objs.size ∉ [(s.heap.push { cls := .type "set", dict := none, data := .set #[] 0 (.fresh 0 0 led) }).objs.size, l] := by
          rw [Heap.size_push]; simp only [List.mem_cons, List.mem_singleton, List.not_mem_nil, or_false, not_or]
          exact ⟨Nat.ne_of_lt (Nat.lt_succ_self _), Nat.ne_of_gt hlS⟩
        refine setLoop (knd := knd) ((Walks.list hh3 _ l hneI items).toS) s.heap.objs.size
          hSf xs hi hb (items.size - 0) 0 _ (by omega) (Nat.zero_le _)
          ⟨⟨_, Heap.get?_push_size _ rfl, rfl, rfl⟩, (hl1.push _)⟩ ?hS0 ?hR
        case hS0 =>
          have hget : ((s.heap.push { cls := .type "set", dict := none, data := .set #[] 0 (.fresh 0 0 led) }).push { cls := .type "list_iterator", data := .fields #[.ref l, .int 0 0] }).get? s.heap.objs.size
              = some { cls := .type "set", dict := none, data := .set #[] 0 (.fresh 0 0 led) } := Heap.get?_push_of_some _ hS
          exact setOf_cg ((PyProof.Rows.setObjOf_fresh (knd := knd) led).setOf hget (by unfold scanBound; omega)) (fun z => by simp [metK]) rfl
        case hR =>
          intro s' hm hS'
          obtain ⟨h', g', d', tk', os'⟩ := s'
          have eg : g' = s.gens := hm.gens
          have ed : d' = s.drawn := hm.drawn
          have eo : os' = s.os := hm.os
          subst eg; subst ed; subst eo
          show wpAny _ _ _ _ _ _
          refine wpAny_pure ?_
          show wpAny _ _ (ret Value.none) _ _ _
          refine wpAny_pure ⟨rfl, h', tk', rfl, hS', fun b o hb e => ?_⟩
          have hb1 : b ≠ s.heap.objs.size := Nat.ne_of_lt hb
          have hb2 : b ≠ (s.heap.push { cls := .type "set", dict := none, data := .set #[] 0 (.fresh 0 0 led) }).objs.size := by
            rw [Heap.size_push]; exact Nat.ne_of_lt (Nat.lt_succ_of_lt hb)
          exact hm.heap b o (by simp only [List.mem_cons, List.mem_singleton, List.not_mem_nil, or_false, not_or]; exact ⟨hb1, hb2⟩) (Heap.get?_push_of_some _ (Heap.get?_push_of_some _ e))
      · cases r₂ with
        | error e => exact hr₂
        | ok fl₂ =>
          cases fl₂ with
          | ret r =>
            obtain ⟨rfl, h', tk, rfl, hS', hk'⟩ := hr₂
            repeat (any_goals (first | assumption | wp_step))
            exact h _ _ hS' hk'
          | _ => exact hr₂.elim
    | _ => exact hr.elim
end
end PySem
namespace FT
open PySem PySem.Spec PyProof.Rows L2
theorem oV_scan {k : Option Int} {u : Value} (r : RelV (oV k) u) : u.scannable = true := by
  cases k with
  | none => cases (show u = Value.none from r); rfl
  | some i => obtain ⟨t, rfl⟩ := (show ∃ t, u = Value.int i t from r); rfl
def tLenSetN (K : PySem.W.Frag) (ta : TE) : TE := fun σ H Q => ta σ H fun x H1 => ∃ (l : Addr) (ks : List (Option Int)), x = .ref l ∧ SqL K H1 l (ks.map oV) ∧ ks.length ≤ 4000 ∧ Q (.int (metK (ks.map lfK) ks.length).length) H1
theorem pe_lenSetN {X : Cx} {a : Expr} {ta : TE} {p p2 q pos : Pos} (hg : Gl X "len") (hm : X.mg "len" = none) (hg2 : Gl X "set") (hm2 : X.mg "set" = none) (ha : PE X a ta) (hc : X.calm = true := by rfl)
    (na : starEach [a] X.env = (false, eval a X.env) :: starEach [] X.env := by rfl) : PE X (.Call (.Name "len" p) [.Call (.Name "set" p2) [a] [] q] [] pos) (tLenSetN X.K ta) := by
  refine ⟨fun pins s σ H Q I h => ?_⟩
  refine Call_ (ld_blt I hg hm boot_len ?_)
  refine PyProof.Rows.callWith_builtin1 (PyProof.Rows.args_cons ?_ rfl) rfl rfl
  refine Call_ (ld_blt I hg2 hm2 boot_set ?_)
  refine PyProof.Rows.callWith_type1 (PyProof.Rows.args_cons (thn (ha.run pins s σ H _ I h) fun v s1 ⟨x, H1, I1, r1, q1⟩ => PyProof.Rows.args_nil ?_) na) na rfl
  obtain ⟨l, ks, rfl, hq, hl, q1⟩ := q1
  cases r1
  obtain ⟨its, r, pl, hz⟩ := I1.list hq
  have hlen : its.toArray.size = ks.length := by rw [List.size_toArray, ← r.length, List.length_map]
  refine call_set_any (knd := leafKind X.prog X.w) (xs := ks.map lfK) (I1.ok.hd hc) pl.isList (fun i v hv => ?_) (by rw [hlen]; unfold scanBound; omega) fun h' tk hS hk => ?_
  · have hi : i < ks.length := by
      have := (Array.getElem?_eq_some_iff.mp hv).1
      omega
    obtain ⟨u, hu, ru⟩ := r.get (i := i) (x := oV ks[i]) (by simp [hi])
    have e : u = v := by
      have hv' : its[i]? = some v := by simpa using hv
      rw [hu] at hv'
      exact Option.some.inj hv'
    subst e
    refine ⟨lfK ks[i], by simp [hi], ?_, oV_scan ru⟩
    rw [oV_lf] at ru
    exact lfV_is ru
  · refine PyProof.Rows.args_nil ?_
    rw [hlen] at hS
    have hml := metK_len (ks.map lfK) ks.length
    obtain ⟨o, es, ep, t, ho, hex, hd, _, _, _, hf, hn⟩ := hS
    have I2 : Inv X pins σ H1 { s1 with heap := h', toks := tk } := I1.kept fun b o e => hk b o (Heap.lt_size e) e
    exact call_len_set ho hex hd hf (by rw [hn] <;> omega) ⟨.int (metK (ks.map lfK) ks.length).length, H1, I2.tok _, ⟨_, by rw [hn]⟩, q1⟩
end FT
/-! FT34: len(set(xs)) in the layer. -/
namespace FT
open PySem PySem.Spec PyProof.Rows L2
def gLenSet : Fn := fun os => match os with
  | [o] => (match lsOf o with
    | some ds => (match ds.mapM lkD with
      | some ks => if ks.length ≤ 4000 then some (.ok (.d (.int (metK (ks.map lfK) ks.length).length)), [nrm o]) else none
      | none => none)
    | none => none)
  | _ => none
theorem mapM_lkD : ∀ {ds : List PyData} {ks : List (Option Int)}, ds.mapM lkD = some ks → ds = ks.map oD
  | [], ks, h => by
    have h : some [] = some ks := h
    cases h
    rfl
  | d :: ds, ks, h => by
    rw [List.mapM_cons] at h
    cases q : lkD d with
    | none => rw [q] at h; cases h
    | some k =>
      rw [q] at h
      cases q2 : ds.mapM lkD with
      | none => rw [q2] at h; cases h
      | some ks' =>
        rw [q2] at h
        have h : some (k :: ks') = some ks := h
        cases h
        rw [List.map_cons, ← lkD_eq q, ← mapM_lkD q2]
theorem mapM_oD : ∀ ks : List (Option Int), (ks.map oD).mapM lkD = some ks
  | [] => rfl
  | k :: ks => by
    rw [List.map_cons, List.mapM_cons, lkD_oD, mapM_oD ks]
    rfl
theorem scal_all : ∀ ks : List (Option Int), (ks.map oD).all scal1 = true
  | [] => rfl
  | k :: ks => by
    rw [List.map_cons, List.all_cons, oD_scal, scal_all ks]
    rfl
section
variable {K : PySem.W.Frag} {Y : YX}
theorem fr_lenSet : FR K Y (rx1 fun x H Q => ∃ (l : Addr) (ks : List (Option Int)), x = .ref l ∧ SqL K H l (ks.map oV) ∧ ks.length ≤ 4000 ∧ Q (.int (metK (ks.map lfK) ks.length).length) H) gLenSet := by
  intro R L vs os os' H Q E out hl hg rel post
  unfold gLenSet at hg
  split at hg
  · rename_i o
    obtain ⟨v, rfl⟩ := one_v hl
    split at hg
    · rename_i ds h1
      split at hg
      · rename_i ks hks
        split at hg
        · rename_i hlim
          cases hg
          have r0 : Rel K H R ((o, some v) :: L) := rel
          obtain ⟨p, xs, rfl, hp, el, hd, r1⟩ := r0.nrm h1
          have ed := mapM_lkD hks
          have ex : xs = ks.map oV := by
            rw [ed] at hd
            rw [DqL.scal (scal_all ks) hd, List.map_map]
            exact List.map_congr_left fun k _ => oV_V k
          refine ⟨p, ks, rfl, by rw [← ex]; exact SqL.of hp, hlim, ?_⟩
          have r2 : Rel K H R ((nrm o, some (.ref p)) :: L) := r1.drops
          exact post rfl _ H (r2.addS (x := .int (metK (ks.map lfK) ks.length).length) rfl)
        · cases hg
      · cases hg
    · cases hg
  · cases hg
end
section
variable {X : Cx} {Y : YX} {W : WX} {a : Expr} {ra : Ar} {p p2 q pos : Pos}
theorem oe_lenSet (ha : OkR X Y W a ra) (hm : X.mg "len" = none) (hm2 : X.mg "set" = none) (hg : Gl X "len" := by rfl) (hg2 : Gl X "set" := by rfl) (hc : X.calm = true := by rfl)
    (na : starEach [a] X.env = (false, eval a X.env) :: starEach [] X.env := by rfl) : OkE X Y W (.Call (.Name "len" p) [.Call (.Name "set" p2) [a] [] q] [] pos) (eApp gLenSet [ra]) :=
  let ⟨_, q1, s1⟩ := ha
  ⟨_, pe_lenSetN hg hm hg2 hm2 q1 hc na, by unfold tLenSetN; exact se_app1 s1 fr_lenSet⟩
end
/-! ### is not of truth values -/
def dNotB : List PyData → Option PyData
  | [.bool a, .bool b] => some (.bool (!decide (a = b)))
  | _ => none
def cNotB : Fn := fnD dNotB
section
variable {X : Cx} {Y : YX} {W : WX} {a b : Expr} {ra rb : Ar} {pos : Pos}
theorem fr_notB {K : PySem.W.Frag} : FR K Y (rx2 rNotB) cNotB := fr_data
  (fun ds x h => by
    unfold dNotB at h
    split at h
    · cases h; rfl
    · cases h)
  fun vs ds x H Q E hd hg q => by
    unfold dNotB at hg
    split at hg
    · cases hg
      obtain ⟨v, u, rfl, a, b⟩ := dql2 hd
      cases a; cases b
      exact ⟨_, _, rfl, rfl, q⟩
    · cases hg
theorem oe_notB (ha : OkR X Y W a ra) (hb : OkR X Y W b rb) : OkE X Y W (.Compare a [.IsNot] [b] pos) (eApp cNotB [ra, rb]) := oe_cmp op_notBl fr_notB ha hb (nomark _)
theorem ot_notB (ha : OkR X Y W a ra) (hb : OkR X Y W b rb) : OkT X Y W (.Compare a [.IsNot] [b] pos) (tVal (eApp cNotB [ra, rb])) := ot_cmp op_notBl fr_notB ha hb (nomark _)
end
/-! ### a dict of pairs that a comprehension makes, as an expression -/
section
variable {X : Cx} {Y : YX} {W : WX} {pos : Pos} {scope : Scope} {own : List (Str × Nat)} {kx vx tg iter : Expr} {ifs : List Expr} {cnd : Sl → M Bool} {ke ve : Sl → M O} {src : Sl → M (List PyData)} {pt : Pt} {k : Nat}
theorem oe_qcomp (hr : RG k X.A) (hc : X.calm = true) (hN : X.N.Nodup) (hi : OkI X Y W tg iter src) (ok : BlkOk X.N X.env.scope scope own)
    (hg : ∀ (s : Shared) (H : Hp) (C : Addr) (cl : List (Str × Addr)) (fp : List Addr), OkG (X.blk s H scope (compEnvC scope cl C X.env) fp) (own.map (·.2)) tg pt) (ht : ∀ (s : Shared) (H : Hp) (C : Addr) (cl : List (Str × Addr)) (fp : List Addr), OkTs (X.blk s H scope (compEnvC scope cl C X.env) fp) Y W0 ifs cnd)
    (hk : ∀ (s : Shared) (H : Hp) (C : Addr) (cl : List (Str × Addr)) (fp : List Addr), OkE (X.blk s H scope (compEnvC scope cl C X.env) fp) Y W0 kx ke)
    (he : ∀ (s : Shared) (H : Hp) (C : Addr) (cl : List (Str × Addr)) (fp : List Addr), OkE (X.blk s H scope (compEnvC scope cl C X.env) fp) Y W0 vx ve) (hs : ∀ x, foldedSetIterable iter X.env x = pure x := by intro _; rfl) :
    OkE X Y W (.DictComp kx vx [⟨tg, iter, ifs, 0⟩] scope pos) (eQComp src pt cnd ke ve (own.map (·.2))) := by
  obtain ⟨wi, pi, si⟩ := hi
  exact ⟨_, pe_ldG ldk_pair (by have := units64 hr; show X.A.units < cLine; omega) hc hN pi ok (fun s H C cl fp => pg_cG (hg s H C cl fp)) (fun s H C cl fp => pts_cT (ht s H C cl fp)) (fun s H C cl fp => pe_cE (hk s H C cl fp)) (fun s H C cl fp => pe_cE (he s H C cl fp)) hs, se_qcomp si sg_cG st_cT se_cE se_cE⟩
end
end FT
/-! FT35: plain lemmas that many laws ask for. -/
namespace FT
open PySem
theorem seq_rt {f g : Sl → MS} {S S1 : Sl} {o : O} (h : f S = some (.ok (.rt o), S1)) : sSeq f g S = some (.ok (.rt o), S1) := by
  show bnd (f S) _ = _
  rw [h]
theorem if_t {c : Sl → M Bool} {f g : Sl → MS} {S S1 : Sl} (h : c S = some (.ok true, S1)) : sIf c f g S = f S1 := by
  show bnd (c S) _ = _
  rw [h]
  rfl
theorem if_f {c : Sl → M Bool} {f g : Sl → MS} {S S1 : Sl} (h : c S = some (.ok false, S1)) : sIf c f g S = g S1 := by
  show bnd (c S) _ = _
  rw [h]
  rfl
theorem tVal_at {f : Sl → M O} {S S1 : Sl} {b : Bool} (h : f S = some (.ok (.d (.bool b)), S1)) : tVal f S = some (.ok b, S1) := by
  show bnd (f S) _ = _
  rw [h]
theorem tN_at {c : Sl → M Bool} {S S1 : Sl} {b : Bool} (h : c S = some (.ok b, S1)) : tN c S = some (.ok (!b), S1) := by
  show bnd (c S) _ = _
  rw [h]
theorem tO_f {c d : Sl → M Bool} {S S1 : Sl} (h : c S = some (.ok false, S1)) : tO c d S = d S1 := by
  show bnd (c S) _ = _
  rw [h]
  rfl
theorem li_er {o : O} {ds : List PyData} (h : Li o ds) : er o = some (.list ds) := by
  rcases h with rfl | rfl
  · exact er_dl _
  · exact er_d _
theorem rev_f {g : Fn} {os os' : List O} {r : O} (h : g os = some (.ok r, os')) : revF false g os = some (.ok r, os') := by
  show (match g os with
    | some (out, os') => some (out, os')
    | none => none) = _
  rw [h]
theorem app_ed {G : Fn} {fa : Sl → M O} {i : Nat} {S S1 : Sl} {a r a' : O} {x : PyData} (h1 : fa S = some (.ok a, S1)) (hS : S1.getD i .no = .d x) (h : G [a, .d x] = some (.ok r, [a', .d x])) : eApp G [.e fa, .v i] S = some (.ok r, S1) := by
  have hS2 : S1[i]?.getD .no = .d x := by rw [← List.getD_eq_getElem?_getD]; exact hS
  simp [ap_app, ar_e, ar_v, ar_nil, h1, hS2, grab, back, h]
theorem ne_str (s : Str) : cNe [.d (.str s), .d (.str s)] = some (.ok (.d (.bool false)), [.d (.str s), .d (.str s)]) := by
  unfold cNe
  rw [fn2, dNe_self]
theorem name_er {i : Nat} {S : Sl} {o : O} {x : PyData} (hS : S[i]? = some o) (ho : er o = some x) : eName i S = some (.ok (.d x), S.set i (.d x)) := by
  have hd : S.getD i .no = o := by rw [List.getD_eq_getElem?_getD, hS]; rfl
  cases o with
  | no => cases ho
  | fz ns => cases ho
  | m kv => cases ho
  | s t => cases ho
  | i c t => cases ho
  | n kv => cases ho
  | j c t u => cases ho
  | q kv => cases ho
  | g kv => cases ho
  | fr P fp => cases ho
  | x a => cases ho
  | d y =>
    cases ho
    rw [FT.set_self hS, ap_nameK, hd]
    rfl
  | l ps =>
    have hx' : (ers ps).map PyData.list = some x := by rw [← er_l]; exact ho
    cases q : ers ps with
    | none => rw [q] at hx'; cases hx'
    | some dp =>
      rw [q] at hx'
      cases hx'
      rw [ap_nameK, hd]
      show (match ers ps with
        | some ds => some (Except.ok (O.d (.list ds)), S.set i (.d (.list ds)))
        | none => none) = _
      rw [q]
theorem ar_c {fa : Sl → M O} {as : List Ar} {S S1 S2 : Sl} {a : O} {hs : List Hd} (h1 : fa S = some (.ok a, S1)) (h2 : argsE as S1 = some (.ok hs, S2)) : argsE (.e fa :: as) S = some (.ok (.inr a :: hs), S2) := by
  show bnd (fa S) _ = _
  rw [h1]
  show bnd (argsE as S1) _ = _
  rw [h2]
theorem grab_inr : ∀ (os : List O) (S : Sl), grab (os.map Sum.inr) S = (os, S)
  | [], _ => rfl
  | o :: os, S => by
    show (o :: (grab (os.map Sum.inr) S).1, (grab (os.map Sum.inr) S).2) = _
    rw [grab_inr os S]
theorem back_inr : ∀ (os ps : List O) (S : Sl), back (os.map Sum.inr) ps S = S
  | [], _, _ => by cases ‹List O› <;> rfl
  | o :: os, [], S => rfl
  | o :: os, p :: ps, S => back_inr os ps S
theorem lst_args {as : List Ar} {S S2 : Sl} (os : List O) (h : argsE as S = some (.ok (os.map Sum.inr), S2)) (hl : os.length ≤ 1000) : eApp gLst as S = some (.ok (.l os), S2) := by
  show bnd (argsE as S) _ = _
  rw [h]
  show (match gLst (grab (os.map Sum.inr) S2).1 with
    | none => none
    | some (out, os') => some (out, back (os.map Sum.inr) os' (grab (os.map Sum.inr) S2).2)) = _
  rw [grab_inr, lst_at, if_pos (show os.length ≤ LIM by rw [LIM]; omega)]
  show some (Except.ok (O.l os), back (os.map Sum.inr) (nos os) S2) = _
  rw [back_inr]
theorem meth_li {G : Fn} {fb : Sl → M O} {i : Nat} {S : Sl} {o b r b' : O} {ds : List PyData} (hS : S[i]? = some o) (ho : Li o ds) (h2 : fb S = some (.ok b, S)) (h : G [o, b] = some (.ok r, [o, b'])) : eMeth G i [.e fb] S = some (.ok r, S) := by
  have hd : S.getD i .no = o := by rw [List.getD_eq_getElem?_getD, hS]; rfl
  rw [ap_meth, hd, if_pos (show isLs o = true by rcases ho with rfl | rfl <;> rfl)]
  exact app_ve' (by rw [hd]; exact li_isNo ho) h2 hS ho h
theorem add_ii (x y : Int) : gAdd [.d (.int x), .d (.int y)] = some (.ok (.d (.int (x + y))), [.d (.int x), .d (.int y)]) := by
  unfold gAdd
  rw [ap_orF, fn2]
  rfl
theorem appdD_ok {fe : Sl → M O} {S : Sl} {ds : List PyData} {i : Nat} {x : PyData} (hS : S[i]? = some (dl ds)) (h1 : fe S = some (.ok (.d x), S)) (h : ds.length < 1000) : sDo (eMeth gAppend i [.e fe]) S = some (.ok .nx, S.set i (dl (ds ++ [x]))) := by
  have hd : S.getD i .no = dl ds := by rw [List.getD_eq_getElem?_getD, hS]; rfl
  have hl : i < S.length := (List.getElem?_eq_some_iff.mp hS).1
  refine FT.do_at (a := .d .none) ?_
  rw [ap_meth, hd, if_pos (show isLs (dl ds) = true from rfl)]
  exact app_ve (by rw [hd]; rfl) h1 hl hd rfl (by rw [app_dl, if_pos (by rw [LIM]; omega)])
theorem app_od {G : Fn} {i j : Nat} {S : Sl} {o r b : O} {y : PyData} (hi : S[i]? = some o) (hn : isNo o = false) (hj : S[j]? = some (.d y)) (hij : i ≠ j) (h : G [o, .d y] = some (.ok r, [o, b])) : eApp G [.v i, .v j] S = some (.ok r, S) := by
  have hd : S.getD i .no = o := by rw [List.getD_eq_getElem?_getD, hi]; rfl
  have hj' : S.getD j .no = .d y := by rw [List.getD_eq_getElem?_getD, hj]; rfl
  have hl : i < S.length := (List.getElem?_eq_some_iff.mp hi).1
  rw [ap_app, ar_v, ar_v, ar_nil, hd, hj', hn]
  show (match G (grab [.inl i, .inl j] S).1 with
    | none => none
    | some (out, os') => some (out, back [.inl i, .inl j] os' (grab [.inl i, .inl j] S).2)) = _
  by_cases q : isD o = true
  · have eg : grab [.inl i, .inl j] S = ([o, .d y], S) := by
      simp [grab, ← List.getD_eq_getElem?_getD, hd, hj', q, show isD (.d y) = true from rfl]
    rw [eg, h]
    show some (Except.ok r, back [.inl i, .inl j] [o, b] S) = _
    have eb : back [.inl i, .inl j] [o, b] S = S := by
      show back [.inl j] [b] (if isNo (S.getD i .no) then S.set i o else S) = S
      rw [hd, hn]
      show (if isNo (S.getD j .no) then S.set j b else S) = S
      rw [hj']
      rfl
    rw [eb]
  · have q' : isD o = false := by simpa using q
    have hjs : (S.set i O.no).getD j .no = .d y := by
      rw [List.getD_eq_getElem?_getD, List.getElem?_set_ne hij, hj]
      rfl
    have eg : grab [.inl i, .inl j] S = ([o, .d y], S.set i .no) := by
      show ((S.getD i .no) :: (grab [.inl j] (if isD (S.getD i .no) then S else S.set i .no)).1, (grab [.inl j] (if isD (S.getD i .no) then S else S.set i .no)).2) = _
      rw [hd, q']
      show (o :: (grab [.inl j] (S.set i .no)).1, (grab [.inl j] (S.set i .no)).2) = _
      have : grab [.inl j] (S.set i .no) = ([.d y], S.set i .no) := by
        show ([(S.set i O.no).getD j .no], if isD ((S.set i O.no).getD j .no) then S.set i .no else (S.set i .no).set j .no) = _
        rw [hjs]
        rfl
      rw [this]
    rw [eg, h]
    show some (Except.ok r, back [.inl i, .inl j] [o, b] (S.set i .no)) = _
    have z : (S.set i O.no).getD i .no = .no := by
      rw [List.getD_eq_getElem?_getD, List.getElem?_set_self hl]; rfl
    have e1 : (S.set i O.no).set i o = S := by rw [List.set_set]; exact FT.set_self hi
    have eb : back [.inl i, .inl j] [o, b] (S.set i .no) = S := by
      show back [.inl j] [b] (if isNo ((S.set i O.no).getD i .no) then (S.set i O.no).set i o else S.set i .no) = S
      rw [z]
      show back [.inl j] [b] ((S.set i O.no).set i o) = S
      rw [e1]
      show (if isNo (S.getD j .no) then S.set j b else S) = S
      rw [hj']
      rfl
    rw [eb]
theorem app_de {G : Fn} {fb : Sl → M O} {i : Nat} {S S1 : Sl} {b r a' b' : O} {x y : PyData} (h0 : S[i]? = some (.d y)) (h2 : fb S = some (.ok b, S1)) (hS : S1[i]? = some (.d x)) (h : G [.d x, b] = some (.ok r, [a', b'])) : eApp G [.v i, .e fb] S = some (.ok r, S1) := by
  simp [ap_app, ar_v, ar_e, ar_nil, h0, h2, grab, back, hS, h]
theorem ii_sub (x y : Int) : fnD (dII fun i j => i - j) [.d (.int x), .d (.int y)] = some (.ok (.d (.int (x - y))), [.d (.int x), .d (.int y)]) := by rw [fn2]; rfl
theorem app_od2 {G : Fn} {i j : Nat} {S : Sl} {o o' r b : O} {y : PyData} (hi : S[i]? = some o) (hn : isNo o = false) (hD : isD o = false) (hj : S[j]? = some (.d y)) (hij : i ≠ j) (h : G [o, .d y] = some (.ok r, [o', b])) : eApp G [.v i, .v j] S = some (.ok r, S.set i o') := by
  have hd : S.getD i .no = o := by rw [List.getD_eq_getElem?_getD, hi]; rfl
  have hj' : S.getD j .no = .d y := by rw [List.getD_eq_getElem?_getD, hj]; rfl
  have hl : i < S.length := (List.getElem?_eq_some_iff.mp hi).1
  rw [ap_app, ar_v, ar_v, ar_nil, hd, hj', hn]
  show (match G (grab [.inl i, .inl j] S).1 with
    | none => none
    | some (out, os') => some (out, back [.inl i, .inl j] os' (grab [.inl i, .inl j] S).2)) = _
  have hjs : (S.set i O.no).getD j .no = .d y := by
    rw [List.getD_eq_getElem?_getD, List.getElem?_set_ne hij, hj]
    rfl
  have eg : grab [.inl i, .inl j] S = ([o, .d y], S.set i .no) := by
    show ((S.getD i .no) :: (grab [.inl j] (if isD (S.getD i .no) then S else S.set i .no)).1, (grab [.inl j] (if isD (S.getD i .no) then S else S.set i .no)).2) = _
    rw [hd, hD]
    show (o :: (grab [.inl j] (S.set i .no)).1, (grab [.inl j] (S.set i .no)).2) = _
    have : grab [.inl j] (S.set i .no) = ([.d y], S.set i .no) := by
      show ([(S.set i O.no).getD j .no], if isD ((S.set i O.no).getD j .no) then S.set i .no else (S.set i .no).set j .no) = _
      rw [hjs]
      rfl
    rw [this]
  rw [eg, h]
  show some (Except.ok r, back [.inl i, .inl j] [o', b] (S.set i .no)) = _
  have z : (S.set i O.no).getD i .no = .no := by
    rw [List.getD_eq_getElem?_getD, List.getElem?_set_self hl]; rfl
  have eb : back [.inl i, .inl j] [o', b] (S.set i .no) = S.set i o' := by
    show back [.inl j] [b] (if isNo ((S.set i O.no).getD i .no) then (S.set i O.no).set i o' else S.set i .no) = _
    rw [z]
    show back [.inl j] [b] ((S.set i O.no).set i o') = _
    rw [List.set_set]
    show (if isNo ((S.set i o').getD j .no) then (S.set i o').set j b else S.set i o') = _
    rw [List.getD_eq_getElem?_getD, List.getElem?_set_ne hij, hj]
    rfl
  rw [eb]
theorem tup_args {as : List Ar} {S S2 : Sl} (ds : List PyData) (h : argsE as S = some (.ok ((ds.map O.d).map Sum.inr), S2)) (hl : ds.length ≤ 1000) : eApp gTupF as S = some (.ok (.d (.tuple ds)), S2) := by
  show bnd (argsE as S) _ = _
  rw [h]
  show (match gTupF (grab ((ds.map O.d).map Sum.inr) S2).1 with
    | none => none
    | some (out, os') => some (out, back ((ds.map O.d).map Sum.inr) os' (grab ((ds.map O.d).map Sum.inr) S2).2)) = _
  rw [grab_inr]
  have gt : gTupF (ds.map O.d) = some (.ok (.d (.tuple ds)), nos (ds.map O.d)) := by
    show (match ers (ds.map O.d) with
      | some ds' => if ds'.length ≤ LIM then some (Except.ok (O.d (.tuple ds')), nos (ds.map O.d)) else none
      | none => none) = _
    rw [ers_d]
    show (if ds.length ≤ LIM then some (Except.ok (O.d (.tuple ds)), nos (ds.map O.d)) else none) = _
    rw [if_pos (by rw [LIM]; omega)]
  show (match gTupF (ds.map O.d) with
    | none => none
    | some (out, os') => some (out, back ((ds.map O.d).map Sum.inr) os' S2)) = _
  rw [gt]
  show some (Except.ok (O.d (.tuple ds)), back ((ds.map O.d).map Sum.inr) (nos (ds.map O.d)) S2) = _
  rw [back_inr]
theorem loop_rt {p : Pt} {body : Sl → MS} (I : Nat → Sl → Prop) (o : O) (P : Sl → Prop) (K : Nat)
    (st : ∀ i S d, i ≤ K → I i S → ∃ S1 S2, bindP p d S = some S1 ∧ ((body S1 = some (.ok (.rt o), S2) ∧ P S2) ∨ (i < K ∧ body S1 = some (.ok .nx, S2) ∧ I (i + 1) S2))) :
    ∀ (ds : List PyData) (k : Nat) (S : Sl), k ≤ K → K - k < ds.length → I k S → ∃ S', loopL p body ds S = some (.ok (.rt o), S') ∧ P S'
  | [], _, _, _, h, _ => absurd h (Nat.not_lt_zero _)
  | d :: ds, k, S, hk, hl, hI => by
    obtain ⟨S1, S2, e1, e2⟩ := st k S d hk hI
    have un : loopL p body (d :: ds) S = (match bindP p d S with
      | none => none
      | some S1 => bnd (body S1) fun fl S2 => match fl with
        | .nx => loopL p body ds S2
        | .ct => loopL p body ds S2
        | .bk => some (.ok .nx, S2)
        | .rt o => some (.ok (.rt o), S2)) := rfl
    rw [un, e1]
    rcases e2 with ⟨e2, hP⟩ | ⟨hlt, e2, hI2⟩
    · exact ⟨S2, by show bnd (body S1) _ = _; rw [e2] <;> rfl, hP⟩
    · obtain ⟨S', e3, hP⟩ := loop_rt I o P K st ds (k + 1) S2 (by omega) (by rw [List.length_cons] at hl; omega) hI2
      exact ⟨S', by show bnd (body S1) _ = _; rw [e2]; exact e3, hP⟩
theorem for_rt {p : Pt} {body : Sl → MS} {src : Sl → M (List PyData)} {S S1 : Sl} {ds : List PyData} (I : Nat → Sl → Prop) (o : O) (P : Sl → Prop) (K : Nat) (hs : src S = some (.ok ds, S1)) (hK : K < ds.length) (h0 : I 0 S1)
    (st : ∀ i S d, i ≤ K → I i S → ∃ S1 S2, bindP p d S = some S1 ∧ ((body S1 = some (.ok (.rt o), S2) ∧ P S2) ∨ (i < K ∧ body S1 = some (.ok .nx, S2) ∧ I (i + 1) S2))) : ∃ S', sFor src p body S = some (.ok (.rt o), S') ∧ P S' := by
  obtain ⟨S', e, hP⟩ := loop_rt I o P K st ds 0 S1 (Nat.zero_le _) (by omega) h0
  refine ⟨S', ?_, hP⟩
  show bnd (src S) _ = _
  rw [hs]
  exact e
theorem all_bools {p : PyData → Bool} : ∀ ds : List PyData, fnD dAll [.l (ds.map fun d => O.d (.bool (p d)))] = some (.ok (.d (.bool (ds.all p))), [.l (ds.map fun d => O.d (.bool (p d)))]) := by
  intro ds
  have e : ds.map (fun d => O.d (.bool (p d))) = (ds.map fun d => PyData.bool (p d)).map O.d := by rw [List.map_map]; rfl
  rw [e]
  unfold fnD
  rw [ers_cons, er_l, ers_d, ers_nil]
  have q : dAll [.list (ds.map fun d => PyData.bool (p d))] = some (.bool (ds.all p)) := by
    have z : ∀ l : List PyData, (l.map fun d => PyData.bool (p d)).mapM bOf1 = some (l.map p) := fun l => by
      induction l with
      | nil => rfl
      | cons a l ih =>
        rw [List.map_cons, List.mapM_cons, ih]
        rfl
    show ((ds.map fun d => PyData.bool (p d)).mapM bOf1).map _ = _
    rw [z]
    simp [List.all_map]
  show (match dAll [.list (ds.map fun d => PyData.bool (p d))] with
    | some x => some (Except.ok (O.d x), _)
    | none => none) = _
  rw [q]
theorem all_li {src : Sl → M (List PyData)} {elt : Sl → M O} {k : Nat} {S0 S : Sl} {ds : List PyData} (p : PyData → Bool) (hs : src S0 = some (.ok ds, S)) (hl : ds.length ≤ LIM) (I : Sl → Prop) (h0 : I (wipeS S [k])) (st : ∀ d ∈ ds, ∀ S, I S → ∃ S3, elt (S.set k (.d d)) = some (.ok (.d (.bool (p d))), S3) ∧ I (wipeS S3 [k])) :
    ∃ S', eApp (fnD dAll) [.e (eComp src (.nm k) tT elt [k])] S0 = some (.ok (.d (.bool (ds.all p))), wipeS S' [k]) ∧ I S' := by
  obtain ⟨S', e, hI⟩ := eComp_inv (p := .nm k) (cnd := tT) (elt := elt) (vs := [k]) (fun d => some (.d (.bool (p d)))) I hs hl h0 (by
    rintro d hd S hS
    obtain ⟨S3, e, h⟩ := st d hd S hS
    exact ⟨S.set k (.d d), S.set k (.d d), rfl, .inr ⟨_, S3, rfl, rfl, e, h⟩⟩)
  have ef : ds.filterMap (fun d => some (O.d (.bool (p d)))) = ds.map fun d => O.d (.bool (p d)) := by
    rw [← List.filterMap_eq_map]
    rfl
  rw [ef] at e
  exact ⟨S', app_e e (all_bools ds), hI⟩
theorem store_li {i : Nat} {fe fi : Sl → M O} {S : Sl} {A : List PyData} {x : PyData} {c : Nat} (h1 : fe S = some (.ok (.d x), S)) (h2 : fi S = some (.ok (.d (.int c)), S)) (hS : S[i]? = some (dl A)) (hc : c < A.length) : sStore i fi fe S = some (.ok .nx, S.set i (dl (A.set c x))) := by
  have hd : S.getD i .no = dl A := by rw [List.getD_eq_getElem?_getD, hS]; rfl
  rw [ap_store, h1]
  show (if isNo (S.getD i .no) then none else _) = _
  rw [hd, if_neg (show ¬ isNo (dl A) = true from Bool.false_ne_true), h2]
  show (match S.getD i .no, O.d (.int c) with
      | .l xs, .d (.int k) => (match L2.ixN xs.length k with
        | some j => some (Except.ok Fl.nx, S.set i (.l (xs.set j (.d x))))
        | none => none)
      | _, _ => none) = _
  rw [hd]
  show (match L2.ixN (A.map O.d).length (c : Int) with
        | some j => some (Except.ok Fl.nx, S.set i (.l ((A.map O.d).set j (.d x))))
        | none => none) = _
  have e : L2.ixN (A.map O.d).length (c : Int) = some c := by
    unfold L2.ixN
    rw [List.length_map, if_pos (by omega), if_pos (by omega), Int.toNat_natCast]
  rw [e]
  show some (Except.ok Fl.nx, S.set i (.l ((A.map O.d).set c (.d x)))) = some (Except.ok Fl.nx, S.set i (dl (A.set c x)))
  rw [dl, List.map_set]
theorem asg_at {p : Pt} {fe : Sl → M O} {S S1 S2 : Sl} {x : PyData} (h : fe S = some (.ok (.d x), S1)) (hb : bindP p x S1 = some S2) : sAsg p fe S = some (.ok .nx, S2) := by
  rw [ap_asg, h]
  show (match bindP p x S1 with
    | some S2 => some (Except.ok Fl.nx, S2)
    | none => none) = _
  rw [hb]
def nup {α : Type} (f : Nat → α) (v : Nat) (x : α) : Nat → α := fun y => if y = v then x else f y
theorem nup_s {α : Type} {f : Nat → α} {v : Nat} {x : α} : nup f v x v = x := if_pos rfl
theorem nup_n {α : Type} {f : Nat → α} {v y : Nat} {x : α} (h : y ≠ v) : nup f v x y = f y := if_neg h
theorem tO_t {c d : Sl → M Bool} {S S1 : Sl} (h : c S = some (.ok true, S1)) : tO c d S = some (.ok true, S1) := by
  show bnd (c S) _ = _
  rw [h]
  rfl
theorem tAn_t {c d : Sl → M Bool} {S S1 : Sl} (h : c S = some (.ok true, S1)) : tAn c d S = d S1 := by
  show bnd (c S) _ = _
  rw [h]
  rfl
theorem tAn_f {c d : Sl → M Bool} {S S1 : Sl} (h : c S = some (.ok false, S1)) : tAn c d S = some (.ok false, S1) := by
  show bnd (c S) _ = _
  rw [h]
  rfl
/-- a loop that comes to a return, or to its end -/
theorem loop_alt {p : Pt} {body : Sl → MS} (I : Nat → Sl → Prop) (P : O → Sl → Prop) : ∀ (ds : List PyData) (k : Nat) (S : Sl),
    (∀ i d S, ds[i]? = some d → I (k + i) S → ∃ S1 S2, bindP p d S = some S1 ∧ ((∃ o, body S1 = some (.ok (.rt o), S2) ∧ P o S2) ∨ ((body S1 = some (.ok .nx, S2) ∨ body S1 = some (.ok .ct, S2)) ∧ I (k + i + 1) S2))) → I k S →
    (∃ o S', loopL p body ds S = some (.ok (.rt o), S') ∧ P o S') ∨ ∃ S', loopL p body ds S = some (.ok .nx, S') ∧ I (k + ds.length) S'
  | [], k, S, _, h => .inr ⟨S, rfl, h⟩
  | d :: ds, k, S, st, h => by
    obtain ⟨S1, S2, e1, e2⟩ := st 0 d S rfl h
    have un : loopL p body (d :: ds) S = (match bindP p d S with
      | none => none
      | some S1 => bnd (body S1) fun fl S2 => match fl with
        | .nx => loopL p body ds S2
        | .ct => loopL p body ds S2
        | .bk => some (.ok .nx, S2)
        | .rt o => some (.ok (.rt o), S2)) := rfl
    rw [un, e1]
    rcases e2 with ⟨o, e2, hP⟩ | ⟨e2, hI2⟩
    · exact .inl ⟨o, S2, by show bnd (body S1) _ = _; rw [e2] <;> rfl, hP⟩
    · have st2 : ∀ i d' S'', ds[i]? = some d' → I (k + 1 + i) S'' → ∃ S1 S2, bindP p d' S'' = some S1 ∧ ((∃ o, body S1 = some (.ok (.rt o), S2) ∧ P o S2) ∨ ((body S1 = some (.ok .nx, S2) ∨ body S1 = some (.ok .ct, S2)) ∧ I (k + 1 + i + 1) S2)) := fun i d' S'' hd hI => by
        have := st (i + 1) d' S'' hd (by rw [show k + (i + 1) = k + 1 + i by omega]; exact hI)
        rw [show k + (i + 1) + 1 = k + 1 + i + 1 by omega] at this
        exact this
      have e3 : (bnd (body S1) fun fl S2 => match fl with
        | .nx => loopL p body ds S2
        | .ct => loopL p body ds S2
        | .bk => some (.ok .nx, S2)
        | .rt o => some (.ok (.rt o), S2)) = loopL p body ds S2 := by
        rcases e2 with e2 | e2 <;> rw [e2]
      rcases loop_alt I P ds (k + 1) S2 st2 hI2 with ⟨o, S', e, hP⟩ | ⟨S', e, hI3⟩
      · exact .inl ⟨o, S', e3.trans e, hP⟩
      · exact .inr ⟨S', e3.trans e, by rw [show k + (d :: ds).length = k + 1 + ds.length by rw [List.length_cons]; omega]; exact hI3⟩
theorem for_alt {p : Pt} {body : Sl → MS} {src : Sl → M (List PyData)} {S S1 : Sl} {ds : List PyData} (I : Nat → Sl → Prop) (P : O → Sl → Prop) (hs : src S = some (.ok ds, S1)) (h0 : I 0 S1)
    (st : ∀ i d S, ds[i]? = some d → I i S → ∃ S1 S2, bindP p d S = some S1 ∧ ((∃ o, body S1 = some (.ok (.rt o), S2) ∧ P o S2) ∨ ((body S1 = some (.ok .nx, S2) ∨ body S1 = some (.ok .ct, S2)) ∧ I (i + 1) S2))) :
    (∃ o S', sFor src p body S = some (.ok (.rt o), S') ∧ P o S') ∨ ∃ S', sFor src p body S = some (.ok .nx, S') ∧ I ds.length S' := by
  have un : sFor src p body S = loopL p body ds S1 := by
    show bnd (src S) _ = _
    rw [hs]
  rw [un]
  rcases loop_alt I P ds 0 S1 (fun i d S hd hI => by rw [Nat.zero_add] at *; exact st i d S hd hI) h0 with h | ⟨S', e, h⟩
  · exact .inl h
  · rw [Nat.zero_add] at h
    exact .inr ⟨S', e, h⟩
theorem dNe_oD (a b : Option Int) : dNe [oD a, oD b] = some (.bool (!decide (a = b))) := by
  have e : SeqAt.shaped (oD a) = true ∧ SeqAt.shaped (oD b) = true := by cases a <;> cases b <;> simp [SeqAt.shaped, PyData.canLay0, PyData.depth, oD]
  have un : dNe [oD a, oD b] = (if SeqAt.shaped (oD a) && SeqAt.shaped (oD b) then some (PyData.bool (!PyData.eqv (oD a) (oD b))) else none) := by cases a <;> cases b <;> rfl
  rw [un, e.1, e.2]
  cases a <;> cases b <;> simp [oD, PyData.eqv, BEq.beq]
theorem dEq_oD (a b : Option Int) : dEq [oD a, oD b] = some (.bool (decide (a = b))) := by
  have e : SeqAt.shaped (oD a) = true ∧ SeqAt.shaped (oD b) = true := by cases a <;> cases b <;> simp [SeqAt.shaped, PyData.canLay0, PyData.depth, oD]
  have un : dEq [oD a, oD b] = (if SeqAt.shaped (oD a) && SeqAt.shaped (oD b) then some (PyData.bool (PyData.eqv (oD a) (oD b))) else none) := by cases a <;> cases b <;> rfl
  rw [un, e.1, e.2]
  cases a <;> cases b <;> simp [oD, PyData.eqv, BEq.beq]
theorem at_neg' {α : Type} (Y : List α) (o : α) : L2.atI (Y ++ [o]) (-1) = some o := by
  unfold L2.atI L2.ixN
  rw [List.length_append, List.length_singleton, if_neg (by decide), if_pos (by omega)]
  show (Y ++ [o])[(-1 + ((Y.length + 1 : Nat) : Int)).toNat]? = _
  rw [show (-1 + ((Y.length + 1 : Nat) : Int)).toNat = Y.length by omega, List.getElem?_concat_length]
theorem item_liA {o : O} {ds : List PyData} {i : Int} {x : PyData} (h : Li o ds) (hi : L2.atI ds i = some x) : gItem [o, .d (.int i)] = some (.ok (.d x), [o, .d (.int i)]) := by
  rw [item_at]
  have e : itemO i o = some x := by
    rcases h with rfl | rfl
    · show (L2.atI (ds.map O.d) i).bind dOf = _
      unfold L2.atI at hi ⊢
      rw [List.length_map]
      cases q : L2.ixN ds.length i with
      | none => rw [q] at hi; cases hi
      | some j =>
        rw [q] at hi
        show ((ds.map O.d)[j]?).bind dOf = _
        have hi : ds[j]? = some x := hi
        rw [List.getElem?_map, hi]
        rfl
    · exact hi
  rw [e]
theorem app_oe {G : Fn} {fb : Sl → M O} {i : Nat} {S S1 : Sl} {o b r b' : O} (h0 : isNo (S.getD i .no) = false) (hS : S1[i]? = some o) (hd : isD o = false) (h2 : fb S = some (.ok b, S1)) (h : G [o, b] = some (.ok r, [o, b'])) : eApp G [.v i, .e fb] S = some (.ok r, S1) := by
  have hl : i < S1.length := (List.getElem?_eq_some_iff.mp hS).1
  have hD : S1.getD i .no = o := by rw [List.getD_eq_getElem?_getD, hS]; rfl
  have q := app_ve h0 h2 hl hD hd h
  rw [FT.set_self hS] at q
  exact q
theorem revl_at {i : Nat} {S : Sl} {o : O} {ds : List PyData} (hS : S[i]? = some o) (ho : Li o ds) (hl : ds.length ≤ 1000) : eApp gRevL [.v i] S = some (.ok (dl ds.reverse), S) := by
  have hi : i < S.length := (List.getElem?_eq_some_iff.mp hS).1
  have hD : S.getD i .no = o := by rw [List.getD_eq_getElem?_getD, hS]; rfl
  have g : gRevL [o] = some (.ok (dl ds.reverse), [o]) := by
    show (match lsOf o with
      | some ds => some (Except.ok (dl ds.reverse), [nrm o])
      | none => none) = _
    rw [(li_ls ho).1, (li_ls ho).2.1]
  rcases ho with rfl | rfl
  · have q := app_vl (G := gRevL) hi hD rfl rfl g
    rw [FT.set_self hS] at q
    exact q
  · exact app_vd hD rfl g
theorem len_lio {o : O} {ds : List PyData} (h : Li o ds) : gLen [o] = some (.ok (.d (.int ds.length)), [o]) := by
  rw [len_at]
  have e : lenO o = some (ds.length : Int) := by
    rcases h with rfl | rfl
    · exact lenO_dl _
    · rfl
  rw [e]
theorem sum_ints {zs : List Int} : dSum [.list (zs.map .int)] = some (.int zs.sum) := by
  show ((zs.map PyData.int).mapM intD).map (fun ns => PyData.int ns.sum) = _
  have : (zs.map PyData.int).mapM intD = some zs := by
    induction zs with
    | nil => rfl
    | cons a r ih =>
      rw [List.map_cons, List.mapM_cons]
      simp [intD, ih]
  rw [this]; rfl
theorem app_chg {G : Fn} {i : Nat} {S : Sl} {o o' r : O} {ds : List PyData} (hS : S[i]? = some o) (ho : Li o ds) (ho' : Li o' ds) (h : G [o] = some (.ok r, [o'])) : ∃ o'', Li o'' ds ∧ eApp G [.v i] S = some (.ok r, S.set i o'') := by
  have hl : i < S.length := (List.getElem?_eq_some_iff.mp hS).1
  have hd : S.getD i .no = o := by rw [List.getD_eq_getElem?_getD, hS]; rfl
  rcases ho with rfl | rfl
  · exact ⟨o', ho', app_vl hl hd rfl rfl h⟩
  · refine ⟨_, .inr rfl, ?_⟩
    rw [FT.set_self hS]
    have hn : isNo (S.getD i .no) = false := by rw [hd]; rfl
    show bnd (if isNo (S.getD i .no) then none else some (.ok [Sum.inl i], S)) _ = _
    rw [hn]
    show (match G (grab [Sum.inl i] S).1 with
      | none => none
      | some (out, os') => some (out, back [Sum.inl i] os' (grab [Sum.inl i] S).2)) = _
    have e : grab [Sum.inl i] S = ([S.getD i .no], S) := by
      show (let o := S.getD i .no; let r := grab [] (if isD o then S else S.set i .no); (o :: r.1, r.2)) = _
      rw [hd]
      rfl
    rw [e]
    show (match G [S.getD i .no] with
      | none => none
      | some (out, os') => some (out, back [Sum.inl i] os' S)) = _
    rw [hd, h]
    show some (Except.ok r, if isNo (S.getD i .no) then S.set i o' else S) = _
    rw [hn]
    rfl
theorem app_to {G : Fn} {i : Nat} {S : Sl} {o r : O} {ds : List PyData} (hS : S[i]? = some o) (ho : Li o ds) (h : G [o] = some (.ok r, [.d (.list ds)])) : eApp G [.v i] S = some (.ok r, S.set i (.d (.list ds))) := by
  have hl : i < S.length := (List.getElem?_eq_some_iff.mp hS).1
  have hd : S.getD i .no = o := by rw [List.getD_eq_getElem?_getD, hS]; rfl
  rcases ho with rfl | rfl
  · exact app_vl hl hd rfl rfl h
  · rw [FT.set_self hS]
    exact app_vd hd rfl h
theorem lt_ii (x y : Int) : cLt [.d (.int x), .d (.int y)] = some (.ok (.d (.bool (decide (x < y)))), [.d (.int x), .d (.int y)]) := by
  show fnD _ _ = _
  rw [fn2]
  rfl
theorem le_ii (x y : Int) : cLe [.d (.int x), .d (.int y)] = some (.ok (.d (.bool (decide (x ≤ y)))), [.d (.int x), .d (.int y)]) := by
  show fnD _ _ = _
  rw [fn2]
  rfl
theorem gt_ii (x y : Int) : cGt [.d (.int x), .d (.int y)] = some (.ok (.d (.bool (decide (y < x)))), [.d (.int x), .d (.int y)]) := by
  show fnD _ _ = _
  rw [fn2]
  rfl
theorem ge_ii (x y : Int) : cGe [.d (.int x), .d (.int y)] = some (.ok (.d (.bool (decide (y ≤ x)))), [.d (.int x), .d (.int y)]) := by
  show fnD _ _ = _
  rw [fn2]
  rfl
theorem qcomp_at {src : Sl → M (List PyData)} {p : Pt} {cnd : Sl → M Bool} {ke ve : Sl → M O} {vs : List Nat} {S S1 S2 : Sl} {ds : List PyData} {kvs : List (Pk × Int)} (hs : src S = some (.ok ds, S1)) (hl : ds.length ≤ 1000) (hc : compQ p cnd ke ve vs ds (wipeS S1 vs) [] = some (kvs, S2)) :
    eQComp src p cnd ke ve vs S = some (.ok (.q kvs), wipeS S2 vs) := by
  show bnd (src S) _ = _
  rw [hs]
  show (if ds.length ≤ LIM then (match compQ p cnd ke ve vs ds (wipeS S1 vs) [] with
    | some (kvs, S2) => some (Except.ok (O.q kvs), wipeS S2 vs)
    | none => none) else none) = _
  rw [if_pos (by rw [LIM]; omega), hc]
theorem qget_at {i : Nat} {fk fe : Sl → M O} {S : Sl} {kvs : List (Pk × Int)} {a b : Option Int} {z : Int} (hS : S[i]? = some (.q kvs)) (hk : fk S = some (.ok (.d (.tuple [oD a, oD b])), S)) (he : fe S = some (.ok (.d (.int z)), S)) : eQGet i fk fe S = some (.ok (.d (.int ((lookQ kvs (a, b)).getD z))), S) := by
  have hd : S.getD i .no = .q kvs := by rw [List.getD_eq_getElem?_getD, hS]; rfl
  unfold eQGet
  rw [hd]
  show bnd (fk S) _ = _
  rw [hk]
  show bnd (fe S) _ = _
  rw [he]
  show (match S.getD i .no, O.d (.tuple [oD a, oD b]), O.d (.int z) with
    | .q kvs, .d (.tuple [x, y]), .d (.int z) => (match lkD x, lkD y with
      | some a, some b => some (Except.ok (O.d (.int ((lookQ kvs (a, b)).getD z))), S)
      | _, _ => none)
    | _, _, _ => none) = _
  rw [hd]
  show (match lkD (oD a), lkD (oD b) with
      | some a, some b => some (Except.ok (O.d (.int ((lookQ kvs (a, b)).getD z))), S)
      | _, _ => none) = _
  rw [lkD_oD, lkD_oD]
/-- a list of ints by a function -/
def zD (n : Nat) (h : Nat → Int) : List PyData := (List.range n).map fun v => .int (h v)
theorem zD_len {n : Nat} {h : Nat → Int} : (zD n h).length = n := by rw [zD, List.length_map, List.length_range]
theorem zD_at {n v : Nat} {h : Nat → Int} (hv : v < n) : (zD n h)[v]? = some (.int (h v)) := by rw [zD, List.getElem?_map, List.getElem?_range hv]; rfl
theorem zD_set {n v : Nat} {h : Nat → Int} {x : Int} (hv : v < n) : (zD n h).set v (.int x) = zD n (nup h v x) := by
  refine List.ext_getElem? fun i => ?_
  by_cases hi : i < n
  · rw [zD_at hi]
    by_cases e : i = v
    · subst e
      rw [List.getElem?_set_self (by rw [zD_len]; exact hi), nup_s]
    · rw [List.getElem?_set_ne (Ne.symm e), zD_at hi, nup_n e]
  · rw [List.getElem?_eq_none (by rw [List.length_set, zD_len]; omega), List.getElem?_eq_none (by rw [zD_len]; omega)]
theorem max_ii (x y : Int) : gMax2 [.d (.int x), .d (.int y)] = some (.ok (.d (.int (max x y))), [.d (.int x), .d (.int y)]) := by
  have q : max x y = if x < y then y else x := by
    split <;> omega
  rw [q]
  unfold gMax2
  rw [fn2]
  rfl
theorem min_ii (x y : Int) : gMin2 [.d (.int x), .d (.int y)] = some (.ok (.d (.int (min x y))), [.d (.int x), .d (.int y)]) := by
  have q : min x y = if y < x then y else x := by
    split <;> omega
  rw [q]
  unfold gMin2
  rw [fn2]
  rfl
theorem app_any {G : Fn} {i : Nat} {S : Sl} {o r : O} (hS : S[i]? = some o) (hn : isNo o = false) (h : G [o] = some (.ok r, [o])) : eApp G [.v i] S = some (.ok r, S) := by
  have hl : i < S.length := (List.getElem?_eq_some_iff.mp hS).1
  have hd : S.getD i .no = o := by rw [List.getD_eq_getElem?_getD, hS]; rfl
  cases q : isD o with
  | true => exact app_vd hd q h
  | false =>
    have e := app_vl hl hd hn q h
    rw [FT.set_self hS] at e
    exact e
theorem app_vk {G : Fn} {i : Nat} {S : Sl} {x : PyData} {r o' : O} (hS : S[i]? = some (.d x)) (h : G [.d x] = some (.ok r, [o'])) : eApp G [.v i] S = some (.ok r, S) := by
  have hd : S.getD i .no = .d x := by rw [List.getD_eq_getElem?_getD, hS]; rfl
  have hn : isNo (S.getD i .no) = false := by rw [hd]; rfl
  show bnd (if isNo (S.getD i .no) then none else some (.ok [Sum.inl i], S)) _ = _
  rw [hn]
  show (match G (grab [Sum.inl i] S).1 with
    | none => none
    | some (out, os') => some (out, back [Sum.inl i] os' (grab [Sum.inl i] S).2)) = _
  have e : grab [Sum.inl i] S = ([S.getD i .no], S) := by
    show (let o := S.getD i .no; let r := grab [] (if isD o then S else S.set i .no); (o :: r.1, r.2)) = _
    rw [hd]
    rfl
  rw [e]
  show (match G [S.getD i .no] with
    | none => none
    | some (out, os') => some (out, back [Sum.inl i] os' S)) = _
  rw [hd, h]
  show some (Except.ok r, if isNo (S.getD i .no) then S.set i o' else S) = _
  rw [hn]
  rfl
/-- two names, the first of which holds data -/
theorem app_dv {G : Fn} {i j : Nat} {S : Sl} {x : PyData} {o r b : O} (hi : S[i]? = some (.d x)) (hj : S[j]? = some o) (hn : isNo o = false) (h : G [.d x, o] = some (.ok r, [b, o])) : eApp G [.v i, .v j] S = some (.ok r, S) := by
  have hl : j < S.length := (List.getElem?_eq_some_iff.mp hj).1
  have hdi : S.getD i .no = .d x := by rw [List.getD_eq_getElem?_getD, hi]; rfl
  have hdj : S.getD j .no = o := by rw [List.getD_eq_getElem?_getD, hj]; rfl
  show bnd (if isNo (S.getD i .no) then none else bnd (if isNo (S.getD j .no) then none else some (.ok [Sum.inl j], S)) _) _ = _
  rw [hdi, hdj, hn]
  show (match G (grab [Sum.inl i, Sum.inl j] S).1 with
    | none => none
    | some (out, os') => some (out, back [Sum.inl i, Sum.inl j] os' (grab [Sum.inl i, Sum.inl j] S).2)) = _
  have e : grab [Sum.inl i, Sum.inl j] S = ([.d x, o], if isD o then S else S.set j .no) := by
    show (let o := S.getD i .no; let r := grab [Sum.inl j] (if isD o then S else S.set i .no); (o :: r.1, r.2)) = _
    rw [hdi]
    show (let r := grab [Sum.inl j] S; (O.d x :: r.1, r.2)) = _
    show (let r := (let o := S.getD j .no; let r := grab [] (if isD o then S else S.set j .no); (o :: r.1, r.2)); (O.d x :: r.1, r.2)) = _
    rw [hdj]
    rfl
  rw [e]
  show (match G [.d x, o] with
    | none => none
    | some (out, os') => some (out, back [Sum.inl i, Sum.inl j] os' (if isD o then S else S.set j .no))) = _
  rw [h]
  show some (Except.ok r, back [Sum.inl i, Sum.inl j] [b, o] (if isD o then S else S.set j .no)) = _
  cases q : isD o with
  | true =>
    show some (Except.ok r, (let S1 := (if isNo (S.getD i .no) then S.set i b else S); if isNo (S1.getD j .no) then S1.set j o else S1)) = _
    rw [hdi]
    show some (Except.ok r, if isNo (S.getD j .no) then S.set j o else S) = _
    rw [hdj, hn]
    rfl
  | false =>
    show some (Except.ok r, (let S1 := (if isNo ((S.set j .no).getD i .no) then (S.set j .no).set i b else (S.set j .no)); if isNo (S1.getD j .no) then S1.set j o else S1)) = _
    have hij : i ≠ j := fun z => by
      subst z
      rw [hi] at hj
      cases hj
      cases q
    have h1 : (S.set j .no).getD i .no = .d x := by
      rw [List.getD_eq_getElem?_getD, List.getElem?_set_ne (Ne.symm hij), hi]
      rfl
    rw [h1]
    show some (Except.ok r, if isNo ((S.set j .no).getD j .no) then (S.set j .no).set j o else S.set j .no) = _
    have h2 : (S.set j .no).getD j .no = .no := by
      rw [List.getD_eq_getElem?_getD, List.getElem?_set_self hl]
      rfl
    rw [h2, if_pos (show isNo O.no = true from rfl), List.set_set, FT.set_self hj]
theorem ne_bb (a b : Bool) : cNe [.d (.bool a), .d (.bool b)] = some (.ok (.d (.bool (a != b))), [.d (.bool a), .d (.bool b)]) := by
  show fnD dNe _ = _
  rw [fn2]
  have e : dNe [.bool a, .bool b] = some (.bool (a != b)) := by
    show (if SeqAt.shaped (.bool a) && SeqAt.shaped (.bool b) then some (PyData.bool (!PyData.eqv (.bool a) (.bool b))) else none) = _
    rw [if_pos (by simp [SeqAt.shaped, PyData.canLay0, PyData.depth])]
    cases a <;> cases b <;> simp [PyData.eqv]
  rw [e]
theorem sh_oD {ds : List PyData} (h : ∀ x ∈ ds, ∃ y, x = oD y) : SeqAt.shaped (.list ds) = true := by
  have h1 : PyData.canLayAll0 ds = true ∧ PyData.depthAll ds = 0 := by
    induction ds with
    | nil => simp [PyData.canLayAll0, PyData.depthAll]
    | cons a A ih =>
      obtain ⟨i1, i2⟩ := ih fun x hx => h x (List.mem_cons_of_mem _ hx)
      obtain ⟨y, rfl⟩ := h a List.mem_cons_self
      cases y <;> simp [oD, PyData.canLayAll0, PyData.depthAll, PyData.canLay0, PyData.depth, i1, i2]
  unfold SeqAt.shaped
  simp [PyData.canLay0, PyData.depth, h1]
theorem comp_map {src : Sl → M (List PyData)} {elt : Sl → M O} {k : Nat} {S0 S : Sl} {ds : List PyData} (f : PyData → PyData) (hs : src S0 = some (.ok ds, S)) (hl : ds.length ≤ 1000) (hw : wipeS S [k] = S) (hw2 : ∀ d, wipeS (S.set k (.d d)) [k] = S)
    (st : ∀ d ∈ ds, elt (S.set k (.d d)) = some (.ok (.d (f d)), S.set k (.d d))) : eComp src (.nm k) tT elt [k] S0 = some (.ok (dl (ds.map f)), S) := by
  obtain ⟨S', e, rfl⟩ := eComp_inv (p := .nm k) (cnd := tT) (elt := elt) (vs := [k]) (fun d => some (.d (f d))) (fun S' => S' = S) hs (by rw [LIM]; omega) hw (by
    rintro d hd S' rfl
    exact ⟨S'.set k (.d d), S'.set k (.d d), rfl, .inr ⟨_, S'.set k (.d d), rfl, rfl, st d hd, hw2 d⟩⟩)
  rw [fm_some, hw] at e
  rw [e]
  show some (Except.ok (O.l (ds.map fun d => O.d (f d))), S') = some (Except.ok (O.l ((ds.map f).map O.d)), S')
  rw [List.map_map]
  rfl
theorem filt_some (p : PyData → Bool) : ∀ ds : List PyData, ds.filterMap (fun d => if p d then some (O.d d) else none) = (ds.filter p).map O.d
  | [] => rfl
  | d :: ds => by
    rw [List.filterMap_cons, List.filter_cons]
    cases q : p d with
    | true => simp [filt_some p ds]
    | false => simp [filt_some p ds]
theorem comp_filter {src : Sl → M (List PyData)} {cnd : Sl → M Bool} {k : Nat} {S0 S : Sl} {ds : List PyData} (p : PyData → Bool) (hs : src S0 = some (.ok ds, S)) (hl : ds.length ≤ 1000) (hw : wipeS S [k] = S) (hw2 : ∀ d, wipeS (S.set k (.d d)) [k] = S)
    (st : ∀ d ∈ ds, cnd (S.set k (.d d)) = some (.ok (p d), S.set k (.d d))) (hk : k < S.length) : eComp src (.nm k) cnd (eName k) [k] S0 = some (.ok (dl (ds.filter p)), S) := by
  obtain ⟨S', e, rfl⟩ := eComp_inv (p := .nm k) (cnd := cnd) (elt := eName k) (vs := [k]) (fun d => if p d then some (.d d) else none) (fun S' => S' = S) hs (by rw [LIM]; omega) hw (by
    rintro d hd S' rfl
    refine ⟨S'.set k (.d d), S'.set k (.d d), rfl, ?_⟩
    have c := st d hd
    cases q : p d with
    | false =>
      rw [q] at c
      exact .inl ⟨by rw [if_neg Bool.false_ne_true], c, hw2 d⟩
    | true =>
      rw [q] at c
      refine .inr ⟨.d d, S'.set k (.d d), by rw [if_pos rfl], c, ?_, hw2 d⟩
      have hS : (S'.set k (.d d))[k]? = some (.d d) := List.getElem?_set_self hk
      have n := name_er hS (er_d d)
      rw [FT.set_self hS] at n
      exact n)
  rw [filt_some, hw] at e
  exact e
/-- two names: data, and an owned thing that comes back otherwise -/
theorem app_dlo {G : Fn} {i j : Nat} {S : Sl} {x : PyData} {o o' r b : O} (hi : S[i]? = some (.d x)) (hj : S[j]? = some o) (hn : isNo o = false) (hd : isD o = false) (h : G [.d x, o] = some (.ok r, [b, o'])) : eApp G [.v i, .v j] S = some (.ok r, S.set j o') := by
  have hl : j < S.length := (List.getElem?_eq_some_iff.mp hj).1
  have hdi : S.getD i .no = .d x := by rw [List.getD_eq_getElem?_getD, hi]; rfl
  have hdj : S.getD j .no = o := by rw [List.getD_eq_getElem?_getD, hj]; rfl
  show bnd (if isNo (S.getD i .no) then none else bnd (if isNo (S.getD j .no) then none else some (.ok [Sum.inl j], S)) _) _ = _
  rw [hdi, hdj, hn]
  show (match G (grab [Sum.inl i, Sum.inl j] S).1 with
    | none => none
    | some (out, os') => some (out, back [Sum.inl i, Sum.inl j] os' (grab [Sum.inl i, Sum.inl j] S).2)) = _
  have e : grab [Sum.inl i, Sum.inl j] S = ([.d x, o], S.set j .no) := by
    show (let o := S.getD i .no; let r := grab [Sum.inl j] (if isD o then S else S.set i .no); (o :: r.1, r.2)) = _
    rw [hdi]
    show (let r := (let o := S.getD j .no; let r := grab [] (if isD o then S else S.set j .no); (o :: r.1, r.2)); (O.d x :: r.1, r.2)) = _
    rw [hdj]
    simp only [hd, Bool.false_eq_true, if_false]
    rfl
  rw [e]
  show (match G [.d x, o] with
    | none => none
    | some (out, os') => some (out, back [Sum.inl i, Sum.inl j] os' (S.set j .no))) = _
  rw [h]
  show some (Except.ok r, (let S1 := (if isNo ((S.set j .no).getD i .no) then (S.set j .no).set i b else (S.set j .no)); if isNo (S1.getD j .no) then S1.set j o' else S1)) = _
  have hij : i ≠ j := fun z => by
    subst z
    rw [hi] at hj
    cases hj
    cases hd
  have h1 : (S.set j .no).getD i .no = .d x := by
    rw [List.getD_eq_getElem?_getD, List.getElem?_set_ne (Ne.symm hij), hi]
    rfl
  rw [h1]
  show some (Except.ok r, if isNo ((S.set j .no).getD j .no) then (S.set j .no).set j o' else S.set j .no) = _
  have h2 : (S.set j .no).getD j .no = .no := by
    rw [List.getD_eq_getElem?_getD, List.getElem?_set_self hl]
    rfl
  rw [h2, if_pos (show isNo O.no = true from rfl), List.set_set]
theorem vals_inr : ∀ os : List O, vals (os.map Sum.inr) = some os
  | [] => rfl
  | o :: os => by
    show (vals (os.map Sum.inr)).map (o :: ·) = _
    rw [vals_inr os]
    rfl
theorem wa_all {as : List Ar} {k : List O → Option (List PyData)} {S S2 : Sl} {os : List O} {ds : List PyData} (h : argsE as S = some (.ok (os.map Sum.inr), S2)) (hk : k os = some ds) : wArgs as k S = some (.ok ds, S2) := by
  show bnd (argsE as S) _ = _
  rw [h]
  show (match vals (os.map Sum.inr) with
    | some os => (match k os with
      | some ds => some (Except.ok ds, S2)
      | none => none)
    | none => none) = _
  rw [vals_inr]
  show (match k os with
      | some ds => some (Except.ok ds, S2)
      | none => none) = _
  rw [hk]
theorem eif_t {c : Sl → M Bool} {fa fb : Sl → M O} {S S1 : Sl} (h : c S = some (.ok true, S1)) : eIf c fa fb S = fa S1 := by
  show bnd (c S) _ = _
  rw [h]
  rfl
theorem eif_f {c : Sl → M Bool} {fa fb : Sl → M O} {S S1 : Sl} (h : c S = some (.ok false, S1)) : eIf c fa fb S = fb S1 := by
  show bnd (c S) _ = _
  rw [h]
  rfl
theorem app_vee {G : Fn} {fb fc : Sl → M O} {i : Nat} {S : Sl} {o o' b c r b' c' : O} (hS : S[i]? = some o) (hn : isNo o = false) (hd : isD o = false) (h2 : fb S = some (.ok b, S)) (h3 : fc S = some (.ok c, S)) (h : G [o, b, c] = some (.ok r, [o', b', c'])) : eApp G [.v i, .e fb, .e fc] S = some (.ok r, S.set i o') := by
  have hl : i < S.length := (List.getElem?_eq_some_iff.mp hS).1
  have hD : S.getD i .no = o := by rw [List.getD_eq_getElem?_getD, hS]; rfl
  show bnd (if isNo (S.getD i .no) then none else bnd (bnd (fb S) _) _) _ = _
  rw [hD, hn, h2]
  show bnd (bnd (bnd (bnd (fc S) _) _) _) _ = _
  rw [h3]
  show (match G (grab [Sum.inl i, Sum.inr b, Sum.inr c] S).1 with
    | none => none
    | some (out, os') => some (out, back [Sum.inl i, Sum.inr b, Sum.inr c] os' (grab [Sum.inl i, Sum.inr b, Sum.inr c] S).2)) = _
  have e : grab [Sum.inl i, Sum.inr b, Sum.inr c] S = ([o, b, c], S.set i .no) := by
    show (let o := S.getD i .no; let r := grab [Sum.inr b, Sum.inr c] (if isD o then S else S.set i .no); (o :: r.1, r.2)) = _
    rw [hD]
    simp only [hd, Bool.false_eq_true, if_false]
    rfl
  rw [e]
  show (match G [o, b, c] with
    | none => none
    | some (out, os') => some (out, back [Sum.inl i, Sum.inr b, Sum.inr c] os' (S.set i .no))) = _
  rw [h]
  show some (Except.ok r, if isNo ((S.set i .no).getD i .no) then (S.set i .no).set i o' else S.set i .no) = _
  rw [if_pos (by rw [List.getD_eq_getElem?_getD, List.getElem?_set_self hl]; rfl), List.set_set]
/-- two names whose things come back as they were -/
theorem app_two {G : Fn} {i j : Nat} {S : Sl} {o1 o2 r : O} (hij : i ≠ j) (hi : S[i]? = some o1) (hj : S[j]? = some o2) (n1 : isNo o1 = false) (n2 : isNo o2 = false) (h : G [o1, o2] = some (.ok r, [o1, o2])) : eApp G [.v i, .v j] S = some (.ok r, S) := by
  have li : i < S.length := (List.getElem?_eq_some_iff.mp hi).1
  have lj : j < S.length := (List.getElem?_eq_some_iff.mp hj).1
  have di : S.getD i .no = o1 := by rw [List.getD_eq_getElem?_getD, hi]; rfl
  have dj : S.getD j .no = o2 := by rw [List.getD_eq_getElem?_getD, hj]; rfl
  have dj' : (S.set i .no).getD j .no = o2 := by rw [List.getD_eq_getElem?_getD, List.getElem?_set_ne hij, hj]; rfl
  show bnd (if isNo (S.getD i .no) then none else bnd (if isNo (S.getD j .no) then none else some (.ok [Sum.inl j], S)) _) _ = _
  rw [di, dj, n1, n2]
  show (match G (grab [Sum.inl i, Sum.inl j] S).1 with
    | none => none
    | some (out, os') => some (out, back [Sum.inl i, Sum.inl j] os' (grab [Sum.inl i, Sum.inl j] S).2)) = _
  have e : grab [Sum.inl i, Sum.inl j] S = ([o1, o2], if isD o2 then (if isD o1 then S else S.set i .no) else (if isD o1 then S else S.set i .no).set j .no) := by
    show (let o := S.getD i .no; let r := grab [Sum.inl j] (if isD o then S else S.set i .no); (o :: r.1, r.2)) = _
    rw [di]
    show (let r := (let S1 := (if isD o1 then S else S.set i .no); let o := S1.getD j .no; let r := grab [] (if isD o then S1 else S1.set j .no); (o :: r.1, r.2)); (o1 :: r.1, r.2)) = _
    have q : (if isD o1 then S else S.set i .no).getD j .no = o2 := by split <;> assumption
    simp only [q]
    rfl
  rw [e]
  show (match G [o1, o2] with
    | none => none
    | some (out, os') => some (out, back [Sum.inl i, Sum.inl j] os' _)) = _
  rw [h]
  show some (Except.ok r, back [Sum.inl i, Sum.inl j] [o1, o2] (if isD o2 then (if isD o1 then S else S.set i .no) else (if isD o1 then S else S.set i .no).set j .no)) = _
  have hji := Ne.symm hij
  have un : ∀ S1 : Sl, back [Sum.inl i, Sum.inl j] [o1, o2] S1 = (let S2 := (if isNo (S1.getD i .no) then S1.set i o1 else S1); if isNo (S2.getD j .no) then S2.set j o2 else S2) := fun _ => rfl
  rw [un]
  have key : ∀ S1 : Sl, S1.length = S.length → (∀ k, k ≠ i → k ≠ j → S1[k]? = S[k]?) → (S1.getD i .no = .no ∨ S1[i]? = some o1) → (S1.getD j .no = .no ∨ S1[j]? = some o2) → (let S2 := (if isNo (S1.getD i .no) then S1.set i o1 else S1); if isNo (S2.getD j .no) then S2.set j o2 else S2) = S := by
    intro S1 hl hk h1 h2
    have a1 : (if isNo (S1.getD i .no) then S1.set i o1 else S1)[i]? = some o1 := by
      rcases h1 with h1 | h1
      · rw [h1, if_pos (show isNo O.no = true from rfl), List.getElem?_set_self (by omega)]
      · have : S1.getD i .no = o1 := by rw [List.getD_eq_getElem?_getD, h1]; rfl
        rw [this, n1, if_neg Bool.false_ne_true, h1]
    have a2 : ∀ k, k ≠ i → (if isNo (S1.getD i .no) then S1.set i o1 else S1)[k]? = S1[k]? := fun k hk => by
      split
      · rw [List.getElem?_set_ne (Ne.symm hk)]
      · rfl
    have a3 : (if isNo (S1.getD i .no) then S1.set i o1 else S1).length = S.length := by
      split
      · rw [List.length_set, hl]
      · exact hl
    generalize (if isNo (S1.getD i .no) then S1.set i o1 else S1) = S2 at a1 a2 a3
    have b : S2.getD j .no = .no ∨ S2[j]? = some o2 := by
      rcases h2 with h2 | h2
      · left
        rw [List.getD_eq_getElem?_getD, a2 j hji, ← List.getD_eq_getElem?_getD]
        exact h2
      · right
        rw [a2 j hji, h2]
    show (if isNo (S2.getD j .no) then S2.set j o2 else S2) = S
    refine List.ext_getElem? fun k => ?_
    rcases b with b | b
    · rw [b, if_pos (show isNo O.no = true from rfl)]
      by_cases c : k = j
      · subst c
        rw [List.getElem?_set_self (by omega), hj]
      · rw [List.getElem?_set_ne (Ne.symm c)]
        by_cases d : k = i
        · subst d; rw [a1, hi]
        · rw [a2 k d, hk k d c]
    · have : S2.getD j .no = o2 := by rw [List.getD_eq_getElem?_getD, b]; rfl
      rw [this, n2, if_neg Bool.false_ne_true]
      by_cases c : k = j
      · subst c; rw [b, hj]
      · by_cases d : k = i
        · subst d; rw [a1, hi]
        · rw [a2 k d, hk k d c]
  refine congrArg (fun S' => some (Except.ok r, S')) (key _ ?_ ?_ ?_ ?_)
  · split <;> (split <;> simp)
  · intro k hk1 hk2
    split <;> (split <;> simp [List.getElem?_set_ne (Ne.symm hk1), List.getElem?_set_ne (Ne.symm hk2)])
  · split
    · split
      · exact .inr hi
      · left; rw [List.getD_eq_getElem?_getD, List.getElem?_set_self li]; rfl
    · split
      · right; rw [List.getElem?_set_ne hji, hi]
      · left; rw [List.getD_eq_getElem?_getD, List.getElem?_set_ne hji, List.getElem?_set_self li]; rfl
  · split
    · split
      · exact .inr hj
      · right; rw [List.getElem?_set_ne hij, hj]
    · split
      · left; rw [List.getD_eq_getElem?_getD, List.getElem?_set_self lj]; rfl
      · left; rw [List.getD_eq_getElem?_getD, List.getElem?_set_self (by rw [List.length_set]; exact lj)]; rfl
theorem comp_filter' {src : Sl → M (List PyData)} {cnd : Sl → M Bool} {k : Nat} {S0 S1 S : Sl} {ds : List PyData} (p : PyData → Bool) (hs : src S0 = some (.ok ds, S1)) (hl : ds.length ≤ 1000) (hw : wipeS S1 [k] = S) (hw2 : ∀ d, wipeS (S.set k (.d d)) [k] = S)
    (st : ∀ d ∈ ds, cnd (S.set k (.d d)) = some (.ok (p d), S.set k (.d d))) (hk : k < S.length) : eComp src (.nm k) cnd (eName k) [k] S0 = some (.ok (dl (ds.filter p)), wipeS S [k]) := by
  obtain ⟨S', e, rfl⟩ := eComp_inv (p := .nm k) (cnd := cnd) (elt := eName k) (vs := [k]) (fun d => if p d then some (.d d) else none) (fun S' => S' = S) hs (by rw [LIM]; omega) hw (by
    rintro d hd S' rfl
    refine ⟨S'.set k (.d d), S'.set k (.d d), rfl, ?_⟩
    have c := st d hd
    cases q : p d with
    | false =>
      rw [q] at c
      exact .inl ⟨by rw [if_neg Bool.false_ne_true], c, hw2 d⟩
    | true =>
      rw [q] at c
      refine .inr ⟨.d d, S'.set k (.d d), by rw [if_pos rfl], c, ?_, hw2 d⟩
      have hS : (S'.set k (.d d))[k]? = some (.d d) := List.getElem?_set_self hk
      have n := name_er hS (er_d d)
      rw [FT.set_self hS] at n
      exact n)
  rw [filt_some] at e
  exact e
/-- appending where the value's making changes the state -/
theorem appd2_ok {fe : Sl → M O} {S S1 : Sl} {ds : List PyData} {i : Nat} {x : PyData} (hS : S[i]? = some (dl ds)) (h1 : fe S = some (.ok (.d x), S1)) (hS1 : S1[i]? = some (dl ds)) (h : ds.length < 1000) : sDo (eMeth gAppend i [.e fe]) S = some (.ok .nx, S1.set i (dl (ds ++ [x]))) := by
  have hd : S.getD i .no = dl ds := by rw [List.getD_eq_getElem?_getD, hS]; rfl
  have hd1 : S1.getD i .no = dl ds := by rw [List.getD_eq_getElem?_getD, hS1]; rfl
  have hl : i < S1.length := (List.getElem?_eq_some_iff.mp hS1).1
  refine FT.do_at (a := .d .none) ?_
  rw [ap_meth, hd]
  refine (if_pos rfl).trans ?_
  exact app_ve (by rw [hd]; rfl) h1 hl hd1 rfl (by rw [FT.app_dl, if_pos (by rw [LIM]; omega)])
theorem nD_filter {L : List Nat} (p : PyData → Bool) (q : Nat → Bool) (h : ∀ a ∈ L, p (.int a) = q a) : (nD L).filter p = nD (L.filter q) := by
  induction L with
  | nil => rfl
  | cons a L ih =>
    have e := h a List.mem_cons_self
    have i := ih fun b hb => h b (List.mem_cons_of_mem _ hb)
    have un : nD (a :: L) = .int a :: nD L := rfl
    rw [un, List.filter_cons, List.filter_cons, e, i]
    cases q a <;> rfl

end FT
/-! FT36: repr([x, x]) with a name, which keeps what it holds. -/
namespace FT
open PySem PySem.Spec PyProof.Rows L2
def gRepr2 : Fn := fun os => match os with
  | [o] => (match er o with
    | some d => if repOk (.list [d, d]) then some (.ok (.d (.str (PyData.shown (.list [d, d])))), [o]) else none
    | none => none)
  | _ => none
section
variable {K : PySem.W.Frag} {Y : YX}
theorem fr_repr2 : FR K Y (rx1 fun v H Q => [v, v].length ≤ sizeLine ∧ ∀ p, H p = none → rRepr K [.ref p] (upd H p (.lst [v, v])) Q) gRepr2 := by
  intro R L vs os os' H Q E out hl hg rel post
  unfold gRepr2 at hg
  split at hg
  · rename_i o
    obtain ⟨v, rfl⟩ := one_v hl
    split at hg
    · rename_i d he
      split at hg
      · rename_i hc
        cases hg
        refine ⟨by have := sizeLine_eq; show 2 ≤ sizeLine; omega, fun p hp => ?_⟩
        have r1 : Rel K (upd H p (.lst [v, v])) (p :: R) ((o, some v) :: L) := Rel.fresh (u := .lst [v, v]) hp rel
        have q := r1.view he
        exact ⟨.ref p, .list [d, d], rfl, Dq.dp _ _ (Dq.lst upd_same (.cons q (.cons q .nil))) (repOk_nd hc), rfl, hc, post rfl _ _ (r1.letgo.addS (x := .str _) rfl)⟩
      · cases hg
    · cases hg
  · cases hg
end
section
variable {X : Cx} {Y : YX} {W : WX} {pos p q1 n1 n2 : Pos} {i k : Nat} {x : Str}
theorem oe_repr2 (hr : RG k X.A) (hm : X.mg "repr" = none) (h : PE X (.Name x n1) (tVar i)) (h2 : PE X (.Name x n2) (tVar i)) (hg : Gl X "repr" := by rfl)
    (hs : starEach [.Name x n1, .Name x n2] X.env = (false, eval (.Name x n1) X.env) :: starEach [.Name x n2] X.env := by rfl) (hs2 : starEach [.Name x n2] X.env = (false, eval (.Name x n2) X.env) :: starEach [] X.env := by rfl)
    (he : starEach [.List [.Name x n1, .Name x n2] q1] X.env = (false, eval (.List [.Name x n1, .Name x n2] q1) X.env) :: starEach [] X.env := by rfl) (hpl : (backTo pos (starEach [] X.env)).any (·.1) = false := by rfl) :
    OkE X Y W (.Call (.Name "repr" p) [.List [.Name x n1, .Name x n2] q1] [] pos) (eApp gRepr2 [.v i]) := by
  refine ⟨_, pe_callB (call_repr hr) hg hm (by decide +kernel) (pa_cons (pe_lst (pa_cons h (pa_cons h2 pa_nil hs2) hs)) pa_nil he) (by decide) (by decide) he hpl, ?_⟩
  have q := se_at (K := X.K) (Y := Y) (W := W) (i := i) fr_repr2
  intro R T S σ H Q out S' hl hf rel post
  obtain ⟨v, e, g⟩ := q R T S σ H Q out S' hl hf rel post
  exact ⟨v, e, v, e, g⟩
end
end FT
/-! FT37: calls that look at owned things and leave them with their holder: the answer holds no address. -/
namespace FT
open PySem PySem.Spec PyProof.Rows L2
def viewO (o : O) : Option O := if isD o then some o else (er o).map .d
def borF (g : Fn) : Fn := fun os => match os.mapM viewO with
  | some ws => (match g ws with
    | some (.ok (.d x), _) => if scal1 x then some (.ok (.d x), os) else none
    | _ => none)
  | none => none
section
variable {K : PySem.W.Frag} {Y : YX}
theorem own_view {G Gb H : Hp} (gr : Gr G Gb) {o o' : O} {v : V} {f : List Addr} (hc : ∀ a ∈ f, Gb a = H a) (hv : viewO o = some o') (h : Own K G H o (some v) f) : Own K Gb H o' (some v) [] := by
  unfold viewO at hv
  split at hv
  · rename_i hd
    cases hv
    cases h with
    | d h => exact .d (Dq.mono gr _ _ h)
    | fz h => exact .fz (sql_gr gr h)
    | s h => exact .s (Sh.mono gr _ _ h)
    | no => cases hd
    | l _ _ => cases hd
    | m _ => cases hd
    | i _ _ _ => cases hd
    | n _ => cases hd
    | j _ _ _ _ => cases hd
    | q _ _ _ => cases hd
    | g _ _ _ => cases hd
    | fr _ _ _ => cases hd
    | x => cases hd
  · obtain ⟨d, hd, rfl⟩ := Option.map_eq_some_iff.mp hv
    exact .d (Own.data gr o v f d hc hd h)
theorem own_views {G Gb H : Hp} (gr : Gr G Gb) : ∀ {os ws : List O} {vs : List V} {f : List Addr}, os.length = vs.length → (∀ a ∈ f, Gb a = H a) → os.mapM viewO = some ws → OwnP K G H (os.zip (vs.map some)) f → OwnP K Gb H (ws.zip (vs.map some)) []
  | [], ws, _, _, _, _, hm, _ => by
    have hm : some [] = some ws := hm
    cases hm
    exact .nil
  | o :: os, ws, [], _, hl, _, _, _ => by cases hl
  | o :: os, ws, v :: vs, f, hl, hc, hm, h => by
    rw [List.mapM_cons] at hm
    cases q : viewO o with
    | none => rw [q] at hm; cases hm
    | some o' =>
      rw [q] at hm
      cases q2 : os.mapM viewO with
      | none => rw [q2] at hm; cases hm
      | some ws' =>
        rw [q2] at hm
        have hm : some (o' :: ws') = some ws := hm
        cases hm
        cases h with
        | cons a t =>
          exact OwnP.cons (f1 := []) (own_view gr (fun b hb => hc b (List.mem_append_left _ hb)) q a) (own_views gr (by simpa using hl) (fun b hb => hc b (List.mem_append_right _ hb)) q2 t)
theorem mapM_len {os ws : List O} (h : os.mapM viewO = some ws) : ws.length = os.length := by
  induction os generalizing ws with
  | nil =>
    have h : some [] = some ws := h
    cases h
    rfl
  | cons o os ih =>
    rw [List.mapM_cons] at h
    cases q : viewO o with
    | none => rw [q] at h; cases h
    | some o' =>
      rw [q] at h
      cases q2 : os.mapM viewO with
      | none => rw [q2] at h; cases h
      | some ws' =>
        rw [q2] at h
        have h : some (o' :: ws') = some ws := h
        cases h
        rw [List.length_cons, List.length_cons, ih q2]
theorem fr_bor {r : RX} {g : Fn} (h : FR K Y r g) : FR K Y r (borF g) := by
  intro R L vs os os' H Q E out hl hg rel post
  unfold borF at hg
  split at hg
  · rename_i ws hm
    split at hg
    · rename_i x os2 hgw
      split at hg
      · rename_i hx
        cases hg
        obtain ⟨fp, nd, ht, ho⟩ := rel
        obtain ⟨f1, f2, e, o1, o2⟩ := ho.split
        subst e
        have nd1 := List.nodup_append.mp nd
        have nd2 := List.nodup_append.mp nd1.2.1
        have h1 : ∀ a ∈ f1, H a ≠ none := OwnP.there _ _ o1
        have h2 : ∀ a ∈ f2, H a ≠ none := OwnP.there _ _ o2
        have n12 : ∀ a ∈ f1, a ∉ R ++ f2 := fun a ha m => by
          rcases List.mem_append.mp m with m | m
          · exact nd1.2.2 a m a (List.mem_append_left _ ha) rfl
          · exact nd2.2.2 a ha a m rfl
        have gr : Gr (hid H (R ++ (f1 ++ f2))) (hid H (R ++ f2)) := hid_sub fun b m => (List.mem_append.mp m).elim (List.mem_append_left _) fun m => List.mem_append_right _ (List.mem_append_right _ m)
        have cells : ∀ a ∈ f1, hid H (R ++ f2) a = H a := fun a ha => by unfold hid; rw [if_neg (n12 a ha)]
        let P : Hp → Hp → Prop := fun G' H' => Gr (hid H (R ++ (f1 ++ f2))) G' ∧ (∀ a ∈ f1, G' a = H a) ∧ OwnP K (hid H (R ++ (f1 ++ f2))) (fun a => if a ∈ f1 then H a else H' a) (os.zip (vs.map some) ++ L) (f1 ++ f2)
        have hP : P (hid H (R ++ f2)) H := ⟨gr, cells, by
          have e : (fun a => if a ∈ f1 then H a else H a) = H := by funext a; split <;> rfl
          rw [e]
          exact ho⟩
        have st : ∀ G G' H1 H2 : Hp, Gr G G' → (∀ a ∈ f2, H2 a = H1 a) → P G H1 → P G' H2 := fun G G' H1 H2 g k ⟨p1, p2, p3⟩ => ⟨fun a o q => g _ _ (p1 a o q), fun a ha => by
          cases q : H a with
          | none => exact absurd q (h1 a ha)
          | some o => exact g _ _ ((p2 a ha).trans q), OwnP.mono Gr.rfl _ _ (fun a ha => by
          by_cases c : a ∈ f1
          · rw [if_pos c, if_pos c]
          · rw [if_neg c, if_neg c]
            exact k a ((List.mem_append.mp ha).resolve_left c)) p3⟩
        have fin : OwnP K (hid H (R ++ f2)) H (ws.zip (vs.map some) ++ [(.fr P f2, none)]) f2 := by
          have a1 := own_views gr hl cells hm o1
          have a2 : OwnP K (hid H (R ++ f2)) H [(.fr P f2, none)] (f2 ++ []) := .cons (.fr hP st h2) .nil
          rw [List.append_nil] at a2
          exact OwnP.app a1 a2
        refine h R [(.fr P f2, none)] vs ws os2 H Q E (.ok (.d x)) ((mapM_len hm).trans hl) hgw ⟨f2, ?_, ht, fin⟩ ?_
        · exact nd.sublist ((List.sublist_append_right f1 f2).append_left R)
        · intro _ v H' rel'
          refine post hl v H' ?_
          have ev : some v = some (toV x) := rel'.scal hx
          cases ev
          have r2 : Rel K H' R [(.fr P f2, none)] := Rel.drops (L := os2.zip (vs.map some)) rel'.drop
          obtain ⟨fp', nd', ht', ho'⟩ := r2
          cases ho' with
          | cons a t =>
            cases t
            cases a with
            | fr hp _ _ =>
              rw [List.append_nil] at nd' hp
              obtain ⟨p1, p2, p3⟩ := hp
              refine Rel.addS hx ⟨f1 ++ f2, nd, ht', OwnP.mono (fun a o q => ?_) _ _ (fun a ha => ?_) p3⟩
              · have q1 := hid_le _ _ (p1 a o q)
                unfold hid at q ⊢
                split at q
                · cases q
                · rename_i c
                  rw [if_neg c]
                  exact q1
              · by_cases c : a ∈ f1
                · rw [if_pos c]
                  have q1 := p2 a c
                  cases q : H a with
                  | none => exact absurd q (h1 a c)
                  | some o =>
                    rw [q] at q1
                    exact hid_le _ _ q1
                · rw [if_neg c]
      · cases hg
    · cases hg
  · cases hg
end
section
variable {X : Cx} {Y : YX} {W : WX} {k : Nat} {fA : Addr} {fd : FuncData} {ps ks : List Str} {g : Fn} {x : Str} {p pos : Pos} {e : Expr} {es : List Expr} {as : List Ar} {kws : List Keyword} {rv : Bool}
/-- f(e, ..), where what is owned stays with its holder -/
theorem oe_callB (G : FnG X.prog X.w X.K X.mg X.base Y k fA fd ps g) (hr : RG k X.A) (tk : L2N.Takes X W) (hm : X.mg x = some (.ref fA)) (hk : PySem.W.keepIn X.K (.ref fA) = true) (hb : Binds X.K fd ps []) (ha : OkA X Y W (e :: es) as) (hg : Gl X x := by rfl) (hdb : (x == ("__debug__" : Str)) = false := by decide)
    (he : starEach (e :: es) X.env = (false, eval e X.env) :: starEach es X.env := by rfl) (hpl : (backTo pos (starEach es X.env)).any (·.1) = false := by rfl) : OkE X Y W (.Call (.Name x p) (e :: es) [] pos) (eApp (borF g) as) :=
  let ⟨_, q, s⟩ := ha
  ⟨_, pe_callG G hr hg hm hk hb tk q hdb he hpl, se_app s (fr_bor fr_call)⟩
theorem oe_callKB (G : FnG X.prog X.w X.K X.mg X.base Y k fA fd ps g) (hr : RG k X.A) (tk : L2N.Takes X W) (hm : X.mg x = some (.ref fA)) (hk : PySem.W.keepIn X.K (.ref fA) = true) (hb : KwB X.K fd ps ks rv) (ha : OkK X Y W kws as) (hg : Gl X x := by rfl)
    (hall : (backToKw pos (keywordEach kws X.env)).all (·.1.isSome) = true := by rfl) (hks : (backToKw pos (keywordEach kws X.env)).filterMap (·.1) = ks := by rfl) (hdb : (x == ("__debug__" : Str)) = false := by decide)
    (hpl : ((backTo pos (starEach [] X.env)).any (·.1) || (backToKw pos (keywordEach kws X.env)).any (·.1.isNone)) = false := by rfl) : OkE X Y W (.Call (.Name x p) [] kws pos) (eApp (revF rv (borF g)) as) :=
  let ⟨_, q, s⟩ := ha
  ⟨_, pe_callGK G hr hg hm hk hb tk q hall hks hdb hpl, se_app s (fr_revF (fr_bor fr_call))⟩
end
/-- what such a call gives -/
theorem bor_at {g : Fn} {os ws os2 : List O} {x : PyData} (hm : os.mapM viewO = some ws) (hg : g ws = some (.ok (.d x), os2)) (hx : scal1 x = true) : borF g os = some (.ok (.d x), os) := by
  unfold borF
  rw [hm]
  show (match g ws with
    | some (.ok (.d x), _) => if scal1 x then some (Except.ok (O.d x), os) else none
    | _ => none) = _
  rw [hg]
  show (if scal1 x then some (Except.ok (O.d x), os) else none) = _
  rw [hx, if_pos rfl]
theorem view_li {o : O} {ds : List PyData} (h : Li o ds) : viewO o = some (.d (.list ds)) := by
  unfold viewO
  rcases h with rfl | rfl
  · show (er (dl ds)).map O.d = _
    rw [er_dl]
    rfl
  · rfl
theorem view_d (x : PyData) : viewO (.d x) = some (.d x) := rfl
end FT
/-! FT38: for x in range(a, b, c). -/
namespace FT
open PySem PySem.Spec PyProof.Rows L2
def cD (lo c : Int) (n : Nat) : List PyData := (List.range n).map fun i : Nat => .int (lo + i * c)
def rgOk (i j c : Int) : Bool := decide (c ≠ 0) && decide (c.natAbs < 1073741824) && Builtin.Range.small i j c && decide (Builtin.Range.rangeSize i j c = ((Builtin.Range.rangeSize i j c).toNat : Int))
def kRng3 : List O → Option (List PyData)
  | [.d (.int i), .d (.int j), .d (.int c)] => if rgOk i j c then some (cD i c (Builtin.Range.rangeSize i j c).toNat) else none
  | _ => none
section
variable {K : PySem.W.Frag} {Y : YX} {W : WX}
theorem iter_rangeC {lo c : Int} {n : Nat} : IterOk K (Itc lo c n) (cD lo c n) [] := by
  intro R L H rel i
  refine ⟨fun d hd => ?_, fun hi => ?_⟩
  · have hlt : i < n := by
      obtain ⟨q, _⟩ := List.getElem?_eq_some_iff.mp hd
      simpa [cD] using q
    have ed : d = .int (lo + i * c) := by
      have := hd
      simp [cD, hlt] at this
      exact this.symm
    subst ed
    refine ⟨hlt, fun x H' hy => ?_⟩
    obtain ⟨rfl, rfl⟩ := hy
    exact rel.addS (x := .int (lo + i * c)) rfl
  · have h : (cD lo c n).length ≤ i := hi
    have h2 : n ≤ i := by simpa [cD] using h
    exact h2
theorem si_range3 {ta : TA} {as : List Ar} (h : SA K Y W ta as) : SIt K Y W (iRng3 ta) (wArgs as kRng3) := by
  intro R T S σ H Rr out S' hl hf rel post
  rcases wArgs_cases hf with ⟨e, e1, rfl⟩ | ⟨hs, os, ds, e1, q, q2, rfl⟩
  · exact h R T S σ H _ _ _ hl e1 rel fun hl' => post hl'
  · refine h R T S σ H _ _ _ hl e1 rel fun hl' vs L H1 hv rel1 => ?_
    obtain ⟨el, rfl⟩ := vals_hv q hv
    unfold kRng3 at q2
    split at q2
    · rename_i i j c
      split at q2
      · rename_i hb
        cases q2
        unfold rgOk at hb
        rw [Bool.and_eq_true, Bool.and_eq_true, Bool.and_eq_true, decide_eq_true_eq, decide_eq_true_eq, decide_eq_true_eq] at hb
        obtain ⟨v, u, w, rfl⟩ : ∃ v u w, vs = [v, u, w] := by
          match vs, el with
          | [v, u, w], _ => exact ⟨v, u, w, rfl⟩
        have r1 : Rel K H1 R ((.d (.int i), some v) :: (.d (.int j), some u) :: (.d (.int c), some w) :: (S'.zip σ ++ T)) := rel1
        have ev := scal_head rfl r1
        subst ev
        have eu := scal_head rfl r1.drop
        subst eu
        have ew := scal_head rfl r1.drop.drop
        subst ew
        obtain ⟨⟨⟨b1, b2⟩, b3⟩, b4⟩ := hb
        exact ⟨i, j, c, _, rfl, ⟨b1, b2, b3, b4⟩, post hl' _ [] H1 iter_rangeC r1.drop.drop.drop⟩
      · cases q2
    · cases q2
end
section
variable {X : Cx} {Y : YX} {W : WX} {tg a b c : Expr} {as : List Ar} {p pos : Pos}
theorem oi_range3 (h : OkA X Y W [a, b, c] as) (hm : X.mg "range" = none) (hg : Gl X "range" := by rfl) (hs : starEach [a, b, c] X.env = (false, eval a X.env) :: starEach [b, c] X.env := by rfl) (hpl : (backTo pos (starEach [b, c] X.env)).any (·.1) = false := by rfl) :
    OkI X Y W tg (.Call (.Name "range" p) [a, b, c] [] pos) (wArgs as kRng3) :=
  let ⟨_, q, s⟩ := h; ⟨_, pi_range3 hg hm q hs hpl, si_range3 s⟩
end
end FT
/-! FT39: repr([..]) where {} may stand within. -/
namespace FT
open PySem PySem.Spec PyProof.Rows L2
def gReprLQ : Fn := fun os => match ers os with
  | some ds => if decide (ds.length ≤ LIM) && repQ (.list ds) then some (.ok (.d (.str (PyData.shown (.list ds)))), os) else none
  | none => none
section
variable {K : PySem.W.Frag} {Y : YX}
theorem fr_reprLQ : FR K Y (rxn fun xs H Q => xs.length ≤ sizeLine ∧ ∀ p, H p = none → rReprQ [.ref p] (upd H p (.lst xs)) Q) gReprLQ := by
  intro R L vs os os' H Q E out hl hg rel post
  unfold gReprLQ at hg
  split at hg
  · rename_i ds he
    split at hg
    · rename_i hc
      rw [Bool.and_eq_true, decide_eq_true_eq] at hc
      cases hg
      have hlen : os.length = ds.length := ers_len he
      refine ⟨by rw [← hl, hlen]; exact LIM_le hc.1, fun p hp => ?_⟩
      have r1 := rel.fresh (u := .lst vs) hp
      have q := r1.views hl he
      exact ⟨.ref p, .list ds, rfl, Dq.lst upd_same q, hc.2, post hl _ _ (r1.letgo.addS (x := .str _) rfl)⟩
    · cases hg
  · cases hg
end
section
variable {X : Cx} {Y : YX} {W : WX} {pos p q1 : Pos}
theorem oe_reprLQ {k : Nat} {es : List Expr} {as : List Ar} (hr : RG k X.A) (hm : X.mg "repr" = none) (ha : OkA X Y W es as) (hg : Gl X "repr" := by rfl)
    (he : starEach [.List es q1] X.env = (false, eval (.List es q1) X.env) :: starEach [] X.env := by rfl) (hpl : (backTo pos (starEach [] X.env)).any (·.1) = false := by rfl) :
    OkE X Y W (.Call (.Name "repr" p) [.List es q1] [] pos) (eApp gReprLQ as) :=
  let ⟨_, q, s⟩ := ha
  ⟨_, pe_callB (call_reprQ hr) hg hm (by decide +kernel) (pa_cons (pe_lst q) pa_nil he) (by decide) (by decide) he hpl, se_appn (r := fun xs H Q => xs.length ≤ sizeLine ∧ ∀ p, H p = none → rReprQ [.ref p] (upd H p (.lst xs)) Q) s fr_reprLQ⟩
end
end FT
namespace FT
open PySem PySem.Spec PyProof.Rows L2
/-! ### i, j = a, b, where a name may be one of a comprehension's -/
section
variable {K : PySem.W.Frag} {Y : YX} {W : WX} {ws : List Nat}
theorem ss_parC {i j : Nat} {ta : TA} {as : List Ar} (h : SA K Y W ta as) (hi : i ∈ ws) (hj : j ∈ ws) : SS K Y W ws (tAsg (tTup ta) (gTup K 2 (gCons (gName i) (gCons (gName j) gNil)))) (sPar i j as) := by
  intro R T S σ H D out S' hl hf rel post
  rcases bnd_cases hf with ⟨e, e1, rfl⟩ | ⟨hs, S1, e1, e2⟩
  · exact h R T S σ H _ _ _ hl e1 rel (post_err post)
  · refine h R T S σ H _ _ _ hl e1 rel fun hl' vs L H' hv rel' => ?_
    split at e2
    · rename_i a b
      cases e2
      cases hv with
      | r hv => cases hv with
        | r hv =>
          cases hv
          rename_i v w
          refine ⟨by have := sizeLine_eq; show 2 ≤ sizeLine; omega, fun p hp => ⟨p, [v, w], rfl, SqT.of upd_same, rfl, v, [w], rfl, w, [], rfl, rfl, ?_⟩⟩
          have r0 : Rel K (upd H' p (.tup [v, w])) R ((a, some v) :: (b, some w) :: (S1.zip σ ++ T)) := (Rel.fresh (u := .tup [v, w]) hp rel').letgo
          have r1 : Rel K (upd H' p (.tup [v, w])) R ((a, some v) :: (S1.zip σ ++ ((b, some w) :: T))) := r0.perm (.cons _ List.perm_middle.symm)
          have r2 := r1.assign (i := i) hl'
          have r3 : Rel K (upd H' p (.tup [v, w])) R ((b, some w) :: ((S1.set i a).zip (σ.set i (some v)) ++ T)) := r2.mid
          have r4 := r3.assign (i := j) (by rw [List.length_set, List.length_set]; exact hl')
          exact post (by rw [List.length_set, List.length_set]; exact hl') _ _ (Kept.trans (.set hi) (.set hj)) r4
    · cases e2
end
section
variable {X : Cx} {Y : YX} {W : WX} {ws : List Nat} {a b : Expr} {as : List Ar} {pos : Pos} {i : Nat} {x : Str}
theorem os_parC {j : Nat} {y : Str} {px py ptt : Pos} {kt k2 : Nat} {pt2 : Pos} (hc : X.calm = true) (hx : PG X (.Name x px) (gName i)) (hy : PG X (.Name y py) (gName j)) (hwi : i ∈ ws) (hwj : j ∈ ws) (ha : OkA X Y W [a, b] as)
    (hs : swapsWithSole [.Tuple [.Name x px, .Name y py] kt ptt] (.Tuple [a, b] k2 pt2) pos.line X.env = pure false := by rfl) (hw : swappedStores [.Tuple [.Name x px, .Name y py] kt ptt] (.Tuple [a, b] k2 pt2) X.env = pure none := by rfl)
    (h1 : (assignEach [.Tuple [.Name x px, .Name y py] kt ptt] X.env).map (·.2) = [assign (.Tuple [.Name x px, .Name y py] kt ptt) X.env] := by rfl)
    (hn : (assignEach [.Name x px, .Name y py] X.env).length = 2 := by rfl) (hst : (assignEach [.Name x px, .Name y py] X.env).findIdx? (·.1) = none := by rfl)
    (he1 : (assignEach [.Name x px, .Name y py] X.env).map (·.2) = assign (.Name x px) X.env :: (assignEach [.Name y py] X.env).map (·.2) := by rfl) (he2 : (assignEach [.Name y py] X.env).map (·.2) = assign (.Name y py) X.env :: (assignEach [] X.env).map (·.2) := by rfl) :
    OkS X Y W ws (.Assign [.Tuple [.Name x px, .Name y py] kt ptt] (.Tuple [a, b] k2 pt2) pos) (sPar i j as) :=
  let ⟨_, q, s⟩ := ha
  ⟨_, ps_asg (pe_tup q) (pg_tup hc (pgs_cons hx (pgs_cons hy pgs_nil he2) he1) hn hst) hs hw h1, ss_parC s hwi hwj⟩
end
end FT
/-! FT40: dicts whose keys are tuples of None, ints and such tuples, all to True. -/
namespace FT
open PySem PySem.Spec PyProof.Rows L2
abbrev Nk := NestedKey × Addr
mutual
theorem nk_hash (w w' : World) : ∀ (d : PyData) (k : NestedKey), nkOf d = some k → k.hash w = k.hash w'
  | .none, k, h => by simp only [nkOf] at h; cases h; rfl
  | .int i, k, h => by simp only [nkOf] at h; cases h; rfl
  | .tuple ds, k, h => by
    simp only [nkOf] at h
    obtain ⟨ks, e, rfl⟩ := Option.map_eq_some_iff.mp h
    simp only [NestedKey.hash, nk_hashes w w' ds ks e]
  | .bool _, k, h => by simp only [nkOf] at h; cases h
  | .str _, k, h => by simp only [nkOf] at h; cases h
  | .list _, k, h => by simp only [nkOf] at h; cases h
  | .dict _, k, h => by simp only [nkOf] at h; cases h
theorem nk_hashes (w w' : World) : ∀ (ds : List PyData) (ks : List NestedKey), nkAll ds = some ks → NestedKey.hashes w ks = NestedKey.hashes w' ks
  | [], ks, h => by simp only [nkAll] at h; cases h; rfl
  | d :: ds, ks, h => by
    simp only [nkAll] at h
    split at h
    · rename_i k ks' h1 h2
      cases h
      simp only [NestedKey.hashes, nk_hash w w' d k h1, nk_hashes w w' ds ks' h2]
    · cases h
end
section
variable {P : Program} {w : World} {H H' : Hp} {h h' : Heap} {a b : Addr} {xs : List Nk} {vs : List (NestedKey × Addr × Value)}
mutual
theorem nk_is (ok : HOk P w H h) : ∀ (d : PyData) (v : V) (k : NestedKey) (u : Value), Dq H v d → nkOf d = some k → RelV v u → NestedIs h k u
  | .none, v, k, u, hd, hk, r => by
    simp only [nkOf] at hk
    cases hk
    cases hd
    cases (show u = Value.none from r)
    exact .none
  | .int i, v, k, u, hd, hk, r => by
    simp only [nkOf] at hk
    cases hk
    cases hd
    obtain ⟨t, rfl⟩ := (show ∃ t, u = Value.int i t from r)
    exact .int i t
  | .tuple ds, v, k, u, hd, hk, r => by
    simp only [nkOf] at hk
    obtain ⟨ks, e, rfl⟩ := Option.map_eq_some_iff.mp hk
    cases hd with
    | tup e2 t =>
      rename_i a vs
      cases (show u = Value.ref a from r)
      obtain ⟨_, its, r2, o, h1, h2, n, h3⟩ := (show ObjOk P w H h a (.tup vs) from ok a _ e2)
      exact .tup h1 h2 h3 (by simpa using nk_ises ok ds vs ks its t e r2)
  | .bool _, v, k, u, hd, hk, r => by simp only [nkOf] at hk; cases hk
  | .str _, v, k, u, hd, hk, r => by simp only [nkOf] at hk; cases hk
  | .list _, v, k, u, hd, hk, r => by simp only [nkOf] at hk; cases hk
  | .dict _, v, k, u, hd, hk, r => by simp only [nkOf] at hk; cases hk
theorem nk_ises (ok : HOk P w H h) : ∀ (ds : List PyData) (vs : List V) (ks : List NestedKey) (us : List Value), DqL H vs ds → nkAll ds = some ks → Vals vs us → NestedAll h ks us
  | [], vs, ks, us, hd, hk, r => by
    simp only [nkAll] at hk
    cases hk
    cases hd
    cases r
    exact .nil
  | d :: ds, vs, ks, us, hd, hk, r => by
    simp only [nkAll] at hk
    split at hk
    · rename_i k ks' h1 h2
      cases hk
      cases hd with
      | cons a t =>
        cases r with
        | cons r1 r2 => exact .cons (nk_is ok d _ k _ a h1 r1) (nk_ises ok ds _ ks' _ t h2 r2)
    · cases hk
end
def KeyN (H : Hp) (x : Nk) : Prop := ∃ d, nkOf d = some x.1 ∧ x.1.depth ≤ 8 ∧ Dq H (.ref x.2) d
theorem key_ofN (ok : HOk P w H h) {x : Nk} (k : KeyN H x) : (nestedKind P w).is h x.1 x.2 := by
  obtain ⟨d, h1, h2, h3⟩ := k
  exact ⟨nk_is ok d _ _ _ h3 h1 rfl, h2⟩
theorem nkO_of (ok : HOk P w H h) (e : H a = some (NkO a xs)) (hk : ∀ x ∈ xs, KeyN H x) : xs.length ≤ sizeLine ∧ (a == sysModules) = false ∧ ∃ vs, Paired NkV xs vs ∧ h.DictOfH (nestedKind P w) a vs := by
  obtain ⟨⟨z, y, vs, r, nd, d⟩, _⟩ := (show ObjOk P w H h a (NkO a xs) from ok a _ e)
  refine ⟨z, y, vs, r, ?_⟩
  obtain ⟨o, es, ep, h1, h2, h3, h4⟩ := d P w
  refine ⟨o, es, ep, h1, h2, h3, h4, ?_, nd⟩
  have all : ∀ {l : List Nk} {m : List (NestedKey × Addr × Value)}, Paired NkV l m → (∀ x ∈ l, KeyN H x) → ∀ y ∈ m, (nestedKind P w).is h y.1 y.2.1 := by
    intro l m q
    induction q with
    | nil => intro _ y hy; cases hy
    | @cons p q ps qs hq t ih =>
      intro hl y hy
      rcases List.mem_cons.mp hy with e | hy
      · subst e
        rw [hq.1, hq.2.1]
        exact key_ofN ok (hl p List.mem_cons_self)
      · exact ih (fun x hx => hl x (List.mem_cons_of_mem _ hx)) y hy
  exact all r hk
theorem nk_ents {P P' : Program} {w w' : World} {xs : List Nk} {vs : List (NestedKey × Addr × Value)} (rel : Paired NkV xs vs) (hk : ∀ x ∈ xs, ∃ d, nkOf d = some x.1) : vs.map (entryOfKey (nestedKind P w)) = vs.map (entryOfKey (nestedKind P' w')) := by
  induction rel with
  | nil => rw [List.map_nil, List.map_nil]
  | @cons x y xs vs h t ih =>
    have e : (nestedKind P w).hash y.1 = (nestedKind P' w').hash y.1 := by
      obtain ⟨d, hd⟩ := hk x List.mem_cons_self
      rw [h.1]
      exact nk_hash w w' d _ hd
    rw [List.map_cons, List.map_cons, ih fun x hx => hk x (List.mem_cons_of_mem _ hx)]
    have e2 : entryOfKey (nestedKind P w) y = entryOfKey (nestedKind P' w') y := by
      unfold entryOfKey
      rw [e]
    rw [e2]
def NkF (a : Addr) (xs : List Nk) (h : Heap) : Prop := xs.length ≤ sizeLine ∧ (a == sysModules) = false ∧ ∃ vs, Paired NkV xs vs ∧ (vs.map (·.1)).Nodup ∧
  ∀ (P : Program) (w : World), ∃ o es ep, h.get? a = some o ∧ o.ExactDict ∧ o.data = .dict es ep ∧ es.toList = vs.map (entryOfKey (nestedKind P w))
theorem nkF_new (z : xs.length ≤ sizeLine) (hd : (a == sysModules) = false) (rel : Paired NkV xs vs) (hk : ∀ x ∈ xs, ∃ d, nkOf d = some x.1) (dd : h'.DictOfH (nestedKind P w) a vs) : NkF a xs h' ∧ ∃ o, h'.get? a = some o := by
  obtain ⟨o, es, ep, h1, h2, h3, h4, hki, nd⟩ := dd
  exact ⟨⟨z, hd, vs, rel, nd, fun P' w' => ⟨o, es, ep, h1, h2, h3, h4.trans (nk_ents rel hk)⟩⟩, o, h1⟩
theorem nkF_stay : ∀ h1 h2 : Heap, NkF a xs h1 → (∀ o, h1.get? a = some o → h2.get? a = some o) → NkF a xs h2 := by
  rintro h1 h2 ⟨z, y, vs, r, nd, d⟩ k
  refine ⟨z, y, vs, r, nd, fun P' w' => ?_⟩
  obtain ⟨o, es, ep, q, rest⟩ := d P' w'
  exact ⟨o, es, ep, k o q, rest⟩
theorem nkO_new (z : xs.length ≤ sizeLine) (hd : (a == sysModules) = false) (rel : Paired NkV xs vs) (hk : ∀ x ∈ xs, ∃ d, nkOf d = some x.1) (dd : h'.DictOfH (nestedKind P w) a vs) : ObjOk P w H' h' a (NkO a xs) :=
  have f := nkF_new z hd rel hk dd
  ⟨f.1, f.2, nkF_stay⟩
theorem nkO_empty (h : Heap) (hb : sysModules < h.objs.size) : ObjOk P w H (h.push { cls := .type "dict", data := .dict #[] }) h.objs.size (NkO h.objs.size []) :=
  nkO_new (P := P) (w := w) (vs := []) (Nat.zero_le _) (beq_eq_false_iff_ne.mpr (Ne.symm (Nat.ne_of_lt hb))) .nil (fun x hx => by cases hx) (Heap.DictOfH.new h)
theorem nk_at {xs : List Nk} {vs : List (NestedKey × Addr × Value)} (r : Paired NkV xs vs) (k : NestedKey) : (atKey vs k).isSome = decide (k ∈ xs.map (·.1)) := by
  induction r with
  | nil => rfl
  | @cons x y xs vs h t ih =>
    unfold atKey at ih ⊢
    rw [List.find?_cons, h.1]
    by_cases q : x.1 = k
    · rw [decide_eq_true q, decide_eq_true (show k ∈ (x :: xs).map (·.1) by rw [List.map_cons, q]; exact List.mem_cons_self)]
      rfl
    · rw [decide_eq_false q]
      refine ih.trans (decide_eq_decide.mpr ?_)
      rw [List.map_cons, List.mem_cons]
      exact ⟨.inr, fun z => z.elim (fun z => absurd z.symm q) id⟩
end
/-! ### readings -/
def tGNew : TE := fun _ H Q => ∀ p, H p = none → Q (.ref p) (upd H p (NkO p []))
def rGIn : R2 := fun y x H Q => ∃ a xs b k, x = .ref a ∧ H a = some (NkO a xs) ∧ (∀ x ∈ xs, KeyN H x) ∧ y = .ref b ∧ KeyN H (k, b) ∧ Q (.bl (decide (k ∈ xs.map (·.1)))) H
def sGPut (td ty tv : TE) : TS := fun D σ H => tv σ H fun v H1 => td σ H1 fun x H2 => ty σ H2 fun y H3 => ∃ a xs b k, v = .bl true ∧ x = .ref a ∧ H3 a = some (NkO a xs) ∧ (∀ x ∈ xs, KeyN H3 x) ∧ y = .ref b ∧ KeyN H3 (k, b) ∧ k ∉ xs.map (·.1) ∧ xs.length < sizeLine ∧ D.nx σ (upd H3 a (NkO a (xs ++ [(k, b)])))
section
variable {X : Cx} {o i e value : Expr} {pos pos' tpos : Pos} {td ty tv : TE}
theorem pe_gnew : PE X (.Dict [] [] pos) tGNew := ⟨fun pins s σ H Q I h =>
  wpAny_Dict_empty ⟨.ref s.heap.objs.size, _, I.laid (a := s.heap.objs.size) (o := NkO s.heap.objs.size []) (t' := s.toks) (fun _ _ q => Heap.get?_push_of_some _ q) (Nat.le_refl _) (nkO_empty s.heap I.big), rfl, h _ (I.hok.fresh (Nat.le_refl _))⟩⟩
theorem op_gin (hu : X.A.units + 9 < cLine) : OpR X (compareOp .In) rGIn := by
  intro pins s σ H x y u v Q I rx ry h
  obtain ⟨a, xs, b, k, ex, e, hk, ey, hb, q2⟩ := h
  subst ex ey
  obtain rfl : v = Value.ref a := ry
  obtain rfl : u = Value.ref b := rx
  obtain ⟨z, hd, vs, rel, dd⟩ := nkO_of I.hok e hk
  refine wpAny_in_heap (knd := nestedKind X.prog X.w) (k := k) (by show X.A.units + 1 + 8 < cLine; omega) (key_ofN I.hok hb) hd dd ?_
  rw [nk_at rel k]
  exact ⟨.bl (decide (k ∈ xs.map fun x : Nk => x.1)), H, I.tok _, rfl, q2⟩
theorem ps_gput (hu : X.A.units + 9 < cLine) (ho : PE X o td) (hi : PE X i ty) (hv : PE X value tv) (hs : swapsWith value (some (.Subscript o i pos')) pos.line X.env = pure false) :
    PS X (.Assign [.Subscript o i pos'] value pos) (sGPut td ty tv) := by
  refine ⟨fun pins s σ H D I h => ?_⟩
  refine wpAny_Assign_Subscript (thn (hv.run pins s σ H _ I h) fun r s1 ⟨v, H1, I1, rv, q1⟩ => thn (ho.run pins s1 σ H1 _ I1 q1) fun u s2 ⟨x, H2, I2, rx, q2⟩ => thn (hi.run pins s2 σ H2 _ I2 q2) fun iv s3 ⟨y, H3, I3, ry, a, xs, b, k, ev, ex, e, hk, ey, hb, hn, l, q3⟩ => ?_) hs
  subst ev ex ey
  obtain rfl : u = Value.ref a := rx
  obtain rfl : iv = Value.ref b := ry
  obtain ⟨z, hd, vs, rel, dd⟩ := nkO_of I3.hok e hk
  have hat : atKey vs k = none := by
    have q := nk_at rel k
    rw [decide_eq_false hn] at q
    simpa using q
  refine wpAny_setItem_heap (knd := nestedKind X.prog X.w) (k := k) (hsz := by rw [← rel.length]; exact z) (by show X.A.units + 1 + 8 < cLine; omega) (key_ofN I3.hok hb) dd fun h' dd' hs => ⟨σ, _, ?_, q3⟩
  have he : ∃ q, h'.get? a = some q := let ⟨q, _, _, hq, _⟩ := dd'; ⟨q, hq⟩
  rw [storedH_new hat] at dd'
  have rel' : Paired NkV (xs ++ [(k, b)]) (vs ++ [(k, b, r)]) := paired_snoc rel ⟨rfl, rfl, rv⟩
  refine d_write I3 (by rw [e]; exact True.intro) hs he (nkO_new (by rw [List.length_append, List.length_singleton]; omega) hd rel' (fun x hx => ?_) dd')
  rcases List.mem_append.mp hx with hx | hx
  · obtain ⟨d, hd, _⟩ := hk x hx
    exact ⟨d, hd⟩
  · rw [List.mem_singleton.mp hx]
    obtain ⟨d, hd, _⟩ := hb
    exact ⟨d, hd⟩
end
/-! ### as abstract values -/
section
variable {K : PySem.W.Frag} {H : Hp} {R : List Addr} {L : List En}
theorem Rel.putG {ks : List NestedKey} {w : Option V} {y : V} {ds : List PyData} {k : NestedKey} (hk0 : nkOf (.tuple ds) = some k) (hdp : k.depth ≤ 8) (h : Rel K H R ((.d (.tuple ds), some y) :: (.g ks, w) :: L)) : ∃ D xs b, w = some (.ref D) ∧ ks = xs.map (·.1) ∧ H D = some (NkO D xs) ∧ (∀ x ∈ xs, KeyN H x) ∧ y = .ref b ∧ KeyN H (k, b) ∧
    Rel K (upd H D (NkO D (xs ++ [(k, b)]))) R ((.g (ks ++ [k]), some (.ref D)) :: L) := by
  obtain ⟨fp, nd, ht, ho⟩ := h
  cases ho with
  | cons a t =>
    cases a with
    | d hd =>
      cases t with
      | cons q t2 =>
        rename_i f2
        cases q with
        | g e h hk =>
          rename_i D xs
          obtain ⟨b, ey⟩ : ∃ b, y = .ref b := by cases hd; exact ⟨_, rfl⟩
          subst ey
          have nd' : (R ++ ([D] ++ f2)).Nodup := nd
          have mD : D ∈ R ++ ([D] ++ f2) := List.mem_append_right _ (List.mem_append_left _ List.mem_cons_self)
          refine ⟨D, xs, b, rfl, e, h, fun x hx => let ⟨d, q1, q2, q3⟩ := hk x hx; ⟨d, q1, q2, Dq.mono hid_le _ _ q3⟩, rfl, ⟨_, hk0, hdp, Dq.mono hid_le _ _ hd⟩, ⟨[D] ++ f2, nd', fun a ha => ?_, ?_⟩⟩
          · by_cases z : a = D
            · rw [z, upd_same]; exact fun q => nomatch q
            · rw [upd_ne z]; exact ht a ha
          · rw [hid_upd mD]
            refine .cons (.g (xs := xs ++ [(k, b)]) (by rw [e, List.map_append]; rfl) upd_same fun x hx => ?_) (OwnP.mono Gr.rfl _ _ (fun a ha => ?_) t2)
            · rcases List.mem_append.mp hx with hx | hx
              · exact hk x hx
              · rw [List.mem_singleton.mp hx]
                exact ⟨_, hk0, hdp, hd⟩
            · refine upd_ne fun z => ?_
              subst z
              have := (List.nodup_append.mp nd').2.1
              exact (List.nodup_append.mp this).2.2 a List.mem_cons_self a ha rfl
/-- a new one -/
theorem Rel.newG {D : Addr} (hD : H D = none) (h : Rel K H R L) : Rel K (upd H D (NkO D [])) R ((.g [], some (.ref D)) :: L) := by
  obtain ⟨fp, nd, ht, ho⟩ := h
  have nD : D ∉ R ++ fp := fun m => by
    rcases List.mem_append.mp m with m | m
    · exact ht D m hD
    · exact OwnP.there _ _ ho D m hD
  have pp : (D :: (R ++ fp)).Perm (R ++ ([D] ++ fp)) := by
    show (D :: (R ++ fp)).Perm (R ++ (D :: fp))
    exact List.perm_middle.symm
  have nd' : (R ++ ([D] ++ fp)).Nodup := pp.nodup_iff.mp (List.nodup_cons.mpr ⟨nD, nd⟩)
  refine ⟨[D] ++ fp, nd', fun a ha => ?_, ?_⟩
  · rw [upd_ne fun z => nD (by rw [← z]; exact List.mem_append_left _ ha)]
    exact ht a ha
  · rw [hid_upd (pp.mem_iff.mp List.mem_cons_self), ← hid_iff (R := D :: (R ++ fp)) fun b => pp.mem_iff, hid_none hD]
    exact .cons (.g rfl upd_same fun x hx => by cases hx) (OwnP.mono Gr.rfl _ _ (fun a ha => upd_ne fun z => nD (by rw [← z]; exact List.mem_append_right _ ha)) ho)
end
section
variable {K : PySem.W.Frag} {Y : YX} {W : WX} {R : List Addr} {T L : List En} {H : Hp} {σ : Slots}
def eGNew : Sl → M O := fun S => some (.ok (.g []), S)
theorem se_gnew : SE K Y W tGNew eGNew := by
  intro R T S σ H Q out S' hl hf rel post
  cases hf
  intro p hp
  exact post hl _ _ (Rel.newG hp rel)
def gGIn : Fn := fun os => match os with
  | [.d (.tuple ds), .g ks] => (match nkOf (.tuple ds) with
    | some k => if decide (k.depth ≤ 8) then some (.ok (.d (.bool (decide (k ∈ ks)))), [.d (.tuple ds), .g ks]) else none
    | none => none)
  | _ => none
theorem fr_gin : FR K Y (rx2 rGIn) gGIn := by
  intro R L vs os os' H Q E out hl hg rel post
  unfold gGIn at hg
  split at hg
  · rename_i ds ks
    obtain ⟨v, u, rfl⟩ := two_v hl
    split at hg
    · rename_i k hk
      split at hg
      · rename_i hdp
        cases hg
        have r0 : Rel K H R ((.d (.tuple ds), some v) :: (.g ks, some u) :: L) := rel
        obtain ⟨D, xs, b, e, eks, hD, hkx, ey, hkb, _⟩ := r0.putG hk (of_decide_eq_true hdp)
        cases e
        subst ey eks
        refine ⟨D, xs, b, k, rfl, hD, hkx, rfl, hkb, ?_⟩
        exact post rfl _ H (r0.addS (x := .bool (decide (k ∈ xs.map (·.1)))) rfl)
      · cases hg
    · cases hg
  · cases hg
def sGSet (i : Nat) (fk fv : Sl → M O) : Sl → MS := fun S => bnd (fv S) fun o S1 => if isNo (S1.getD i .no) then none else bnd (fk S1) fun k S2 => match o, S2.getD i .no, k with
  | .d (.bool true), .g ks, .d (.tuple ds) => (match nkOf (.tuple ds) with
    | some k => if decide (k.depth ≤ 8) && (decide (ks.length < LIM) && !decide (k ∈ ks)) then some (.ok .nx, S2.set i (.g (ks ++ [k]))) else none
    | none => none)
  | _, _, _ => none
theorem ss_gset {ws : List Nat} {i : Nat} {ty tv : TE} {fk fv : Sl → M O} (hv : SE K Y W tv fv) (hk : SE K Y W ty fk) : SS K Y W ws (sGPut (tVar i) ty tv) (sGSet i fk fv) := by
  intro R T S σ H D out S' hl hf rel post
  rcases bnd_cases hf with ⟨e, e1, rfl⟩ | ⟨o, S1, e1, e2⟩
  · exact hv R T S σ H _ _ _ hl e1 rel (post_err post)
  · refine hv R T S σ H _ _ _ hl e1 rel fun hl1 v H1 rel1 => ?_
    have rel1' : Rel K H1 R (S1.zip σ ++ ((o, some v) :: T)) := rel1.unmid
    split at e2
    · cases e2
    · rename_i hn
      obtain ⟨x, hx⟩ := slot_val hl1 (by simpa using hn) rel1'
      refine ⟨x, hx, ?_⟩
      rcases bnd_cases e2 with ⟨e, e3, rfl⟩ | ⟨k, S2, e3, e4⟩
      · exact hk R _ S1 σ H1 _ _ _ hl1 e3 rel1' fun hle cls dd H' hy r => post_err post hle cls dd H' hy r.mid.drop
      · refine hk R _ S1 σ H1 _ _ _ hl1 e3 rel1' fun hl2 u H2 rel2 => ?_
        split at e4
        · rename_i ks ds hS
          split at e4
          · rename_i k' hk'
            split at e4
            · rename_i hc
              cases e4
              simp only [Bool.and_eq_true, Bool.not_eq_true', decide_eq_true_eq, decide_eq_false_iff_not] at hc
              obtain ⟨hdp, hlim, hnm⟩ := hc
              have hi2 : i < S2.length := lt_of_slot hl2 hx
              have ev : v = toV (.bool true) := by
                have : Rel K H2 R ((.d (.bool true), some v) :: (S2.zip σ ++ T)) := rel2.drop.mid
                exact scal_head (x := .bool true) rfl this
              subst ev
              have r1 : Rel K H2 R (S2.zip σ ++ ((.d (.tuple ds), some u) :: ((.d (.bool true), some (toV (.bool true))) :: T))) := rel2.unmid
              have r2 : Rel K H2 R ((.g ks, some x) :: ((S2.set i .no).zip σ ++ ((.d (.tuple ds), some u) :: ((.d (.bool true), some (toV (.bool true))) :: T)))) := r1.take (by rw [getD_some hi2, hS]) hx
              have r3 : Rel K H2 R ((.d (.tuple ds), some u) :: (.g ks, some x) :: ((S2.set i .no).zip σ ++ ((.d (.bool true), some (toV (.bool true))) :: T))) := r2.perm ((List.Perm.cons _ List.perm_middle).trans (.swap ..))
              obtain ⟨a, xs, b, e, eks, hD, hkx, ey, hkb, r4⟩ := r3.putG hk' hdp
              cases e
              subst ey
              refine ⟨a, xs, b, k', rfl, rfl, hD, hkx, rfl, hkb, by rw [← eks]; exact hnm, by rw [← List.length_map (f := fun x : Nk => x.1), ← eks]; exact LIM_lt hlim, ?_⟩
              have r6 := r4.put hx
              rw [List.set_set] at r6
              exact post (by rw [List.length_set]; exact hl2) σ _ .refl r6.mid.drop
            · cases e4
          · cases e4
        · cases e4
end
section
variable {X : Cx} {Y : YX} {W : WX} {a b e idx : Expr} {ra rb : Ar} {fa f : Sl → M O} {pos p p1 p2 : Pos} {k i : Nat} {x : Str} {ws : List Nat}
theorem oe_gnew : OkE X Y W (.Dict [] [] pos) eGNew := ⟨_, pe_gnew, se_gnew⟩
theorem oe_gin (hr : RG k X.A) (ha : OkR X Y W a ra) (hb : OkR X Y W b rb) (hm : behindInMarks .In b = false := by rfl) : OkE X Y W (.Compare a [.In] [b] pos) (eApp gGIn [ra, rb]) := oe_cmp (op_gin (by have := units64 hr; omega)) fr_gin ha hb hm
theorem ot_gin (hr : RG k X.A) (ha : OkR X Y W a ra) (hb : OkR X Y W b rb) (hm : behindInMarks .In b = false := by rfl) : OkT X Y W (.Compare a [.In] [b] pos) (tVal (eApp gGIn [ra, rb])) := ot_cmp (op_gin (by have := units64 hr; omega)) fr_gin ha hb hm
theorem os_gset (hr : RG k X.A) (ho : PE X (.Name x p1) (tVar i)) (hi : OkE X Y W idx fa) (h : OkE X Y W e f)
    (hs : swapsWith e (some (.Subscript (.Name x p1) idx p)) pos.line X.env = pure false := by rfl) : OkS X Y W ws (.Assign [.Subscript (.Name x p1) idx p] e pos) (sGSet i fa f) :=
  let ⟨_, q1, t1⟩ := hi
  let ⟨_, q2, t2⟩ := h
  ⟨_, ps_gput (by have := units64 hr; omega) ho q1 q2 hs, ss_gset t2 t1⟩
end
end FT
/-! FT41: sorted(..) of lists of ints, any number of them. -/
namespace FT
open PySem PySem.Spec PySem.W PyProof.Rows L2
abbrev Rw := V × List Int
def rowD (r : List Int) : PyData := .list (r.map .int)
def rowOf : PyData → Option (List Int)
  | .list xs => xs.mapM intD
  | _ => none
theorem rowOf_eq {d : PyData} {r : List Int} (h : rowOf d = some r) : d = rowD r := by
  cases d <;> first | (have h : List.mapM intD _ = some r := h; rw [mapM_intD h]; rfl) | cases h
def rowsOf : List PyData → Option (List (List Int))
  | [] => some []
  | d :: ds => match rowOf d, rowsOf ds with
    | some r, some rs => some (r :: rs)
    | _, _ => none
theorem rowsOf_eq : ∀ {ds : List PyData} {rs : List (List Int)}, rowsOf ds = some rs → ds = rs.map rowD
  | [], _, h => by
    have h : some [] = some _ := h
    cases h
    rfl
  | d :: ds, _, h => by
    unfold rowsOf at h
    split at h
    · rename_i r rs h1 h2
      cases h
      rw [rowOf_eq h1, rowsOf_eq h2]
      rfl
    · cases h
def rwLe (p q : List Int) : Bool := decide (p ≤ q)
def srtR (bs : List Rw) : List Rw := bs.mergeSort fun p q => rwLe p.2 q.2
def rSortR (K : PySem.W.Frag) : List V → Hp → VK → Prop := fun vs H Q => ∃ (a : Addr) (bs : List Rw), vs = [V.ref a] ∧ SqL K H a (bs.map fun b : Rw => b.1) ∧ (∀ b ∈ bs, Dq H b.1 (rowD b.2)) ∧
  ∀ p, H p = none → Q (.ref p) (upd H p (.lst ((srtR bs).map fun b : Rw => b.1)))
theorem each_vals : ∀ {bs : List Rw} {its : List Value}, Vals (bs.map fun b : Rw => b.1) its → EachIs (fun (v : Value) (b : Rw) => RelV b.1 v) its bs
  | [], _, h => by
    cases h
    exact .nil
  | b :: bs, _, h => by
    cases h with
    | cons r t => exact .cons r (each_vals t)
theorem vals_each : ∀ {bs : List Rw} {its : List Value}, EachIs (fun (v : Value) (b : Rw) => RelV b.1 v) its bs → Vals (bs.map fun b : Rw => b.1) its
  | _, _, .nil => .nil
  | _, _, .cons r t => .cons r (vals_each t)
section
variable {X : Cx} {pins : List (Addr × Obj)} {σ : L2.St} {H : Hp} {s : Shared}
theorem each_reads (I : Inv X pins σ H s) : ∀ {bs : List Rw} {its : List Value}, (∀ b ∈ bs, Dq H b.1 (rowD b.2)) → EachIs (fun (v : Value) (b : Rw) => RelV b.1 v) its bs → EachIs (fun (v : Value) (b : Rw) => ∃ as, Reads s.heap v (rowD b.2) as) its bs
  | _, _, _, .nil => .nil
  | _, _, hd, .cons r t => .cons (Rdl.reads _ _ (Dq.rdl I _ _ _ (hd _ List.mem_cons_self) r)) (each_reads I (fun b hb => hd b (List.mem_cons_of_mem _ hb)) t)
theorem cr_sortR (hu : X.A.units + 3 < cLine) : CallR X (.builtin "sorted") (rSortR X.K) := by
  intro pins s σ H vs us Q I r h
  obtain ⟨a, bs, rfl, hs, hd, q⟩ := h
  obtain ⟨its, rv, hl, hz⟩ := I.list hs
  rw [Vals.ref1 r]
  have e := each_vals rv
  have er := each_reads I hd e
  rw [List.length_map] at hz
  refine sorted_data (enc := fun b : Rw => rowD b.2) hl.isList e er (AllAlike.of fun b b' => ?_) (Sortable.others fun b => ⟨fun z => (nomatch z), fun xs z => (nomatch z)⟩) hz (fun b hb => ?_) fun out h1 h2 => ?_
  · simp only [rowD, alike, alike_ints]
  · simp only [rowD, PyData.depth, depth_ints]
    omega
  · obtain ⟨ep, he'⟩ := PyProof.Rows.sortedAll_at s.heap its (List.toArray out)
    have hle : dataLe false (fun b : Rw => rowD b.2) = fun p q => rwLe p.2 q.2 := dataLe_rows (fun b : Rw => b.2)
    rw [hle] at h2
    have rv2 := vals_each h2
    have hlen : ((srtR bs).map fun b : Rw => b.1).length ≤ sizeLine := by rw [List.length_map, srtR, List.length_mergeSort]; exact hz
    exact ⟨.ref _, upd H (s.heap.objs.size + 1) (.lst ((srtR bs).map fun b : Rw => b.1)), I.laid (t' := s.toks) (fun _ _ => PyProof.Rows.sortedAll_old) (Nat.le_succ _) ⟨hlen, out, ep, rv2, he'⟩, rfl, q _ (I.hok.fresh (Nat.le_succ _))⟩
end
def gSortR : Fn := fun os => match os with
  | [a] => (match lsOf a with
    | some ds => (match rowsOf ds with
      | some rs => some (.ok (dl ((rs.mergeSort rwLe).map rowD)), [nrm a])
      | none => none)
    | none => none)
  | _ => none
theorem zip_rows : ∀ bs : List Rw, (((bs.map fun b : Rw => b.2).map rowD).map O.d).zip ((bs.map fun b : Rw => b.1).map some) = bs.map fun b : Rw => (O.d (rowD b.2), some b.1)
  | [] => rfl
  | b :: bs => congrArg ((O.d (rowD b.2), some b.1) :: ·) (zip_rows bs)
theorem zip_fs : ∀ {xs : List V} {rs : List (List Int)}, xs.length = rs.length → ((xs.zip rs).map fun b : Rw => b.1) = xs ∧ ((xs.zip rs).map fun b : Rw => b.2) = rs
  | [], [], _ => ⟨rfl, rfl⟩
  | x :: xs, r :: rs, h => by
    obtain ⟨h1, h2⟩ := zip_fs (xs := xs) (rs := rs) (by simpa using h)
    exact ⟨congrArg (x :: ·) h1, congrArg (r :: ·) h2⟩
  | [], _ :: _, h => by cases h
  | _ :: _, [], h => by cases h
theorem dql_all {H : Hp} : ∀ {bs : List Rw}, DqL H (bs.map fun b : Rw => b.1) ((bs.map fun b : Rw => b.2).map rowD) → ∀ b ∈ bs, Dq H b.1 (rowD b.2)
  | b :: bs, h, c, hc => by
    cases h with
    | cons h1 t =>
      rcases List.mem_cons.mp hc with rfl | hc
      · exact h1
      · exact dql_all t c hc
theorem fr_sortR {K : PySem.W.Frag} {Y : YX} : FR K Y (rxn (rSortR K)) gSortR := by
  intro R L vs os os' H Q E out hl hg rel post
  unfold gSortR at hg
  split at hg
  · rename_i a
    obtain ⟨v, rfl⟩ := one_v hl
    split at hg
    · rename_i ds h1
      split at hg
      · rename_i rs h2
        cases hg
        have r0 : Rel K H R ((a, some v) :: L) := rel
        obtain ⟨p, xs, rfl, hp, el, hd, r1⟩ := r0.nrm h1
        have e := rowsOf_eq h2
        subst e
        have elen : xs.length = rs.length := by rw [List.length_map] at el; first | exact el | exact el.symm
        obtain ⟨f1, f2⟩ := zip_fs elen
        generalize xs.zip rs = bs at f1 f2
        subst f1 f2
        have sm : (srtR bs).map (fun b : Rw => b.2) = (bs.map fun b : Rw => b.2).mergeSort rwLe := sort_maps (fun b : Rw => b.2) (fun _ _ _ _ => rfl)
        rw [← sm] at post
        refine ⟨p, bs, rfl, SqL.of hp, dql_all hd, fun c hc => post rfl _ _ ?_⟩
        refine Rel.newL hc (by simp) ?_
        rw [zip_rows] at r1 ⊢
        exact r1.perm (List.Perm.append_right _ ((List.mergeSort_perm bs _).symm.map _))
      · cases hg
    · cases hg
  · cases hg
section
variable {X : Cx} {Y : YX} {W : WX} {e : Expr} {es : List Expr} {as : List Ar} {pos p : Pos} {k : Nat} {x : Str}
theorem oe_sortR (hr : RG k X.A) (hm : X.mg x = none) (hv : bootBuiltins x = some (.builtin "sorted")) (ha : OkA X Y W (e :: es) as) (hg : Gl X x := by rfl)
    (hn : x ≠ "__name__" := by decide) (hdb : (x == ("__debug__" : Str)) = false := by decide) (he : starEach (e :: es) X.env = (false, eval e X.env) :: starEach es X.env := by rfl) (hpl : (backTo pos (starEach es X.env)).any (·.1) = false := by rfl) :
    OkE X Y W (.Call (.Name x p) (e :: es) [] pos) (eApp gSortR as) := oe_blt (cr_sortR (by have := units64 hr; omega)) fr_sortR hm hv ha hg hn hdb he hpl
end
end FT
/-! FT42: sorted(..) by insertion, so that the kernel can run it. -/
namespace FT
open PySem PySem.Spec PySem.W PyProof.Rows L2
section
variable {α : Type}
def insB (le : α → α → Bool) (a : α) : List α → List α
  | [] => [a]
  | b :: l => if le a b then a :: b :: l else b :: insB le a l
def isrt (le : α → α → Bool) : List α → List α
  | [] => []
  | a :: l => insB le a (isrt le l)
theorem insB_perm (le : α → α → Bool) (a : α) : ∀ l, (insB le a l).Perm (a :: l)
  | [] => .refl _
  | b :: l => by
    unfold insB
    split
    · exact .refl _
    · exact ((insB_perm le a l).cons b).trans (.swap ..)
theorem isrt_perm (le : α → α → Bool) : ∀ l, (isrt le l).Perm l
  | [] => .refl _
  | a :: l => (insB_perm le a _).trans ((isrt_perm le l).cons a)
theorem insB_pw {le : α → α → Bool} (tr : ∀ a b c, le a b = true → le b c = true → le a c = true) (to : ∀ a b, (le a b || le b a) = true) (a : α) : ∀ l, l.Pairwise (fun x y => le x y = true) → (insB le a l).Pairwise (fun x y => le x y = true)
  | [], _ => List.pairwise_singleton _ _
  | b :: l, h => by
    have h' := List.pairwise_cons.mp h
    unfold insB
    split
    · rename_i q
      exact List.pairwise_cons.mpr ⟨fun x hx => by
        rcases List.mem_cons.mp hx with rfl | hx
        · exact q
        · exact tr _ _ _ q (h'.1 x hx), h⟩
    · rename_i q
      refine List.pairwise_cons.mpr ⟨fun x hx => ?_, insB_pw tr to a l h'.2⟩
      rcases List.mem_cons.mp ((insB_perm le a l).mem_iff.mp hx) with rfl | hx
      · have := to x b
        rw [Bool.or_eq_true] at this
        exact this.elim (fun z => absurd z q) id
      · exact h'.1 x hx
theorem isrt_pw {le : α → α → Bool} (tr : ∀ a b c, le a b = true → le b c = true → le a c = true) (to : ∀ a b, (le a b || le b a) = true) : ∀ l, (isrt le l).Pairwise (fun x y => le x y = true)
  | [] => .nil
  | a :: l => insB_pw tr to a _ (isrt_pw tr to l)
theorem isrt_eq {le : α → α → Bool} (tr : ∀ a b c, le a b = true → le b c = true → le a c = true) (to : ∀ a b, (le a b || le b a) = true) (an : ∀ a b, le a b = true → le b a = true → a = b) (l : List α) : l.mergeSort le = isrt le l :=
  List.Perm.eq_of_pairwise (le := fun x y => le x y = true) (fun a b _ _ h1 h2 => an a b h1 h2) (List.pairwise_mergeSort tr to l) (isrt_pw tr to l) ((List.mergeSort_perm l le).trans (isrt_perm le l).symm)
end
theorem srtI_eq (ns : List Int) : srtI ns = isrt (fun a b => decide (a ≤ b)) ns := isrt_eq (fun a b c h1 h2 => by simp at *; omega) (fun a b => by simp; omega) (fun a b h1 h2 => by simp at *; omega) ns
theorem srtL_eq (rs : List (List Int)) : rs.mergeSort rwLe = isrt rwLe rs := by
  have t : ∀ {a b : List Int}, rwLe a b = true ↔ a ≤ b := fun {a b} => by unfold rwLe; rw [decide_eq_true_eq]
  exact isrt_eq (le := rwLe) (fun a b c h1 h2 => t.mpr (List.le_trans (t.mp h1) (t.mp h2))) (fun a b => by
    rw [Bool.or_eq_true, t, t]
    exact List.le_total a b) (fun a b h1 h2 => List.le_antisymm (t.mp h1) (t.mp h2)) rs
def gSortedS : Fn := fun os => match os with
  | [a] => (match lsOf a with
    | some ds => (match ds.mapM intD with
      | some ns => if ns.length < 64 then some (.ok (dl ((isrt (fun a b => decide (a ≤ b)) ns).map .int)), [nrm a]) else none
      | none => none)
    | none => none)
  | _ => none
def gSortRS : Fn := fun os => match os with
  | [a] => (match lsOf a with
    | some ds => (match rowsOf ds with
      | some rs => some (.ok (dl ((isrt rwLe rs).map rowD)), [nrm a])
      | none => none)
    | none => none)
  | _ => none
theorem sortedS_eq : gSortedS = gSorted := by
  funext os
  unfold gSortedS gSorted
  simp only [srtI_eq] <;> rfl
theorem sortRS_eq : gSortRS = gSortR := by
  funext os
  unfold gSortRS gSortR
  simp only [srtL_eq] <;> rfl
theorem fr_sortedS {K : PySem.W.Frag} {Y : YX} : FR K Y (rxn (rSorted K)) gSortedS := by
  rw [sortedS_eq]
  exact fr_sorted
theorem fr_sortRS {K : PySem.W.Frag} {Y : YX} : FR K Y (rxn (rSortR K)) gSortRS := by
  rw [sortRS_eq]
  exact fr_sortR
section
variable {X : Cx} {Y : YX} {W : WX} {e : Expr} {es : List Expr} {as : List Ar} {pos p : Pos} {k : Nat} {x : Str}
theorem oe_sortRS (hr : RG k X.A) (hm : X.mg x = none) (hv : bootBuiltins x = some (.builtin "sorted")) (ha : OkA X Y W (e :: es) as) (hg : Gl X x := by rfl)
    (hn : x ≠ "__name__" := by decide) (hdb : (x == ("__debug__" : Str)) = false := by decide) (he : starEach (e :: es) X.env = (false, eval e X.env) :: starEach es X.env := by rfl) (hpl : (backTo pos (starEach es X.env)).any (·.1) = false := by rfl) :
    OkE X Y W (.Call (.Name x p) (e :: es) [] pos) (eApp gSortRS as) := oe_blt (cr_sortR (by have := units64 hr; omega)) fr_sortRS hm hv ha hg hn hdb he hpl
end
end FT
/-! FT43: raise of an own error; try with one clause whose suite returns a constant. -/
namespace FT
open PySem PySem.Spec PySem.W PyProof.Rows L2
/-- errors of own classes: the class is a global, the error has no dict -/
def YK (K : PySem.W.Frag) : YX := fun e cls dd _ => PySem.W.nsIn K mainGlobals e.cls = some (some cls) ∧ dd = none
/-- what a class of errors says, so that it can be raised -/
structure ErrC (K : PySem.W.Frag) (C : Addr) : Prop where
  ex : excIn K C [.type "ValueError", .type "Exception", .type "BaseException", .type "object"] "ValueError.__new__" = true
  kp : keepIn K (.ref C) = true
  be : subIn K (.ref C) (.type "BaseException") = some true
  ty : typeIn K (.ref C) = some (.type "type")
def sRaise (c : Str) : Sl → MS := fun S => some (.error ⟨c, none⟩, S)
section
variable {X : Cx} {W : WX} {ws : List Nat} {Y : YX}
theorem os_raise {x m : Str} {C : Addr} {j : Nat} {p p2 pos pos' : Pos} (hc : X.calm = true) (tk : L2N.Takes X W) (hC : nsIn X.K mainGlobals x = some (some (.ref C))) (e : ErrC X.K C) (hm : X.mg x = some (.ref C)) (hg : Gl X x := by rfl) (hdb : (x == ("__debug__" : Str)) = false := by decide) :
    OkS X (YK X.K) W ws (.Raise (some (.Call (.Name x p) [.Constant (.str m) j p2] [] pos)) none pos') (sRaise x) :=
  ⟨_, L2N.ps_raise hc tk (L2N.pmk_own PySem.F.excBase_ValueError e.ex hm e.kp (raises_own e.be e.ty) hg (hdb := hdb)), by
    intro R T S σ H D out S' hl hf rel post
    cases hf
    exact post hl (.ref C) none σ H .refl ⟨hC, rfl⟩ rel⟩

/-- an error of which nothing is wanted -/
theorem takesN {X : Cx} : L2N.Takes X (fun _ _ _ _ => False) := by
  rintro u s' ⟨a, B, sI, pins, σ, H, cls, d, x⟩
  exact x.2.2.2.2.2.2.2.2.elim

/-! ### heaps that grow -/
theorem Rel.gr {K : PySem.W.Frag} {R : List Addr} {L : List En} {H H' : Hp} (g : Gr H H') (h : Rel K H R L) : Rel K H' R L := by
  obtain ⟨fp, h1, h2, h3⟩ := h
  have ne : ∀ a, H a ≠ none → H' a = H a := fun a n => by
    cases e : H a with
    | none => exact absurd e n
    | some o => exact g a o e
  refine ⟨fp, h1, fun a ha => by rw [ne a (h2 a ha)]; exact h2 a ha, OwnP.mono (fun a o e => ?_) _ _ (fun a ha => ne a (OwnP.there _ _ h3 a ha)) h3⟩
  unfold hid at e ⊢
  split at e
  · cases e
  · rename_i n
    rw [if_neg n]
    exact g a o e

/-! ### what a suite returns: a constant -/
/-- the piece answers x, as long as slot i has the error at a -/
def OkX (X : Cx) (i : Nat) (a : Addr) (e : Expr) (x : PyData) : Prop := ∃ te, PE X e te ∧ ∀ (σ : Slots) (H : Hp) (Q : VK), σ[i]? = some (some (.ref a)) → (∀ H', Gr H H' → Q (toV x) H') → te σ H Q
section
variable {i : Nat} {a : Addr} {e c e1 e2 : Expr} {x x1 x2 : PyData} {pos p p1 p2 : Pos} {b : Bool}
theorem ox_str {s : Str} {j} : OkX X i a (.Constant (.str s) j pos) (.str s) := ⟨_, pe_str, fun _ H _ _ q => q H .rfl⟩
theorem ox_bool {s : Bool} {j} : OkX X i a (.Constant (.bool s) j pos) (.bool s) := ⟨_, pe_bl, fun _ H _ _ q => q H .rfl⟩
theorem ox_if (hc : OkX X i a c (.bool b)) (h1 : OkX X i a e1 x1) (h2 : OkX X i a e2 x2) (he : ∀ whole, isTrue c X.env whole = (do let v ← whole; standAt c.pos; holding [v] (truthy v)) := by intro _; rfl) : OkX X i a (.IfExp c e1 e2 pos) (if b then x1 else x2) := by
  obtain ⟨tc, pc, qc⟩ := hc
  obtain ⟨t1, q1, r1⟩ := h1
  obtain ⟨t2, q2, r2⟩ := h2
  refine ⟨_, pe_ifExp (pt_val pc he) q1 q2, fun σ H Q hi q => ?_⟩
  refine qc σ H _ hi fun H1 g1 => ⟨b, rfl, ?_⟩
  cases b with
  | true => exact r1 σ H1 Q hi fun H2 g2 => q H2 fun a o e => g2 a o (g1 a o e)
  | false => exact r2 σ H1 Q hi fun H2 g2 => q H2 fun a o e => g2 a o (g1 a o e)
theorem ox_isi {X0 : Cx} {oe : Obj} {pn : List (Addr × Obj)} {D : Addr} {T : String} {n y : Str} (C : ExcC X0.K D) (hz : Zc (.ref D) none oe) (hf : ∃ vs, oe.data = .fields vs) (hk : kitOne X0.K (.ref D) (.type T) = some b)
    (hn : PE (X0.suite a ((a, oe) :: pn)) (.Name n p1) (tVar i)) (hm : X0.mg "isinstance" = none) (hmT : X0.mg y = none) (hvT : bootBuiltins y = some (.type T)) (hg : Gl X0 "isinstance" := by rfl) (hgT : Gl X0 y := by rfl) (hnT : y ≠ "__name__" := by decide) (hdT : (y == ("__debug__" : Str)) = false := by decide)
    (he : starEach [.Name n p1, .Name y p2] X0.env = (false, eval (.Name n p1) X0.env) :: starEach [.Name y p2] X0.env := by rfl) (he2 : starEach [.Name y p2] X0.env = (false, eval (.Name y p2) X0.env) :: starEach [] X0.env := by rfl) (hpl : (backTo pos (starEach [.Name y p2] X0.env)).any (·.1) = false := by rfl) :
    OkX (X0.suite a ((a, oe) :: pn)) i a (.Call (.Name "isinstance" p) [.Name n p1, .Name y p2] [] pos) (.bool b) := by
  refine ⟨_, pe_callB (X := X0.suite a ((a, oe) :: pn)) (x := "isinstance") (call_isE C hz hf) hg hm (by decide +kernel) (pa_cons hn (pa_cons (pe_bltn (v := .ty T) hgT hmT hvT rfl hnT hdT) pa_nil he2) he) (by decide) (by decide) he hpl, fun σ H Q hi q => ?_⟩
  exact ⟨_, hi, .ty T, .type T, b, rfl, fun u r => r, hk, q H .rfl⟩
/-- a suite that returns x -/
def OkSu (X : Cx) (i : Nat) (a : Addr) (sts : List Stmt) (x : PyData) : Prop := ∃ ts, PSs X sts ts ∧ ∀ (σ : Slots) (H : Hp) (D : Ends), σ[i]? = some (some (.ref a)) → (∀ H', Gr H H' → D.rt (toV x) H') → ts D σ H
theorem osu_ret (h : OkX X i a e x) : OkSu X i a [.Return (some e) pos] x := by
  obtain ⟨te, p, q⟩ := h
  exact ⟨_, pss_one (ps_ret p), fun σ H D hi hd => q σ H _ hi hd⟩
end

/-! ### the weakest reading of a block -/
def cS (K : PySem.W.Frag) (Y : YX) (W : WX) (ws : List Nat) (f : Sl → MS) : TS := fun D σ H => ∃ R T S out S', S.length = σ.length ∧ f S = some (out, S') ∧ Rel K H R (S.zip σ ++ T) ∧ PostS K Y W ws R T σ D out S'
theorem pss_cS {sts : List Stmt} {f : Sl → MS} (h : OkSs X Y W ws sts f) : PSs X sts (cS X.K Y W ws f) := by
  obtain ⟨te, p, s⟩ := h
  exact ⟨fun pins s0 σ H D I hw => by
    obtain ⟨R, T, S, out, S', h1, h2, h3, h4⟩ := hw
    exact p.run pins s0 σ H D I (s R T S σ H D out S' h1 h2 h3 h4)⟩

/-! ### try -/
/-- errors of the classes in yes are caught, the suite returns what stands there; those in no go on -/
def sTryK (yes : List (Str × PyData)) (no : List Str) (i : Nat) (body : Sl → MS) : Sl → MS := fun S => match body S with
  | some (.error e, S1) => match yes.lookup e.cls with
    | some x => some (.ok (.rt (.d x)), S1.set i .no)
    | none => if no.contains e.cls then some (.error e, S1) else none
  | r => r
/-- .. the same for all -/
def sTryC (yes no : List Str) (i : Nat) (x : PyData) (body : Sl → MS) : Sl → MS := sTryK (yes.map fun c => (c, x)) no i body
theorem lk_mem {c : Str} {x : PyData} : ∀ {l : List (Str × PyData)}, l.lookup c = some x → (c, x) ∈ l
  | (d, y) :: l, h => by
    rw [List.lookup_cons] at h
    split at h
    · rename_i e
      have e' : c = d := by simpa using e
      cases h
      rw [e']; exact List.mem_cons_self
    · exact List.mem_cons_of_mem _ (lk_mem h)
theorem lk_map {c : Str} {x : PyData} : ∀ {l : List Str}, l.contains c = true → (l.map fun c => (c, x)).lookup c = some x
  | d :: l, h => by
    rw [List.map_cons, List.lookup_cons]
    by_cases e : c = d
    · rw [show (c == d) = true from beq_iff_eq.mpr e]
    · rw [show (c == d) = false from beq_eq_false_iff_ne.mpr e]
      exact lk_map (by simpa [e] using h)
theorem Rel.lose {K : PySem.W.Frag} {R : List Addr} {T : List En} {H : Hp} {S : Sl} {σ : Slots} {i : Nat} {v : V} (h : Rel K H R (S.zip σ ++ T)) (hl : S.length = σ.length) : Rel K H R ((S.set i .no).zip (σ.set i (some v)) ++ T) := (Rel.addNo h).assign hl
theorem os_tryK {x n : Str} {C : Addr} {i : Nat} {yes : List (Str × PyData)} {no : List Str} {body suite : List Stmt} {b₀ : Stmt} {np pos pos' : Pos} {f : Sl → MS}
    (hs : X.stack = X.env :: X.outer) (hf : X.env.frame = some X.env.locals) (hN : X.N.Nodup) (hi : X.N[i]? = some n) (hln : X.env.kindOf n = some .local) (hc : Names X x (.ref C)) (tk : L2N.Takes X W) (hw : i ∈ ws)
    (hb : ∀ (W' : WX) (pn : List (Addr × Obj)) (xe : Value → Shared → Prop), L2N.Takes (X.tr pn xe) W' → PassesOwn (model X.prog X.w) X.A X.env xe → OkSs (X.tr pn xe) (YK X.K) W' ws body f)
    (hy : ∀ p ∈ yes, ∃ D, nsIn X.K mainGlobals p.1 = some (some (.ref D)) ∧ exmOne X.K (.ref D) (.ref C) = some true ∧ scal1 p.2 = true ∧ ∀ (a : Addr) (oe : Obj) (pn : List (Addr × Obj)), L2N.Zn (.ref D) none oe → (∃ vs, oe.data = .fields vs) → OkSu (X.suite a ((a, oe) :: pn)) i a (b₀ :: suite) p.2)
    (hno : ∀ c ∈ no, ∃ D, nsIn X.K mainGlobals c = some (some (.ref D)) ∧ exmOne X.K (.ref D) (.ref C) = some false) :
    OkS X (YK X.K) W ws (.Try body [.ExceptHandler (some (.Name x np)) (some n) (b₀ :: suite) pos'] [] [] pos) (sTryK yes no i f) := by
  refine ⟨fun D σ H => cS X.K (YK X.K) (wAs X.K (.ref C) i (fun a cls d D' σ' H' => (i < σ'.length → σ'[i]? = some (some (.ref a))) ∧ d = none ∧ (∃ p ∈ yes, nsIn X.K mainGlobals p.1 = some (some cls) ∧ ∀ H'', Gr H' H'' → D'.rt (toV p.2) H'')) W D) ws f D σ H, ?_, ?_⟩
  · refine ⟨fun pins s σ H D I h => ?_⟩
    refine (L2N.ps_try_as (i := i) (tb := fun W' => cS X.K (YK X.K) W' ws f) (ts := fun a cls d D' σ' H' => (i < σ'.length → σ'[i]? = some (some (.ref a))) ∧ d = none ∧ (∃ p ∈ yes, nsIn X.K mainGlobals p.1 = some (some cls) ∧ ∀ H'', Gr H' H'' → D'.rt (toV p.2) H'')) hs hf hN hi hln hc tk (fun W' pn xe tk' px => pss_cS (hb W' pn xe tk' px)) (fun a oe cls d pn hz hf => ⟨fun pins s σ H D I h => ?_⟩)).run pins s σ H D I h
    obtain ⟨h1, rfl, ⟨p, hp, hcn, h4⟩⟩ := h
    obtain ⟨D0, e1, e2, e0, e3⟩ := hy p hp
    rw [hcn] at e1
    cases e1
    obtain ⟨ts, ps, q⟩ := e3 a oe pn hz hf
    have hlt : i < σ.length := by
      have h2 : σ.length = X.N.length := I.len
      rw [h2]
      exact (List.getElem?_eq_some_iff.mp hi).1
    exact ps.run pins s σ H D I (q σ H D (h1 hlt) h4)
  · intro R T S σ H D out S' hl hf' rel post
    unfold sTryK at hf'
    cases q : f S with
    | none => rw [q] at hf'; cases hf'
    | some z =>
      obtain ⟨o1, S1⟩ := z
      rw [q] at hf'
      refine ⟨R, T, S, o1, S1, hl, q, rel, ?_⟩
      cases o1 with
      | ok fl =>
        cases hf'
        cases fl <;> exact post
      | error e =>
        intro hl1 cls dd σ' H' kp hy' rel'
        obtain ⟨hy1, hy2⟩ := id hy'
        dsimp only at hf'
        cases hc1 : yes.lookup e.cls with
        | some v =>
          rw [hc1] at hf'
          cases hf'
          have hm := lk_mem hc1
          obtain ⟨D0, e1, e2, e0, e3⟩ := hy _ hm
          rw [hy1] at e1
          cases e1
          refine ⟨true, e2, fun _ a na => ⟨fun hlt => ?_, hy2, ⟨_, hm, hy1, fun H'' g => ?_⟩⟩, fun z => nomatch z⟩
          · rw [List.getElem?_set_self (by simpa using hlt)]
          · exact post (by rw [List.length_set]; exact hl1) (toV v) (σ'.set i (some (.ref a))) H'' (kp.trans (.set hw)) (Rel.addS e0 (Rel.lose (rel'.gr g) (hl1.trans kp.1.symm)))
        | none =>
          rw [hc1] at hf'
          dsimp only at hf'
          by_cases hc2 : no.contains e.cls = true
          · rw [if_pos hc2] at hf'
            cases hf'
            have hm : e.cls ∈ no := by simpa using hc2
            obtain ⟨D0, e1, e2⟩ := hno e.cls hm
            rw [hy1] at e1
            cases e1
            exact ⟨false, e2, (fun z => nomatch z), fun _ => post hl1 _ dd σ' H' kp hy' rel'⟩
          · rw [if_neg hc2] at hf'
            cases hf'
theorem os_tryC {x n : Str} {C : Addr} {i : Nat} {yes no : List Str} {v : PyData} {body suite : List Stmt} {b₀ : Stmt} {np pos pos' : Pos} {f : Sl → MS}
    (hs : X.stack = X.env :: X.outer) (hf : X.env.frame = some X.env.locals) (hN : X.N.Nodup) (hi : X.N[i]? = some n) (hln : X.env.kindOf n = some .local) (hc : Names X x (.ref C)) (tk : L2N.Takes X W) (hw : i ∈ ws) (hv : scal1 v = true)
    (hb : ∀ (W' : WX) (pn : List (Addr × Obj)) (xe : Value → Shared → Prop), L2N.Takes (X.tr pn xe) W' → PassesOwn (model X.prog X.w) X.A X.env xe → OkSs (X.tr pn xe) (YK X.K) W' ws body f)
    (hy : ∀ c ∈ yes, ∃ D, nsIn X.K mainGlobals c = some (some (.ref D)) ∧ exmOne X.K (.ref D) (.ref C) = some true ∧ ∀ (a : Addr) (oe : Obj) (pn : List (Addr × Obj)), Zc (.ref D) none oe → (∃ vs, oe.data = .fields vs) → OkSu (X.suite a ((a, oe) :: pn)) i a (b₀ :: suite) v)
    (hno : ∀ c ∈ no, ∃ D, nsIn X.K mainGlobals c = some (some (.ref D)) ∧ exmOne X.K (.ref D) (.ref C) = some false) :
    OkS X (YK X.K) W ws (.Try body [.ExceptHandler (some (.Name x np)) (some n) (b₀ :: suite) pos'] [] [] pos) (sTryC yes no i v f) :=
  os_tryK hs hf hN hi hln hc tk hw hb (fun p hp => by
    obtain ⟨c, hc, rfl⟩ := List.mem_map.mp hp
    obtain ⟨D, h1, h2, h3⟩ := hy c hc
    exact ⟨D, h1, h2, hv, fun a oe pn hz => h3 a oe pn hz.zc⟩) hno
end

theorem kit_ty {K : PySem.W.Frag} {D : Addr} {T : String} {b : Bool} (h : subIn K (.ref D) (.type T) = some b) (hm : kitMeta T = true := by decide +kernel) : kitOne K (.ref D) (.type T) = some b := by
  unfold kitOne
  rw [if_neg (by intro z; cases z)]
  show (if kitMeta T = true then subIn K (.ref D) (.type T) else none) = some b
  rw [if_pos hm]; exact h

/-! ### the end of a law in which errors are raised and caught -/
def okOnly (g : Fn) : Fn := fun os => match g os with
  | some (.ok o, os') => some (.ok o, os')
  | _ => none
theorem okOnly_some {g : Fn} {os os' : List O} {out : Except Ex O} (h : okOnly g os = some (out, os')) : ∃ o, out = .ok o ∧ g os = some (.ok o, os') := by
  unfold okOnly at h
  split at h
  · rename_i o os2 e
    cases h
    exact ⟨o, rfl, e⟩
  · cases h
theorem FnG.okOnly {P : Program} {w : World} {K : PySem.W.Frag} {mg : Str → Option Value} {base : Heap} {Y Y' : YX} {k : Nat} {f : Addr} {fd : FuncData} {ps : List Str} {g : Fn} (F : FnG P w K mg base Y k f fd ps g) : FnG P w K mg base Y' k f fd ps (okOnly g) :=
  ⟨fun os r h => by
    obtain ⟨out, os'⟩ := r
    obtain ⟨o, _, e⟩ := okOnly_some h
    exact F.ar os _ e, fun A outer s H args us vs Q E R L os os' out hr e0 hb r hlos hg rel post => by
    obtain ⟨o, rfl, e⟩ := okOnly_some hg
    exact F.run A outer s H args us vs Q E R L os os' (.ok o) hr e0 hb r hlos e rel post⟩
theorem law_endK {l : PySem.W.OpenLaw} {n k : Nat} {q : Program} {loose : List Str} {XP : (Str → Option Value) → Heap → Prop} {YP : World → Heap → Prop} {d : DefRec} {K : Params → PySem.W.Frag} {x : Str} {g : Fn}
    (hn : l.most = some n) (hn2 : n ≤ sizeLine) (hdf : d.params.defaults = []) (hr : RG k callerA) (hY : ∀ (w : World) (h : Heap), YP w h → (K w.params).In h)
    (F : ∀ (w : World) (mg : Str → Option Value) (fa : Addr) (h : Heap), (K w.params).In h → h.Ns mainGlobals mg → mg d.name = some (.ref fa) →
      ∃ fd : FuncData, (∀ (s : Shared) (u : Value), BindsTo s fd ⟨[u], []⟩ [(x, u)]) ∧ ∀ base : Heap, (K w.params).In base → base.Ns mainGlobals mg → FnG l.prog w (K w.params) mg base (YK (K w.params)) k fa fd [x] g)
    (hg : ∀ ns : List Int, ns.length ≤ n → ∃ os', g [.fz ns] = some (.ok (.d (.bool true)), os')) :
    PySem.W.WalkO q loose XP YP l.row.toRowW d [] (fun f vs => PySem.call f vs) :=
  law_end (Y := fun _ _ _ _ => False) (g := FT.okOnly g) hn hn2 hdf hr hY (fun w mg fa h KX G hm => by
    obtain ⟨fd, h1, h2⟩ := F w mg fa h KX G hm
    exact ⟨fd, h1, fun base kb gb => (h2 base kb gb).okOnly⟩) fun ns hl => by
    obtain ⟨os', e⟩ := hg ns hl
    exact ⟨os', by unfold okOnly; rw [e]⟩

/-! ### plain lemmas -/
theorem mk_er {n m : Nat} {ws : List Nat} {body : Sl → MS} {os : List O} {e : Ex} {S : Sl} (hl : os.length = m) (h : body (os ++ List.replicate (n - m) .no) = some (.error e, S)) : mkFn n m ws body os = some (.error e, outs ws 0 (S.take m)) := by
  unfold mkFn
  rw [if_pos hl, h]
theorem seq_er {f g : Sl → MS} {S S1 : Sl} {e : Ex} (h : f S = some (.error e, S1)) : sSeq f g S = some (.error e, S1) := by
  show bnd (f S) _ = _
  rw [h]
theorem do_er {fe : Sl → M O} {S S1 : Sl} {e : Ex} (h : fe S = some (.error e, S1)) : sDo fe S = some (.error e, S1) := by
  show bnd (fe S) _ = _
  rw [h]
theorem ret_er {fe : Sl → M O} {S S1 : Sl} {e : Ex} (h : fe S = some (.error e, S1)) : sRet fe S = some (.error e, S1) := by
  show bnd (fe S) _ = _
  rw [h]
theorem tryK_yes {yes : List (Str × PyData)} {no : List Str} {i : Nat} {x : PyData} {body : Sl → MS} {S S1 : Sl} {e : Ex} (h : body S = some (.error e, S1)) (hc : yes.lookup e.cls = some x) : sTryK yes no i body S = some (.ok (.rt (.d x)), S1.set i .no) := by
  unfold sTryK
  rw [h]
  show (match yes.lookup e.cls with | some x => _ | none => _) = _
  rw [hc]
theorem tryK_ok {yes : List (Str × PyData)} {no : List Str} {i : Nat} {body : Sl → MS} {S S1 : Sl} {fl : Fl} (h : body S = some (.ok fl, S1)) : sTryK yes no i body S = some (.ok fl, S1) := by
  unfold sTryK
  rw [h]
theorem try_yes {yes no : List Str} {i : Nat} {x : PyData} {body : Sl → MS} {S S1 : Sl} {e : Ex} (h : body S = some (.error e, S1)) (hc : yes.contains e.cls = true) : sTryC yes no i x body S = some (.ok (.rt (.d x)), S1.set i .no) := tryK_yes h (lk_map hc)
theorem try_ok {yes no : List Str} {i : Nat} {x : PyData} {body : Sl → MS} {S S1 : Sl} {fl : Fl} (h : body S = some (.ok fl, S1)) : sTryC yes no i x body S = some (.ok fl, S1) := tryK_ok h
end FT
/-! FT44: a def called in an except suite: it gets the error that is handled, asks for its class, walks lists in a comprehension. -/
namespace FT
open PySem PySem.Spec PySem.W PyProof.Rows L2

/-! ### iterators at their end, while an error is handled -/
section
variable {prog : Program} {w : World} {A : Around} {E : Value → Shared → Prop} {s : Shared}
theorem ext_hot {s : Shared} {it a : Addr} {h1 : Heap} {f : Obj → Obj} (h0 : ∀ b o, b ≠ it → s.heap.get? b = some o → h1.get? b = some o) (ha : ∀ b o, s.heap.get? b = some o → b ≠ a) : Heap.ExtBut it s.heap (h1.update a f) := fun b o hb e => by
  rw [Heap.get?_update_other _ _ (Ne.symm (ha b o e))]
  exact h0 b o hb e
/-- the end of an iterator, from where it has let go of what it walked -/
theorem stop_hot {it x1 : Addr} {h1 : Heap} {Q : Option Value → Shared → Prop} {o : Obj} (hot : HotX.HotAt A x1 s.heap) (hne : x1 ≠ it) (ho : s.heap.get? it = some o) (hs : Heap.SameBut it s.heap h1) (ho1 : ∃ o1, h1.get? it = some o1)
    (hQ : ∀ h', Heap.ExtBut it s.heap h' → Q none { s with heap := h' }) {F : Value → Shared → Prop}
    (hF : ∀ a s2, s2.TypeIs (.ref a) "StopIteration" → Q none s2 → F (.ref a) s2) {G : Fin → Shared → Prop} : wpAny (model prog w) A Builtin.SmallTypes.stopIteration G F { s with heap := h1 } := by
  show wpAny _ _ (newExc (.type "StopIteration") [] >>= _) _ _ _
  refine wpAny_bind ?_
  simp only [newExc, newTuple]
  refine wpAny_bind (wpAny_newObj_type ?_ (by size_fits))
  refine wpAny_bind (m := firstArgMember _ _) (wpAny_of_eq (a := Value.none) (by first | rfl | (simp only [firstArgMember]; rfl)) ?_)
  refine wpAny_newObj_type ?_ (by size_fits)
  obtain ⟨hh, o2, vs1, g1, d1, c1⟩ := hot
  have g2 : h1.get? x1 = some o2 := (hs.2 x1 hne).trans g1
  refine HotX.raiseNew_hot ⟨hh, o2, vs1, Heap.get?_push_of_some _ (Heap.get?_push_of_some _ g2), d1, c1⟩ (Nat.ne_of_lt (Heap.lt_size (Heap.get?_push_of_some _ g2))) (Heap.get?_push_size _ rfl) rfl (by first | (simp; done) | (simp; omega) | (simp only [Array.size_append]; simp; omega)) ?_
  refine hF _ _ ⟨_, Heap.get?_update_self _ (Heap.get?_push_size _ rfl) rfl, rfl⟩ (hQ _ ?_)
  refine fun b oo hb e => ?_
  have e1 : h1.get? b = some oo := (hs.2 b hb).trans e
  rw [Heap.get?_update_other _ _ (Ne.symm (Nat.ne_of_lt (Heap.lt_size (Heap.get?_push_of_some _ e1))))]
  exact Heap.get?_push_of_some _ (Heap.get?_push_of_some _ e1)
theorem next_list_hot {it l x1 : Addr} {i : Nat} {items : Array Value} {Q : Option Value → Shared → Prop} (hot : HotX.HotAt A x1 s.heap) (hne : x1 ≠ it) (hit : s.heap.IsListIter it l i) (hl : s.heap.IsList l items) (hx : items[i]? = none)
    (hQ : ∀ h', Heap.ExtBut it s.heap h' → Q none { s with heap := h' }) : wpAny (model prog w) A (pyNext (.ref it)) Q E s := by
  obtain ⟨o, ho, hc, hd⟩ := id hit
  obtain ⟨ol, hol, _, nl, hdl⟩ := hl
  unfold pyNext
  refine wpAny_bind (wpAny_attempt (wpAny_callSpecial?_slot (name := Str.ofString "__next__") hit.typeIs slot_listiter_next (wpAny_call_entry slot_listiter_next hit.typeIs entry_listiter_next ?_ (args_listiter_next _))))
  show wpAny _ _ (field (.ref it) 0 >>= _) _ _ s
  refine wpAny_bind (wpAny_field ho hd (x := .ref l) rfl ?_)
  show wpAny _ _ (if (Value.ref l == Value.none) = true then _ else _) _ _ s
  rw [if_neg (show ¬ ((Value.ref l == Value.none) = true) from Bool.false_ne_true)]
  show wpAny _ _ (field (.ref it) 1 >>= _) _ _ s
  refine wpAny_bind (wpAny_field ho hd (x := .int i 0) rfl ?_)
  show wpAny _ _ (seqItems? (.ref l) >>= _) _ _ s
  refine wpAny_bind (wpAny_seqItems hol hdl ?_)
  simp only [Int.toNat_natCast, hx]
  refine wpAny_bind (wpAny_rule (wpAny_bind (wpAny_setField ho hd (by simp) ?_)))
  refine stop_hot (A := A.in1) (show HotX.HotAt A.in1 x1 s.heap from hot) hne ho (Heap.SameBut.update ..) ⟨_, Heap.get?_update_self _ ho (Obj.isFreed_of_fields (Obj.data_mapFields hd _))⟩ hQ fun a s2 ht q => ?_
  exact wpAny_bind (wpAny_isInstance (T := "StopIteration") (b := true) ht isSubtype_stop (wpAny_pure q))
theorem next_tup_hot {it t x1 : Addr} {i : Nat} {items : Array Value} {Q : Option Value → Shared → Prop} (hot : HotX.HotAt A x1 s.heap) (hne : x1 ≠ it) (hit : IsTupIter s.heap it t i) (ht : IsTup s.heap t items) (hx : items[i]? = none)
    (hQ : ∀ h', Heap.ExtBut it s.heap h' → Q none { s with heap := h' }) : wpAny (model prog w) A (pyNext (.ref it)) Q E s := by
  obtain ⟨o, ho, hc, hd⟩ := id hit
  obtain ⟨ol, hol, _, nl, hdl⟩ := ht
  unfold pyNext
  refine wpAny_bind (wpAny_attempt (wpAny_callSpecial?_slot (name := Str.ofString "__next__") hit.typeIs slot_tupleiter_next (wpAny_call_entry slot_tupleiter_next hit.typeIs entry_tupleiter_next ?_ (args_tupleiter_next _))))
  show wpAny _ _ (field (.ref it) 0 >>= _) _ _ s
  refine wpAny_bind (wpAny_field ho hd (x := .ref t) rfl ?_)
  show wpAny _ _ (if (Value.ref t == Value.none) = true then _ else _) _ _ s
  rw [if_neg (show ¬ ((Value.ref t == Value.none) = true) from Bool.false_ne_true)]
  show wpAny _ _ (field (.ref it) 1 >>= _) _ _ s
  refine wpAny_bind (wpAny_field ho hd (x := .int i 0) rfl ?_)
  show wpAny _ _ (seqItems? (.ref t) >>= _) _ _ s
  refine wpAny_bind (wpAny_seqItems hol hdl ?_)
  simp only [Int.toNat_natCast, hx]
  refine wpAny_bind (wpAny_rule (wpAny_bind (wpAny_setField ho hd (by simp) ?_)))
  refine stop_hot (A := A.in1) (show HotX.HotAt A.in1 x1 s.heap from hot) hne ho (Heap.SameBut.update ..) ⟨_, Heap.get?_update_self _ ho (Obj.isFreed_of_fields (Obj.data_mapFields hd _))⟩ hQ fun a s2 ht q => ?_
  exact wpAny_bind (wpAny_isInstance (T := "StopIteration") (b := true) ht isSubtype_stop (wpAny_pure q))
/-- (a, b, ..) = a tuple, there -/
theorem asg_tup_hot {env : Env} {elts : List Expr} {x0} {x1 : Addr} {pos : Pos} {t : Addr} {items : Array Value} {Q : Unit → Shared → Prop} (hot : HotX.HotAt A x1 s.heap) (ht : IsTup s.heap t items) (hn : (assignEach elts env).length = items.size) (hstar : (assignEach elts env).findIdx? (·.1) = none)
    (h : ∀ h', Heap.ExtBut s.heap.objs.size s.heap h' → wpAny (model prog w) A (assignInOrder ((assignEach elts env).map (·.2)) items.toList) Q E { s with heap := h' }) : wpAny (model prog w) A (assign (.Tuple elts x0 pos) env (.ref t)) Q E s := by
  have hlt : t ≠ s.heap.objs.size := by obtain ⟨o, ho, _⟩ := ht; exact Nat.ne_of_lt (Heap.lt_size ho)
  have hx1 : x1 ≠ s.heap.objs.size := by obtain ⟨_, o, _, ho, _⟩ := hot; exact Nat.ne_of_lt (Heap.lt_size ho)
  rw [assign_Tuple]
  refine wpAny_bind (wpAny_standAt ?_)
  unfold unpack
  rw [hn, hstar]
  refine wpAny_bind (wpAny_holding ?_)
  unfold unpackItems notIterableAtAll
  refine wpAny_bind (wpAny_bind (wpAny_specialOf ht.typeIs slot_tuple_iter.lookup (wpAny_pure ?_)))
  simp only [Bool.false_eq_true, if_false]
  refine wpAny_bind (wpAny_holding (iter_tuple ht ?_))
  refine wpAny_bind (wpAny_holding (draw_tuple hlt items.size 0 _ _ ⟨_, Heap.get?_push_size _ rfl, rfl, rfl⟩ (ht.push _) (by omega) fun h1 hit1 hs1 => ?_))
  rw [show List.take items.size (List.drop 0 items.toList) = items.toList by rw [List.drop_zero]; exact List.take_of_length_le (by simp), if_neg (by simp)]
  have hot1 : HotX.HotAt A x1 h1 := by
    obtain ⟨hh, o1, vs1, g1, d1, c1⟩ := hot
    exact ⟨hh, o1, vs1, hs1.extBut x1 o1 hx1 (Heap.get?_push_of_some _ g1), d1, c1⟩
  refine wpAny_bind (wpAny_holding (next_tup_hot (s := { s with heap := h1 }) hot1 hx1 hit1 ((ht.push _).extBut hs1.extBut hlt) (by simp) fun h2 he2 => ?_))
  simp only [Option.isSome_none, Bool.false_eq_true, if_false]
  exact wpAny_pure (h h2 fun b o hb e => he2 b o hb (hs1.extBut b o hb (Heap.get?_push_of_some _ e)))
end

/-! ### a comprehension over a list, there -/
/-- a target, where p's error is handled -/
structure PGH (X : Cx) (p : Addr × Obj) (target : Expr) (t : TG) : Prop where
  run : ∀ (pins : List (Addr × Obj)) (s : Shared) (σ : L2.St) (H : Hp) (v : V) (u : Value) (Q : L2.St → Hp → Prop), p ∈ X.pn ++ pins → Inv X pins σ H s → RelV v u → t v σ H Q →
    wpAny (model X.prog X.w) X.A (assign target X.env u) (fun _ s' => ∃ σ' H', Inv X pins σ' H' s' ∧ Q σ' H') X.xe s
theorem hot_at {X : Cx} {p : Addr × Obj} {pins : List (Addr × Obj)} {σ : L2.St} {H : Hp} {s : Shared} (hp : L2H.Hot1 X.A p) (hm : p ∈ X.pn ++ pins) (I : Inv X pins σ H s) : HotX.HotAt X.A p.1 s.heap := by
  obtain ⟨hh, v1, e1, c1⟩ := hp
  exact ⟨hh, p.2, v1, (I.pin p hm).1, e1, c1⟩
section
variable {X : Cx} {p : Addr × Obj}
theorem pgh_name {i : Nat} {x : Str} {pos : Pos} (h : PG X (.Name x pos) (gName i)) : PGH X p (.Name x pos) (gName i) := ⟨fun pins s σ H v u Q _ I r q => h.run pins s σ H v u Q I r q⟩
theorem pgh_tup {es : List Expr} {k : Nat} {t : TGs} {n : Nat} {pos : Pos} (hp : L2H.Hot1 X.A p) (h : PGs X es t) (hn : (assignEach es X.env).length = n := by rfl) (hst : (assignEach es X.env).findIdx? (·.1) = none := by rfl) : PGH X p (.Tuple es k pos) (gTup X.K n t) := by
  refine ⟨fun pins s σ H v u Q hm I r hw => ?_⟩
  obtain ⟨a, xs, rfl, hq, hl, hw⟩ := hw
  cases r
  obtain ⟨its, rv, ht, hz⟩ := I.tuple hq
  refine asg_tup_hot (hot_at hp hm I) ht (by simp [hn, ← hl, rv.length]) hst fun h' hx => ?_
  exact h.run pins _ σ H xs _ Q (I.kept (t' := s.toks) fun b o e => hx b o (Nat.ne_of_lt (Heap.lt_size e)) e) (by simpa using rv) hw
theorem lc_hot {pins : List (Addr × Obj)} {s : Shared} {σ : L2.St} {H : Hp} {Q : VK} {elt tg iter : Expr} {ifs : List Expr} {scope : Scope} {own : List (Str × Nat)} {pos pos' : Pos} {tl : TE} {g : TG} {tt : TT} {te : TE} {use : Option (Value → Sem Unit)} {Qf : Value → Shared → Prop}
    (hp : L2H.Hot1 X.A p) (hpn : p ∈ X.pn) (hN : X.N.Nodup) (I : Inv X pins σ H s) (hi : PE X iter tl) (ok : BlkOk X.N X.env.scope scope own)
    (hg : ∀ (s : Shared) (H : Hp) (C : Addr) (cl : List (Str × Addr)) (fp : List Addr), PGH (X.blk s H scope (compEnvC scope cl C X.env) fp) p tg g) (ht : ∀ (s : Shared) (H : Hp) (C : Addr) (cl : List (Str × Addr)) (fp : List Addr), PTs (X.blk s H scope (compEnvC scope cl C X.env) fp) ifs tt)
    (he : ∀ (s : Shared) (H : Hp) (C : Addr) (cl : List (Str × Addr)) (fp : List Addr), PE (X.blk s H scope (compEnvC scope cl C X.env) fp) elt te) (hs : ∀ x, foldedSetIterable iter X.env x = pure x)
    (h : tLc (iList X.K tl) g tt te (own.map (·.2)) σ H Q)
    (hRR : ∀ D C s' m H', Inv X pins σ H' s' → Q (.ref D) H' → s'.heap.Ns C m → FpOk X pins H' C → compPost (model X.prog X.w) X.A X.xe use Qf (.ref D) C (.ok .next) s') :
    wpAny (model X.prog X.w) X.A (comprehension (.ListComp elt [⟨tg, iter, ifs, 0⟩] scope pos) scope X.env pos' (newList []) false (eval iter X.env) use) Qf X.xe s := by
  have hfree : ∀ y ∈ scope.names, y.2 = .free → ∃ c, X.env.cells.lookup y.1 = some c := fun y hy e => (ok.free y hy e).elim (fun k => I.ok.has _ (.inl k)) fun k => I.ok.has _ (.inr k)
  refine wpAny_comprehension_free (use := use) rfl hs (closure_ok hfree) ok.kind (fun y hy e => by rw [ok.uniq y hy, e]) (thn (hi.run pins s σ H _ I h) fun xv s1 hx => ?_)
  obtain ⟨x, H1, I1, r1, a, rfl, ⟨xs0, hq0⟩, q⟩ := hx
  cases r1
  obtain ⟨its0, rv0, hl0, hz0⟩ := I1.list hq0
  refine wpAny_pyIter_list hl0.isList ?_
  -- the iterator
  generalize hit : s1.heap.objs.size = it
  have fresh1 : ∀ b o, s1.heap.get? b = some o → b ≠ it := fun b o e => by rw [← hit]; exact Nat.ne_of_lt (Heap.lt_size e)
  have pit : p.1 ≠ it := fresh1 _ _ (I1.pin p (List.mem_append_left _ hpn)).1
  generalize hs2 : ({ s1 with heap := s1.heap.push { cls := .type "list_iterator", data := .fields #[.ref a, .int 0 0] } } : Shared) = s2
  have h2 : s2.heap = s1.heap.push { cls := .type "list_iterator", data := .fields #[.ref a, .int 0 0] } := by rw [← hs2]
  have I2 : Inv X pins σ H1 s2 := by
    rw [← hs2]
    exact I1.kept (t' := s1.toks) fun b o e => Heap.get?_push_of_some _ e
  have st2 : s2.heap.IsListIter it a 0 := by
    rw [h2, ← hit]
    exact ⟨_, Heap.get?_push_size _ rfl, rfl, rfl⟩
  have nit : H1 it = none := by rw [← hit]; exact I1.hok.fresh (Nat.le_refl _)
  have f2 : FpOk X pins H1 it := by rw [← hit]; exact I1.fpOk (Nat.le_refl _) (I1.hok.fresh (Nat.le_refl _))
  -- the new list
  refine wpAny_newObj_type (newEnv_comp ?_) (by show 0 ≤ sizeLine; decide)
  generalize hD : s2.heap.objs.size = D
  have hDn : H1 D = none := I2.hok.fresh (Nat.le_of_eq hD)
  obtain ⟨W, ⟨m0, w0⟩, turn⟩ := q D hDn
  generalize hs3 : ({ s2 with heap := s2.heap.push { cls := .type "list", data := .seq ([] : List Value).toArray } } : Shared) = s3
  have h3 : s3.heap = s2.heap.push { cls := .type "list", data := .seq ([] : List Value).toArray } := by rw [← hs3]
  have I3 : Inv X pins σ (upd H1 D (.lst [])) s3 := by
    rw [← hs3]
    refine I2.laid (t' := s2.toks) (fun b o e => Heap.get?_push_of_some _ e) (Nat.le_of_eq hD) ⟨Nat.zero_le _, [], 0, .nil, ?_⟩
    rw [← hD]
    exact Heap.get?_push_size _ rfl
  have st3 : s3.heap.IsListIter it a 0 := by
    rw [h3]
    obtain ⟨o, e, r⟩ := st2
    exact ⟨o, Heap.get?_push_of_some _ e, r⟩
  have lt2 : it < s2.heap.objs.size := by
    obtain ⟨o, e, r⟩ := st2
    exact Heap.lt_size e
  have f3 : ∀ b ∈ [it], FpOk X pins (upd H1 D (.lst [])) b ∧ b < s3.heap.objs.size := fun b hb => by
    obtain rfl : b = it := by simpa using hb
    refine ⟨⟨?_, f2.2⟩, by rw [h3, Heap.size_push]; exact Nat.lt_succ_of_lt lt2⟩
    rw [upd_ne (by rw [← hD]; exact Nat.ne_of_lt lt2)]
    exact nit
  -- the block
  have I4 := block_start I3 ok hN f3
  have pg := hg s3 (upd H1 D (.lst [])) s3.heap.objs.size (cellsFrom (s3.heap.objs.size + 1) scope.names (cloFrom X.env.cells scope.names [])) [it]
  have pt := ht s3 (upd H1 D (.lst [])) s3.heap.objs.size (cellsFrom (s3.heap.objs.size + 1) scope.names (cloFrom X.env.cells scope.names [])) [it]
  have pe := he s3 (upd H1 D (.lst [])) s3.heap.objs.size (cellsFrom (s3.heap.objs.size + 1) scope.names (cloFrom X.env.cells scope.names [])) [it]
  show codeAny _ _ (.compStart (.ListComp elt [⟨tg, iter, ifs, 0⟩] scope pos) 0 (.ref it) (.ref D) (compEnvC scope (cellsFrom (s3.heap.objs.size + 1) scope.names (cloFrom X.env.cells scope.names [])) s3.heap.objs.size X.env)) (compPost (model X.prog X.w) X.A X.xe use Qf (.ref D) s3.heap.objs.size) { s3 with heap := pushCells (s3.heap.push { cls := .type "dict", data := .dict #[] }) scope.names }
  generalize hce : compEnvC scope (cellsFrom (s3.heap.objs.size + 1) scope.names (cloFrom X.env.cells scope.names [])) s3.heap.objs.size X.env = ce at I4 pg pt pe ⊢
  have cL : ce.locals = s3.heap.objs.size := by subst hce; rfl
  generalize hH3 : upd H1 D (.lst []) = H3 at I3 I4 pg pt pe w0 f3
  generalize hs4 : ({ s3 with heap := pushCells (s3.heap.push { cls := .type "dict", data := .dict #[] }) scope.names } : Shared) = s4 at I4 ⊢
  have keep4 : ∀ b o, s3.heap.get? b = some o → s4.heap.get? b = some o := fun b o e => by rw [← hs4]; exact pushCells_keeps _ _ _ _ (Heap.get?_push_of_some _ e)
  have P3 := I3.pin p (List.mem_append_left _ hpn)
  have I4p : Inv (X.blk s3 H3 scope ce [it]) [p] (wipe σ (own.map (·.2))) H3 s4 := I4.pins_of fun r hr => by
    obtain rfl : r = p := by simpa using hr
    refine ⟨keep4 _ _ P3.1, P3.2.1, ?_, fun hb => ?_, P3.2.2.2.2⟩
    · show r.1 ≠ ce.locals
      rw [cL]
      exact Nat.ne_of_lt (Heap.lt_size P3.1)
    · exact (List.mem_cons.mp (I3.stkSub r.1 hb)).elim P3.2.2.1 P3.2.2.2.1
  have fpI : ∀ {σ' : L2.St} {H' : Hp} {s' : Shared}, Inv (X.blk s3 H3 scope ce [it]) [p] σ' H' s' → H' it = none → FpOk (X.blk s3 H3 scope ce [it]) [p] H' it := fun {σ' H' s'} I' hn =>
    ⟨hn, (I'.ok.exf it List.mem_cons_self).1, I'.ok.exfs it List.mem_cons_self, .inl List.mem_cons_self, fun x c e => (I'.ok.exf it List.mem_cons_self).2 x c e, fun r hr => by
      obtain rfl : r = p := by simpa using (show r ∈ ([] : List (Addr × Obj)) ++ [p] from hr)
      exact pit⟩
  have loop : codeAny (model X.prog X.w) X.A (.compLoop (.ListComp elt [⟨tg, iter, ifs, 0⟩] scope pos) 0 (.ref it) (.ref D) ce) (compPost (model X.prog X.w) X.A X.xe use Qf (.ref D) s3.heap.objs.size) s4 := by
    refine compLoop_any (fun n s' => ∃ i H', Inv (X.blk s3 H3 scope ce [it]) [p] (wipe σ (own.map (·.2))) H' s' ∧ s'.heap.IsListIter it a i ∧ H' it = none ∧ W i n H') ?_ m0 ⟨0, H3, I4p, ?_, (f3 it List.mem_cons_self).1.1, w0⟩
    · rintro n s5 ⟨i, H5, I5, st5, n5, w5⟩
      have fp5 := fpI I5 n5
      obtain ⟨g0, g1, g2, g3, g4, g5⟩ := id fp5
      rcases turn i n H5 w5 with ⟨⟨xs, hq, hx⟩, qq⟩ | ⟨⟨xs, x, hq, hx⟩, Nx, hNx, step⟩
      · obtain ⟨its, rv, hl, hz⟩ := I5.list hq
        refine next_list_hot (hot_at (X := X.blk s3 H3 scope ce [it]) hp (List.mem_append_right _ List.mem_cons_self) I5) pit st5 hl.isList (by have := rv.length; simp; omega) fun h' eb => ?_
        have I6 : Inv (X.blk s3 H3 scope ce [it]) [p] (wipe σ (own.map (·.2))) H5 { s5 with heap := h' } := I5.turned (t' := s5.toks) (fun b o hb e => eb b o hb e) g0 g1 g3 g4 g5
        have I7 : Inv X pins σ H5 { s5 with heap := h' } := I3.call' (ch := [it]) I6.os I6.base I6.hok I6.bare fun b hb => ⟨(f3 b hb).1.2.2.2.1, (f3 b hb).1.2.1, (f3 b hb).1.2.2.2.2.1, (f3 b hb).1.2.2.2.2.2⟩
        have nC : H5 s3.heap.objs.size = none := by
          have z : H5 ce.locals = none := I6.free
          rw [cL] at z
          exact z
        obtain ⟨m, hn, _⟩ := I6.loc
        have hn : Heap.Ns h' ce.locals m := hn
        rw [cL] at hn
        exact hRR D s3.heap.objs.size _ m H5 I7 qq hn (I3.fpOk (Nat.le_refl _) nC)
      · obtain ⟨its, rv, hl, hz⟩ := I5.list hq
        obtain ⟨u, hu, ru⟩ := rv.get hx
        refine wpAny_pyNext_list_item st5 hl.isList (x := u) (by simpa using hu) fun h' st' sb => ?_
        have I7 : Inv (X.blk s3 H3 scope ce [it]) [p] (wipe σ (own.map (·.2))) H5 { s5 with heap := h' } := I5.turned (t' := s5.toks) (fun b o hb e => (sb.2 b hb).trans e) g0 g1 g3 g4 g5
        obtain ⟨oi, ei, ci, di⟩ := id st'
        refine go_of (s := { s5 with heap := h' }) ei ci di (by decide) ?_
        have I7' : Inv (X.blk s3 H3 scope ce [it]) ([p] ++ pinsAt [it] h') (wipe σ (own.map (·.2))) H5 { s5 with heap := h' } := I7.pinned (fun b hb => by
          obtain rfl : b = it := by simpa using hb
          exact fpI I7 n5) fun b hb => by
            obtain rfl : b = it := by simpa using hb
            exact ⟨oi, ei, fun v z => by rw [di] at z; cases z⟩
        have yes := step x H5 ⟨rfl, fun ys hy => by rw [I5.list_inj hy hq]; exact hx⟩
        refine thnF (pg.run _ _ _ H5 x u _ (List.mem_append_right _ (List.mem_append_left _ List.mem_cons_self)) I7' ru yes) fun _ s8 ⟨σ8, H8, I8, hw8, q8⟩ => ?_
        refine thnF (pt.run _ s8 σ8 H8 _ I8 q8) fun b s9 ⟨H9, I9, q9⟩ => ?_
        have fin : ∀ {s' : Shared} {H' : Hp}, Inv (X.blk s3 H3 scope ce [it]) ([p] ++ pinsAt [it] h') σ8 H' s' → Nx H' → ∃ m, m < n ∧ ∃ i H', Inv (X.blk s3 H3 scope ce [it]) [p] (wipe σ (own.map (·.2))) H' s' ∧ s'.heap.IsListIter it a i ∧ H' it = none ∧ W i m H' := fun {s' H'} I' nx => by
          obtain ⟨m', hm, w'⟩ := hNx H' nx
          have z := I'.pin (it, oi) (List.mem_append_right _ (List.mem_append_right _ (mem_pinsAt List.mem_cons_self ei)))
          have hl8 : (wipe σ (own.map (·.2))).length = σ8.length := by rw [← hw8, wipe_length]
          refine ⟨m', hm, i + 1, H', (I'.unpinned (pins := [p])).weak hl8 (fun j v e => ?_), ⟨oi, z.1, ci, di⟩, z.2.1, w'⟩
          rw [← hw8] at e
          exact (wipe_some e).1
        cases b with
        | false =>
          simp only [Bool.false_eq_true, if_false] at q9 ⊢
          exact fin I9 q9
        | true =>
          simp only [if_true] at q9 ⊢
          refine thnF (pe.run _ s9 σ8 H9 _ I9 q9) fun z s10 ⟨yv, H10, I10, r10, acc, hD10, hz10, nx⟩ => ?_
          exact app_ok (X := X.blk s3 H3 scope ce [it]) I10 hD10 hz10 r10 fun s11 I11 => fin I11 nx
    · obtain ⟨o, e, r⟩ := st3
      exact ⟨o, keep4 _ _ e, r⟩
  exact codeAny_compStart_list loop (wpAny_pyIter_listiter (l := a) (i := 0) (by obtain ⟨o, e, r⟩ := st3; exact ⟨o, keep4 _ _ e, r⟩) loop)
/-- as a value -/
theorem pe_lc_hot {elt tg iter : Expr} {ifs : List Expr} {scope : Scope} {own : List (Str × Nat)} {pos : Pos} {tl : TE} {g : TG} {tt : TT} {te : TE} (hp : L2H.Hot1 X.A p) (hpn : p ∈ X.pn) (hN : X.N.Nodup) (hi : PE X iter tl) (ok : BlkOk X.N X.env.scope scope own)
    (hg : ∀ (s : Shared) (H : Hp) (C : Addr) (cl : List (Str × Addr)) (fp : List Addr), PGH (X.blk s H scope (compEnvC scope cl C X.env) fp) p tg g) (ht : ∀ (s : Shared) (H : Hp) (C : Addr) (cl : List (Str × Addr)) (fp : List Addr), PTs (X.blk s H scope (compEnvC scope cl C X.env) fp) ifs tt)
    (he : ∀ (s : Shared) (H : Hp) (C : Addr) (cl : List (Str × Addr)) (fp : List Addr), PE (X.blk s H scope (compEnvC scope cl C X.env) fp) elt te) (hs : ∀ x, foldedSetIterable iter X.env x = pure x := by intro _; rfl) :
    PE X (.ListComp elt [⟨tg, iter, ifs, 0⟩] scope pos) (tLc (iList X.K tl) g tt te (own.map (·.2))) := by
  refine ⟨fun pins s σ H Q I h => ?_⟩
  rw [eval_ListComp]
  refine lc_hot hp hpn hN I hi ok hg ht he hs h fun D C s' m H' I' q hn f => ⟨m, hn, fun h'' sb => ?_⟩
  obtain ⟨f0, f1, f2, f3, f4, f5⟩ := f
  exact ⟨.ref D, H', I'.turned (t' := s'.toks) (fun b o hb e => (sb.2 b hb).trans e) f0 f1 f3 f4 f5, rfl, q⟩
/-- name = [..] on one line -/
theorem ps_setLc_hot {i : Nat} {y : Str} {py : Pos} {elt tg iter : Expr} {ifs : List Expr} {scope : Scope} {own : List (Str × Nat)} {pos spos : Pos} {tl : TE} {g : TG} {tt : TT} {te : TE} (hp : L2H.Hot1 X.A p) (hpn : p ∈ X.pn) (hN : X.N.Nodup) (hy : X.N[i]? = some y) (hyl : X.env.scope.names.lookup y = some .local)
    (hsw : swapsWith (.ListComp elt [⟨tg, iter, ifs, 0⟩] scope pos) (some (.Name y py)) spos.line X.env = pure true) (hi : PE X iter tl) (ok : BlkOk X.N X.env.scope scope own)
    (hg : ∀ (s : Shared) (H : Hp) (C : Addr) (cl : List (Str × Addr)) (fp : List Addr), PGH (X.blk s H scope (compEnvC scope cl C X.env) fp) p tg g) (ht : ∀ (s : Shared) (H : Hp) (C : Addr) (cl : List (Str × Addr)) (fp : List Addr), PTs (X.blk s H scope (compEnvC scope cl C X.env) fp) ifs tt)
    (he : ∀ (s : Shared) (H : Hp) (C : Addr) (cl : List (Str × Addr)) (fp : List Addr), PE (X.blk s H scope (compEnvC scope cl C X.env) fp) elt te) (hs : ∀ x, foldedSetIterable iter X.env x = pure x := by intro _; rfl) :
    PS X (.Assign [.Name y py] (.ListComp elt [⟨tg, iter, ifs, 0⟩] scope pos) spos) (tAsg (tLc (iList X.K tl) g tt te (own.map (·.2))) (gName i)) := by
  refine ⟨fun pins s σ H D I h => ?_⟩
  rw [exec_Assign_Name_used _ _ _ _ hsw]
  refine wpAny_bind (wpAny_standAt (wpAny_bind ?_))
  show wpAny _ X.A (do let _ ← comprehension (.ListComp elt [⟨tg, iter, ifs, 0⟩] scope pos) scope X.env (firstIterPos [⟨tg, iter, ifs, 0⟩] pos) (newList []) false (eval iter X.env) (some (assign (.Name y py) X.env))) _ _ s
  have h : tLc (iList X.K tl) g tt te (own.map (·.2)) σ H (fun x H1 => gName i x σ H1 D.nx) := h
  refine wpAny_bind (thn (lc_hot (Qf := fun _ s' => SP X pins D .next s') hp hpn hN I hi ok hg ht he hs h fun L C s' m H' I' q hn f => ?_) fun _ s' hq => wpAny_pure (wpAny_pure hq))
  obtain ⟨f0, f1, f2, f3, f4, f5⟩ := f
  show wpAny _ _ (assign (.Name y py) X.env (.ref L)) _ _ _
  refine wpAny_assign_Name (store_ok2 (v := V.ref L) I' hN hy (.inl hyl) rfl (fun s2 I2 ⟨a, sb, ha⟩ => ?_) (.inr hyl))
  have haC : C ≠ a := ha.elim (fun z => by rw [z]; exact f1) fun z e => f4 y a z e.symm
  exact ⟨m, hn.sameBut sb haC, fun h3 sb3 => ⟨_, H', I2.turned (t' := s2.toks) (fun b o hb e => (sb3.2 b hb).trans e) f0 f1 f3 f4 f5, q⟩⟩
end
/-! ### the same, told on slots -/
/-- the weakest reading of a target -/
theorem pgh_cG {X : Cx} {p : Addr × Obj} {ws : List Nat} {tg : Expr} {pt : Pt} {g : TG} (h : PGH X p tg g) (s : SG X.K ws g pt) : PGH X p tg (cG X.K ws pt) := ⟨fun pins s0 σ H v u Q hm I hr hw => by
  obtain ⟨R, T, S, S', x, h1, h2, h3, h4⟩ := hw
  exact h.run pins s0 σ H v u Q hm I hr (s R T S S' σ H x v Q h1 h2 h3 h4)⟩
def OkGH (X : Cx) (p : Addr × Obj) (ws : List Nat) (tg : Expr) (pt : Pt) : Prop := ∃ t, PGH X p tg t ∧ SG X.K ws t pt
section
variable {X : Cx} {Y : YX} {W : WX} {ws : List Nat} {p : Addr × Obj} {tg iter elt : Expr} {ifs : List Expr} {pt : Pt} {scope : Scope} {own : List (Str × Nat)} {cnd : Sl → M Bool} {fe fi : Sl → M O} {pos : Pos}
theorem ogh_tup {es : List Expr} {j : Nat} {ps : List Pt} (hp : L2H.Hot1 X.A p) (h : OkGs X ws es ps) (hn : (assignEach es X.env).length = ps.length := by rfl) (hst : (assignEach es X.env).findIdx? (·.1) = none := by rfl) : OkGH X p ws (.Tuple es j pos) (.tp ps) :=
  let ⟨_, q, s⟩ := h
  ⟨_, pgh_tup hp q hn hst, sg_tup s rfl⟩
theorem os_setCompH {i : Nat} {y : Str} {py spos : Pos} (hp : L2H.Hot1 X.A p) (hpn : p ∈ X.pn) (hN : X.N.Nodup) (hy : X.N[i]? = some y) (hyl : X.env.scope.names.lookup y = some .local) (hw : i ∈ ws)
    (hsw : swapsWith (.ListComp elt [⟨tg, iter, ifs, 0⟩] scope pos) (some (.Name y py)) spos.line X.env = pure true) (hi : OkE X Y W iter fi) (ok : BlkOk X.N X.env.scope scope own)
    (hg : ∀ (s : Shared) (H : Hp) (C : Addr) (cl : List (Str × Addr)) (fp : List Addr), OkGH (X.blk s H scope (compEnvC scope cl C X.env) fp) p (own.map (·.2)) tg pt) (ht : ∀ (s : Shared) (H : Hp) (C : Addr) (cl : List (Str × Addr)) (fp : List Addr), OkTs (X.blk s H scope (compEnvC scope cl C X.env) fp) Y W0 ifs cnd)
    (he : ∀ (s : Shared) (H : Hp) (C : Addr) (cl : List (Str × Addr)) (fp : List Addr), OkE (X.blk s H scope (compEnvC scope cl C X.env) fp) Y W0 elt fe) (hs : ∀ x, foldedSetIterable iter X.env x = pure x := by intro _; rfl) :
    OkS X Y W ws (.Assign [.Name y py] (.ListComp elt [⟨tg, iter, ifs, 0⟩] scope pos) spos) (sSet i (eComp (wList fi) pt cnd fe (own.map (·.2)))) := by
  obtain ⟨wi, pi, si⟩ := hi
  exact ⟨_, ps_setLc_hot hp hpn hN hy hyl hsw pi ok (fun s H C cl fp => let ⟨_, q, t⟩ := hg s H C cl fp; pgh_cG q t) (fun s H C cl fp => pts_cT (ht s H C cl fp)) (fun s H C cl fp => pe_cE (he s H C cl fp)) hs, ss_set (se_comp (si_list si) sg_cG st_cT se_cE) hw⟩
theorem oe_compH (hp : L2H.Hot1 X.A p) (hpn : p ∈ X.pn) (hN : X.N.Nodup) (hi : OkE X Y W iter fi) (ok : BlkOk X.N X.env.scope scope own)
    (hg : ∀ (s : Shared) (H : Hp) (C : Addr) (cl : List (Str × Addr)) (fp : List Addr), OkGH (X.blk s H scope (compEnvC scope cl C X.env) fp) p (own.map (·.2)) tg pt) (ht : ∀ (s : Shared) (H : Hp) (C : Addr) (cl : List (Str × Addr)) (fp : List Addr), OkTs (X.blk s H scope (compEnvC scope cl C X.env) fp) Y W0 ifs cnd)
    (he : ∀ (s : Shared) (H : Hp) (C : Addr) (cl : List (Str × Addr)) (fp : List Addr), OkE (X.blk s H scope (compEnvC scope cl C X.env) fp) Y W0 elt fe) (hs : ∀ x, foldedSetIterable iter X.env x = pure x := by intro _; rfl) :
    OkE X Y W (.ListComp elt [⟨tg, iter, ifs, 0⟩] scope pos) (eComp (wList fi) pt cnd fe (own.map (·.2))) := by
  obtain ⟨wi, pi, si⟩ := hi
  exact ⟨_, pe_lc_hot hp hpn hN pi ok (fun s H C cl fp => let ⟨_, q, t⟩ := hg s H C cl fp; pgh_cG q t) (fun s H C cl fp => pts_cT (ht s H C cl fp)) (fun s H C cl fp => pe_cE (he s H C cl fp)) hs, se_comp (si_list si) sg_cG st_cT se_cE⟩
end
end FT
/-! FT45: defs that an except suite asks with its error: what they answer by the error's class. -/
namespace FT
open PySem PySem.Spec PySem.W PyProof.Rows L2

/-! ### isinstance(the error, a class) -/
theorem call_isX {X : Cx} {p : Addr × Obj} {D : Addr} (C : ExcC X.K D) (hz : Zc (.ref D) none p.2) (hf : ∃ vs, p.2.data = .fields vs) (hm : p ∈ X.pn) : CallR X (.builtin "isinstance") (rIsE X.K D p.1) := by
  intro pins s σ H xs us Q I r h
  obtain ⟨c, cv, b, rfl, hcv, e, q⟩ := h
  cases r with
  | cons rx rr =>
    cases rr with
    | cons rt rr =>
      cases rr
      cases rx
      obtain rfl := hcv _ rt
      have hget := (I.pin p (List.mem_append_left _ hm)).1
      obtain ⟨vs, hv⟩ := hf
      have J : PySem.W.InstAt s.heap p.1 p.2 D none := by
        obtain ⟨a, oc, od, oda, osl⟩ := p
        obtain ⟨h1, h2⟩ := hz
        dsimp only at h1 h2 hv
        subst h1 h2 hv
        exact ⟨hget, rfl, rfl, trivial⟩
      exact PySem.W.kia_one (PySem.W.handS_kitx_exc C.hg C.hk C.hs C.hd C.ha C.hn C.ht C.hm) I.kIn J e (fun z => nomatch z) fun tk => ⟨.bl b, H, I.kept (t' := tk) fun _ _ z => z, rfl, q⟩
/-- whether the error in slot i, at a, is of a class: b -/
def eIsX (i : Nat) (a : Addr) (b : Bool) : Sl → M O := fun S => match S.getD i .no with
  | .x a' => if a' = a then some (.ok (.d (.bool b)), S) else none
  | _ => none
section
variable {X : Cx} {Y : YX} {W : WX} {ws : List Nat}
theorem se_isX {K : PySem.W.Frag} {i : Nat} {a D : Addr} {b : Bool} {c : V} {cv : Value} (hcv : ∀ u, RelV c u → u = cv) (hk : PySem.W.kitOne K (.ref D) cv = some b) :
    SE K Y W (tCB (rIsE K D a) (tCons (tVar i) (tCons (tC c) tNil))) (eIsX i a b) := by
  intro R T S σ H Q out S' hl hf rel post
  unfold eIsX at hf
  split at hf
  · rename_i a' ea
    split at hf
    · rename_i e
      subst e
      cases hf
      have hlt : i < S.length := slot_lt (by rw [ea]; rfl)
      have hs := getD_some hlt
      obtain ⟨v, hv⟩ := slot_val hl (by rw [ea]; rfl) rel
      have rel2 := rel.take hs hv
      rw [ea] at rel2
      obtain ⟨fp, q1, q2, q3⟩ := rel2
      cases q3 with
      | cons h t =>
        cases h
        refine ⟨.ref a', hv, c, cv, b, rfl, hcv, hk, ?_⟩
        exact post hl (.bl b) H (rel.addS (x := .bool b) rfl)
    · cases hf
  · cases hf
/-- .. an own class -/
theorem oe_isX {p : Addr × Obj} {D C : Addr} {i : Nat} {b : Bool} {n y : Str} {p0 p1 p2 pos : Pos} (E : ExcC X.K D) (hz : Zc (.ref D) none p.2) (hf : ∃ vs, p.2.data = .fields vs) (hm : p ∈ X.pn) (hk : kitOne X.K (.ref D) (.ref C) = some b)
    (hn : PE X (.Name n p1) (tVar i)) (hi : X.mg "isinstance" = none) (hy : X.mg y = some (.ref C)) (hg : Gl X "isinstance" := by rfl) (hgy : Gl X y := by rfl) (hdb : (y == ("__debug__" : Str)) = false := by decide)
    (he : starEach [.Name n p1, .Name y p2] X.env = (false, eval (.Name n p1) X.env) :: starEach [.Name y p2] X.env := by rfl) (he2 : starEach [.Name y p2] X.env = (false, eval (.Name y p2) X.env) :: starEach [] X.env := by rfl) (hpl : (backTo pos (starEach [.Name y p2] X.env)).any (·.1) = false := by rfl) :
    OkE X Y W (.Call (.Name "isinstance" p0) [.Name n p1, .Name y p2] [] pos) (eIsX i p.1 b) :=
  ⟨_, pe_callB (x := "isinstance") (call_isX E hz hf hm) hg hi (by decide +kernel) (pa_cons hn (pa_cons (pe_glob (v := .ref C) hgy hy rfl hdb) pa_nil he2) he) (by decide) (by decide) he hpl, se_isX (fun u r => r) hk⟩
/-- .. a built-in one -/
theorem oe_isXb {p : Addr × Obj} {D : Addr} {T : String} {i : Nat} {b : Bool} {n y : Str} {p0 p1 p2 pos : Pos} (E : ExcC X.K D) (hz : Zc (.ref D) none p.2) (hf : ∃ vs, p.2.data = .fields vs) (hm : p ∈ X.pn) (hk : kitOne X.K (.ref D) (.type T) = some b)
    (hn : PE X (.Name n p1) (tVar i)) (hi : X.mg "isinstance" = none) (hy : X.mg y = none) (hvT : bootBuiltins y = some (.type T)) (hg : Gl X "isinstance" := by rfl) (hgy : Gl X y := by rfl) (hnT : y ≠ "__name__" := by decide) (hdb : (y == ("__debug__" : Str)) = false := by decide)
    (he : starEach [.Name n p1, .Name y p2] X.env = (false, eval (.Name n p1) X.env) :: starEach [.Name y p2] X.env := by rfl) (he2 : starEach [.Name y p2] X.env = (false, eval (.Name y p2) X.env) :: starEach [] X.env := by rfl) (hpl : (backTo pos (starEach [.Name y p2] X.env)).any (·.1) = false := by rfl) :
    OkE X Y W (.Call (.Name "isinstance" p0) [.Name n p1, .Name y p2] [] pos) (eIsX i p.1 b) :=
  ⟨_, pe_callB (x := "isinstance") (call_isX E hz hf hm) hg hi (by decide +kernel) (pa_cons hn (pa_cons (pe_bltn (v := .ty T) hgy hy hvT rfl hnT hdb) pa_nil he2) he) (by decide) (by decide) he hpl, se_isX (fun u r => r) hk⟩
end

/-! ### such a def -/
/-- the def at f, asked with an error of the class at D while that error is handled, answers v -/
structure FnX (P : Program) (w : World) (K : PySem.W.Frag) (mg : Str → Option Value) (base : Heap) (k : Nat) (D f : Addr) (fd : FuncData) (x : Str) (v : PyData) : Prop where
  run : ∀ (A : Around) (outer : List Env) (s : Shared) (H : Hp) (args : Args) (Q : VK) (E : XK) (p : Addr × Obj), L2H.RoomH k A → L2H.Hot1 A p → L2H.PinOk outer H s p → L2N.Zn (.ref D) none p.2 → (∃ vs, p.2.data = .fields vs) → Env0 P w K mg base A outer s H → BindsTo s fd args [(x, .ref p.1)] →
    (∀ H', Gr H H' → Q (toV v) H') → codeAny (model P w) A (.call (.ref f) args) (CR (L2N.CX P w) outer P w H s Q E) s
theorem FnX.mono {P : Program} {w : World} {K : PySem.W.Frag} {mg : Str → Option Value} {base : Heap} {j k : Nat} {D f : Addr} {fd : FuncData} {x : Str} {v : PyData} (F : FnX P w K mg base j D f fd x v) (h : j ≤ k) : FnX P w K mg base k D f fd x v :=
  ⟨fun A outer s H args Q E p hr => F.run A outer s H args Q E p (hr.mono h)⟩
section
variable {P : Program} {w : World} {K : PySem.W.Frag} {mg : Str → Option Value} {base : Heap} {Y : YX}
theorem fnX_of {x y qual : Str} {st : Stmt} {D f : Addr} {fd : FuncData} {N : List Str} {k : Nat} {ws : List Nat} {body : Addr → Sl → MS} {v : PyData} (F : Fun K y qual st f fd) (S : FnScope N [x] (defScope st)) (hv : scal1 v = true)
    (hbody : ∀ (cdv : Value) (A : Around) (outer : List Env) (s : Shared) (H : Hp) (E : XK) (p : Addr × Obj), L2H.Hot1 A p → L2N.Zn (.ref D) none p.2 → (∃ vs, p.2.data = .fields vs) → L2H.RoomH k (A.deeper (envOfC qual (defScope st) s.heap.objs.size f cdv)) →
      OkSs (L2H.cxH (L2N.CX P w) P w K mg base N qual (defScope st) f cdv A outer s H E p) Y (fun cls d _ H => E cls d H) ws (defBody st) (body p.1))
    (hg : ∀ a, ∃ S', body a ([O.x a] ++ List.replicate (N.length - 1) .no) = some (.ok (.rt (.d v)), S')) : FnX P w K mg base (k + 1) D f fd x v := by
  refine ⟨fun A outer s H args Q E p hr hot hpin hz hfl e0 hb hQ => ?_⟩
  obtain ⟨oc, od, kV, doc, pm, an, cdv, ct, osl, rfl, lk, hcd⟩ := F.ex
  have KX : K.In s.heap := e0.mod.kin.keeps fun b o e => (e0.bs b o e).1
  have lim : s.heap.NoLimit := e0.mod.nolimit.keeps fun b o e => (e0.bs b o e).1
  have kinds : ∀ z ∈ [x].zip [Value.ref p.1], (defScope st).names.lookup z.1 = some .local ∨ ((defScope st).names.lookup z.1 = some .cell ∧ ((cellsFrom (s.heap.objs.size + 1) (defScope st).names []).lookup z.1).isSome = true) := by
    rintro ⟨n, v⟩ hz
    rcases S.par n (List.of_mem_zip hz).1 with q | q
    · exact .inl q
    · exact .inr ⟨q, PySem.W.cellsFrom_some _ _ _ (.inl q)⟩
  refine codeAny_call_function hr.depth (KX _ _ lk) rfl S.co S.gen rfl (PySem.W.codeRec_of KX hcd) (hb _ _ _ _ (wpAny_newFunctionEnv_cells S.kind kinds fun env he s1 ic => ?_))
  subst he
  refine ⟨lim.keeps ic.toInCall.keep, codeAny_func ?_⟩
  obtain ⟨t, ht, hss⟩ := hbody cdv A outer s H E p hot hz hfl (hr.deeper _)
  have I : Inv (L2H.cxH (L2N.CX P w) P w K mg base N qual (defScope st) f cdv A outer s H E p) [] (L2.start N [V.ref p.1]) H s1 :=
    L2H.inv_startH (CX := L2N.CX P w) (N := N) (qual := qual) (f := f) (cd := cdv) (E := E) (vs := [V.ref p.1]) S hpin e0 rfl (.cons rfl .nil) ic
  obtain ⟨S', hgb⟩ := hg p.1
  have hst : L2.start N [V.ref p.1] = some (V.ref p.1) :: List.replicate (N.length - 1) none := rfl
  have rel0 : Rel K H [] (([O.x p.1] ++ List.replicate (N.length - 1) O.no).zip (L2.start N [V.ref p.1]) ++ [(O.fr (fun G _ => Gr H G) [], none)]) := by
    rw [hst]
    have r0 : Rel K H [] [(O.fr (fun G _ => Gr H G) [], none)] := by
      refine ⟨[], by simp, (fun a ha => nomatch ha), ?_⟩
      have h0 : hid H ([] ++ []) = H := by
        funext a
        unfold hid
        rw [if_neg (by simp)]
      exact .cons (.fr (by rw [h0]; exact .rfl) (fun G G' _ _ g _ q a o e => g a o (q a o e)) (fun a ha => (by cases ha))) .nil
    have r1 : ∀ j, Rel K H [] ((List.replicate j O.no).zip (List.replicate j none) ++ [(O.fr (fun G _ => Gr H G) [], none)]) := by
      intro j
      induction j with
      | zero => exact r0
      | succ j ih => exact ih.addNo
    obtain ⟨fp, q1, q2, q3⟩ := r1 (N.length - 1)
    exact ⟨fp, q1, q2, .cons .x q3⟩
  have hq : t { nx := fun _ H' => Q .non H', rt := Q } (L2.start N [V.ref p.1]) H := by
    refine hss [] [(O.fr (fun G _ => Gr H G) [], none)] ([O.x p.1] ++ List.replicate (N.length - 1) O.no) (L2.start N [V.ref p.1]) H _ _ S' ?_ hgb rel0 ?_
    · rw [hst]; simp
    · intro hl' v' σ' H' kp rl
      have ev := scal_head (x := v) hv rl
      subst ev
      have r2 : Rel K H' [] [(O.fr (fun G _ => Gr H G) [], none)] := Rel.drops (L := S'.zip σ') rl.drop
      obtain ⟨fp, q1, q2, q3⟩ := r2
      cases q3 with
      | cons h t =>
        cases h with
        | fr hP _ _ => exact hQ H' fun a o e => hid_le _ _ (hP a o e)
  refine wpAny_mono (ht.run [] s1 (L2.start N [V.ref p.1]) H _ I hq) (fun fl s' hs => ?_) fun _ _ hs => hs
  match fl, hs with
  | .ret u, ⟨v, σ', H', J, rv, q⟩ => exact ⟨v, H', J.os, J.bare, J.base, J.hok, rv, q⟩
  | .next, ⟨σ', H', J, q⟩ => exact ⟨.non, H', J.os, J.bare, J.base, J.hok, rfl, q⟩
  | .brk, ⟨_, _, _, q⟩ => exact q.elim
  | .cont, ⟨_, _, _, q⟩ => exact q.elim
end
/-- a suite that asks it -/
theorem ox_kind {X0 : Cx} {k i : Nat} {a D f : Addr} {oe : Obj} {pn : List (Addr × Obj)} {fd : FuncData} {x y n : Str} {v : PyData} {p0 p1 pos : Pos} (F : FnX X0.prog X0.w X0.K X0.mg X0.base k D f fd x v) (hr : RG k X0.A) (hz : L2N.Zn (.ref D) none oe) (hf : ∃ vs, oe.data = .fields vs)
    (hm : X0.mg y = some (.ref f)) (hk : keepIn X0.K (.ref f) = true) (hb : Binds X0.K fd [x] []) (hn : PE (X0.suite a ((a, oe) :: pn)) (.Name n p1) (tVar i)) (hg : Gl X0 y := by rfl) (hdb : (y == ("__debug__" : Str)) = false := by decide)
    (he : starEach [.Name n p1] X0.env = (false, eval (.Name n p1) X0.env) :: starEach [] X0.env := by rfl) :
    OkX (X0.suite a ((a, oe) :: pn)) i a (.Call (.Name y p0) [.Name n p1] [] pos) v := by
  refine ⟨fun σ H Q => σ[i]? = some (some (.ref a)) ∧ ∀ H', Gr H H' → Q (toV v) H', ⟨fun pins s σ H Q I h => ?_⟩, fun σ H Q hi q => ⟨hi, q⟩⟩
  obtain ⟨hi, hQ⟩ := h
  have ha : PA (X0.suite a ((a, oe) :: pn)) [.Name n p1] (tCons (tVar i) tNil) := pa_cons hn pa_nil he
  refine wpAny_Call_Name_kw (ld_glob (X := X0.suite a ((a, oe) :: pn)) I hg hm (PySem.W.callWith_K (h₀ := X0.base) I.ok.mod.kin hk (thn (ha.run pos pins s σ H (fun vs H1 => vs = [V.ref a] ∧ H = H1) I ⟨.ref a, hi, rfl, rfl⟩) fun us s1 hq => ?_) he (by rfl)) hdb)
  obtain ⟨vs, H1, I1, r, rfl, rfl⟩ := hq
  refine ⟨I1.kIn, ?_⟩
  cases r with
  | cons ru rn =>
    cases rn
    cases ru
    have P1 := I1.pin (a, oe) (List.mem_append_left _ List.mem_cons_self)
    have hpin : L2H.PinOk X0.stack H s1 (a, oe) := ⟨P1.1, P1.2.1, fun hm => (List.mem_cons.mp (I1.stkSub a hm)).elim P1.2.2.1 P1.2.2.2.1, P1.2.2.2.2⟩
    have bind : BindsTo s1 fd ⟨[.ref a], []⟩ [(x, .ref a)] := by
      have q := hb s1 [.ref a] I1.kIn rfl
      simpa using q
    have hr1 := L2H.roomH_of hr.rm
    have hot : L2H.Hot1 (X0.A.mark (some (.ref a))) (a, oe) := by
      obtain ⟨vs, hv⟩ := hf
      exact ⟨rfl, vs, hv, hz.2.2 vs hv⟩
    refine wpAny_call (codeAny_mono (F.run (X0.A.mark (some (.ref a))) X0.stack s1 H ⟨[.ref a], []⟩ Q (fun _ _ _ => False) (a, oe) ⟨hr1.dp, hr1.un⟩ hot hpin hz hf I1.env0 bind hQ) fun q s' hq => ?_)
    match q, hq with
    | .error ev, hq =>
      obtain ⟨_, _, _, _, _, _, _, _, _, _, _, _, z⟩ := hq
      exact z.elim
    | .ok (.ret u), hq => exact I1.after hq
    | .ok .next, hq => exact hq.elim
    | .ok .brk, hq => exact hq.elim
    | .ok .cont, hq => exact hq.elim
/-- the classes, by number, that an error is of -/
def isq (l : List Nat) : Nat → Bool := fun i => l.contains i
theorem kit_own {K : PySem.W.Frag} {D C : Addr} {b : Bool} (hd : hasDictIn K C = true) (ty : typeIn K (.ref C) = some (.type "type")) (sb : subIn K (.ref D) (.ref C) = some b) (h : b = true ∨ (Value.ref D == Value.ref C) = false) : kitOne K (.ref D) (.ref C) = some b := by
  obtain ⟨cd, hc, _⟩ := any_some hd
  have e2 : ((clsIn K C).isSome && typeIn K (.ref C) == some (.type "type")) = true := by rw [hc, ty] <;> rfl
  unfold kitOne
  by_cases e : (Value.ref D == Value.ref C) = true
  · rw [if_pos e]
    rcases h with h | h
    · rw [h]
    · rw [e] at h; cases h
  · rw [if_neg e]
    show (if ((clsIn K C).isSome && typeIn K (.ref C) == some (.type "type")) = true then subIn K (.ref D) (.ref C) else none) = some b
    rw [if_pos e2]; exact sb
theorem eIsX_at {i : Nat} {a : Addr} {b : Bool} {S : Sl} (h : S.getD i .no = .x a) : eIsX i a b S = some (.ok (.d (.bool b)), S) := by
  unfold eIsX
  rw [h]
  exact if_pos rfl
/-! ### what such a def comes to -/
theorem hot_t {s : Str} {i : Nat} {a : Addr} {b : Bool} {S : Sl} (h : S.getD i .no = .x a) : eApp gTupF [.e (eC (.str s)), .e (eIsX i a b)] S = some (.ok (.d (.tuple [.str s, .bool b])), S) :=
  tup_args [.str s, .bool b] (ar_c rfl (ar_c (eIsX_at h) rfl)) (by simp)
theorem hot_l2 {f1 f2 : Sl → M O} {o1 o2 : O} {S : Sl} (h1 : f1 S = some (.ok o1, S)) (h2 : f2 S = some (.ok o2, S)) : eApp gLst [.e f1, .e f2] S = some (.ok (.l [o1, o2]), S) :=
  lst_args [o1, o2] (ar_c h1 (ar_c h2 rfl)) (by simp)
theorem hot_l1 {f1 : Sl → M O} {o1 : O} {S : Sl} (h1 : f1 S = some (.ok o1, S)) : eApp gLst [.e f1] S = some (.ok (.l [o1]), S) :=
  lst_args [o1] (ar_c h1 rfl) (by simp)
theorem hot_m {G : Fn} {fb : Sl → M O} {i : Nat} {S S1 : Sl} {o b r o' b' : O} (hi : isLs (S.getD i .no) = true) (h0 : isNo (S.getD i .no) = false) (h2 : fb S = some (.ok b, S1)) (hl : i < S1.length) (hS : S1.getD i .no = o) (hd : isD o = false) (h : G [o, b] = some (.ok r, [o', b'])) : eMeth G i [.e fb] S = some (.ok r, S1.set i o') :=
  (if_pos hi).trans (app_ve h0 h2 hl hS hd h)
theorem hot_r {ft : Sl → M Bool} {fe fo : Sl → M O} {i : Nat} {a : Addr} {S S1 : Sl} {o : O} (h : S.getD i .no = .x a) (h1 : ft S = some (.ok true, S)) (h2 : fe S = some (.ok o, S1)) : sRet (eIf (tAn ft (tVal (eIsX i a true))) fe fo) S = some (.ok (.rt o), S1) := by
  refine ret_at ?_
  show bnd (bnd (ft S) _) _ = _
  rw [h1]
  show bnd (bnd (eIsX i a true S) _) _ = _
  rw [eIsX_at h]
  exact h2
/-- such a def's slots: the error, the pairs so far -/
def hU (p : Str × Bool) : PyData := .tuple [.str p.1, .bool p.2]
def hS (a : Addr) (ps : List (Str × Bool)) (o : O) : Sl := [.x a, dl (ps.map hU), o, .no, .no]
section
variable {a : Addr} {xs : List (Str × Bool)} {o q : O} {s t : Str} {b c : Bool}
theorem hot_ap {S : Sl} (e : hS a xs q = S) (fb : Sl → M O) (ys : List (Str × Bool)) (h : xs.length ≤ 900) (hy : ys.length ≤ 10) (hb : fb S = some (.ok (dl (ys.map hU)), S)) : sSet 1 (eApp gAdd [.v 1, .e fb]) S = some (.ok .nx, hS a (xs ++ ys) q) := by
  subst e
  have g := gAdd_li (o := dl (xs.map hU)) (p := dl (ys.map hU)) (A := xs.map hU) (B := ys.map hU) (.inl rfl) (.inl rfl) (by rw [List.length_map, List.length_map]; omega)
  rw [← List.map_append] at g
  exact set_at (app_ve' (by rfl) hb (by rfl) (.inl rfl) g)
theorem hot_1 : sSet 1 (eApp gLst [.e (eApp gTupF [.e (eC (.str s)), .e (eIsX 0 a b)]), .e (eApp gTupF [.e (eC (.str t)), .e (eIsX 0 a c)])]) ([.x a] ++ [o, q, .no, .no]) = some (.ok .nx, hS a [(s, b), (t, c)] q) :=
  set_at (hot_l2 (hot_t rfl) (hot_t rfl))
theorem hot_2 (h : xs.length ≤ 900) : sSet 1 (eApp gAdd [.v 1, .e (eApp gLst [.e (eApp gTupF [.e (eC (.str s)), .e (eIsX 0 a b)]), .e (eApp gTupF [.e (eC (.str t)), .e (eIsX 0 a c)])])]) (hS a xs q) = some (.ok .nx, hS a (xs ++ [(s, b), (t, c)]) q) :=
  hot_ap rfl _ [(s, b), (t, c)] h (by show 2 ≤ 10; decide) (hot_l2 (hot_t rfl) (hot_t rfl))
theorem hot_3 (h : xs.length ≤ 900) : sSet 1 (eApp gAdd [.v 1, .e (eApp gLst [.e (eApp gTupF [.e (eC (.str s)), .e (eIsX 0 a b)])])]) (hS a xs q) = some (.ok .nx, hS a (xs ++ [(s, b)]) q) :=
  hot_ap rfl _ [(s, b)] h (by show 1 ≤ 10; decide) (hot_l1 (hot_t rfl))
theorem hot_4 (h : xs.length ≤ 900) : sDo (eMeth gAppend 1 [.e (eApp gTupF [.e (eC (.str s)), .e (eIsX 0 a b)])]) (hS a xs q) = some (.ok .nx, hS a (xs ++ [(s, b)]) q) := by
  have e := hot_m (G := gAppend) (i := 1) (S := hS a xs q) (o := dl (xs.map hU)) (r := .d .none) (o' := dl ((xs ++ [(s, b)]).map hU)) (b' := .no) rfl rfl (hot_t (s := s) (i := 0) (a := a) (b := b) rfl) (Nat.succ_lt_succ (Nat.succ_pos _)) rfl rfl (by
    show (if ((xs.map hU).map O.d).length < LIM then some (Except.ok (O.d .none), [O.l ((xs.map hU).map O.d ++ [O.d (hU (s, b))]), O.no]) else none) = _
    rw [if_pos (by rw [List.length_map, List.length_map, LIM]; omega)]
    show _ = some (Except.ok (O.d .none), [O.l (((xs ++ [(s, b)]).map hU).map O.d), O.no])
    rw [List.map_append, List.map_append]
    rfl)
  exact do_at e
theorem hot_cl {L : PyData} : ∀ (ps : List (Str × Bool)) (acc : List O), compL (.tp [.nm 3, .nm 4]) (tVal (eName 4)) (eName 3) [3, 4] (ps.map hU) [.x a, .d L, q, .no, .no] acc = some (acc ++ (ps.filter (·.2)).map fun p => .d (.str p.1), [.x a, .d L, q, .no, .no])
  | [], acc => by rw [List.map_nil, compL, List.filter_nil, List.map_nil, List.append_nil]
  | (s, true) :: ps, acc => by
    rw [List.map_cons, compL]
    show compL (.tp [.nm 3, .nm 4]) (tVal (eName 4)) (eName 3) [3, 4] (ps.map hU) [.x a, .d L, q, .no, .no] (acc ++ [.d (.str s)]) = _
    rw [hot_cl ps, List.append_assoc]
    rfl
  | (s, false) :: ps, acc => by
    rw [List.map_cons, compL]
    show compL (.tp [.nm 3, .nm 4]) (tVal (eName 4)) (eName 3) [3, 4] (ps.map hU) [.x a, .d L, q, .no, .no] acc = _
    rw [hot_cl ps]
    rfl
theorem hot_c {c : Sl → M Bool} {e : Sl → M O} (hc : c = tVal (eName 4)) (he : e = eName 3) (h : xs.length ≤ 900) : sSet 2 (eComp (wList (eName 1)) (.tp [.nm 3, .nm 4]) c e [3, 4]) (hS a xs q) = some (.ok .nx, [.x a, .d (.list (xs.map hU)), .l ((xs.filter (·.2)).map fun p => .d (.str p.1)), .no, .no]) := by
  subst hc he
  have e : eName 1 (hS a xs q) = some (.ok (.d (.list (xs.map hU))), [.x a, .d (.list (xs.map hU)), q, .no, .no]) := by
    show (match ers ((xs.map hU).map O.d) with
      | some ds => some (Except.ok (O.d (.list ds)), (hS a xs q).set 1 (.d (.list ds)))
      | none => none) = _
    rw [ers_d]
    rfl
  refine set_at (S1 := [.x a, .d (.list (xs.map hU)), q, .no, .no]) ?_
  show bnd (bnd (eName 1 (hS a xs q)) _) _ = _
  rw [e]
  show (if (xs.map hU).length ≤ LIM then (match compL (.tp [.nm 3, .nm 4]) (tVal (eName 4)) (eName 3) [3, 4] (xs.map hU) [.x a, .d (.list (xs.map hU)), q, .no, .no] [] with
    | some (os, S2) => some (Except.ok (O.l os), wipeS S2 [3, 4])
    | none => none) else none) = _
  rw [if_pos (by rw [List.length_map, LIM]; omega), hot_cl]
  rfl
end
/-! ### == there -/
theorem ot_eqH {X : Cx} {Y : YX} {W : WX} {k : Nat} {a b : Expr} {ra rb : Ar} {pos : Pos} (hr : L2H.RoomH k X.A) (ha : OkR X Y W a ra) (hb : OkR X Y W b rb) : OkT X Y W (.Compare a [.Eq] [b] pos) (tVal (eApp cEq [ra, rb])) := ot_cmp (OpR.or op_eq (op_eqD (by have := hr.un; omega))) fr_eq ha hb (nomark _)
/-! ### xs[i], y = a, b -/
def sSubN (i : Nat) (f1 : Sl → M O) (j : Nat) (fe : Sl → M O) : Sl → MS := fun S => bnd (fe S) fun o S1 => match o with
  | .d (.tuple [x, y]) => bnd (stV i f1 x S1) fun _ S2 => some (.ok .nx, S2.set j (.d y))
  | _ => none
theorem ss_subN {K : PySem.W.Frag} {Y : YX} {W : WX} {ws : List Nat} {i j : Nat} {te t1 : TE} {fe f1 : Sl → M O} (hj : j ∈ ws) (h : SE K Y W te fe) (h1 : SE K Y W t1 f1) : SS K Y W ws (tAsg te (gTup K 2 (gCons (gSub (tVar i) t1 rSetL) (gCons (gName j) gNil)))) (sSubN i f1 j fe) := by
  intro R T S σ H D out S' hl hf rel post
  rcases bnd_cases hf with ⟨e, e1, rfl⟩ | ⟨o, S1, e1, e2⟩
  · exact h R T S σ H _ _ _ hl e1 rel (post_err post)
  · refine h R T S σ H _ _ _ hl e1 rel fun hl1 v H1 rel1 => ?_
    split at e2
    · rename_i x y
      obtain ⟨a, vs, ew, ha, hln, _, r1⟩ := rel1.itemsT
      cases ew
      match vs, hln, ha, r1 with
      | [v1, v2], _, ha, r1 =>
        refine ⟨a, [v1, v2], rfl, SqT.of ha, rfl, v1, [v2], rfl, ?_⟩
        have r2 : Rel K H1 R ((.d x, some v1) :: (.d y, some v2) :: (.d (.tuple [x, y]), some (.ref a)) :: (S1.zip σ ++ T)) := r1
        have r3 : Rel K H1 R ((.d x, some v1) :: (S1.zip σ ++ ((.d y, some v2) :: T))) := (((r2.swap.perm (.cons _ (.swap ..))).perm (.cons _ (.refl _))).swap.drop.swap.perm (.cons _ (.refl _))).perm (by
          first
          | exact .cons _ List.perm_middle.symm
          | exact (List.Perm.swap ..).trans (.cons _ List.perm_middle.symm))
        rcases bnd_cases e2 with ⟨e, e3, rfl⟩ | ⟨q, S2, e3, e4⟩
        · exact sg_v h1 hl1 e3 r3 fun hle cls dd H' hy r => post_err post hle cls dd H' hy r.mid.drop
        · have z := stV_nx e3
          subst z
          cases e4
          refine sg_v h1 hl1 e3 r3 fun hl2 H2 rel2 => ?_
          exact ⟨v2, [], rfl, rfl, post (by rw [List.length_set]; exact hl2) _ H2 (.set hj) (rel2.mid.assign hl2)⟩
    · cases e2
theorem os_subN {X : Cx} {Y : YX} {W : WX} {ws : List Nat} {x : Str} {p1 p3 p5 pos : Pos} {kt : Nat} {e i1 t2 : Expr} {i j : Nat} {fe f1 : Sl → M O} (hc : X.calm = true) (ho1 : PE X (.Name x p1) (tVar i)) (h1 : OkE X Y W i1 f1) (hg : PG X t2 (gName j)) (hj : j ∈ ws) (h : OkE X Y W e fe)
    (ha1 : ∀ v, assign (.Subscript (.Name x p1) i1 p3) X.env v = (do
      let ov ← holding [v] (eval (.Name x p1) X.env)
      let iv ← holding [v, ov] (eval i1 X.env)
      standAt p3
      holding [v, ov, iv] (setItem ov iv v)
      release [v, ov, iv] []) := by intro _; rfl)
    (hs : swapsWithSole [.Tuple [.Subscript (.Name x p1) i1 p3, t2] kt p5] e pos.line X.env = pure false := by rfl) (hw : swappedStores [.Tuple [.Subscript (.Name x p1) i1 p3, t2] kt p5] e X.env = pure none := by rfl)
    (hz : (assignEach [.Tuple [.Subscript (.Name x p1) i1 p3, t2] kt p5] X.env).map (·.2) = [assign (.Tuple [.Subscript (.Name x p1) i1 p3, t2] kt p5) X.env] := by rfl)
    (he1 : (assignEach [.Subscript (.Name x p1) i1 p3, t2] X.env).map (·.2) = assign (.Subscript (.Name x p1) i1 p3) X.env :: (assignEach [t2] X.env).map (·.2) := by rfl)
    (he2 : (assignEach [t2] X.env).map (·.2) = assign t2 X.env :: (assignEach [] X.env).map (·.2) := by rfl)
    (hn : (assignEach [.Subscript (.Name x p1) i1 p3, t2] X.env).length = 2 := by rfl) (hst : (assignEach [.Subscript (.Name x p1) i1 p3, t2] X.env).findIdx? (·.1) = none := by rfl) :
    OkS X Y W ws (.Assign [.Tuple [.Subscript (.Name x p1) i1 p3, t2] kt p5] e pos) (sSubN i f1 j fe) :=
  let ⟨_, q1, t1⟩ := h1
  let ⟨_, q, t⟩ := h
  ⟨_, ps_asg q (pg_tup hc (pgs_cons (pg_sub ho1 q1 set_list ha1) (pgs_cons hg pgs_nil he2) he1) hn hst) hs hw hz, ss_subN hj t t1⟩
end FT
set_option maxHeartbeats 4000000
namespace K41
open PySem PySem.Spec PyProof.Rows L2 FT
/-- the i-th statement of the text -/
def topS (i : Nat) : Stmt := PySem.Challenge.pw_flatthreads_k41_errors_of_totals.main.body.getD i (.Pass ⟨0, 0, 0, 0⟩)
/-! ### _law_sack(_law_script, _law_k): 0=_law_script 1=_law_k 2=_law_cell -/
def b__law_sack : Sl → MS := sSeq (sSet 2 (eIf (tVal (eApp cLt [.v 1, .e (eApp gLen [.v 0])])) (eApp gItem [.v 0, .v 1]) (eC (.int 0)))) (sRet (eApp gLst [.e (eApp gMax2 [.e (eC (.int 0)), .e (eApp (fnD (dII fun i j => i - j)) [.e (eApp gAbs [.v 2]), .e (eApp (fnD (dIIc cPow fun i j => i ^ j.toNat)) [.e (eC (.int 10)), .e (eC (.int 18))])])]), .e (eApp gAdd [.e (eApp gAdd [.e (eApp gMul [.e (eApp (fnD (dIIc cMod fun i j => i % j)) [.v 2, .e (eApp gAdd [.e (eApp (fnD (dIIc cPow fun i j => i ^ j.toNat)) [.e (eC (.int 10)), .e (eC (.int 38))]), .e (eC (.int 133))])]), .e (eC (.int 13))]), .e (eApp gMul [.e (eC (.int 6151)), .v 1])]), .e (eC (.int 17))]), .e (eC (.int 0))]))
def g__law_sack : Fn := mkFn 3 2 [2] b__law_sack
/-! ### is_integer(value, low, high): 0=value 1=low 2=high -/
def b_is_integer : Sl → MS := sSeq (sIf (tO (tN (tVal (eApp (fnD (d1b isIntD)) [.v 0]))) (tVal (eApp (fnD (d1b isBoolD)) [.v 0]))) (sRet (eC (.bool false))) (sNext)) (sRet (eAnd (eApp cLe [.v 1, .v 0]) (eOr (eApp cIsN [.v 2, .e (eC .none)]) (eApp cLe [.v 0, .v 2]))))
def g_is_integer : Fn := mkFn 3 3 [] b_is_integer
/-! ### require_number(comments): 0=comments -/
def b_require_number : Sl → MS := sIf (tN (tVal (eApp g_is_integer [.v 0, .e (eC (.int 0)), .e (eC (.int 40))]))) (sRaise (PySem.Str.ofString "InvalidNumber")) (sNext)
def g_require_number : Fn := mkFn 1 1 [] b_require_number
/-! ### next_choices(choices): 0=choices 1=one 2=other -/
def e_next_choices_1 : Sl → M O := eApp gAdd [.v 1, .v 2]
def b_next_choices : Sl → MS := sRet (eComp (wArgs [.e (eApp (gStarL (.int 0)) [.v 0]), .e (eApp (gStarR (.int 0)) [.v 0])] kZip) (.tp [.nm 1, .nm 2]) tT e_next_choices_1 [1, 2])
def g_next_choices : Fn := mkFn 3 1 [] b_next_choices
/-! ### needs_with(known, choices): 0=known 1=choices 2=many 3=found 4=size 5=ways 6=front 7=one 8=behind 9=other -/
def b_needs_with_1 : Sl → MS := sAugS 3 (eApp gAdd [.v 6, .e (eApp gMax2 [.e (eC (.int 1)), .e (eApp (fnD (dII fun i j => i - j)) [.v 8, .e (eC (.int 1))])])]) (eApp gMul [.e (eApp gMul [.v 5, .v 7]), .v 9])
def b_needs_with_2 : Sl → MS := sFor (wArgs [.e (eApp gItemX [.v 0, .e (eApp (fnD (dII fun i j => i - j)) [.e (eApp (fnD (dII fun i j => i - j)) [.v 2, .e (eC (.int 1))]), .v 4])])] kEnum) (.tp [.nm 8, .nm 9]) b_needs_with_1
def b_needs_with_3 : Sl → MS := sFor (wArgs [.e (eApp gItemX [.v 0, .v 4])] kEnum) (.tp [.nm 6, .nm 7]) b_needs_with_2
def b_needs_with : Sl → MS := sSeq (sSet 2 (eApp gLen [.v 0])) (sSeq (sSet 3 (eApp gMul [.e (eApp gLst [.e (eC (.int 0))]), .e (eApp gAdd [.v 2, .e (eC (.int 1))])])) (sSeq (sFor (wArgs [.e (eName 1)] kEnum) (.tp [.nm 4, .nm 5]) b_needs_with_3) (sRet (eMove 3))))
def g_needs_with : Fn := mkFn 10 2 [2, 3, 4, 5, 6, 7, 8, 9] b_needs_with
/-! ### needs_in(comments): 0=comments 1=known 2=choices 3=turn -/
def b_needs_in_1 : Sl → MS := sSeq (sDo (eMeth gAppend 1 [.e (eApp g_needs_with [.v 1, .v 2])])) (sSet 2 (eApp g_next_choices [.v 2]))
def b_needs_in : Sl → MS := sSeq (sPar 1 2 [.e (eApp gLst [.e (eApp gLst [.e (eC (.int 1))])]), .e (eApp gLst [.e (eC (.int 1))])]) (sSeq (sFor (wArgs [.e (eName 0)] kRng1) (.nm 3) b_needs_in_1) (sRet (eApp gItemM [.v 1, .e (eApp (fnD (dI fun i => -i)) [.e (eC (.int 1))])])))
def g_needs_in : Fn := mkFn 4 1 [1, 2, 3] b_needs_in
/-! ### count_orders(comments): 0=comments -/
def b_count_orders : Sl → MS := sSeq (sDo (eApp g_require_number [.v 0])) (sRet (eApp (fnD dSum) [.e (eSlE (eApp g_needs_in [.v 0]) none (some (ckI (eC (.int 2)))))]))
def g_count_orders : Fn := mkFn 1 1 [] b_count_orders
/-! ### _law_kind(_law_e): 0=_law_e 1=_law_pairs 2=_law_found 3=_law_word 4=_law_yes -/
def c__law_kind_1 : Sl → M Bool := tVal (eName 4)
def e__law_kind_1 : Sl → M O := eName 3
def b__law_kind (q : Nat → Bool) (a : Addr) : Sl → MS := sSeq (sSet 1 (eApp gLst [.e (eApp gTupF [.e (eC (.str (PySem.Str.ofString "thread"))), .e (eIsX 0 a (q 6))]), .e (eApp gTupF [.e (eC (.str (PySem.Str.ofString "order"))), .e (eIsX 0 a (q 4))])])) (sSeq (sSet 1 (eApp gAdd [.v 1, .e (eApp gLst [.e (eApp gTupF [.e (eC (.str (PySem.Str.ofString "comment"))), .e (eIsX 0 a (q 1))]), .e (eApp gTupF [.e (eC (.str (PySem.Str.ofString "depths"))), .e (eIsX 0 a (q 2))])])])) (sSeq (sSet 1 (eApp gAdd [.v 1, .e (eApp gLst [.e (eApp gTupF [.e (eC (.str (PySem.Str.ofString "number"))), .e (eIsX 0 a (q 3))]), .e (eApp gTupF [.e (eC (.str (PySem.Str.ofString "possible"))), .e (eIsX 0 a (q 8))])])])) (sSeq (sSet 1 (eApp gAdd [.v 1, .e (eApp gLst [.e (eApp gTupF [.e (eC (.str (PySem.Str.ofString "text"))), .e (eIsX 0 a (q 5))]), .e (eApp gTupF [.e (eC (.str (PySem.Str.ofString "command"))), .e (eIsX 0 a (q 0))])])])) (sSeq (sSet 1 (eApp gAdd [.v 1, .e (eApp gLst [.e (eApp gTupF [.e (eC (.str (PySem.Str.ofString "folded"))), .e (eIsX 0 a (q 7))]), .e (eApp gTupF [.e (eC (.str (PySem.Str.ofString "many"))), .e (eIsX 0 a (q 11))])])])) (sSeq (sDo (eMeth gAppend 1 [.e (eApp gTupF [.e (eC (.str (PySem.Str.ofString "nothing"))), .e (eIsX 0 a (q 9))])])) (sSeq (sSet 2 (eComp (wList (eName 1)) (.tp [.nm 3, .nm 4]) c__law_kind_1 e__law_kind_1 [3, 4])) (sRet (eIf (tAn (tVal (eApp cEq [.e (eApp gLen [.v 2]), .e (eC (.int 1))])) (tVal (eIsX 0 a (q 12)))) (eApp gItem [.v 2, .e (eC (.int 0))]) (eC (.str (PySem.Str.ofString "odd")))))))))))
/-! ### count_needs(comments): 0=comments -/
def b_count_needs : Sl → MS := sSeq (sDo (eApp g_require_number [.v 0])) (sRet (eApp g_needs_in [.v 0]))
def g_count_needs : Fn := mkFn 1 1 [] b_count_needs
/-! ### _law_told(_law_door, _law_value): 0=_law_door 1=_law_value 2=_law_e -/
def b__law_told_1 : Sl → MS := sIf (tVal (eApp cEq [.v 0, .e (eC (.int 0))])) (sDo (eApp g_count_orders [.v 1])) (sIf (tVal (eApp cEq [.v 0, .e (eC (.int 1))])) (sDo (eApp (revF false g_count_orders) [.v 1])) (sIf (tVal (eApp cEq [.v 0, .e (eC (.int 2))])) (sDo (eApp g_count_needs [.v 1])) (sDo (eApp (revF false g_count_needs) [.v 1]))))
def b__law_told : Sl → MS := sSeq (sTryK [((PySem.Str.ofString "InvalidNumber"), .str (PySem.Str.ofString "number"))] [] 2 b__law_told_1) (sRet (eC (.str (PySem.Str.ofString "fine"))))
def g__law_told : Fn := mkFn 3 2 [2] b__law_told
/-! ### _law_grab(_law_sack_here, _law_many): 0=_law_sack_here 1=_law_many 2=_law_digit 3=_law_mixed -/
def b__law_grab : Sl → MS := sSeq (sIf (tVal (eApp cGt [.e (eApp gItem [.v 0, .e (eC (.int 0))]), .e (eC (.int 0))])) (sSeq (sSet 2 (eApp (fnD (dIIc cMod fun i j => i % j)) [.e (eApp gItem [.v 0, .e (eC (.int 0))]), .v 1])) (sSeq (sStore 0 (eC (.int 0)) (eApp (fnD (dIIc cDiv fun i j => i / j)) [.e (eApp gItem [.v 0, .e (eC (.int 0))]), .v 1])) (sRet (eMove 2)))) (sNext)) (sSeq (sStore 0 (eC (.int 2)) (eApp gAdd [.e (eApp gItem [.v 0, .e (eC (.int 2))]), .e (eC (.int 1))])) (sSeq (sSet 3 (eApp (fnD (dIIc cMod fun i j => i % j)) [.e (eApp (fnD (dIIc cPow fun i j => i ^ j.toNat)) [.e (eApp gAdd [.e (eApp gItem [.v 0, .e (eC (.int 1))]), .e (eApp gMul [.e (eC (.int 512927357)), .e (eApp gItem [.v 0, .e (eC (.int 2))])])]), .e (eC (.int 3))]), .e (eApp gAdd [.e (eApp (fnD (dIIc cPow fun i j => i ^ j.toNat)) [.e (eC (.int 10)), .e (eC (.int 41))]), .e (eC (.int 37))])])) (sSeq (sSet 3 (eApp (fnD (dIIc cMod fun i j => i % j)) [.e (eApp (fnD (dIIc cPow fun i j => i ^ j.toNat)) [.e (eApp gAdd [.v 3, .e (eApp gMul [.e (eC (.int 256203161)), .e (eApp gItem [.v 0, .e (eC (.int 2))])])]), .e (eC (.int 3))]), .e (eApp gAdd [.e (eApp (fnD (dIIc cPow fun i j => i ^ j.toNat)) [.e (eC (.int 10)), .e (eC (.int 40))]), .e (eC (.int 121))])])) (sRet (eApp (fnD (dIIc cMod fun i j => i % j)) [.e (eApp (fnD (dIIc cDiv fun i j => i / j)) [.v 3, .e (eC (.int 104729))]), .v 1])))))
def g__law_grab : Fn := mkFn 4 2 [2, 3] b__law_grab
/-! ### law(_law_script): 0=_law_script 1=_law_k 2=_law_sack_here 3=_law_turn 4=_law_some 5=_law_value 6=_law_kept 7=_law_told_here 8=_law_door -/
def e_law_1 : Sl → M O := eApp g__law_told [.v 8, .v 5]
def b_law_1 : Sl → MS := sSeq (sSet 4 (eApp gLst [.e (eC .none), .e (eApp (fnD (dI fun i => -i)) [.e (eC (.int 1))]), .e (eC (.int 41)), .e (eC (.bool true)), .e (eC (.bool false)), .e (eC (.str (PySem.Str.ofString "3"))), .e (eC (.str (PySem.Str.ofString ""))), .e (eApp gLst [.e (eC (.int 3))]), .e (eApp gTupF [.e (eC (.int 3))]), .e (eDict0), .e (eApp (fnD (dII fun i j => i - j)) [.e (eC (.int 0)), .e (eApp (fnD (dIIc cPow fun i j => i ^ j.toNat)) [.e (eC (.int 10)), .e (eC (.int 30))])]), .e (eApp (fnD (dIIc cPow fun i j => i ^ j.toNat)) [.e (eC (.int 10)), .e (eC (.int 40))]), .e (eApp gLst []), .e (eApp gTupF [])])) (sSeq (sSet 4 (eApp gAdd [.v 4, .e (eApp gLst [.e (eApp gAdd [.e (eC (.int 41)), .e (eApp g__law_grab [.v 2, .e (eApp (fnD (dIIc cPow fun i j => i ^ j.toNat)) [.e (eC (.int 10)), .e (eC (.int 30))])])]), .e (eApp (fnD (dII fun i j => i - j)) [.e (eApp (fnD (dI fun i => -i)) [.e (eC (.int 1))]), .e (eApp g__law_grab [.v 2, .e (eApp (fnD (dIIc cPow fun i j => i ^ j.toNat)) [.e (eC (.int 10)), .e (eC (.int 30))])])])])])) (sSeq (sSet 5 (eApp gItem [.v 4, .e (eApp g__law_grab [.v 2, .e (eC (.int 16))])])) (sSeq (sSet 6 (eApp (fnD dReprQ) [.v 5])) (sIf (tO (tVal (eApp cNe [.e (eComp (wArgs [.e (eC (.int 4))] kRng1) (.nm 8) tT e_law_1 [8]), .e (eApp gMul [.e (eApp gLst [.e (eC (.str (PySem.Str.ofString "number")))]), .e (eC (.int 4))])])) (tVal (eApp cNe [.e (eApp (fnD dReprQ) [.v 5]), .v 6]))) (sRet (eC (.bool false))) (sNext)))))
def b_law_2 : Sl → MS := sSeq (sSet 2 (eApp g__law_sack [.v 0, .v 1])) (sSeq (sFor (wArgs [.e (eC (.int 6))] kRng1) (.nm 3) b_law_1) (sIf (tVal (eApp cNe [.e (eApp g__law_told [.e (eApp g__law_grab [.v 2, .e (eC (.int 4))]), .e (eApp g__law_grab [.v 2, .e (eC (.int 25))])]), .e (eC (.str (PySem.Str.ofString "fine")))])) (sRet (eC (.bool false))) (sNext)))
def b_law : Sl → MS := sSeq (sFor (wArgs [.e (eApp gMax2 [.e (eC (.int 1)), .e (eApp gMin2 [.e (eC (.int 6)), .e (eApp gLen [.v 0])])])] kRng1) (.nm 1) b_law_2) (sSeq (sSet 7 (eApp gLst [.e (eApp g__law_told [.e (eC (.int 0)), .e (eC (.int 0))]), .e (eApp g__law_told [.e (eC (.int 2)), .e (eC (.int 0))]), .e (eApp g__law_told [.e (eC (.int 1)), .e (eC (.int 40))]), .e (eApp g__law_told [.e (eC (.int 3)), .e (eC (.int 41))])])) (sRet (eApp cEq [.v 7, .e (eApp gAdd [.e (eApp gMul [.e (eApp gLst [.e (eC (.str (PySem.Str.ofString "fine")))]), .e (eC (.int 3))]), .e (eApp gLst [.e (eC (.str (PySem.Str.ofString "number")))])])])))
def g_law : Fn := mkFn 9 1 [1, 2, 3, 4, 5, 6, 7] b_law
theorem vl__law_kind_InvalidNumber : ∀ a, ∃ S2, b__law_kind (isq [3, 10, 12]) a ([O.x a] ++ List.replicate ([PySem.Str.ofString "_law_e", PySem.Str.ofString "_law_pairs", PySem.Str.ofString "_law_found", PySem.Str.ofString "_law_word", PySem.Str.ofString "_law_yes"].length - 1) .no) = some (.ok (.rt (.d (.str (PySem.Str.ofString "number")))), S2) := by
  intro a
  apply Exists.intro
  unfold b__law_kind
  refine (seq_nx hot_1).trans ?_
  repeat (first | with_reducible refine (seq_nx (hot_2 (by decide +kernel))).trans ?_ | with_reducible refine (seq_nx (hot_3 (by decide +kernel))).trans ?_ | with_reducible refine (seq_nx (hot_4 (by decide +kernel))).trans ?_)
  refine (seq_nx (hot_c rfl rfl (by decide +kernel))).trans ?_
  exact hot_r (by rfl) (by rfl) (by rfl)
section
variable {P : Program} {w : World} {K : PySem.W.Frag} {mg : Str → Option Value} {base : Heap}
theorem sc__law_sack : FnScope [PySem.Str.ofString "_law_script", PySem.Str.ofString "_law_k", PySem.Str.ofString "_law_cell"] [PySem.Str.ofString "_law_script", PySem.Str.ofString "_law_k"] (defScope (topS 24)) := ⟨rfl, rfl, rfl, by decide +kernel, rfl, by decide +kernel, by decide +kernel⟩
theorem ok__law_sack {f : Addr} {fd : FuncData} (F : Fun K (PySem.Str.ofString "_law_sack") (PySem.Str.ofString "_law_sack") (topS 24) f fd) (Z_len : mg (PySem.Str.ofString "len") = none) (Z_max : mg (PySem.Str.ofString "max") = none) (Z_abs : mg (PySem.Str.ofString "abs") = none) : FnG P w K mg base (YK K) 1 f fd [PySem.Str.ofString "_law_script", PySem.Str.ofString "_law_k"] g__law_sack := by
  refine fnG_of (N := [PySem.Str.ofString "_law_script", PySem.Str.ofString "_law_k", PySem.Str.ofString "_law_cell"]) (k := 0) F sc__law_sack fun cdv A outer s H E hr => ?_
  have tk : L2N.Takes (cxOf (L2N.CX P w) P w K mg base [PySem.Str.ofString "_law_script", PySem.Str.ofString "_law_k", PySem.Str.ofString "_law_cell"] (PySem.Str.ofString "_law_sack") (defScope (topS 24)) f cdv A outer s H E) (fun cls d _ H => E cls d H) := L2N.takes_of rfl rfl rfl rfl
  exact (oss_cons (os_set (i := 2) sc__law_sack.nd rfl (by first | exact .inl rfl | exact .inr rfl) (by decide) (oe_if (ot_lt (or_v (pv 1)) (or_e (oe_blt call_len fr_len Z_len PySem.boot_len (oa_cons (or_v (pv 0)) oa_nil)))) (oe_item (or_v (pv 0)) (or_v (pv 1))) oe_int))
  (oss_one (os_ret (oe_lst (oa_cons (or_e (oe_blt (call_max2 rfl) fr_II2 Z_max (by decide +kernel) (oa_cons (or_e oe_int) (oa_cons (or_e (oe_sub (or_e (oe_blt call_abs fr_abs Z_abs (by decide +kernel) (oa_cons (or_v (pv 2)) oa_nil))) (or_e (oe_pow (or_e oe_int) (or_e oe_int))))) oa_nil)))) (oa_cons (or_e (oe_add (or_e (oe_add (or_e (oe_mul (or_e (oe_mod (or_v (pv 2)) (or_e (oe_add (or_e (oe_pow (or_e oe_int) (or_e oe_int))) (or_e oe_int))))) (or_e oe_int))) (or_e (oe_mul (or_e oe_int) (or_v (pv 1)))))) (or_e oe_int))) (oa_cons (or_e oe_int) oa_nil)))))))
theorem sc_is_integer : FnScope [PySem.Str.ofString "value", PySem.Str.ofString "low", PySem.Str.ofString "high"] [PySem.Str.ofString "value", PySem.Str.ofString "low", PySem.Str.ofString "high"] (defScope (topS 14)) := ⟨rfl, rfl, rfl, by decide +kernel, rfl, by decide +kernel, by decide +kernel⟩
theorem ok_is_integer {f : Addr} {fd : FuncData} (F : Fun K (PySem.Str.ofString "is_integer") (PySem.Str.ofString "is_integer") (topS 14) f fd) (Z_isinstance : mg (PySem.Str.ofString "isinstance") = none) (Z_int : mg (PySem.Str.ofString "int") = none) (Z_bool : mg (PySem.Str.ofString "bool") = none) : FnG P w K mg base (YK K) 1 f fd [PySem.Str.ofString "value", PySem.Str.ofString "low", PySem.Str.ofString "high"] g_is_integer := by
  refine fnG_of (N := [PySem.Str.ofString "value", PySem.Str.ofString "low", PySem.Str.ofString "high"]) (k := 0) F sc_is_integer fun cdv A outer s H E hr => ?_
  have tk : L2N.Takes (cxOf (L2N.CX P w) P w K mg base [PySem.Str.ofString "value", PySem.Str.ofString "low", PySem.Str.ofString "high"] (PySem.Str.ofString "is_integer") (defScope (topS 14)) f cdv A outer s H E) (fun cls d _ H => E cls d H) := L2N.takes_of rfl rfl rfl rfl
  exact (oss_cons (os_if (ot_w (ow_or (ot_not (ot_val (oe_isi isi_int (or_v (pv 0)) Z_isinstance Z_int (by decide +kernel)))) (ow_or1 (ot_val (oe_isi isi_bool (or_v (pv 0)) Z_isinstance Z_bool (by decide +kernel)))))) (oss_one (os_ret oe_bool)) oss_nil)
  (oss_one (os_ret (oe_and (oe_le (or_v (pv 1)) (or_v (pv 0))) (oe_one (oe_or (oe_isN (or_v (pv 2)) (or_e oe_none)) (oe_one (oe_le (or_v (pv 0)) (or_v (pv 2))))))))))
theorem sc_require_number : FnScope [PySem.Str.ofString "comments"] [PySem.Str.ofString "comments"] (defScope (topS 20)) := ⟨rfl, rfl, rfl, by decide +kernel, rfl, by decide +kernel, by decide +kernel⟩
theorem ok_require_number {f : Addr} {fd : FuncData} (F : Fun K (PySem.Str.ofString "require_number") (PySem.Str.ofString "require_number") (topS 20) f fd) {f_is_integer : Addr} {fd_is_integer : FuncData} (G_is_integer : FnG P w K mg base (YK K) 1 f_is_integer fd_is_integer [PySem.Str.ofString "value", PySem.Str.ofString "low", PySem.Str.ofString "high"] g_is_integer) (M_is_integer : mg (PySem.Str.ofString "is_integer") = some (.ref f_is_integer)) (K_is_integer : PySem.W.keepIn K (.ref f_is_integer) = true) (B_is_integer : Binds K fd_is_integer [PySem.Str.ofString "value", PySem.Str.ofString "low", PySem.Str.ofString "high"] []) {t_MOST_COMMENTS : Tok} (N_MOST_COMMENTS : mg (PySem.Str.ofString "MOST_COMMENTS") = some (.int 40 t_MOST_COMMENTS)) {C_InvalidNumber : Addr} (HC_InvalidNumber : PySem.W.nsIn K mainGlobals (PySem.Str.ofString "InvalidNumber") = some (some (.ref C_InvalidNumber))) (EC_InvalidNumber : ErrC K C_InvalidNumber) (MG_InvalidNumber : mg (PySem.Str.ofString "InvalidNumber") = some (.ref C_InvalidNumber)) : FnG P w K mg base (YK K) 2 f fd [PySem.Str.ofString "comments"] g_require_number := by
  refine fnG_of (N := [PySem.Str.ofString "comments"]) (k := 1) F sc_require_number fun cdv A outer s H E hr => ?_
  have tk : L2N.Takes (cxOf (L2N.CX P w) P w K mg base [PySem.Str.ofString "comments"] (PySem.Str.ofString "require_number") (defScope (topS 20)) f cdv A outer s H E) (fun cls d _ H => E cls d H) := L2N.takes_of rfl rfl rfl rfl
  exact (oss_one (os_if (ot_not (ot_val (oe_call G_is_integer (hr.mono (by omega)) tk M_is_integer K_is_integer B_is_integer (oa_cons (or_v (pv 0)) (oa_cons (or_e oe_int) (oa_cons (or_e (oe_gint N_MOST_COMMENTS)) oa_nil)))))) (oss_one (os_raise rfl tk HC_InvalidNumber EC_InvalidNumber MG_InvalidNumber)) oss_nil))
theorem sc_next_choices : FnScope [PySem.Str.ofString "choices", PySem.Str.ofString "one", PySem.Str.ofString "other"] [PySem.Str.ofString "choices"] (defScope (topS 17)) := ⟨rfl, rfl, rfl, by decide +kernel, rfl, by decide +kernel, by decide +kernel⟩
theorem ok_next_choices {f : Addr} {fd : FuncData} (F : Fun K (PySem.Str.ofString "next_choices") (PySem.Str.ofString "next_choices") (topS 17) f fd) (Z_zip : mg (PySem.Str.ofString "zip") = none) : FnG P w K mg base (YK K) 1 f fd [PySem.Str.ofString "choices"] g_next_choices := by
  refine fnG_of (N := [PySem.Str.ofString "choices", PySem.Str.ofString "one", PySem.Str.ofString "other"]) (k := 0) F sc_next_choices fun cdv A outer s H E hr => ?_
  have tk : L2N.Takes (cxOf (L2N.CX P w) P w K mg base [PySem.Str.ofString "choices", PySem.Str.ofString "one", PySem.Str.ofString "other"] (PySem.Str.ofString "next_choices") (defScope (topS 17)) f cdv A outer s H E) (fun cls d _ H => E cls d H) := L2N.takes_of rfl rfl rfl rfl
  exact (oss_one (os_ret (oe_comp (own := [(PySem.Str.ofString "one", 1), (PySem.Str.ofString "other", 2)]) rfl sc_next_choices.nd (oi_zip (oa_cons (or_e (oe_starL (c := .int 0) rfl pe_int (pv 0))) (oa_cons (or_e (oe_starR (c := .int 0) rfl pe_int (pv 0))) oa_nil)) Z_zip) (blkOk_by (N := [PySem.Str.ofString "choices", PySem.Str.ofString "one", PySem.Str.ofString "other"]) (sc := defScope (topS 17)) (by decide +kernel)) (fun s0 H0 C0 cl0 fp0 => (og_tup rfl (ogs_cons (og_name (pg_name (i := 1) sc_next_choices.nd rfl (by first | exact .inl rfl | exact .inr rfl)) (by decide)) (ogs_cons (og_name (pg_name (i := 2) sc_next_choices.nd rfl (by first | exact .inl rfl | exact .inr rfl)) (by decide)) ogs_nil)))) (fun s0 H0 C0 cl0 fp0 => ots_nil) (fun s0 H0 C0 cl0 fp0 => (oe_add (or_v (pv 1)) (or_v (pv 2)))))))
theorem sc_needs_with : FnScope [PySem.Str.ofString "known", PySem.Str.ofString "choices", PySem.Str.ofString "many", PySem.Str.ofString "found", PySem.Str.ofString "size", PySem.Str.ofString "ways", PySem.Str.ofString "front", PySem.Str.ofString "one", PySem.Str.ofString "behind", PySem.Str.ofString "other"] [PySem.Str.ofString "known", PySem.Str.ofString "choices"] (defScope (topS 18)) := ⟨rfl, rfl, rfl, by decide +kernel, rfl, by decide +kernel, by decide +kernel⟩
theorem ok_needs_with {f : Addr} {fd : FuncData} (F : Fun K (PySem.Str.ofString "needs_with") (PySem.Str.ofString "needs_with") (topS 18) f fd) (Z_len : mg (PySem.Str.ofString "len") = none) (Z_enumerate : mg (PySem.Str.ofString "enumerate") = none) (Z_max : mg (PySem.Str.ofString "max") = none) : FnG P w K mg base (YK K) 1 f fd [PySem.Str.ofString "known", PySem.Str.ofString "choices"] g_needs_with := by
  refine fnG_of (N := [PySem.Str.ofString "known", PySem.Str.ofString "choices", PySem.Str.ofString "many", PySem.Str.ofString "found", PySem.Str.ofString "size", PySem.Str.ofString "ways", PySem.Str.ofString "front", PySem.Str.ofString "one", PySem.Str.ofString "behind", PySem.Str.ofString "other"]) (k := 0) F sc_needs_with fun cdv A outer s H E hr => ?_
  have tk : L2N.Takes (cxOf (L2N.CX P w) P w K mg base [PySem.Str.ofString "known", PySem.Str.ofString "choices", PySem.Str.ofString "many", PySem.Str.ofString "found", PySem.Str.ofString "size", PySem.Str.ofString "ways", PySem.Str.ofString "front", PySem.Str.ofString "one", PySem.Str.ofString "behind", PySem.Str.ofString "other"] (PySem.Str.ofString "needs_with") (defScope (topS 18)) f cdv A outer s H E) (fun cls d _ H => E cls d H) := L2N.takes_of rfl rfl rfl rfl
  exact (oss_cons (os_set (i := 2) sc_needs_with.nd rfl (by first | exact .inl rfl | exact .inr rfl) (by decide) (oe_blt call_len fr_len Z_len PySem.boot_len (oa_cons (or_v (pv 0)) oa_nil)))
  (oss_cons (os_set (i := 3) sc_needs_with.nd rfl (by first | exact .inl rfl | exact .inr rfl) (by decide) (oe_mul (or_e (oe_lst (oa_cons (or_e oe_int) oa_nil))) (or_e (oe_add (or_v (pv 2)) (or_e oe_int)))))
  (oss_cons (os_for (passes_of rfl) rfl (oi_enum (oa_cons (or_e (oe_name (pv 1))) oa_nil) Z_enumerate) (og_tup rfl (ogs_cons (og_name (pg_name (i := 4) sc_needs_with.nd rfl (by first | exact .inl rfl | exact .inr rfl)) (by decide)) (ogs_cons (og_name (pg_name (i := 5) sc_needs_with.nd rfl (by first | exact .inl rfl | exact .inr rfl)) (by decide)) ogs_nil))) (oss_one (os_for (passes_of rfl) rfl (oi_enum (oa_cons (or_e (oe_itemX (or_v (pv 0)) (or_v (pv 4)))) oa_nil) Z_enumerate) (og_tup rfl (ogs_cons (og_name (pg_name (i := 6) sc_needs_with.nd rfl (by first | exact .inl rfl | exact .inr rfl)) (by decide)) (ogs_cons (og_name (pg_name (i := 7) sc_needs_with.nd rfl (by first | exact .inl rfl | exact .inr rfl)) (by decide)) ogs_nil))) (oss_one (os_for (passes_of rfl) rfl (oi_enum (oa_cons (or_e (oe_itemX (or_v (pv 0)) (or_e (oe_sub (or_e (oe_sub (or_v (pv 2)) (or_e oe_int))) (or_v (pv 4)))))) oa_nil) Z_enumerate) (og_tup rfl (ogs_cons (og_name (pg_name (i := 8) sc_needs_with.nd rfl (by first | exact .inl rfl | exact .inr rfl)) (by decide)) (ogs_cons (og_name (pg_name (i := 9) sc_needs_with.nd rfl (by first | exact .inl rfl | exact .inr rfl)) (by decide)) ogs_nil))) (oss_one (os_augS (pv 3) (oe_add (or_v (pv 6)) (or_e (oe_blt (call_max2 rfl) fr_II2 Z_max (by decide +kernel) (oa_cons (or_e oe_int) (oa_cons (or_e (oe_sub (or_v (pv 8)) (or_e oe_int))) oa_nil))))) (oe_mul (or_e (oe_mul (or_v (pv 5)) (or_v (pv 7)))) (or_v (pv 9))))))))))
  (oss_one (os_ret (oe_move (pv 3)))))))
theorem sc_needs_in : FnScope [PySem.Str.ofString "comments", PySem.Str.ofString "known", PySem.Str.ofString "choices", PySem.Str.ofString "turn"] [PySem.Str.ofString "comments"] (defScope (topS 19)) := ⟨rfl, rfl, rfl, by decide +kernel, rfl, by decide +kernel, by decide +kernel⟩
theorem ok_needs_in {f : Addr} {fd : FuncData} (F : Fun K (PySem.Str.ofString "needs_in") (PySem.Str.ofString "needs_in") (topS 19) f fd) {f_needs_with : Addr} {fd_needs_with : FuncData} (G_needs_with : FnG P w K mg base (YK K) 1 f_needs_with fd_needs_with [PySem.Str.ofString "known", PySem.Str.ofString "choices"] g_needs_with) (M_needs_with : mg (PySem.Str.ofString "needs_with") = some (.ref f_needs_with)) (K_needs_with : PySem.W.keepIn K (.ref f_needs_with) = true) (B_needs_with : Binds K fd_needs_with [PySem.Str.ofString "known", PySem.Str.ofString "choices"] []) {f_next_choices : Addr} {fd_next_choices : FuncData} (G_next_choices : FnG P w K mg base (YK K) 1 f_next_choices fd_next_choices [PySem.Str.ofString "choices"] g_next_choices) (M_next_choices : mg (PySem.Str.ofString "next_choices") = some (.ref f_next_choices)) (K_next_choices : PySem.W.keepIn K (.ref f_next_choices) = true) (B_next_choices : Binds K fd_next_choices [PySem.Str.ofString "choices"] []) (Z_range : mg (PySem.Str.ofString "range") = none) : FnG P w K mg base (YK K) 2 f fd [PySem.Str.ofString "comments"] g_needs_in := by
  refine fnG_of (N := [PySem.Str.ofString "comments", PySem.Str.ofString "known", PySem.Str.ofString "choices", PySem.Str.ofString "turn"]) (k := 1) F sc_needs_in fun cdv A outer s H E hr => ?_
  have tk : L2N.Takes (cxOf (L2N.CX P w) P w K mg base [PySem.Str.ofString "comments", PySem.Str.ofString "known", PySem.Str.ofString "choices", PySem.Str.ofString "turn"] (PySem.Str.ofString "needs_in") (defScope (topS 19)) f cdv A outer s H E) (fun cls d _ H => E cls d H) := L2N.takes_of rfl rfl rfl rfl
  exact (oss_cons (os_par (i := 1) (j := 2) rfl sc_needs_in.nd rfl rfl (by decide) rfl rfl (by decide) (by decide) (oa_cons (or_e (oe_lst (oa_cons (or_e (oe_lst (oa_cons (or_e oe_int) oa_nil))) oa_nil))) (oa_cons (or_e (oe_lst (oa_cons (or_e oe_int) oa_nil))) oa_nil)))
  (oss_cons (os_for (passes_of rfl) rfl (oi_range1 (oa_cons (or_e (oe_name (pv 0))) oa_nil) Z_range) (og_name (pg_name (i := 3) sc_needs_in.nd rfl (by first | exact .inl rfl | exact .inr rfl)) (by decide)) (oss_cons (os_do (oe_meth PySem.F.slot_list_append PySem.F.type_list_append mt_append fr_append (pv 1) (oa_cons (or_e (oe_call G_needs_with (hr.mono (by omega)) tk M_needs_with K_needs_with B_needs_with (oa_cons (or_v (pv 1)) (oa_cons (or_v (pv 2)) oa_nil)))) oa_nil)))
  (oss_one (os_set (i := 2) sc_needs_in.nd rfl (by first | exact .inl rfl | exact .inr rfl) (by decide) (oe_call G_next_choices (hr.mono (by omega)) tk M_next_choices K_next_choices B_next_choices (oa_cons (or_v (pv 2)) oa_nil))))))
  (oss_one (os_ret (oe_itemM (or_v (pv 1)) (or_e (oe_neg (or_e oe_int))))))))
theorem sc_count_orders : FnScope [PySem.Str.ofString "comments"] [PySem.Str.ofString "comments"] (defScope (topS 21)) := ⟨rfl, rfl, rfl, by decide +kernel, rfl, by decide +kernel, by decide +kernel⟩
theorem ok_count_orders {f : Addr} {fd : FuncData} (F : Fun K (PySem.Str.ofString "count_orders") (PySem.Str.ofString "count_orders") (topS 21) f fd) {f_require_number : Addr} {fd_require_number : FuncData} (G_require_number : FnG P w K mg base (YK K) 2 f_require_number fd_require_number [PySem.Str.ofString "comments"] g_require_number) (M_require_number : mg (PySem.Str.ofString "require_number") = some (.ref f_require_number)) (K_require_number : PySem.W.keepIn K (.ref f_require_number) = true) (B_require_number : Binds K fd_require_number [PySem.Str.ofString "comments"] []) {f_needs_in : Addr} {fd_needs_in : FuncData} (G_needs_in : FnG P w K mg base (YK K) 2 f_needs_in fd_needs_in [PySem.Str.ofString "comments"] g_needs_in) (M_needs_in : mg (PySem.Str.ofString "needs_in") = some (.ref f_needs_in)) (K_needs_in : PySem.W.keepIn K (.ref f_needs_in) = true) (B_needs_in : Binds K fd_needs_in [PySem.Str.ofString "comments"] []) (Z_sum : mg (PySem.Str.ofString "sum") = none) : FnG P w K mg base (YK K) 3 f fd [PySem.Str.ofString "comments"] g_count_orders := by
  refine fnG_of (N := [PySem.Str.ofString "comments"]) (k := 2) F sc_count_orders fun cdv A outer s H E hr => ?_
  have tk : L2N.Takes (cxOf (L2N.CX P w) P w K mg base [PySem.Str.ofString "comments"] (PySem.Str.ofString "count_orders") (defScope (topS 21)) f cdv A outer s H E) (fun cls d _ H => E cls d H) := L2N.takes_of rfl rfl rfl rfl
  exact (oss_cons (os_do (oe_call G_require_number (hr.mono (by omega)) tk M_require_number K_require_number B_require_number (oa_cons (or_v (pv 0)) oa_nil)))
  (oss_one (os_ret (oe_blt (cr_sum rfl) fr_sum Z_sum (by decide +kernel) (oa_cons (or_e (oe_slE (oe_call G_needs_in (hr.mono (by omega)) tk M_needs_in K_needs_in B_needs_in (oa_cons (or_v (pv 0)) oa_nil)) ob_none (ob_some oe_int))) oa_nil)))))
theorem sc__law_kind : FnScope [PySem.Str.ofString "_law_e", PySem.Str.ofString "_law_pairs", PySem.Str.ofString "_law_found", PySem.Str.ofString "_law_word", PySem.Str.ofString "_law_yes"] [PySem.Str.ofString "_law_e"] (defScope (topS 26)) := ⟨rfl, rfl, rfl, by decide +kernel, rfl, by decide +kernel, by decide +kernel⟩
theorem ok__law_kind {D : Addr} {q : Nat → Bool} {v : PyData} (hv : scal1 v = true) (XD : ExcC K D) (hg : ∀ a, ∃ S2, b__law_kind q a ([O.x a] ++ List.replicate ([PySem.Str.ofString "_law_e", PySem.Str.ofString "_law_pairs", PySem.Str.ofString "_law_found", PySem.Str.ofString "_law_word", PySem.Str.ofString "_law_yes"].length - 1) .no) = some (.ok (.rt (.d v)), S2)) {f : Addr} {fd : FuncData} (F : Fun K (PySem.Str.ofString "_law_kind") (PySem.Str.ofString "_law_kind") (topS 26) f fd) {C_InvalidCommand : Addr} (MG_InvalidCommand : mg (PySem.Str.ofString "InvalidCommand") = some (.ref C_InvalidCommand)) (KQ_InvalidCommand : PySem.W.kitOne K (.ref D) (.ref C_InvalidCommand) = some (q 0)) {C_InvalidComment : Addr} (MG_InvalidComment : mg (PySem.Str.ofString "InvalidComment") = some (.ref C_InvalidComment)) (KQ_InvalidComment : PySem.W.kitOne K (.ref D) (.ref C_InvalidComment) = some (q 1)) {C_InvalidDepths : Addr} (MG_InvalidDepths : mg (PySem.Str.ofString "InvalidDepths") = some (.ref C_InvalidDepths)) (KQ_InvalidDepths : PySem.W.kitOne K (.ref D) (.ref C_InvalidDepths) = some (q 2)) {C_InvalidNumber : Addr} (MG_InvalidNumber : mg (PySem.Str.ofString "InvalidNumber") = some (.ref C_InvalidNumber)) (KQ_InvalidNumber : PySem.W.kitOne K (.ref D) (.ref C_InvalidNumber) = some (q 3)) {C_InvalidOrder : Addr} (MG_InvalidOrder : mg (PySem.Str.ofString "InvalidOrder") = some (.ref C_InvalidOrder)) (KQ_InvalidOrder : PySem.W.kitOne K (.ref D) (.ref C_InvalidOrder) = some (q 4)) {C_InvalidText : Addr} (MG_InvalidText : mg (PySem.Str.ofString "InvalidText") = some (.ref C_InvalidText)) (KQ_InvalidText : PySem.W.kitOne K (.ref D) (.ref C_InvalidText) = some (q 5)) {C_InvalidThread : Addr} (MG_InvalidThread : mg (PySem.Str.ofString "InvalidThread") = some (.ref C_InvalidThread)) (KQ_InvalidThread : PySem.W.kitOne K (.ref D) (.ref C_InvalidThread) = some (q 6)) {C_NotFolded : Addr} (MG_NotFolded : mg (PySem.Str.ofString "NotFolded") = some (.ref C_NotFolded)) (KQ_NotFolded : PySem.W.kitOne K (.ref D) (.ref C_NotFolded) = some (q 7)) {C_NotPossible : Addr} (MG_NotPossible : mg (PySem.Str.ofString "NotPossible") = some (.ref C_NotPossible)) (KQ_NotPossible : PySem.W.kitOne K (.ref D) (.ref C_NotPossible) = some (q 8)) {C_NothingToUndo : Addr} (MG_NothingToUndo : mg (PySem.Str.ofString "NothingToUndo") = some (.ref C_NothingToUndo)) (KQ_NothingToUndo : PySem.W.kitOne K (.ref D) (.ref C_NothingToUndo) = some (q 9)) {C_TooMany : Addr} (MG_TooMany : mg (PySem.Str.ofString "TooMany") = some (.ref C_TooMany)) (KQ_TooMany : PySem.W.kitOne K (.ref D) (.ref C_TooMany) = some (q 11)) (KQ_ValueError : PySem.W.kitOne K (.ref D) (.type "ValueError") = some (q 12)) (Z_isinstance : mg (PySem.Str.ofString "isinstance") = none) (Z_len : mg (PySem.Str.ofString "len") = none) (Z_ValueError : mg (PySem.Str.ofString "ValueError") = none) : FnX P w K mg base 1 D f fd (PySem.Str.ofString "_law_e") v :=
  fnX_of (Y := fun _ _ _ _ => False) (N := [PySem.Str.ofString "_law_e", PySem.Str.ofString "_law_pairs", PySem.Str.ofString "_law_found", PySem.Str.ofString "_law_word", PySem.Str.ofString "_law_yes"]) (k := 0) (ws := [1, 2]) (body := b__law_kind q) F sc__law_kind hv (fun cdv A outer s H E p hot hz hf hr => (oss_cons (os_set (i := 1) sc__law_kind.nd rfl (by first | exact .inl rfl | exact .inr rfl) (by decide) (oe_lst (oa_cons (or_e (oe_tup (oa_cons (or_e oe_str) (oa_cons (or_e (oe_isX XD hz.zc hf List.mem_cons_self KQ_InvalidThread (pv 0) Z_isinstance MG_InvalidThread)) oa_nil)))) (oa_cons (or_e (oe_tup (oa_cons (or_e oe_str) (oa_cons (or_e (oe_isX XD hz.zc hf List.mem_cons_self KQ_InvalidOrder (pv 0) Z_isinstance MG_InvalidOrder)) oa_nil)))) oa_nil))))
  (oss_cons (os_set (i := 1) sc__law_kind.nd rfl (by first | exact .inl rfl | exact .inr rfl) (by decide) (oe_add (or_v (pv 1)) (or_e (oe_lst (oa_cons (or_e (oe_tup (oa_cons (or_e oe_str) (oa_cons (or_e (oe_isX XD hz.zc hf List.mem_cons_self KQ_InvalidComment (pv 0) Z_isinstance MG_InvalidComment)) oa_nil)))) (oa_cons (or_e (oe_tup (oa_cons (or_e oe_str) (oa_cons (or_e (oe_isX XD hz.zc hf List.mem_cons_self KQ_InvalidDepths (pv 0) Z_isinstance MG_InvalidDepths)) oa_nil)))) oa_nil))))))
  (oss_cons (os_set (i := 1) sc__law_kind.nd rfl (by first | exact .inl rfl | exact .inr rfl) (by decide) (oe_add (or_v (pv 1)) (or_e (oe_lst (oa_cons (or_e (oe_tup (oa_cons (or_e oe_str) (oa_cons (or_e (oe_isX XD hz.zc hf List.mem_cons_self KQ_InvalidNumber (pv 0) Z_isinstance MG_InvalidNumber)) oa_nil)))) (oa_cons (or_e (oe_tup (oa_cons (or_e oe_str) (oa_cons (or_e (oe_isX XD hz.zc hf List.mem_cons_self KQ_NotPossible (pv 0) Z_isinstance MG_NotPossible)) oa_nil)))) oa_nil))))))
  (oss_cons (os_set (i := 1) sc__law_kind.nd rfl (by first | exact .inl rfl | exact .inr rfl) (by decide) (oe_add (or_v (pv 1)) (or_e (oe_lst (oa_cons (or_e (oe_tup (oa_cons (or_e oe_str) (oa_cons (or_e (oe_isX XD hz.zc hf List.mem_cons_self KQ_InvalidText (pv 0) Z_isinstance MG_InvalidText)) oa_nil)))) (oa_cons (or_e (oe_tup (oa_cons (or_e oe_str) (oa_cons (or_e (oe_isX XD hz.zc hf List.mem_cons_self KQ_InvalidCommand (pv 0) Z_isinstance MG_InvalidCommand)) oa_nil)))) oa_nil))))))
  (oss_cons (os_set (i := 1) sc__law_kind.nd rfl (by first | exact .inl rfl | exact .inr rfl) (by decide) (oe_add (or_v (pv 1)) (or_e (oe_lst (oa_cons (or_e (oe_tup (oa_cons (or_e oe_str) (oa_cons (or_e (oe_isX XD hz.zc hf List.mem_cons_self KQ_NotFolded (pv 0) Z_isinstance MG_NotFolded)) oa_nil)))) (oa_cons (or_e (oe_tup (oa_cons (or_e oe_str) (oa_cons (or_e (oe_isX XD hz.zc hf List.mem_cons_self KQ_TooMany (pv 0) Z_isinstance MG_TooMany)) oa_nil)))) oa_nil))))))
  (oss_cons (os_do (oe_meth PySem.F.slot_list_append PySem.F.type_list_append mt_append fr_append (pv 1) (oa_cons (or_e (oe_tup (oa_cons (or_e oe_str) (oa_cons (or_e (oe_isX XD hz.zc hf List.mem_cons_self KQ_NothingToUndo (pv 0) Z_isinstance MG_NothingToUndo)) oa_nil)))) oa_nil)))
  (oss_cons (os_setCompH (i := 2) (hp := hot) (hpn := List.mem_cons_self) (hN := sc__law_kind.nd) (hy := rfl) (hyl := rfl) (hw := by decide) (hsw := sw_true rfl rfl rfl (by decide +kernel)) (own := [(PySem.Str.ofString "_law_word", 3), (PySem.Str.ofString "_law_yes", 4)]) (hi := (oe_name (pv 1))) (ok := (blkOk_by (N := [PySem.Str.ofString "_law_e", PySem.Str.ofString "_law_pairs", PySem.Str.ofString "_law_found", PySem.Str.ofString "_law_word", PySem.Str.ofString "_law_yes"]) (sc := defScope (topS 26)) (by decide +kernel))) (hg := (fun s0 H0 C0 cl0 fp0 => (ogh_tup hot (ogs_cons (og_name (pg_name (i := 3) sc__law_kind.nd rfl (by first | exact .inl rfl | exact .inr rfl)) (by decide)) (ogs_cons (og_name (pg_name (i := 4) sc__law_kind.nd rfl (by first | exact .inl rfl | exact .inr rfl)) (by decide)) ogs_nil))))) (ht := (fun s0 H0 C0 cl0 fp0 => (ots_one (ot_val (oe_name (pv 4)))))) (he := (fun s0 H0 C0 cl0 fp0 => (oe_name (pv 3)))))
  (oss_one (os_ret (oe_if (ot_w (ow_and (ot_eqH hr (or_e (oe_blt call_len fr_len Z_len PySem.boot_len (oa_cons (or_v (pv 2)) oa_nil))) (or_e oe_int)) (ow_and1 (ot_val (oe_isXb XD hz.zc hf List.mem_cons_self KQ_ValueError (pv 0) Z_isinstance Z_ValueError (by decide +kernel)))))) (oe_item (or_v (pv 2)) (or_e oe_int)) oe_str))))))))))) hg
theorem sc_count_needs : FnScope [PySem.Str.ofString "comments"] [PySem.Str.ofString "comments"] (defScope (topS 22)) := ⟨rfl, rfl, rfl, by decide +kernel, rfl, by decide +kernel, by decide +kernel⟩
theorem ok_count_needs {f : Addr} {fd : FuncData} (F : Fun K (PySem.Str.ofString "count_needs") (PySem.Str.ofString "count_needs") (topS 22) f fd) {f_require_number : Addr} {fd_require_number : FuncData} (G_require_number : FnG P w K mg base (YK K) 2 f_require_number fd_require_number [PySem.Str.ofString "comments"] g_require_number) (M_require_number : mg (PySem.Str.ofString "require_number") = some (.ref f_require_number)) (K_require_number : PySem.W.keepIn K (.ref f_require_number) = true) (B_require_number : Binds K fd_require_number [PySem.Str.ofString "comments"] []) {f_needs_in : Addr} {fd_needs_in : FuncData} (G_needs_in : FnG P w K mg base (YK K) 2 f_needs_in fd_needs_in [PySem.Str.ofString "comments"] g_needs_in) (M_needs_in : mg (PySem.Str.ofString "needs_in") = some (.ref f_needs_in)) (K_needs_in : PySem.W.keepIn K (.ref f_needs_in) = true) (B_needs_in : Binds K fd_needs_in [PySem.Str.ofString "comments"] []) : FnG P w K mg base (YK K) 3 f fd [PySem.Str.ofString "comments"] g_count_needs := by
  refine fnG_of (N := [PySem.Str.ofString "comments"]) (k := 2) F sc_count_needs fun cdv A outer s H E hr => ?_
  have tk : L2N.Takes (cxOf (L2N.CX P w) P w K mg base [PySem.Str.ofString "comments"] (PySem.Str.ofString "count_needs") (defScope (topS 22)) f cdv A outer s H E) (fun cls d _ H => E cls d H) := L2N.takes_of rfl rfl rfl rfl
  exact (oss_cons (os_do (oe_call G_require_number (hr.mono (by omega)) tk M_require_number K_require_number B_require_number (oa_cons (or_v (pv 0)) oa_nil)))
  (oss_one (os_ret (oe_call G_needs_in (hr.mono (by omega)) tk M_needs_in K_needs_in B_needs_in (oa_cons (or_v (pv 0)) oa_nil)))))
theorem sc__law_told : FnScope [PySem.Str.ofString "_law_door", PySem.Str.ofString "_law_value", PySem.Str.ofString "_law_e"] [PySem.Str.ofString "_law_door", PySem.Str.ofString "_law_value"] (defScope (topS 27)) := ⟨rfl, rfl, rfl, by decide +kernel, rfl, by decide +kernel, by decide +kernel⟩
theorem ok__law_told {f : Addr} {fd : FuncData} (F : Fun K (PySem.Str.ofString "_law_told") (PySem.Str.ofString "_law_told") (topS 27) f fd) {f_count_orders : Addr} {fd_count_orders : FuncData} (G_count_orders : FnG P w K mg base (YK K) 3 f_count_orders fd_count_orders [PySem.Str.ofString "comments"] g_count_orders) (M_count_orders : mg (PySem.Str.ofString "count_orders") = some (.ref f_count_orders)) (K_count_orders : PySem.W.keepIn K (.ref f_count_orders) = true) (B_count_orders : Binds K fd_count_orders [PySem.Str.ofString "comments"] []) {f_count_needs : Addr} {fd_count_needs : FuncData} (G_count_needs : FnG P w K mg base (YK K) 3 f_count_needs fd_count_needs [PySem.Str.ofString "comments"] g_count_needs) (M_count_needs : mg (PySem.Str.ofString "count_needs") = some (.ref f_count_needs)) (K_count_needs : PySem.W.keepIn K (.ref f_count_needs) = true) (B_count_needs : Binds K fd_count_needs [PySem.Str.ofString "comments"] []) (BK_count_orders_false : KwB K fd_count_orders [PySem.Str.ofString "comments"] [PySem.Str.ofString "comments"] false) (BK_count_needs_false : KwB K fd_count_needs [PySem.Str.ofString "comments"] [PySem.Str.ofString "comments"] false) {C_ThreadError : Addr} (HC_ThreadError : PySem.W.nsIn K mainGlobals (PySem.Str.ofString "ThreadError") = some (some (.ref C_ThreadError))) (EC_ThreadError : ErrC K C_ThreadError) (MG_ThreadError : mg (PySem.Str.ofString "ThreadError") = some (.ref C_ThreadError)) {C_InvalidNumber : Addr} (HC_InvalidNumber : PySem.W.nsIn K mainGlobals (PySem.Str.ofString "InvalidNumber") = some (some (.ref C_InvalidNumber))) (EC_InvalidNumber : ErrC K C_InvalidNumber) (MG_InvalidNumber : mg (PySem.Str.ofString "InvalidNumber") = some (.ref C_InvalidNumber)) (EX_InvalidNumber_ThreadError : PySem.W.exmOne K (.ref C_InvalidNumber) (.ref C_ThreadError) = some true) (XC_InvalidNumber : ExcC K C_InvalidNumber) (KO_InvalidNumber_ValueError : PySem.W.kitOne K (.ref C_InvalidNumber) (.type "ValueError") = some true) {f__law_kind : Addr} {fd__law_kind : FuncData} (M__law_kind : mg (PySem.Str.ofString "_law_kind") = some (.ref f__law_kind)) (K__law_kind : PySem.W.keepIn K (.ref f__law_kind) = true) (B__law_kind : Binds K fd__law_kind [PySem.Str.ofString "_law_e"] []) (HX__law_kind_InvalidNumber : FnX P w K mg base 1 C_InvalidNumber f__law_kind fd__law_kind (PySem.Str.ofString "_law_e") (.str (PySem.Str.ofString "number"))) : FnG P w K mg base (YK K) 4 f fd [PySem.Str.ofString "_law_door", PySem.Str.ofString "_law_value"] g__law_told := by
  refine fnG_of (N := [PySem.Str.ofString "_law_door", PySem.Str.ofString "_law_value", PySem.Str.ofString "_law_e"]) (k := 3) F sc__law_told fun cdv A outer s H E hr => ?_
  have tk : L2N.Takes (cxOf (L2N.CX P w) P w K mg base [PySem.Str.ofString "_law_door", PySem.Str.ofString "_law_value", PySem.Str.ofString "_law_e"] (PySem.Str.ofString "_law_told") (defScope (topS 27)) f cdv A outer s H E) (fun cls d _ H => E cls d H) := L2N.takes_of rfl rfl rfl rfl
  exact (oss_cons (os_tryK (i := 2) (yes := [((PySem.Str.ofString "InvalidNumber"), .str (PySem.Str.ofString "number"))]) (no := []) (f := b__law_told_1) rfl rfl sc__law_told.nd rfl rfl ⟨rfl, by decide, .inl MG_ThreadError⟩ tk (by decide) (fun W2 pn xe tk2 px2 => (oss_one (os_if (ot_eq hr (or_v (pv 0)) (or_e oe_int)) (oss_one (os_do (oe_call G_count_orders (hr.mono (by omega)) tk2 M_count_orders K_count_orders B_count_orders (oa_cons (or_v (pv 1)) oa_nil)))) (oss_one (os_if (ot_eq hr (or_v (pv 0)) (or_e oe_int)) (oss_one (os_do (oe_callK G_count_orders (hr.mono (by omega)) tk2 M_count_orders K_count_orders BK_count_orders_false (ok_cons (or_v (pv 1)) ok_nil)))) (oss_one (os_if (ot_eq hr (or_v (pv 0)) (or_e oe_int)) (oss_one (os_do (oe_call G_count_needs (hr.mono (by omega)) tk2 M_count_needs K_count_needs B_count_needs (oa_cons (or_v (pv 1)) oa_nil)))) (oss_one (os_do (oe_callK G_count_needs (hr.mono (by omega)) tk2 M_count_needs K_count_needs BK_count_needs_false (ok_cons (or_v (pv 1)) ok_nil))))))))))) (List.forall_mem_cons.mpr ⟨⟨_, HC_InvalidNumber, EX_InvalidNumber_ThreadError, rfl, fun a oe pn hz hf => osu_ret (ox_kind HX__law_kind_InvalidNumber (hr.mono (by omega)) hz hf M__law_kind K__law_kind B__law_kind (pv 2))⟩, (fun _ h => nomatch h)⟩) (fun _ h => nomatch h))
  (oss_one (os_ret oe_str)))
theorem sc__law_grab : FnScope [PySem.Str.ofString "_law_sack_here", PySem.Str.ofString "_law_many", PySem.Str.ofString "_law_digit", PySem.Str.ofString "_law_mixed"] [PySem.Str.ofString "_law_sack_here", PySem.Str.ofString "_law_many"] (defScope (topS 25)) := ⟨rfl, rfl, rfl, by decide +kernel, rfl, by decide +kernel, by decide +kernel⟩
theorem ok__law_grab {f : Addr} {fd : FuncData} (F : Fun K (PySem.Str.ofString "_law_grab") (PySem.Str.ofString "_law_grab") (topS 25) f fd)  : FnG P w K mg base (YK K) 1 f fd [PySem.Str.ofString "_law_sack_here", PySem.Str.ofString "_law_many"] g__law_grab := by
  refine fnG_of (N := [PySem.Str.ofString "_law_sack_here", PySem.Str.ofString "_law_many", PySem.Str.ofString "_law_digit", PySem.Str.ofString "_law_mixed"]) (k := 0) F sc__law_grab fun cdv A outer s H E hr => ?_
  have tk : L2N.Takes (cxOf (L2N.CX P w) P w K mg base [PySem.Str.ofString "_law_sack_here", PySem.Str.ofString "_law_many", PySem.Str.ofString "_law_digit", PySem.Str.ofString "_law_mixed"] (PySem.Str.ofString "_law_grab") (defScope (topS 25)) f cdv A outer s H E) (fun cls d _ H => E cls d H) := L2N.takes_of rfl rfl rfl rfl
  exact (oss_cons (os_if (ot_gt (or_e (oe_item (or_v (pv 0)) (or_e oe_int))) (or_e oe_int)) (oss_cons (os_set (i := 2) sc__law_grab.nd rfl (by first | exact .inl rfl | exact .inr rfl) (by decide) (oe_mod (or_e (oe_item (or_v (pv 0)) (or_e oe_int))) (or_v (pv 1))))
  (oss_cons (os_store (i := 0) (pv 0) oe_int (oe_fdiv (or_e (oe_item (or_v (pv 0)) (or_e oe_int))) (or_v (pv 1))))
  (oss_one (os_ret (oe_move (pv 2)))))) oss_nil)
  (oss_cons (os_store (i := 0) (pv 0) oe_int (oe_add (or_e (oe_item (or_v (pv 0)) (or_e oe_int))) (or_e oe_int)))
  (oss_cons (os_set (i := 3) sc__law_grab.nd rfl (by first | exact .inl rfl | exact .inr rfl) (by decide) (oe_mod (or_e (oe_pow (or_e (oe_add (or_e (oe_item (or_v (pv 0)) (or_e oe_int))) (or_e (oe_mul (or_e oe_int) (or_e (oe_item (or_v (pv 0)) (or_e oe_int))))))) (or_e oe_int))) (or_e (oe_add (or_e (oe_pow (or_e oe_int) (or_e oe_int))) (or_e oe_int)))))
  (oss_cons (os_set (i := 3) sc__law_grab.nd rfl (by first | exact .inl rfl | exact .inr rfl) (by decide) (oe_mod (or_e (oe_pow (or_e (oe_add (or_v (pv 3)) (or_e (oe_mul (or_e oe_int) (or_e (oe_item (or_v (pv 0)) (or_e oe_int))))))) (or_e oe_int))) (or_e (oe_add (or_e (oe_pow (or_e oe_int) (or_e oe_int))) (or_e oe_int)))))
  (oss_one (os_ret (oe_mod (or_e (oe_fdiv (or_v (pv 3)) (or_e oe_int))) (or_v (pv 1)))))))))
theorem sc_law : FnScope [PySem.Str.ofString "_law_script", PySem.Str.ofString "_law_k", PySem.Str.ofString "_law_sack_here", PySem.Str.ofString "_law_turn", PySem.Str.ofString "_law_some", PySem.Str.ofString "_law_value", PySem.Str.ofString "_law_kept", PySem.Str.ofString "_law_told_here", PySem.Str.ofString "_law_door"] [PySem.Str.ofString "_law_script"] (defScope (topS 28)) := ⟨rfl, rfl, rfl, by decide +kernel, rfl, by decide +kernel, by decide +kernel⟩
theorem ok_law {f : Addr} {fd : FuncData} (F : Fun K (PySem.Str.ofString "law") (PySem.Str.ofString "law") (topS 28) f fd) {f__law_sack : Addr} {fd__law_sack : FuncData} (G__law_sack : FnG P w K mg base (YK K) 1 f__law_sack fd__law_sack [PySem.Str.ofString "_law_script", PySem.Str.ofString "_law_k"] g__law_sack) (M__law_sack : mg (PySem.Str.ofString "_law_sack") = some (.ref f__law_sack)) (K__law_sack : PySem.W.keepIn K (.ref f__law_sack) = true) (B__law_sack : Binds K fd__law_sack [PySem.Str.ofString "_law_script", PySem.Str.ofString "_law_k"] []) {f__law_grab : Addr} {fd__law_grab : FuncData} (G__law_grab : FnG P w K mg base (YK K) 1 f__law_grab fd__law_grab [PySem.Str.ofString "_law_sack_here", PySem.Str.ofString "_law_many"] g__law_grab) (M__law_grab : mg (PySem.Str.ofString "_law_grab") = some (.ref f__law_grab)) (K__law_grab : PySem.W.keepIn K (.ref f__law_grab) = true) (B__law_grab : Binds K fd__law_grab [PySem.Str.ofString "_law_sack_here", PySem.Str.ofString "_law_many"] []) {f__law_told : Addr} {fd__law_told : FuncData} (G__law_told : FnG P w K mg base (YK K) 4 f__law_told fd__law_told [PySem.Str.ofString "_law_door", PySem.Str.ofString "_law_value"] g__law_told) (M__law_told : mg (PySem.Str.ofString "_law_told") = some (.ref f__law_told)) (K__law_told : PySem.W.keepIn K (.ref f__law_told) = true) (B__law_told : Binds K fd__law_told [PySem.Str.ofString "_law_door", PySem.Str.ofString "_law_value"] []) (Z_range : mg (PySem.Str.ofString "range") = none) (Z_max : mg (PySem.Str.ofString "max") = none) (Z_min : mg (PySem.Str.ofString "min") = none) (Z_len : mg (PySem.Str.ofString "len") = none) (Z_repr : mg (PySem.Str.ofString "repr") = none) : FnG P w K mg base (YK K) 5 f fd [PySem.Str.ofString "_law_script"] g_law := by
  refine fnG_of (N := [PySem.Str.ofString "_law_script", PySem.Str.ofString "_law_k", PySem.Str.ofString "_law_sack_here", PySem.Str.ofString "_law_turn", PySem.Str.ofString "_law_some", PySem.Str.ofString "_law_value", PySem.Str.ofString "_law_kept", PySem.Str.ofString "_law_told_here", PySem.Str.ofString "_law_door"]) (k := 4) F sc_law fun cdv A outer s H E hr => ?_
  have tk : L2N.Takes (cxOf (L2N.CX P w) P w K mg base [PySem.Str.ofString "_law_script", PySem.Str.ofString "_law_k", PySem.Str.ofString "_law_sack_here", PySem.Str.ofString "_law_turn", PySem.Str.ofString "_law_some", PySem.Str.ofString "_law_value", PySem.Str.ofString "_law_kept", PySem.Str.ofString "_law_told_here", PySem.Str.ofString "_law_door"] (PySem.Str.ofString "law") (defScope (topS 28)) f cdv A outer s H E) (fun cls d _ H => E cls d H) := L2N.takes_of rfl rfl rfl rfl
  exact (oss_cons (os_for (passes_of rfl) rfl (oi_range1 (oa_cons (or_e (oe_blt (call_max2 rfl) fr_II2 Z_max (by decide +kernel) (oa_cons (or_e oe_int) (oa_cons (or_e (oe_blt (call_min2 rfl) fr_II2 Z_min (by decide +kernel) (oa_cons (or_e oe_int) (oa_cons (or_e (oe_blt call_len fr_len Z_len PySem.boot_len (oa_cons (or_v (pv 0)) oa_nil))) oa_nil)))) oa_nil)))) oa_nil) Z_range) (og_name (pg_name (i := 1) sc_law.nd rfl (by first | exact .inl rfl | exact .inr rfl)) (by decide)) (oss_cons (os_set (i := 2) sc_law.nd rfl (by first | exact .inl rfl | exact .inr rfl) (by decide) (oe_call G__law_sack (hr.mono (by omega)) tk M__law_sack K__law_sack B__law_sack (oa_cons (or_v (pv 0)) (oa_cons (or_v (pv 1)) oa_nil))))
  (oss_cons (os_for (passes_of rfl) rfl (oi_range1 (oa_cons (or_e oe_int) oa_nil) Z_range) (og_name (pg_name (i := 3) sc_law.nd rfl (by first | exact .inl rfl | exact .inr rfl)) (by decide)) (oss_cons (os_set (i := 4) sc_law.nd rfl (by first | exact .inl rfl | exact .inr rfl) (by decide) (oe_lst (oa_cons (or_e oe_none) (oa_cons (or_e (oe_neg (or_e oe_int))) (oa_cons (or_e oe_int) (oa_cons (or_e oe_bool) (oa_cons (or_e oe_bool) (oa_cons (or_e oe_str) (oa_cons (or_e oe_str) (oa_cons (or_e (oe_lst (oa_cons (or_e oe_int) oa_nil))) (oa_cons (or_e (oe_tup (oa_cons (or_e oe_int) oa_nil))) (oa_cons (or_e oe_dict0) (oa_cons (or_e (oe_sub (or_e oe_int) (or_e (oe_pow (or_e oe_int) (or_e oe_int))))) (oa_cons (or_e (oe_pow (or_e oe_int) (or_e oe_int))) (oa_cons (or_e (oe_lst oa_nil)) (oa_cons (or_e (oe_tup oa_nil)) oa_nil))))))))))))))))
  (oss_cons (os_set (i := 4) sc_law.nd rfl (by first | exact .inl rfl | exact .inr rfl) (by decide) (oe_add (or_v (pv 4)) (or_e (oe_lst (oa_cons (or_e (oe_add (or_e oe_int) (or_e (oe_call G__law_grab (hr.mono (by omega)) tk M__law_grab K__law_grab B__law_grab (oa_cons (or_v (pv 2)) (oa_cons (or_e (oe_pow (or_e oe_int) (or_e oe_int))) oa_nil)))))) (oa_cons (or_e (oe_sub (or_e (oe_neg (or_e oe_int))) (or_e (oe_call G__law_grab (hr.mono (by omega)) tk M__law_grab K__law_grab B__law_grab (oa_cons (or_v (pv 2)) (oa_cons (or_e (oe_pow (or_e oe_int) (or_e oe_int))) oa_nil)))))) oa_nil))))))
  (oss_cons (os_set (i := 5) sc_law.nd rfl (by first | exact .inl rfl | exact .inr rfl) (by decide) (oe_item (or_v (pv 4)) (or_e (oe_call G__law_grab (hr.mono (by omega)) tk M__law_grab K__law_grab B__law_grab (oa_cons (or_v (pv 2)) (oa_cons (or_e oe_int) oa_nil))))))
  (oss_cons (os_set (i := 6) sc_law.nd rfl (by first | exact .inl rfl | exact .inr rfl) (by decide) (oe_blt (call_reprQ hr) fr_reprQ Z_repr (by decide +kernel) (oa_cons (or_v (pv 5)) oa_nil)))
  (oss_one (os_if (ot_w (ow_or (ot_ne hr (or_e (oe_comp (own := [(PySem.Str.ofString "_law_door", 8)]) rfl sc_law.nd (oi_range1 (oa_cons (or_e oe_int) oa_nil) Z_range) (blkOk_by (N := [PySem.Str.ofString "_law_script", PySem.Str.ofString "_law_k", PySem.Str.ofString "_law_sack_here", PySem.Str.ofString "_law_turn", PySem.Str.ofString "_law_some", PySem.Str.ofString "_law_value", PySem.Str.ofString "_law_kept", PySem.Str.ofString "_law_told_here", PySem.Str.ofString "_law_door"]) (sc := defScope (topS 28)) (by decide +kernel)) (fun s0 H0 C0 cl0 fp0 => (og_name (pg_name (i := 8) sc_law.nd rfl (by first | exact .inl rfl | exact .inr rfl)) (by decide))) (fun s0 H0 C0 cl0 fp0 => ots_nil) (fun s0 H0 C0 cl0 fp0 => (oe_call G__law_told (hr.mono (by omega)) takesN M__law_told K__law_told B__law_told (oa_cons (or_v (pv 8)) (oa_cons (or_v (pv 5)) oa_nil)))))) (or_e (oe_mul (or_e (oe_lst (oa_cons (or_e oe_str) oa_nil))) (or_e oe_int)))) (ow_or1 (ot_ne hr (or_e (oe_blt (call_reprQ hr) fr_reprQ Z_repr (by decide +kernel) (oa_cons (or_v (pv 5)) oa_nil))) (or_v (pv 6)))))) (oss_one (os_ret oe_bool)) oss_nil)))))))
  (oss_one (os_if (ot_ne hr (or_e (oe_call G__law_told (hr.mono (by omega)) tk M__law_told K__law_told B__law_told (oa_cons (or_e (oe_call G__law_grab (hr.mono (by omega)) tk M__law_grab K__law_grab B__law_grab (oa_cons (or_v (pv 2)) (oa_cons (or_e oe_int) oa_nil)))) (oa_cons (or_e (oe_call G__law_grab (hr.mono (by omega)) tk M__law_grab K__law_grab B__law_grab (oa_cons (or_v (pv 2)) (oa_cons (or_e oe_int) oa_nil)))) oa_nil)))) (or_e oe_str)) (oss_one (os_ret oe_bool)) oss_nil)))))
  (oss_cons (os_set (i := 7) sc_law.nd rfl (by first | exact .inl rfl | exact .inr rfl) (by decide) (oe_lst (oa_cons (or_e (oe_call G__law_told (hr.mono (by omega)) tk M__law_told K__law_told B__law_told (oa_cons (or_e oe_int) (oa_cons (or_e oe_int) oa_nil)))) (oa_cons (or_e (oe_call G__law_told (hr.mono (by omega)) tk M__law_told K__law_told B__law_told (oa_cons (or_e oe_int) (oa_cons (or_e oe_int) oa_nil)))) (oa_cons (or_e (oe_call G__law_told (hr.mono (by omega)) tk M__law_told K__law_told B__law_told (oa_cons (or_e oe_int) (oa_cons (or_e oe_int) oa_nil)))) (oa_cons (or_e (oe_call G__law_told (hr.mono (by omega)) tk M__law_told K__law_told B__law_told (oa_cons (or_e oe_int) (oa_cons (or_e oe_int) oa_nil)))) oa_nil))))))
  (oss_one (os_ret (oe_eq hr (or_v (pv 7)) (or_e (oe_add (or_e (oe_mul (or_e (oe_lst (oa_cons (or_e oe_str) oa_nil))) (or_e oe_int))) (or_e (oe_lst (oa_cons (or_e oe_str) oa_nil))))))))))
end
theorem all_mk {l : PySem.W.OpenLaw} {w : World} {K : PySem.W.Frag} {h : Heap} {mg : Str → Option Value} {fa : Addr} (X : K.In h) (G : h.Ns mainGlobals mg) (hfa : mg (PySem.Str.ofString "law") = some (.ref fa))
    {C_InvalidNumber : Addr}
    {C_ThreadError : Addr}
    {C_InvalidCommand : Addr}
    {C_InvalidComment : Addr}
    {C_InvalidDepths : Addr}
    {C_InvalidOrder : Addr}
    {C_InvalidText : Addr}
    {C_InvalidThread : Addr}
    {C_NotFolded : Addr}
    {C_NotPossible : Addr}
    {C_NothingToUndo : Addr}
    {C_TooMany : Addr}
    {f1 : Addr} {od1 an1 : Option Addr} {sl1 : Array (Option Value)} {oc1 kV1 dc1 pm1 cd1 ct1 : Value}
    {f2 : Addr} {od2 an2 : Option Addr} {sl2 : Array (Option Value)} {oc2 kV2 dc2 pm2 cd2 ct2 : Value}
    {f3 : Addr} {od3 an3 : Option Addr} {sl3 : Array (Option Value)} {oc3 kV3 dc3 pm3 cd3 ct3 : Value}
    {f4 : Addr} {od4 an4 : Option Addr} {sl4 : Array (Option Value)} {oc4 kV4 dc4 pm4 cd4 ct4 : Value}
    {f5 : Addr} {od5 an5 : Option Addr} {sl5 : Array (Option Value)} {oc5 kV5 dc5 pm5 cd5 ct5 : Value}
    {f6 : Addr} {od6 an6 : Option Addr} {sl6 : Array (Option Value)} {oc6 kV6 dc6 pm6 cd6 ct6 : Value}
    {f7 : Addr} {od7 an7 : Option Addr} {sl7 : Array (Option Value)} {oc7 kV7 dc7 pm7 cd7 ct7 : Value}
    {f8 : Addr} {od8 an8 : Option Addr} {sl8 : Array (Option Value)} {oc8 kV8 dc8 pm8 cd8 ct8 : Value}
    {f9 : Addr} {od9 an9 : Option Addr} {sl9 : Array (Option Value)} {oc9 kV9 dc9 pm9 cd9 ct9 : Value}
    {f10 : Addr} {od10 an10 : Option Addr} {sl10 : Array (Option Value)} {oc10 kV10 dc10 pm10 cd10 ct10 : Value}
    {f11 : Addr} {od11 an11 : Option Addr} {sl11 : Array (Option Value)} {oc11 kV11 dc11 pm11 cd11 ct11 : Value}
    {f12 : Addr} {od12 an12 : Option Addr} {sl12 : Array (Option Value)} {oc12 kV12 dc12 pm12 cd12 ct12 : Value}
    (aC_InvalidNumber : PySem.W.nsIn K mainGlobals (PySem.Str.ofString "InvalidNumber") = some (some (.ref C_InvalidNumber))) (xe_InvalidNumber : PySem.W.excIn K C_InvalidNumber [.type "ValueError", .type "Exception", .type "BaseException", .type "object"] "ValueError.__new__" = true) (kp_InvalidNumber : PySem.W.keepIn K (.ref C_InvalidNumber) = true) (be_InvalidNumber : PySem.W.subIn K (.ref C_InvalidNumber) (.type "BaseException") = some true) (ty_InvalidNumber : PySem.W.typeIn K (.ref C_InvalidNumber) = some (.type "type")) (hd_InvalidNumber : PySem.W.hasDictIn K C_InvalidNumber = true)
    (aC_ThreadError : PySem.W.nsIn K mainGlobals (PySem.Str.ofString "ThreadError") = some (some (.ref C_ThreadError))) (xe_ThreadError : PySem.W.excIn K C_ThreadError [.type "ValueError", .type "Exception", .type "BaseException", .type "object"] "ValueError.__new__" = true) (kp_ThreadError : PySem.W.keepIn K (.ref C_ThreadError) = true) (be_ThreadError : PySem.W.subIn K (.ref C_ThreadError) (.type "BaseException") = some true) (ty_ThreadError : PySem.W.typeIn K (.ref C_ThreadError) = some (.type "type")) (hd_ThreadError : PySem.W.hasDictIn K C_ThreadError = true)
    (aC_InvalidCommand : PySem.W.nsIn K mainGlobals (PySem.Str.ofString "InvalidCommand") = some (some (.ref C_InvalidCommand))) (ty_InvalidCommand : PySem.W.typeIn K (.ref C_InvalidCommand) = some (.type "type")) (hd_InvalidCommand : PySem.W.hasDictIn K C_InvalidCommand = true)
    (aC_InvalidComment : PySem.W.nsIn K mainGlobals (PySem.Str.ofString "InvalidComment") = some (some (.ref C_InvalidComment))) (ty_InvalidComment : PySem.W.typeIn K (.ref C_InvalidComment) = some (.type "type")) (hd_InvalidComment : PySem.W.hasDictIn K C_InvalidComment = true)
    (aC_InvalidDepths : PySem.W.nsIn K mainGlobals (PySem.Str.ofString "InvalidDepths") = some (some (.ref C_InvalidDepths))) (ty_InvalidDepths : PySem.W.typeIn K (.ref C_InvalidDepths) = some (.type "type")) (hd_InvalidDepths : PySem.W.hasDictIn K C_InvalidDepths = true)
    (aC_InvalidOrder : PySem.W.nsIn K mainGlobals (PySem.Str.ofString "InvalidOrder") = some (some (.ref C_InvalidOrder))) (ty_InvalidOrder : PySem.W.typeIn K (.ref C_InvalidOrder) = some (.type "type")) (hd_InvalidOrder : PySem.W.hasDictIn K C_InvalidOrder = true)
    (aC_InvalidText : PySem.W.nsIn K mainGlobals (PySem.Str.ofString "InvalidText") = some (some (.ref C_InvalidText))) (ty_InvalidText : PySem.W.typeIn K (.ref C_InvalidText) = some (.type "type")) (hd_InvalidText : PySem.W.hasDictIn K C_InvalidText = true)
    (aC_InvalidThread : PySem.W.nsIn K mainGlobals (PySem.Str.ofString "InvalidThread") = some (some (.ref C_InvalidThread))) (ty_InvalidThread : PySem.W.typeIn K (.ref C_InvalidThread) = some (.type "type")) (hd_InvalidThread : PySem.W.hasDictIn K C_InvalidThread = true)
    (aC_NotFolded : PySem.W.nsIn K mainGlobals (PySem.Str.ofString "NotFolded") = some (some (.ref C_NotFolded))) (ty_NotFolded : PySem.W.typeIn K (.ref C_NotFolded) = some (.type "type")) (hd_NotFolded : PySem.W.hasDictIn K C_NotFolded = true)
    (aC_NotPossible : PySem.W.nsIn K mainGlobals (PySem.Str.ofString "NotPossible") = some (some (.ref C_NotPossible))) (ty_NotPossible : PySem.W.typeIn K (.ref C_NotPossible) = some (.type "type")) (hd_NotPossible : PySem.W.hasDictIn K C_NotPossible = true)
    (aC_NothingToUndo : PySem.W.nsIn K mainGlobals (PySem.Str.ofString "NothingToUndo") = some (some (.ref C_NothingToUndo))) (ty_NothingToUndo : PySem.W.typeIn K (.ref C_NothingToUndo) = some (.type "type")) (hd_NothingToUndo : PySem.W.hasDictIn K C_NothingToUndo = true)
    (aC_TooMany : PySem.W.nsIn K mainGlobals (PySem.Str.ofString "TooMany") = some (some (.ref C_TooMany))) (ty_TooMany : PySem.W.typeIn K (.ref C_TooMany) = some (.type "type")) (hd_TooMany : PySem.W.hasDictIn K C_TooMany = true)
    (sb_InvalidNumber_ThreadError : PySem.W.subIn K (.ref C_InvalidNumber) (.ref C_ThreadError) = some true)
    (xg_InvalidNumber : PySem.W.findIn K (.ref C_InvalidNumber) "__getattribute__" = some (some (.builtin "BaseException.__getattribute__"))) (xk_InvalidNumber : PySem.W.findIn K (.ref C_InvalidNumber) "__getattr__" = some none) (xa_InvalidNumber : PySem.W.findIn K (.ref C_InvalidNumber) "__class__" = some (some (.builtin "object.__class__"))) (xn_InvalidNumber : PySem.W.specialIn K (.builtin "object.__class__") "__get__" = some (some (.builtin "getset_descriptor.__get__"))) (xt_InvalidNumber : PySem.W.takesIn K (.builtin "object.__class__") = some true) (xm_InvalidNumber : PySem.W.mroIn K C_InvalidNumber (.type "object") = some true)
    (sb_InvalidNumber_InvalidCommand : PySem.W.subIn K (.ref C_InvalidNumber) (.ref C_InvalidCommand) = some false)
    (ne_InvalidNumber_InvalidCommand : (Value.ref C_InvalidNumber == Value.ref C_InvalidCommand) = false)
    (sb_InvalidNumber_InvalidComment : PySem.W.subIn K (.ref C_InvalidNumber) (.ref C_InvalidComment) = some false)
    (ne_InvalidNumber_InvalidComment : (Value.ref C_InvalidNumber == Value.ref C_InvalidComment) = false)
    (sb_InvalidNumber_InvalidDepths : PySem.W.subIn K (.ref C_InvalidNumber) (.ref C_InvalidDepths) = some false)
    (ne_InvalidNumber_InvalidDepths : (Value.ref C_InvalidNumber == Value.ref C_InvalidDepths) = false)
    (sb_InvalidNumber_InvalidNumber : PySem.W.subIn K (.ref C_InvalidNumber) (.ref C_InvalidNumber) = some true)
    (sb_InvalidNumber_InvalidOrder : PySem.W.subIn K (.ref C_InvalidNumber) (.ref C_InvalidOrder) = some false)
    (ne_InvalidNumber_InvalidOrder : (Value.ref C_InvalidNumber == Value.ref C_InvalidOrder) = false)
    (sb_InvalidNumber_InvalidText : PySem.W.subIn K (.ref C_InvalidNumber) (.ref C_InvalidText) = some false)
    (ne_InvalidNumber_InvalidText : (Value.ref C_InvalidNumber == Value.ref C_InvalidText) = false)
    (sb_InvalidNumber_InvalidThread : PySem.W.subIn K (.ref C_InvalidNumber) (.ref C_InvalidThread) = some false)
    (ne_InvalidNumber_InvalidThread : (Value.ref C_InvalidNumber == Value.ref C_InvalidThread) = false)
    (sb_InvalidNumber_NotFolded : PySem.W.subIn K (.ref C_InvalidNumber) (.ref C_NotFolded) = some false)
    (ne_InvalidNumber_NotFolded : (Value.ref C_InvalidNumber == Value.ref C_NotFolded) = false)
    (sb_InvalidNumber_NotPossible : PySem.W.subIn K (.ref C_InvalidNumber) (.ref C_NotPossible) = some false)
    (ne_InvalidNumber_NotPossible : (Value.ref C_InvalidNumber == Value.ref C_NotPossible) = false)
    (sb_InvalidNumber_NothingToUndo : PySem.W.subIn K (.ref C_InvalidNumber) (.ref C_NothingToUndo) = some false)
    (ne_InvalidNumber_NothingToUndo : (Value.ref C_InvalidNumber == Value.ref C_NothingToUndo) = false)
    (sb_InvalidNumber_TooMany : PySem.W.subIn K (.ref C_InvalidNumber) (.ref C_TooMany) = some false)
    (ne_InvalidNumber_TooMany : (Value.ref C_InvalidNumber == Value.ref C_TooMany) = false)
    (ki_InvalidNumber_ValueError : PySem.W.subIn K (.ref C_InvalidNumber) (.type "ValueError") = some true)
    (a1 : PySem.W.nsIn K mainGlobals (PySem.Str.ofString "_law_sack") = some (some (.ref f1))) (l1 : K.lookup f1 = some ⟨oc1, od1, .func (PySem.W.fnOf (PySem.Str.ofString "_law_sack") (PySem.Str.ofString "_law_sack") (defArgs (topS 24)) (defBody (topS 24)) (defScope (topS 24)) .none kV1 dc1 pm1 an1 cd1 ct1), sl1⟩) (c1 : PySem.W.codeIn K cd1 (PySem.Str.ofString "_law_sack") = true) (k1 : PySem.W.keepIn K (.ref f1) = true)
    (a2 : PySem.W.nsIn K mainGlobals (PySem.Str.ofString "is_integer") = some (some (.ref f2))) (l2 : K.lookup f2 = some ⟨oc2, od2, .func (PySem.W.fnOf (PySem.Str.ofString "is_integer") (PySem.Str.ofString "is_integer") (defArgs (topS 14)) (defBody (topS 14)) (defScope (topS 14)) .none kV2 dc2 pm2 an2 cd2 ct2), sl2⟩) (c2 : PySem.W.codeIn K cd2 (PySem.Str.ofString "is_integer") = true) (k2 : PySem.W.keepIn K (.ref f2) = true)
    (a3 : PySem.W.nsIn K mainGlobals (PySem.Str.ofString "require_number") = some (some (.ref f3))) (l3 : K.lookup f3 = some ⟨oc3, od3, .func (PySem.W.fnOf (PySem.Str.ofString "require_number") (PySem.Str.ofString "require_number") (defArgs (topS 20)) (defBody (topS 20)) (defScope (topS 20)) .none kV3 dc3 pm3 an3 cd3 ct3), sl3⟩) (c3 : PySem.W.codeIn K cd3 (PySem.Str.ofString "require_number") = true) (k3 : PySem.W.keepIn K (.ref f3) = true)
    (a4 : PySem.W.nsIn K mainGlobals (PySem.Str.ofString "next_choices") = some (some (.ref f4))) (l4 : K.lookup f4 = some ⟨oc4, od4, .func (PySem.W.fnOf (PySem.Str.ofString "next_choices") (PySem.Str.ofString "next_choices") (defArgs (topS 17)) (defBody (topS 17)) (defScope (topS 17)) .none kV4 dc4 pm4 an4 cd4 ct4), sl4⟩) (c4 : PySem.W.codeIn K cd4 (PySem.Str.ofString "next_choices") = true) (k4 : PySem.W.keepIn K (.ref f4) = true)
    (a5 : PySem.W.nsIn K mainGlobals (PySem.Str.ofString "needs_with") = some (some (.ref f5))) (l5 : K.lookup f5 = some ⟨oc5, od5, .func (PySem.W.fnOf (PySem.Str.ofString "needs_with") (PySem.Str.ofString "needs_with") (defArgs (topS 18)) (defBody (topS 18)) (defScope (topS 18)) .none kV5 dc5 pm5 an5 cd5 ct5), sl5⟩) (c5 : PySem.W.codeIn K cd5 (PySem.Str.ofString "needs_with") = true) (k5 : PySem.W.keepIn K (.ref f5) = true)
    (a6 : PySem.W.nsIn K mainGlobals (PySem.Str.ofString "needs_in") = some (some (.ref f6))) (l6 : K.lookup f6 = some ⟨oc6, od6, .func (PySem.W.fnOf (PySem.Str.ofString "needs_in") (PySem.Str.ofString "needs_in") (defArgs (topS 19)) (defBody (topS 19)) (defScope (topS 19)) .none kV6 dc6 pm6 an6 cd6 ct6), sl6⟩) (c6 : PySem.W.codeIn K cd6 (PySem.Str.ofString "needs_in") = true) (k6 : PySem.W.keepIn K (.ref f6) = true)
    (a7 : PySem.W.nsIn K mainGlobals (PySem.Str.ofString "count_orders") = some (some (.ref f7))) (l7 : K.lookup f7 = some ⟨oc7, od7, .func (PySem.W.fnOf (PySem.Str.ofString "count_orders") (PySem.Str.ofString "count_orders") (defArgs (topS 21)) (defBody (topS 21)) (defScope (topS 21)) .none kV7 dc7 pm7 an7 cd7 ct7), sl7⟩) (c7 : PySem.W.codeIn K cd7 (PySem.Str.ofString "count_orders") = true) (k7 : PySem.W.keepIn K (.ref f7) = true)
    (a8 : PySem.W.nsIn K mainGlobals (PySem.Str.ofString "_law_kind") = some (some (.ref f8))) (l8 : K.lookup f8 = some ⟨oc8, od8, .func (PySem.W.fnOf (PySem.Str.ofString "_law_kind") (PySem.Str.ofString "_law_kind") (defArgs (topS 26)) (defBody (topS 26)) (defScope (topS 26)) .none kV8 dc8 pm8 an8 cd8 ct8), sl8⟩) (c8 : PySem.W.codeIn K cd8 (PySem.Str.ofString "_law_kind") = true) (k8 : PySem.W.keepIn K (.ref f8) = true)
    (a9 : PySem.W.nsIn K mainGlobals (PySem.Str.ofString "count_needs") = some (some (.ref f9))) (l9 : K.lookup f9 = some ⟨oc9, od9, .func (PySem.W.fnOf (PySem.Str.ofString "count_needs") (PySem.Str.ofString "count_needs") (defArgs (topS 22)) (defBody (topS 22)) (defScope (topS 22)) .none kV9 dc9 pm9 an9 cd9 ct9), sl9⟩) (c9 : PySem.W.codeIn K cd9 (PySem.Str.ofString "count_needs") = true) (k9 : PySem.W.keepIn K (.ref f9) = true)
    (a10 : PySem.W.nsIn K mainGlobals (PySem.Str.ofString "_law_told") = some (some (.ref f10))) (l10 : K.lookup f10 = some ⟨oc10, od10, .func (PySem.W.fnOf (PySem.Str.ofString "_law_told") (PySem.Str.ofString "_law_told") (defArgs (topS 27)) (defBody (topS 27)) (defScope (topS 27)) .none kV10 dc10 pm10 an10 cd10 ct10), sl10⟩) (c10 : PySem.W.codeIn K cd10 (PySem.Str.ofString "_law_told") = true) (k10 : PySem.W.keepIn K (.ref f10) = true)
    (a11 : PySem.W.nsIn K mainGlobals (PySem.Str.ofString "_law_grab") = some (some (.ref f11))) (l11 : K.lookup f11 = some ⟨oc11, od11, .func (PySem.W.fnOf (PySem.Str.ofString "_law_grab") (PySem.Str.ofString "_law_grab") (defArgs (topS 25)) (defBody (topS 25)) (defScope (topS 25)) .none kV11 dc11 pm11 an11 cd11 ct11), sl11⟩) (c11 : PySem.W.codeIn K cd11 (PySem.Str.ofString "_law_grab") = true) (k11 : PySem.W.keepIn K (.ref f11) = true)
    (a12 : PySem.W.nsIn K mainGlobals (PySem.Str.ofString "law") = some (some (.ref f12))) (l12 : K.lookup f12 = some ⟨oc12, od12, .func (PySem.W.fnOf (PySem.Str.ofString "law") (PySem.Str.ofString "law") (defArgs (topS 28)) (defBody (topS 28)) (defScope (topS 28)) .none kV12 dc12 pm12 an12 cd12 ct12), sl12⟩) (c12 : PySem.W.codeIn K cd12 (PySem.Str.ofString "law") = true) (k12 : PySem.W.keepIn K (.ref f12) = true)
    (z1 : PySem.W.nsIn K mainGlobals (PySem.Str.ofString "len") = some none)
    (z2 : PySem.W.nsIn K mainGlobals (PySem.Str.ofString "max") = some none)
    (z3 : PySem.W.nsIn K mainGlobals (PySem.Str.ofString "abs") = some none)
    (z4 : PySem.W.nsIn K mainGlobals (PySem.Str.ofString "isinstance") = some none)
    (z5 : PySem.W.nsIn K mainGlobals (PySem.Str.ofString "int") = some none)
    (z6 : PySem.W.nsIn K mainGlobals (PySem.Str.ofString "bool") = some none)
    (z7 : PySem.W.nsIn K mainGlobals (PySem.Str.ofString "zip") = some none)
    (z8 : PySem.W.nsIn K mainGlobals (PySem.Str.ofString "enumerate") = some none)
    (z9 : PySem.W.nsIn K mainGlobals (PySem.Str.ofString "range") = some none)
    (z10 : PySem.W.nsIn K mainGlobals (PySem.Str.ofString "sum") = some none)
    (z11 : PySem.W.nsIn K mainGlobals (PySem.Str.ofString "ValueError") = some none)
    (z12 : PySem.W.nsIn K mainGlobals (PySem.Str.ofString "min") = some none)
    (z13 : PySem.W.nsIn K mainGlobals (PySem.Str.ofString "repr") = some none)
    {t1 : Tok} (w1 : PySem.W.nsIn K mainGlobals (PySem.Str.ofString "MOST_COMMENTS") = some (some (.int 40 t1))) :
    ∃ fd : FuncData, (∀ (s : Shared) (u : Value), BindsTo s fd ⟨[u], []⟩ [(PySem.Str.ofString "_law_script", u)]) ∧ ∀ base : Heap, K.In base → base.Ns mainGlobals mg → FnG l.prog w K mg base (YK K) 5 fa fd [PySem.Str.ofString "_law_script"] g_law := by
  have e := hfa.symm.trans (PySem.W.mg_of X G a12)
  cases e
  have F1 := fun_mk (st := (topS 24)) l1 c1 k1
  have F2 := fun_mk (st := (topS 14)) l2 c2 k2
  have F3 := fun_mk (st := (topS 20)) l3 c3 k3
  have F4 := fun_mk (st := (topS 17)) l4 c4 k4
  have F5 := fun_mk (st := (topS 18)) l5 c5 k5
  have F6 := fun_mk (st := (topS 19)) l6 c6 k6
  have F7 := fun_mk (st := (topS 21)) l7 c7 k7
  have F8 := fun_mk (st := (topS 26)) l8 c8 k8
  have F9 := fun_mk (st := (topS 22)) l9 c9 k9
  have F10 := fun_mk (st := (topS 27)) l10 c10 k10
  have F11 := fun_mk (st := (topS 25)) l11 c11 k11
  have F12 := fun_mk (st := (topS 28)) l12 c12 k12
  have b1 := F1.binds (ps := [PySem.Str.ofString "_law_script", PySem.Str.ofString "_law_k"]) fun _ _ _ _ _ _ us hl => match us, hl with | [_, _], _ => rfl
  have b2 := F2.binds (ps := [PySem.Str.ofString "value", PySem.Str.ofString "low", PySem.Str.ofString "high"]) fun _ _ _ _ _ _ us hl => match us, hl with | [_, _, _], _ => rfl
  have b3 := F3.binds (ps := [PySem.Str.ofString "comments"]) fun _ _ _ _ _ _ us hl => match us, hl with | [_], _ => rfl
  have b4 := F4.binds (ps := [PySem.Str.ofString "choices"]) fun _ _ _ _ _ _ us hl => match us, hl with | [_], _ => rfl
  have b5 := F5.binds (ps := [PySem.Str.ofString "known", PySem.Str.ofString "choices"]) fun _ _ _ _ _ _ us hl => match us, hl with | [_, _], _ => rfl
  have b6 := F6.binds (ps := [PySem.Str.ofString "comments"]) fun _ _ _ _ _ _ us hl => match us, hl with | [_], _ => rfl
  have b7 := F7.binds (ps := [PySem.Str.ofString "comments"]) fun _ _ _ _ _ _ us hl => match us, hl with | [_], _ => rfl
  have b8 := F8.binds (ps := [PySem.Str.ofString "_law_e"]) fun _ _ _ _ _ _ us hl => match us, hl with | [_], _ => rfl
  have b9 := F9.binds (ps := [PySem.Str.ofString "comments"]) fun _ _ _ _ _ _ us hl => match us, hl with | [_], _ => rfl
  have b10 := F10.binds (ps := [PySem.Str.ofString "_law_door", PySem.Str.ofString "_law_value"]) fun _ _ _ _ _ _ us hl => match us, hl with | [_, _], _ => rfl
  have b11 := F11.binds (ps := [PySem.Str.ofString "_law_sack_here", PySem.Str.ofString "_law_many"]) fun _ _ _ _ _ _ us hl => match us, hl with | [_, _], _ => rfl
  have q7_false : KwB K _ [PySem.Str.ofString "comments"] [PySem.Str.ofString "comments"] false := ⟨fun s us _ hl => match us, hl with | [_], _ => .of_eq (fd := PySem.W.fnOf (PySem.Str.ofString "count_orders") (PySem.Str.ofString "count_orders") (defArgs (topS 21)) (defBody (topS 21)) (defScope (topS 21)) .none kV7 dc7 pm7 an7 cd7 ct7) rfl⟩
  have q9_false : KwB K _ [PySem.Str.ofString "comments"] [PySem.Str.ofString "comments"] false := ⟨fun s us _ hl => match us, hl with | [_], _ => .of_eq (fd := PySem.W.fnOf (PySem.Str.ofString "count_needs") (PySem.Str.ofString "count_needs") (defArgs (topS 22)) (defBody (topS 22)) (defScope (topS 22)) .none kV9 dc9 pm9 an9 cd9 ct9) rfl⟩
  refine ⟨PySem.W.fnOf (PySem.Str.ofString "law") (PySem.Str.ofString "law") (defArgs (topS 28)) (defBody (topS 28)) (defScope (topS 28)) .none kV12 dc12 pm12 an12 cd12 ct12, fun s v => .of_eq rfl, fun base _ _ => ?_⟩
  have G1 : FnG l.prog w K mg base (YK K) 1 f1 _ [PySem.Str.ofString "_law_script", PySem.Str.ofString "_law_k"] g__law_sack := ok__law_sack F1 (PySem.W.mg_none_of X G z1) (PySem.W.mg_none_of X G z2) (PySem.W.mg_none_of X G z3)
  have G2 : FnG l.prog w K mg base (YK K) 1 f2 _ [PySem.Str.ofString "value", PySem.Str.ofString "low", PySem.Str.ofString "high"] g_is_integer := ok_is_integer F2 (PySem.W.mg_none_of X G z4) (PySem.W.mg_none_of X G z5) (PySem.W.mg_none_of X G z6)
  have G3 : FnG l.prog w K mg base (YK K) 2 f3 _ [PySem.Str.ofString "comments"] g_require_number := ok_require_number F3 G2 (PySem.W.mg_of X G a2) k2 b2 (PySem.W.mg_of X G w1) aC_InvalidNumber ⟨xe_InvalidNumber, kp_InvalidNumber, be_InvalidNumber, ty_InvalidNumber⟩ (PySem.W.mg_of X G aC_InvalidNumber)
  have G4 : FnG l.prog w K mg base (YK K) 1 f4 _ [PySem.Str.ofString "choices"] g_next_choices := ok_next_choices F4 (PySem.W.mg_none_of X G z7)
  have G5 : FnG l.prog w K mg base (YK K) 1 f5 _ [PySem.Str.ofString "known", PySem.Str.ofString "choices"] g_needs_with := ok_needs_with F5 (PySem.W.mg_none_of X G z1) (PySem.W.mg_none_of X G z8) (PySem.W.mg_none_of X G z2)
  have G6 : FnG l.prog w K mg base (YK K) 2 f6 _ [PySem.Str.ofString "comments"] g_needs_in := ok_needs_in F6 G5 (PySem.W.mg_of X G a5) k5 b5 G4 (PySem.W.mg_of X G a4) k4 b4 (PySem.W.mg_none_of X G z9)
  have G7 : FnG l.prog w K mg base (YK K) 3 f7 _ [PySem.Str.ofString "comments"] g_count_orders := ok_count_orders F7 G3 (PySem.W.mg_of X G a3) k3 b3 G6 (PySem.W.mg_of X G a6) k6 b6 (PySem.W.mg_none_of X G z10)
  have X8_InvalidNumber : FnX l.prog w K mg base 1 C_InvalidNumber f8 _ (PySem.Str.ofString "_law_e") (.str (PySem.Str.ofString "number")) := ok__law_kind (q := isq [3, 10, 12]) rfl ⟨xg_InvalidNumber, xk_InvalidNumber, be_InvalidNumber, hd_InvalidNumber, xa_InvalidNumber, xn_InvalidNumber, xt_InvalidNumber, xm_InvalidNumber⟩ vl__law_kind_InvalidNumber F8 (PySem.W.mg_of X G aC_InvalidCommand) (kit_own hd_InvalidCommand ty_InvalidCommand sb_InvalidNumber_InvalidCommand (.inr ne_InvalidNumber_InvalidCommand)) (PySem.W.mg_of X G aC_InvalidComment) (kit_own hd_InvalidComment ty_InvalidComment sb_InvalidNumber_InvalidComment (.inr ne_InvalidNumber_InvalidComment)) (PySem.W.mg_of X G aC_InvalidDepths) (kit_own hd_InvalidDepths ty_InvalidDepths sb_InvalidNumber_InvalidDepths (.inr ne_InvalidNumber_InvalidDepths)) (PySem.W.mg_of X G aC_InvalidNumber) (kit_own hd_InvalidNumber ty_InvalidNumber sb_InvalidNumber_InvalidNumber (.inl rfl)) (PySem.W.mg_of X G aC_InvalidOrder) (kit_own hd_InvalidOrder ty_InvalidOrder sb_InvalidNumber_InvalidOrder (.inr ne_InvalidNumber_InvalidOrder)) (PySem.W.mg_of X G aC_InvalidText) (kit_own hd_InvalidText ty_InvalidText sb_InvalidNumber_InvalidText (.inr ne_InvalidNumber_InvalidText)) (PySem.W.mg_of X G aC_InvalidThread) (kit_own hd_InvalidThread ty_InvalidThread sb_InvalidNumber_InvalidThread (.inr ne_InvalidNumber_InvalidThread)) (PySem.W.mg_of X G aC_NotFolded) (kit_own hd_NotFolded ty_NotFolded sb_InvalidNumber_NotFolded (.inr ne_InvalidNumber_NotFolded)) (PySem.W.mg_of X G aC_NotPossible) (kit_own hd_NotPossible ty_NotPossible sb_InvalidNumber_NotPossible (.inr ne_InvalidNumber_NotPossible)) (PySem.W.mg_of X G aC_NothingToUndo) (kit_own hd_NothingToUndo ty_NothingToUndo sb_InvalidNumber_NothingToUndo (.inr ne_InvalidNumber_NothingToUndo)) (PySem.W.mg_of X G aC_TooMany) (kit_own hd_TooMany ty_TooMany sb_InvalidNumber_TooMany (.inr ne_InvalidNumber_TooMany)) (kit_ty ki_InvalidNumber_ValueError) (PySem.W.mg_none_of X G z4) (PySem.W.mg_none_of X G z1) (PySem.W.mg_none_of X G z11)
  have G9 : FnG l.prog w K mg base (YK K) 3 f9 _ [PySem.Str.ofString "comments"] g_count_needs := ok_count_needs F9 G3 (PySem.W.mg_of X G a3) k3 b3 G6 (PySem.W.mg_of X G a6) k6 b6
  have G10 : FnG l.prog w K mg base (YK K) 4 f10 _ [PySem.Str.ofString "_law_door", PySem.Str.ofString "_law_value"] g__law_told := ok__law_told F10 G7 (PySem.W.mg_of X G a7) k7 b7 G9 (PySem.W.mg_of X G a9) k9 b9 q7_false q9_false aC_ThreadError ⟨xe_ThreadError, kp_ThreadError, be_ThreadError, ty_ThreadError⟩ (PySem.W.mg_of X G aC_ThreadError) aC_InvalidNumber ⟨xe_InvalidNumber, kp_InvalidNumber, be_InvalidNumber, ty_InvalidNumber⟩ (PySem.W.mg_of X G aC_InvalidNumber) (PySem.W.exm_ref be_ThreadError hd_ThreadError ty_ThreadError sb_InvalidNumber_ThreadError) ⟨xg_InvalidNumber, xk_InvalidNumber, be_InvalidNumber, hd_InvalidNumber, xa_InvalidNumber, xn_InvalidNumber, xt_InvalidNumber, xm_InvalidNumber⟩ (kit_ty ki_InvalidNumber_ValueError) (PySem.W.mg_of X G a8) k8 b8 X8_InvalidNumber
  have G11 : FnG l.prog w K mg base (YK K) 1 f11 _ [PySem.Str.ofString "_law_sack_here", PySem.Str.ofString "_law_many"] g__law_grab := ok__law_grab F11
  exact ok_law F12 G1 (PySem.W.mg_of X G a1) k1 b1 G11 (PySem.W.mg_of X G a11) k11 b11 G10 (PySem.W.mg_of X G a10) k10 b10 (PySem.W.mg_none_of X G z9) (PySem.W.mg_none_of X G z2) (PySem.W.mg_none_of X G z12) (PySem.W.mg_none_of X G z1) (PySem.W.mg_none_of X G z13)

end K41
namespace K41
open PySem FT
/-! ### the table, by numbers alone -/
def spot (a b : Nat) : Nat := a + max 1 (b - 1)
def add1 (acc : List Int) (s : Nat) (x : Int) : List Int := acc.set s (acc.getD s 0 + x)
def in1 (w o : Int) (a : Nat) : List Int → Nat → List Int → List Int
  | [], _, acc => acc
  | t :: B, b, acc => in1 w o a B (b + 1) (add1 acc (spot a b) (w * o * t))
def in2 (w : Int) (B : List Int) : List Int → Nat → List Int → List Int
  | [], _, acc => acc
  | o :: A, a, acc => in2 w B A (a + 1) (in1 w o a B 0 acc)
def in3 (kn : List (List Int)) : List Int → Nat → List Int → List Int
  | [], _, acc => acc
  | w :: C, s, acc => in3 kn C (s + 1) (in2 w (kn.getD (kn.length - 1 - s) []) (kn.getD s []) 0 acc)
def nxt (kn : List (List Int)) (ch : List Int) : List Int := in3 kn ch 0 (List.replicate (kn.length + 1) 0)
def nch (ch : List Int) : List Int := ((0 :: ch).zip (ch ++ [0])).map fun p => p.1 + p.2
def tb : Nat → List (List Int) × List Int
  | 0 => ([[1]], [1])
  | n + 1 => ((tb n).1 ++ [nxt (tb n).1 (tb n).2], nch (tb n).2)
def fac : Nat → Int
  | 0 => 1
  | n + 1 => ((n : Int) + 1) * fac n
def nn (L : List Int) : Prop := ∀ x ∈ L, 0 ≤ x
theorem nn_getD {L : List Int} (h : nn L) (i : Nat) : 0 ≤ L.getD i 0 := by
  rw [List.getD_eq_getElem?_getD]
  cases q : L[i]? with
  | none => exact Int.le_refl 0
  | some x => exact h x (List.mem_of_getElem? q)
theorem set_sum : ∀ (acc : List Int) (s : Nat) (y : Int), s < acc.length → (acc.set s y).sum = acc.sum + y - acc.getD s 0
  | [], _, _, h => absurd h (Nat.not_lt_zero _)
  | a :: acc, 0, y, _ => by simp; omega
  | a :: acc, s + 1, y, h => by
    have := set_sum acc s y (Nat.lt_of_succ_lt_succ h)
    simp only [List.set_cons_succ, List.sum_cons, List.getD_cons_succ] at this ⊢
    omega
theorem add1_len {acc : List Int} {s : Nat} {x : Int} : (add1 acc s x).length = acc.length := by rw [add1, List.length_set]
theorem add1_sum {acc : List Int} {s : Nat} {x : Int} (h : s < acc.length) : (add1 acc s x).sum = acc.sum + x := by
  rw [add1, set_sum _ _ _ h]; omega
theorem add1_nn {acc : List Int} {s : Nat} {x : Int} (h : nn acc) (hx : 0 ≤ x) : nn (add1 acc s x) := by
  intro y hy
  rcases List.mem_or_eq_of_mem_set hy with h1 | h1
  · exact h y h1
  · have := nn_getD h s
    omega
theorem in1_ok {w o : Int} {a : Nat} : ∀ (B : List Int) (b : Nat) (acc : List Int), (∀ j, j < B.length → spot a (b + j) < acc.length) → (in1 w o a B b acc).length = acc.length ∧ (in1 w o a B b acc).sum = acc.sum + w * o * B.sum
  | [], _, acc, _ => ⟨rfl, by simp [in1]⟩
  | t :: B, b, acc, h => by
    have h0 := h 0 (by simp)
    rw [Nat.add_zero] at h0
    obtain ⟨h1, h2⟩ := in1_ok B (b + 1) (add1 acc (spot a b) (w * o * t)) (fun j hj => by
      rw [add1_len, show b + 1 + j = b + (j + 1) by omega]
      exact h (j + 1) (by simpa using hj))
    rw [in1]
    refine ⟨h1.trans add1_len, ?_⟩
    rw [h2, add1_sum h0, List.sum_cons]
    grind
theorem in1_nn {w o : Int} {a : Nat} (hw : 0 ≤ w) (ho : 0 ≤ o) : ∀ (B : List Int) (b : Nat) (acc : List Int), nn B → nn acc → nn (in1 w o a B b acc)
  | [], _, acc, _, h => h
  | t :: B, b, acc, hB, h => in1_nn hw ho B (b + 1) _ (fun x hx => hB x (List.mem_cons_of_mem _ hx)) (add1_nn h (Int.mul_nonneg (Int.mul_nonneg hw ho) (hB t List.mem_cons_self)))
theorem in2_ok {w : Int} {B : List Int} : ∀ (A : List Int) (a : Nat) (acc : List Int), (∀ i j, i < A.length → j < B.length → spot (a + i) j < acc.length) → (in2 w B A a acc).length = acc.length ∧ (in2 w B A a acc).sum = acc.sum + w * A.sum * B.sum
  | [], _, acc, _ => ⟨rfl, by simp [in2]⟩
  | o :: A, a, acc, h => by
    obtain ⟨g1, g2⟩ := in1_ok (w := w) (o := o) (a := a) B 0 acc (fun j hj => by rw [Nat.zero_add]; exact h 0 j (by simp) hj)
    obtain ⟨h1, h2⟩ := in2_ok (w := w) (B := B) A (a + 1) (in1 w o a B 0 acc) (fun i j hi hj => by
      rw [g1, show a + 1 + i = a + (i + 1) by omega]
      exact h (i + 1) j (by simpa using hi) hj)
    rw [in2]
    refine ⟨h1.trans g1, ?_⟩
    rw [h2, g2, List.sum_cons]
    grind
theorem in2_nn {w : Int} {B : List Int} (hw : 0 ≤ w) (hB : nn B) : ∀ (A : List Int) (a : Nat) (acc : List Int), nn A → nn acc → nn (in2 w B A a acc)
  | [], _, acc, _, h => h
  | o :: A, a, acc, hA, h => in2_nn hw hB A (a + 1) _ (fun x hx => hA x (List.mem_cons_of_mem _ hx)) (in1_nn hw (hA o List.mem_cons_self) B 0 acc hB h)
/-- the rows of a table and the ways to choose -/
structure Tb (n : Nat) (kn : List (List Int)) (ch : List Int) : Prop where
  lk : kn.length = n + 1
  lr : ∀ s, s ≤ n → (kn.getD s []).length = s + 1
  sr : ∀ s, s ≤ n → (kn.getD s []).sum = fac s
  nr : ∀ s, s ≤ n → nn (kn.getD s [])
  lc : ch.length = n + 1
  nc : nn ch
  cf : ∀ i, i ≤ n → ch.getD i 0 * fac i * fac (n - i) = fac n
theorem in3_ok {n : Nat} {kn : List (List Int)} (lk : kn.length = n + 1) (lr : ∀ s, s ≤ n → (kn.getD s []).length = s + 1) (sr : ∀ s, s ≤ n → (kn.getD s []).sum = fac s) : ∀ (C : List Int) (s : Nat) (acc : List Int), s + C.length = n + 1 → acc.length = n + 2 →
    (∀ i, i < C.length → C.getD i 0 * fac (s + i) * fac (n - (s + i)) = fac n) → (in3 kn C s acc).length = n + 2 ∧ (in3 kn C s acc).sum = acc.sum + C.length * fac n
  | [], _, acc, _, hl, _ => ⟨hl, by simp [in3]⟩
  | w :: C, s, acc, hs, hl, hc => by
    rw [List.length_cons] at hs
    have e : kn.length - 1 - s = n - s := by omega
    obtain ⟨g1, g2⟩ := in2_ok (w := w) (B := kn.getD (kn.length - 1 - s) []) (kn.getD s []) 0 acc (fun i j hi hj => by
      rw [lr s (by omega)] at hi
      rw [e, lr (n - s) (by omega)] at hj
      rw [hl]
      unfold spot
      omega)
    obtain ⟨h1, h2⟩ := in3_ok lk lr sr C (s + 1) (in2 w (kn.getD (kn.length - 1 - s) []) (kn.getD s []) 0 acc) (by omega) (by rw [g1, hl]) (fun i hi => by
      have := hc (i + 1) (by simpa using hi)
      rw [List.getD_cons_succ, show s + (i + 1) = s + 1 + i by omega] at this
      exact this)
    rw [in3]
    refine ⟨h1, ?_⟩
    rw [h2, g2, e, sr s (by omega), sr (n - s) (by omega), List.length_cons]
    have := hc 0 (by simp)
    rw [List.getD_cons_zero, Nat.add_zero] at this
    push_cast
    grind
theorem in3_nn {n : Nat} {kn : List (List Int)} (lk : kn.length = n + 1) (nr : ∀ s, s ≤ n → nn (kn.getD s [])) : ∀ (C : List Int) (s : Nat) (acc : List Int), s + C.length = n + 1 → nn C → nn acc → nn (in3 kn C s acc)
  | [], _, acc, _, _, h => h
  | w :: C, s, acc, hs, hC, h => by
    rw [List.length_cons] at hs
    exact in3_nn lk nr C (s + 1) _ (by omega) (fun x hx => hC x (List.mem_cons_of_mem _ hx)) (in2_nn (hC w List.mem_cons_self) (nr _ (by omega)) _ _ _ (nr s (by omega)) h)
theorem zip_getD : ∀ (A B : List Int) (i : Nat), A.length = B.length → ((A.zip B).map fun p => p.1 + p.2).getD i 0 = A.getD i 0 + B.getD i 0
  | [], [], i, _ => by simp
  | a :: A, b :: B, 0, _ => by simp
  | a :: A, b :: B, i + 1, h => by
    simp only [List.zip_cons_cons, List.map_cons, List.getD_cons_succ]
    exact zip_getD A B i (by simpa using h)
theorem nch_len {ch : List Int} : (nch ch).length = ch.length + 1 := by simp [nch]
theorem getD_app1 : ∀ (L : List Int) (i : Nat), (L ++ [0]).getD i 0 = L.getD i 0
  | [], 0 => rfl
  | [], i + 1 => by simp
  | a :: L, 0 => rfl
  | a :: L, i + 1 => by
    simp only [List.cons_append, List.getD_cons_succ]
    exact getD_app1 L i
theorem nch_get {ch : List Int} (i : Nat) : (nch ch).getD i 0 = (0 :: ch).getD i 0 + ch.getD i 0 := by
  rw [nch, zip_getD _ _ _ (by simp), getD_app1]
theorem nch_nn {ch : List Int} (h : nn ch) : nn (nch ch) := by
  intro x hx
  obtain ⟨i, hi, e⟩ := List.getElem_of_mem hx
  have e2 : (nch ch).getD i 0 = x := by rw [List.getD_eq_getElem?_getD, List.getElem?_eq_getElem hi, e]; rfl
  rw [← e2, nch_get]
  have h1 := nn_getD h i
  have h2 : 0 ≤ (0 :: ch).getD i 0 := nn_getD (L := 0 :: ch) (fun y hy => by
    rcases List.mem_cons.mp hy with rfl | hy
    · exact Int.le_refl 0
    · exact h y hy) i
  omega
theorem getD_oob {L : List Int} {i : Nat} (h : L.length ≤ i) : L.getD i 0 = 0 := by
  rw [List.getD_eq_getElem?_getD, List.getElem?_eq_none h]; rfl
theorem rep_sum : ∀ n : Nat, (List.replicate n (0 : Int)).sum = 0
  | 0 => rfl
  | n + 1 => by rw [List.replicate_succ, List.sum_cons, rep_sum n]; rfl
theorem knD {kn : List (List Int)} {r : List Int} {s : Nat} : (kn ++ [r]).getD s [] = if s < kn.length then kn.getD s [] else if s = kn.length then r else [] := by
  rw [List.getD_eq_getElem?_getD, List.getElem?_append, List.getD_eq_getElem?_getD]
  by_cases h : s < kn.length
  · rw [if_pos h, if_pos h]
  · rw [if_neg h, if_neg h]
    by_cases h2 : s = kn.length
    · subst h2; simp
    · rw [if_neg h2, List.getElem?_eq_none (by simp; omega)]; rfl
theorem Tb.step {n : Nat} {kn : List (List Int)} {ch : List Int} (h : Tb n kn ch) : Tb (n + 1) (kn ++ [nxt kn ch]) (nch ch) := by
  obtain ⟨e1, e2⟩ := in3_ok h.lk h.lr h.sr ch 0 (List.replicate (kn.length + 1) 0) (by rw [h.lc]; omega) (by rw [List.length_replicate, h.lk]) (fun i hi => by
    rw [Nat.zero_add]; exact h.cf i (by have := h.lc; omega))
  have e3 : (nxt kn ch).sum = fac (n + 1) := by
    rw [nxt, e2, rep_sum, h.lc, fac]
    push_cast
    omega
  have e4 : nn (nxt kn ch) := in3_nn h.lk h.nr ch 0 _ (by rw [h.lc]; omega) h.nc (fun x hx => by rw [List.eq_of_mem_replicate hx]; exact Int.le_refl 0)
  refine ⟨by rw [List.length_append, h.lk]; rfl, fun s hs => ?_, fun s hs => ?_, fun s hs => ?_, by rw [nch_len, h.lc], nch_nn h.nc, fun i hi => ?_⟩
  · rw [knD, h.lk]
    by_cases q : s < n + 1
    · rw [if_pos q]; exact h.lr s (by omega)
    · rw [if_neg q, if_pos (by omega)]
      rw [nxt, e1]; omega
  · rw [knD, h.lk]
    by_cases q : s < n + 1
    · rw [if_pos q]; exact h.sr s (by omega)
    · rw [if_neg q, if_pos (by omega), e3, show s = n + 1 by omega]
  · rw [knD, h.lk]
    by_cases q : s < n + 1
    · rw [if_pos q]; exact h.nr s (by omega)
    · rw [if_neg q, if_pos (by omega)]; exact e4
  · rw [nch_get]
    cases i with
    | zero =>
      have := h.cf 0 (Nat.zero_le _)
      rw [Nat.sub_zero] at this ⊢
      simp only [fac, List.getD_cons_zero] at this ⊢
      grind
    | succ k =>
      rw [List.getD_cons_succ]
      have c1 := h.cf k (by omega)
      by_cases q : k < n
      · have c2 := h.cf (k + 1) (by omega)
        rw [show n + 1 - (k + 1) = n - k by omega]
        obtain ⟨m, hm⟩ : ∃ m, n - k = m + 1 := ⟨n - k - 1, by omega⟩
        rw [show n - (k + 1) = m by omega] at c2
        rw [hm] at c1 ⊢
        have hk : (k : Int) + m + 1 = n := by omega
        simp only [fac] at c1 c2 ⊢
        grind
      · rw [getD_oob (L := ch) (i := k + 1) (by rw [h.lc]; omega)]
        obtain rfl : k = n := by omega
        rw [Nat.sub_self] at c1 ⊢
        simp only [fac] at c1 ⊢
        grind
theorem nn1 : nn [1] := fun x hx => by rw [List.mem_singleton.mp hx]; decide
theorem tb_ok : ∀ n : Nat, Tb n (tb n).1 (tb n).2
  | 0 => by
    refine ⟨rfl, fun s hs => ?_, fun s hs => ?_, fun s hs => ?_, rfl, nn1, fun i hi => ?_⟩
    · rw [Nat.le_zero.mp hs]; rfl
    · rw [Nat.le_zero.mp hs]; rfl
    · rw [Nat.le_zero.mp hs]; exact nn1
    · rw [Nat.le_zero.mp hi]; rfl
  | n + 1 => (tb_ok n).step
theorem fac_pos : ∀ n : Nat, 0 < fac n
  | 0 => by decide
  | n + 1 => Int.mul_pos (by omega) (fac_pos n)
theorem fac_mono {n m : Nat} (h : n ≤ m) : fac n ≤ fac m := by
  induction h with
  | refl => exact Int.le_refl _
  | step _ ih =>
    rename_i k _
    refine Int.le_trans ih ?_
    rw [Nat.succ_eq_add_one, fac]
    have h1 := fac_pos k
    have h2 : (k : Int) * fac k ≥ 0 := Int.mul_nonneg (by omega) (by omega)
    grind
theorem fac40 : fac 40 < 10 ^ 48 := by decide +kernel
theorem mem_le_sum : ∀ {L : List Int} {x : Int}, nn L → x ∈ L → x ≤ L.sum
  | [], _, _, h => nomatch h
  | a :: L, x, hn, h => by
    have h1 : 0 ≤ a := hn a List.mem_cons_self
    have h2 : nn L := fun y hy => hn y (List.mem_cons_of_mem _ hy)
    have h3 : 0 ≤ L.sum := by
      clear h hn
      induction L with
      | nil => exact Int.le_refl 0
      | cons b L ih =>
        rw [List.sum_cons]
        have := ih (fun y hy => h2 y (List.mem_cons_of_mem _ hy))
        have := h2 b List.mem_cons_self
        omega
    rw [List.sum_cons]
    rcases List.mem_cons.mp h with rfl | h
    · omega
    · have := mem_le_sum h2 h
      omega
theorem Tb.small {n : Nat} {kn : List (List Int)} {ch : List Int} (h : Tb n kn ch) (hn : n ≤ 40) {s : Nat} (hs : s ≤ n) {x : Int} (hx : x ∈ kn.getD s []) : 0 ≤ x ∧ x < 10 ^ 48 := by
  refine ⟨h.nr s hs x hx, ?_⟩
  have h1 := mem_le_sum (h.nr s hs) hx
  rw [h.sr s hs] at h1
  exact Int.lt_of_le_of_lt h1 (Int.lt_of_le_of_lt (fac_mono (show s ≤ 40 by omega)) fac40)
theorem ch_bound {n : Nat} {kn : List (List Int)} {ch : List Int} (h : Tb n kn ch) (hn : n ≤ 40) {x : Int} (hx : x ∈ ch) : 0 ≤ x ∧ x < 10 ^ 48 := by
  refine ⟨h.nc x hx, ?_⟩
  obtain ⟨i, hi, e⟩ := List.getElem_of_mem hx
  have e2 : ch.getD i 0 = x := by rw [List.getD_eq_getElem?_getD, List.getElem?_eq_getElem hi, e]; rfl
  have c := h.cf i (by have := h.lc; omega)
  rw [e2] at c
  have h0 := h.nc x hx
  have p1 := fac_pos i
  have p2 := fac_pos (n - i)
  have q : x * 1 ≤ x * (fac i * fac (n - i)) := Int.mul_le_mul_of_nonneg_left (by
    have : 1 * 1 ≤ fac i * fac (n - i) := Int.mul_le_mul (by omega) (by omega) (by decide) (by omega)
    omega) h0
  rw [← Int.mul_assoc, c, Int.mul_one] at q
  exact Int.lt_of_le_of_lt q (Int.lt_of_le_of_lt (fac_mono hn) fac40)

/-! ### the program's table -/
def iD (L : List Int) : List PyData := L.map .int
theorem iD_len {L : List Int} : (iD L).length = L.length := by rw [iD, List.length_map]
theorem iD_get {L : List Int} {i : Nat} : (iD L)[i]? = L[i]?.map .int := by rw [iD, List.getElem?_map]
theorem in1_snoc {w o : Int} {a : Nat} {t : Int} : ∀ (B : List Int) (b : Nat) (acc : List Int), in1 w o a (B ++ [t]) b acc = add1 (in1 w o a B b acc) (spot a (b + B.length)) (w * o * t)
  | [], b, acc => rfl
  | u :: B, b, acc => by
    show in1 w o a (B ++ [t]) (b + 1) _ = _
    rw [in1_snoc B (b + 1), in1, List.length_cons, show b + 1 + B.length = b + (B.length + 1) by omega]
theorem in2_snoc {w : Int} {B : List Int} {o : Int} : ∀ (A : List Int) (a : Nat) (acc : List Int), in2 w B (A ++ [o]) a acc = in1 w o (a + A.length) B 0 (in2 w B A a acc)
  | [], a, acc => rfl
  | u :: A, a, acc => by
    show in2 w B (A ++ [o]) (a + 1) _ = _
    rw [in2_snoc A (a + 1), in2, List.length_cons, show a + 1 + A.length = a + (A.length + 1) by omega]
theorem in3_snoc {kn : List (List Int)} {w : Int} : ∀ (C : List Int) (s : Nat) (acc : List Int), in3 kn (C ++ [w]) s acc = in2 w (kn.getD (kn.length - 1 - (s + C.length)) []) (kn.getD (s + C.length) []) 0 (in3 kn C s acc)
  | [], s, acc => rfl
  | u :: C, s, acc => by
    show in3 kn (C ++ [w]) (s + 1) _ = _
    rw [in3_snoc C (s + 1), in3, List.length_cons, show s + 1 + C.length = s + (C.length + 1) by omega]
theorem take_snoc {α : Type} {L : List α} {i : Nat} {x : α} (h : L[i]? = some x) : L.take (i + 1) = L.take i ++ [x] := by
  rw [List.take_add_one, h]; rfl
theorem take_len {α : Type} {L : List α} {i : Nat} {x : α} (h : L[i]? = some x) : (L.take i).length = i := by
  have := (List.getElem?_eq_some_iff.mp h).1
  rw [List.length_take]; omega
theorem getD_of {L : List (List Int)} {i : Nat} {x : List Int} (h : L[i]? = some x) : L.getD i [] = x := by rw [List.getD_eq_getElem?_getD, h]; rfl
theorem getD_at {L : List (List Int)} {i : Nat} (h : i < L.length) : L[i]? = some (L.getD i []) := by rw [List.getD_eq_getElem?_getD, List.getElem?_eq_getElem h]; rfl
/-- the rows as they stand in a list of lists -/
def Kn (xs : List O) (kn : List (List Int)) : Prop := xs.length = kn.length ∧ ∀ (j : Nat) (r : List Int), kn[j]? = some r → ∃ o, xs[j]? = some o ∧ Li o (iD r)
theorem kn_itemK {xs : List O} {kn : List (List Int)} (h : Kn xs kn) {j : Nat} {k : Int} (hj : j < kn.length) (hix : L2.ixN xs.length k = some j) : ∃ xs', gItemX [.l xs, .d (.int k)] = some (.ok (.d (.list (iD (kn.getD j [])))), [.l xs', .d (.int k)]) ∧ Kn xs' kn := by
  obtain ⟨o, ho, hl⟩ := h.2 j _ (getD_at hj)
  have hx : j < xs.length := by rw [h.1]; exact hj
  rcases hl with rfl | rfl
  · refine ⟨xs.set j (.d (.list (iD (kn.getD j [])))), ?_, by rw [List.length_set]; exact h.1, fun i r hr => ?_⟩
    · unfold gItemX orF
      have e : gItem [.l xs, .d (.int k)] = none := by
        show (match itemO k (.l xs) with
          | some x => some (Except.ok (O.d x), [O.l xs, .d (.int k)])
          | none => none) = none
        have : itemO k (.l xs) = none := by
          show (L2.atI xs k).bind dOf = none
          rw [ix_atI hix rfl ho]; rfl
        rw [this]
      rw [e]
      show gItemF [.l xs, .d (.int k)] = _
      unfold gItemF
      simp only [hix, ho, dl, ers_d]
    · by_cases q : j = i
      · subst q
        rw [getD_at hj] at hr
        cases hr
        exact ⟨_, by rw [List.getElem?_set_self hx], .inr rfl⟩
      · rw [List.getElem?_set_ne q]
        exact h.2 i r hr
  · refine ⟨xs, ?_, h⟩
    unfold gItemX orF
    have e : gItem [.l xs, .d (.int k)] = some (.ok (.d (.list (iD (kn.getD j [])))), [.l xs, .d (.int k)]) := by
      show (match itemO k (.l xs) with
          | some x => some (Except.ok (O.d x), [O.l xs, .d (.int k)])
          | none => none) = _
      have : itemO k (.l xs) = some (.list (iD (kn.getD j []))) := by
        show (L2.atI xs k).bind dOf = _
        rw [ix_atI hix rfl ho]; rfl
      rw [this]
    rw [e]
theorem kn_item {xs : List O} {kn : List (List Int)} (h : Kn xs kn) {j : Nat} (hj : j < kn.length) : ∃ xs', gItemX [.l xs, .d (.int j)] = some (.ok (.d (.list (iD (kn.getD j [])))), [.l xs', .d (.int j)]) ∧ Kn xs' kn := by
  refine kn_itemK h hj ?_
  unfold L2.ixN
  rw [if_pos (Int.natCast_nonneg j), Int.toNat_natCast, if_pos (by rw [h.1]; omega)]
theorem kn_add {xs : List O} {kn : List (List Int)} {r : List Int} (h : Kn xs kn) : Kn (xs ++ [dl (iD r)]) (kn ++ [r]) := by
  refine ⟨by rw [List.length_append, List.length_append, h.1]; rfl, fun j q hq => ?_⟩
  rw [List.getElem?_append] at hq ⊢
  rw [h.1]
  by_cases z : j < kn.length
  · rw [if_pos z] at hq ⊢
    exact h.2 j q hq
  · rw [if_neg z] at hq ⊢
    cases e : j - kn.length with
    | zero => rw [e] at hq; cases hq; exact ⟨_, rfl, .inl rfl⟩
    | succ m => rw [e] at hq; cases hq
theorem cMul_small {i j : Int} (h1 : 0 ≤ i) (h2 : i < 10 ^ 100) (h3 : 0 ≤ j) (h4 : j < 10 ^ 100) : cMul i j = true := by
  have lg : ∀ x : Int, 0 ≤ x → x < 10 ^ 100 → x.natAbs.log2 < 400 := fun x a b => by
    by_cases hx : x.natAbs = 0
    · rw [hx]; decide
    · rw [Nat.log2_lt hx]
      have e1 : (x.natAbs : Int) = x := Int.natAbs_of_nonneg a
      have e2 : ((10 ^ 100 : Nat) : Int) < ((2 ^ 400 : Nat) : Int) := by decide +kernel
      have e3 : ((10 ^ 100 : Nat) : Int) = (10 : Int) ^ 100 := by decide +kernel
      omega
  unfold cMul
  have := lg i h1 h2
  have := lg j h3 h4
  rw [show decide (i.natAbs.log2 + j.natAbs.log2 < 1000000) = true from decide_eq_true (by omega)]
  rfl
theorem int_set {acc : List Int} {s : Nat} {x : Int} : ((iD acc).map O.d).set s (.d (.int x)) = (iD (acc.set s x)).map O.d := by
  rw [iD, iD, List.map_set, List.map_set]
theorem augS_at {i : Nat} {fi fe : Sl → M O} {S : Sl} {acc : List Int} {s : Nat} {x : Int} (hS : S.getD i .no = dl (iD acc)) (hi : fi S = some (.ok (.d (.int s)), S)) (hs : s < acc.length) (he : fe S = some (.ok (.d (.int x)), S)) :
    sAugS i fi fe S = some (.ok .nx, S.set i (dl (iD (add1 acc s x)))) := by
  have hg : ((iD acc).map O.d)[s]? = some (.d (.int (acc.getD s 0))) := by
    rw [List.getElem?_map, iD_get, List.getD_eq_getElem?_getD, List.getElem?_eq_getElem hs]; rfl
  have e0 : isNo (S.getD i .no) = false := by rw [hS]; rfl
  unfold sAugS
  rw [e0, hi]
  show (match S.getD i .no, (O.d (.int (s : Int))) with
    | .l xs, .d (.int k) => _
    | _, _ => _) = _
  rw [hS]
  show (if (0 : Int) ≤ s then _ else none) = _
  rw [if_pos (Int.natCast_nonneg s), Int.toNat_natCast]
  show (match ((iD acc).map O.d)[s]? with
    | some (.d (.int a)) => _
    | _ => none) = _
  rw [hg]
  show bnd (fe S) _ = _
  rw [he]
  show (match S.getD i .no, (O.d (.int x)) with
    | .l ys, .d (.int b) => _
    | _, _ => none) = _
  rw [hS]
  show (if s < ((iD acc).map O.d).length then _ else none) = _
  rw [if_pos (by rw [List.length_map, iD_len]; exact hs), int_set]
  rfl
theorem nw1_ok {w o t : Int} {a b : Nat} {acc : List Int} {c0 c1 c2 c4 : O} (hs : spot a b < acc.length) (m1 : cMul w o = true) (m2 : cMul (w * o) t = true) :
    b_needs_with_1 [c0, c1, c2, dl (iD acc), c4, .d (.int w), .d (.int a), .d (.int o), .d (.int b), .d (.int t)] = some (.ok .nx, [c0, c1, c2, dl (iD (add1 acc (spot a b) (w * o * t))), c4, .d (.int w), .d (.int a), .d (.int o), .d (.int b), .d (.int t)]) := by
  refine augS_at (i := 3) (acc := acc) (s := spot a b) (x := w * o * t) rfl ?_ hs ?_
  · have e : (a : Int) + (if (1:Int) < (b : Int) - 1 then (b : Int) - 1 else 1) = ((spot a b : Nat) : Int) := by
      unfold spot
      split <;> omega
    simp [ap_seq, ap_if, ap_set, ap_store, ap_ret, ap_retN, ap_do, ap_next, ap_brk, ap_cont, ap_par, ap_asg, ap_val, ap_an, ap_o, ap_n, ap_tT, ap_app, ap_meth, ap_c, ap_nameK, ap_move, ap_eif, ap_and, ap_or, ap_not, ap_wl, ap_wa, ap_orF, ap_mk, item_at, len_at, lst_at, app_at, ins_at, cat_at, ar_nil, ar_v, ar_e, grab, back, dII, dIIc, dIIb, dI, outs, gAdd, gMul, nos, gMax2, gMin2, gAbs, cLt, cLe, cGt, cGe, cIsN, cNotN, dIsN, dNotN, isNone, LIM, vals, bindP, bindPs, ers_cons, lsOf, nrm, flat, app_dl, cEq, cNe, cIn, cNotIn]
    rw [← e]
  · simp [ap_seq, ap_if, ap_set, ap_store, ap_ret, ap_retN, ap_do, ap_next, ap_brk, ap_cont, ap_par, ap_asg, ap_val, ap_an, ap_o, ap_n, ap_tT, ap_app, ap_meth, ap_c, ap_nameK, ap_move, ap_eif, ap_and, ap_or, ap_not, ap_wl, ap_wa, ap_orF, ap_mk, item_at, len_at, lst_at, app_at, ins_at, cat_at, ar_nil, ar_v, ar_e, grab, back, dII, dIIc, dIIb, dI, outs, gAdd, gMul, nos, gMax2, gMin2, gAbs, cLt, cLe, cGt, cGe, cIsN, cNotN, dIsN, dNotN, isNone, LIM, vals, bindP, bindPs, ers_cons, lsOf, nrm, flat, app_dl, cEq, cNe, cIn, cNotIn, m1, m2]

theorem iD_at {L : List Int} {i : Nat} {x : PyData} (h : (iD L)[i]? = some x) : ∃ t, L[i]? = some t ∧ x = .int t := by
  rw [iD_get] at h
  cases q : L[i]? with
  | none => rw [q] at h; cases h
  | some t => rw [q] at h; cases h; exact ⟨t, rfl, rfl⟩
theorem take_all {α : Type} {L : List α} {n : Nat} (h : n = L.length) : L.take n = L := by rw [h, List.take_length]
/-- small: what the products need -/
def sm (x : Int) : Prop := 0 ≤ x ∧ x < 10 ^ 48
theorem sm_mul {w o : Int} (h1 : sm w) (h2 : sm o) : 0 ≤ w * o ∧ w * o < 10 ^ 100 := by
  refine ⟨Int.mul_nonneg h1.1 h2.1, ?_⟩
  have q : w * o ≤ 10 ^ 48 * 10 ^ 48 := Int.mul_le_mul (Int.le_of_lt h1.2) (Int.le_of_lt h2.2) h2.1 (by decide)
  exact Int.lt_of_le_of_lt q (by decide +kernel)
theorem sm_lt {x : Int} (h : sm x) : x < 10 ^ 100 := Int.lt_trans h.2 (by decide +kernel)
theorem nw2_ok {xs : List O} {kn : List (List Int)} {n s a : Nat} {w o : Int} {acc : List Int} {c1 x8 x9 : O} (hk : Kn xs kn) (lk : kn.length = n + 1) (hs : s ≤ n)
    (hb : ∀ j, j < (kn.getD (n - s) []).length → spot a j < acc.length) (hw : sm w) (ho : sm o) (hB : ∀ t ∈ kn.getD (n - s) [], sm t) :
    ∃ xs' y8 y9, b_needs_with_2 [.l xs, c1, .d (.int (n + 1 : Nat)), dl (iD acc), .d (.int s), .d (.int w), .d (.int a), .d (.int o), x8, x9] = some (.ok .nx, [.l xs', c1, .d (.int (n + 1 : Nat)), dl (iD (in1 w o a (kn.getD (n - s) []) 0 acc)), .d (.int s), .d (.int w), .d (.int a), .d (.int o), y8, y9]) ∧ Kn xs' kn := by
  obtain ⟨xs', e1, hk'⟩ := kn_item hk (j := n - s) (by omega)
  generalize kn.getD (n - s) [] = B at hb hB e1 ⊢
  have ei : ((n + 1 : Nat) : Int) - 1 - (s : Int) = ((n - s : Nat) : Int) := by omega
  have q := for_inv (p := .tp [.nm 8, .nm 9]) (body := b_needs_with_1) (fun i S => ∃ y8 y9, S = [.l xs', c1, .d (.int (n + 1 : Nat)), dl (iD (in1 w o a (B.take i) 0 acc)), .d (.int s), .d (.int w), .d (.int a), .d (.int o), y8, y9])
    (enum_at (fe := eApp gItemX [.v 0, .e (eApp (fnD (dII fun i j => i - j)) [.e (eApp (fnD (dII fun i j => i - j)) [.v 2, .e (eC (.int 1))]), .v 4])]) (S := [.l xs, c1, .d (.int (n + 1 : Nat)), dl (iD acc), .d (.int s), .d (.int w), .d (.int a), .d (.int o), x8, x9]) (S1 := [.l xs', c1, .d (.int (n + 1 : Nat)), dl (iD acc), .d (.int s), .d (.int w), .d (.int a), .d (.int o), x8, x9]) (by
      exact app_ve (b := .d (.int (n - s : Nat))) (b' := .d (.int (n - s : Nat))) (S1 := [.l xs, c1, .d (.int (n + 1 : Nat)), dl (iD acc), .d (.int s), .d (.int w), .d (.int a), .d (.int o), x8, x9]) rfl (by
        rw [← ei]
        simp [ap_seq, ap_if, ap_set, ap_store, ap_ret, ap_retN, ap_do, ap_next, ap_brk, ap_cont, ap_par, ap_asg, ap_val, ap_an, ap_o, ap_n, ap_tT, ap_app, ap_meth, ap_c, ap_nameK, ap_move, ap_eif, ap_and, ap_or, ap_not, ap_wl, ap_wa, ap_orF, ap_mk, item_at, len_at, lst_at, app_at, ins_at, cat_at, ar_nil, ar_v, ar_e, grab, back, dII, dIIc, dIIb, dI, outs, gAdd, gMul, nos, gMax2, gMin2, gAbs, cLt, cLe, cGt, cGe, cIsN, cNotN, dIsN, dNotN, isNone, LIM, vals, bindP, bindPs, ers_cons, lsOf, nrm, flat, app_dl, cEq, cNe, cIn, cNotIn]) (by simp) rfl rfl e1) (ls_d (iD B))) ⟨x8, x9, rfl⟩ ?_
  · obtain ⟨S', e2, y8, y9, rfl⟩ := q
    rw [enum_len, iD_len, List.take_length] at e2
    exact ⟨xs', y8, y9, e2, hk'⟩
  · rintro i d S hd ⟨y8, y9, rfl⟩
    obtain ⟨x, hx, rfl⟩ := enum_at' hd
    obtain ⟨t, ht, rfl⟩ := iD_at hx
    have hi := (List.getElem?_eq_some_iff.mp ht).1
    have hl : (in1 w o a (B.take i) 0 acc).length = acc.length := (in1_ok _ _ _ (fun j hj => by
      rw [Nat.zero_add]; exact hb j (by rw [take_len ht] at hj; omega))).1
    have hsp : spot a i < (in1 w o a (B.take i) 0 acc).length := by rw [hl]; exact hb i hi
    have st := take_snoc ht
    have sl := take_len ht
    refine ⟨_, _, rfl, .inl (nw1_ok (t := t) (b := i) hsp (cMul_small hw.1 (sm_lt hw) ho.1 (sm_lt ho)) ?_), .d (.int i), .d (.int t), ?_⟩
    · have := sm_mul hw ho
      have ht' := hB t (List.mem_of_getElem? ht)
      exact cMul_small this.1 this.2 ht'.1 (sm_lt ht')
    · rw [st, in1_snoc, sl, Nat.zero_add]
theorem in3_len {n : Nat} {kn : List (List Int)} {ch : List Int} (ht : Tb n kn ch) : ∀ {C : List Int} {s : Nat} {acc : List Int}, acc.length = n + 2 → s + C.length ≤ n + 1 → (in3 kn C s acc).length = n + 2
  | [], _, acc, h, _ => h
  | w :: C, s, acc, h, hs => by
    rw [List.length_cons] at hs
    rw [in3]
    refine in3_len ht ?_ (by omega)
    have e : kn.length - 1 - s = n - s := by rw [ht.lk]; omega
    rw [e, (in2_ok _ _ _ (fun i j hi hj => ?_)).1, h]
    rw [ht.lr s (by omega)] at hi
    rw [ht.lr (n - s) (by omega)] at hj
    rw [h]; unfold spot; omega
theorem nw3_ok {xs : List O} {kn : List (List Int)} {ch : List Int} {n s : Nat} {w : Int} {acc : List Int} {c1 x6 x7 x8 x9 : O} (ht : Tb n kn ch) (hn : n ≤ 40) (hk : Kn xs kn) (hs : s ≤ n) (hw : sm w) (hl : acc.length = n + 2) :
    ∃ xs' y6 y7 y8 y9, b_needs_with_3 [.l xs, c1, .d (.int (n + 1 : Nat)), dl (iD acc), .d (.int s), .d (.int w), x6, x7, x8, x9] = some (.ok .nx, [.l xs', c1, .d (.int (n + 1 : Nat)), dl (iD (in2 w (kn.getD (n - s) []) (kn.getD s []) 0 acc)), .d (.int s), .d (.int w), y6, y7, y8, y9]) ∧ Kn xs' kn := by
  obtain ⟨xs1, e1, hk1⟩ := kn_item hk (j := s) (by have := ht.lk; omega)
  have hA := ht.lr s hs
  have hB := ht.lr (n - s) (by omega)
  have hsA : ∀ t ∈ kn.getD s [], sm t := fun t h => ht.small hn hs h
  have hsB : ∀ t ∈ kn.getD (n - s) [], sm t := fun t h => ht.small hn (Nat.sub_le ..) h
  generalize kn.getD s [] = A at hA hsA e1 ⊢
  have q := for_inv (p := .tp [.nm 6, .nm 7]) (body := b_needs_with_2) (fun i S => ∃ xs' y6 y7 y8 y9, S = [.l xs', c1, .d (.int (n + 1 : Nat)), dl (iD (in2 w (kn.getD (n - s) []) (A.take i) 0 acc)), .d (.int s), .d (.int w), y6, y7, y8, y9] ∧ Kn xs' kn)
    (enum_at (fe := eApp gItemX [.v 0, .v 4]) (S := [.l xs, c1, .d (.int (n + 1 : Nat)), dl (iD acc), .d (.int s), .d (.int w), x6, x7, x8, x9]) (S1 := [.l xs1, c1, .d (.int (n + 1 : Nat)), dl (iD acc), .d (.int s), .d (.int w), x6, x7, x8, x9]) (by
      simp [ap_seq, ap_if, ap_set, ap_store, ap_ret, ap_retN, ap_do, ap_next, ap_brk, ap_cont, ap_par, ap_asg, ap_val, ap_an, ap_o, ap_n, ap_tT, ap_app, ap_meth, ap_c, ap_nameK, ap_move, ap_eif, ap_and, ap_or, ap_not, ap_wl, ap_wa, ap_orF, ap_mk, item_at, len_at, lst_at, app_at, ins_at, cat_at, ar_nil, ar_v, ar_e, grab, back, dII, dIIc, dIIb, dI, outs, gAdd, gMul, nos, gMax2, gMin2, gAbs, cLt, cLe, cGt, cGe, cIsN, cNotN, dIsN, dNotN, isNone, LIM, vals, bindP, bindPs, ers_cons, lsOf, nrm, flat, app_dl, cEq, cNe, cIn, cNotIn, e1]) (ls_d (iD A))) ⟨xs1, x6, x7, x8, x9, rfl, hk1⟩ ?_
  · obtain ⟨S', e2, xs', y6, y7, y8, y9, rfl, hk'⟩ := q
    rw [enum_len, iD_len, List.take_length] at e2
    exact ⟨xs', y6, y7, y8, y9, e2, hk'⟩
  · rintro i d S hd ⟨xs', y6, y7, y8, y9, rfl, hk'⟩
    obtain ⟨x, hx, rfl⟩ := enum_at' hd
    obtain ⟨t, ht1, rfl⟩ := iD_at hx
    have hi := (List.getElem?_eq_some_iff.mp ht1).1
    have st := take_snoc ht1
    have sl := take_len ht1
    have hl2 : (in2 w (kn.getD (n - s) []) (A.take i) 0 acc).length = acc.length := (in2_ok _ _ _ (fun a b ha hb => by
      rw [hl]; rw [sl] at ha; unfold spot; omega)).1
    obtain ⟨xs2, y8', y9', e3, hk2⟩ := nw2_ok (c1 := c1) (x8 := y8) (x9 := y9) (a := i) (o := t) (acc := in2 w (kn.getD (n - s) []) (A.take i) 0 acc) hk' ht.lk hs (fun j hj => by
      rw [hl2, hl]; unfold spot; omega) hw (hsA t (List.mem_of_getElem? ht1)) hsB
    refine ⟨_, _, rfl, .inl e3, xs2, .d (.int i), .d (.int t), y8', y9', ?_, hk2⟩
    rw [st, in2_snoc, sl, Nat.zero_add]
theorem rep_dl : ∀ n : Nat, (List.replicate n [PyData.int 0]).flatten = iD (List.replicate n 0)
  | 0 => rfl
  | n + 1 => by
    rw [List.replicate_succ, List.flatten_cons, rep_dl n, List.replicate_succ]
    rfl
theorem rep0 {k : Nat} (hk : k ≤ 1000) : gMul [.l [.d (.int 0)], .d (.int k)] = some (.ok (dl (iD (List.replicate k 0))), [.l [.d (.int 0)], .d (.int k)]) := by
  have e : fnD (dIIc cMul fun i j => i * j) [.l [.d (.int 0)], .d (.int k)] = none := by
    unfold fnD
    rw [ers_cons, ers_cons, ers_nil]
    rfl
  have l1 : lsOf (.l [.d (.int 0)]) = some [.int 0] := ls_l [.int 0]
  have l2 : nrm (.l [.d (.int 0)]) = .l [.d (.int 0)] := nrm_dl [.int 0]
  have c : (decide ((k : Int) < 100000) && decide (-100000 < (k : Int)) && decide ([PyData.int 0].length * (k : Int).toNat ≤ LIM)) = true := by
    rw [Int.toNat_natCast, decide_eq_true (show (k : Int) < 100000 by omega), decide_eq_true (show -100000 < (k : Int) by omega)]
    have : [PyData.int 0].length * k ≤ LIM := by
      rw [List.length_singleton, Nat.one_mul, LIM]
      omega
    rw [decide_eq_true this]; rfl
  have g : gRep [.l [.d (.int 0)], .d (.int k)] = some (.ok (dl (iD (List.replicate k 0))), [.l [.d (.int 0)], .d (.int k)]) := by
    unfold gRep
    simp only [l1]
    rw [if_pos c, l2, Int.toNat_natCast, rep_dl]
  unfold gMul orF
  rw [e]
  exact g
theorem nw_ok {xs : List O} {kn : List (List Int)} {ch : List Int} {n : Nat} {co : O} (ht : Tb n kn ch) (hn : n ≤ 40) (hk : Kn xs kn) (hc : Li co (iD ch)) :
    ∃ xs', g_needs_with [.l xs, co] = some (.ok (dl (iD (nxt kn ch))), [.l xs', .d (.list (iD ch))]) ∧ Kn xs' kn := by
  have e1 : xs.length = n + 1 := by rw [hk.1, ht.lk]
  have q := for_inv (p := .tp [.nm 4, .nm 5]) (body := b_needs_with_3) (fun i S => ∃ xs' y4 y5 y6 y7 y8 y9, S = [.l xs', .d (.list (iD ch)), .d (.int (n + 1 : Nat)), dl (iD (in3 kn (ch.take i) 0 (List.replicate (n + 2) 0))), y4, y5, y6, y7, y8, y9] ∧ Kn xs' kn)
    (enum_at (fe := eName 1) (S := [.l xs, co, .d (.int (n + 1 : Nat)), dl (iD (List.replicate (n + 2) 0)), .no, .no, .no, .no, .no, .no]) (S1 := [.l xs, .d (.list (iD ch)), .d (.int (n + 1 : Nat)), dl (iD (List.replicate (n + 2) 0)), .no, .no, .no, .no, .no, .no]) (o := .d (.list (iD ch))) (by
      rcases hc with rfl | rfl
      · simp [ap_seq, ap_if, ap_set, ap_store, ap_ret, ap_retN, ap_do, ap_next, ap_brk, ap_cont, ap_par, ap_asg, ap_val, ap_an, ap_o, ap_n, ap_tT, ap_app, ap_meth, ap_c, ap_nameK, ap_move, ap_eif, ap_and, ap_or, ap_not, ap_wl, ap_wa, ap_orF, ap_mk, item_at, len_at, lst_at, app_at, ins_at, cat_at, ar_nil, ar_v, ar_e, grab, back, dII, dIIc, dIIb, dI, outs, gAdd, gMul, nos, gMax2, gMin2, gAbs, cLt, cLe, cGt, cGe, cIsN, cNotN, dIsN, dNotN, isNone, LIM, vals, bindP, bindPs, ers_cons, lsOf, nrm, flat, app_dl, cEq, cNe, cIn, cNotIn, dl, nameK, ers_d]
      · simp [ap_seq, ap_if, ap_set, ap_store, ap_ret, ap_retN, ap_do, ap_next, ap_brk, ap_cont, ap_par, ap_asg, ap_val, ap_an, ap_o, ap_n, ap_tT, ap_app, ap_meth, ap_c, ap_nameK, ap_move, ap_eif, ap_and, ap_or, ap_not, ap_wl, ap_wa, ap_orF, ap_mk, item_at, len_at, lst_at, app_at, ins_at, cat_at, ar_nil, ar_v, ar_e, grab, back, dII, dIIc, dIIb, dI, outs, gAdd, gMul, nos, gMax2, gMin2, gAbs, cLt, cLe, cGt, cGe, cIsN, cNotN, dIsN, dNotN, isNone, LIM, vals, bindP, bindPs, ers_cons, lsOf, nrm, flat, app_dl, cEq, cNe, cIn, cNotIn]) (ls_d (iD ch))) ⟨xs, .no, .no, .no, .no, .no, .no, rfl, hk⟩ ?_
  · obtain ⟨S', e2, xs', y4, y5, y6, y7, y8, y9, rfl, hk'⟩ := q
    rw [enum_len, iD_len, List.take_length] at e2
    refine ⟨xs', ?_, hk'⟩
    have en : nxt kn ch = in3 kn ch 0 (List.replicate (n + 2) 0) := by rw [nxt, ht.lk]
    rw [en]
    refine mk_rt (S := [.l xs', .d (.list (iD ch)), .d (.int (n + 1 : Nat)), .no, y4, y5, y6, y7, y8, y9]) rfl ?_
    show b_needs_with [.l xs, co, .no, .no, .no, .no, .no, .no, .no, .no] = _
    refine (seq_nx (S1 := [.l xs, co, .d (.int (n + 1 : Nat)), .no, .no, .no, .no, .no, .no, .no]) ?_).trans ((seq_nx (S1 := [.l xs, co, .d (.int (n + 1 : Nat)), dl (iD (List.replicate (n + 2) 0)), .no, .no, .no, .no, .no, .no]) ?_).trans ((seq_nx e2).trans ?_))
    · simp [ap_seq, ap_if, ap_set, ap_store, ap_ret, ap_retN, ap_do, ap_next, ap_brk, ap_cont, ap_par, ap_asg, ap_val, ap_an, ap_o, ap_n, ap_tT, ap_app, ap_meth, ap_c, ap_nameK, ap_move, ap_eif, ap_and, ap_or, ap_not, ap_wl, ap_wa, ap_orF, ap_mk, item_at, len_at, lst_at, app_at, ins_at, cat_at, ar_nil, ar_v, ar_e, grab, back, dII, dIIc, dIIb, dI, outs, gAdd, gMul, nos, gMax2, gMin2, gAbs, cLt, cLe, cGt, cGe, cIsN, cNotN, dIsN, dNotN, isNone, LIM, vals, bindP, bindPs, ers_cons, lsOf, nrm, flat, app_dl, cEq, cNe, cIn, cNotIn, lenO, e1]
    · refine set_at (S1 := [.l xs, co, .d (.int (n + 1 : Nat)), .no, .no, .no, .no, .no, .no, .no]) (app_ee (S1 := [.l xs, co, .d (.int (n + 1 : Nat)), .no, .no, .no, .no, .no, .no, .no]) (a' := .l [.d (.int 0)]) (b' := .d (.int (n + 2 : Nat))) (a := .l [.d (.int 0)]) (b := .d (.int (n + 2 : Nat))) ?_ ?_ (rep0 (by omega)))
      · simp [ap_seq, ap_if, ap_set, ap_store, ap_ret, ap_retN, ap_do, ap_next, ap_brk, ap_cont, ap_par, ap_asg, ap_val, ap_an, ap_o, ap_n, ap_tT, ap_app, ap_meth, ap_c, ap_nameK, ap_move, ap_eif, ap_and, ap_or, ap_not, ap_wl, ap_wa, ap_orF, ap_mk, item_at, len_at, lst_at, app_at, ins_at, cat_at, ar_nil, ar_v, ar_e, grab, back, dII, dIIc, dIIb, dI, outs, gAdd, gMul, nos, gMax2, gMin2, gAbs, cLt, cLe, cGt, cGe, cIsN, cNotN, dIsN, dNotN, isNone, LIM, vals, bindP, bindPs, ers_cons, lsOf, nrm, flat, app_dl, cEq, cNe, cIn, cNotIn]
      · have e9 : ((n + 2 : Nat) : Int) = ((n + 1 : Nat) : Int) + 1 := by omega
        rw [e9]
        simp [ap_seq, ap_if, ap_set, ap_store, ap_ret, ap_retN, ap_do, ap_next, ap_brk, ap_cont, ap_par, ap_asg, ap_val, ap_an, ap_o, ap_n, ap_tT, ap_app, ap_meth, ap_c, ap_nameK, ap_move, ap_eif, ap_and, ap_or, ap_not, ap_wl, ap_wa, ap_orF, ap_mk, item_at, len_at, lst_at, app_at, ins_at, cat_at, ar_nil, ar_v, ar_e, grab, back, dII, dIIc, dIIb, dI, outs, gAdd, gMul, nos, gMax2, gMin2, gAbs, cLt, cLe, cGt, cGe, cIsN, cNotN, dIsN, dNotN, isNone, LIM, vals, bindP, bindPs, ers_cons, lsOf, nrm, flat, app_dl, cEq, cNe, cIn, cNotIn]
    · simp [ap_seq, ap_if, ap_set, ap_store, ap_ret, ap_retN, ap_do, ap_next, ap_brk, ap_cont, ap_par, ap_asg, ap_val, ap_an, ap_o, ap_n, ap_tT, ap_app, ap_meth, ap_c, ap_nameK, ap_move, ap_eif, ap_and, ap_or, ap_not, ap_wl, ap_wa, ap_orF, ap_mk, item_at, len_at, lst_at, app_at, ins_at, cat_at, ar_nil, ar_v, ar_e, grab, back, dII, dIIc, dIIb, dI, outs, gAdd, gMul, nos, gMax2, gMin2, gAbs, cLt, cLe, cGt, cGe, cIsN, cNotN, dIsN, dNotN, isNone, LIM, vals, bindP, bindPs, ers_cons, lsOf, nrm, flat, app_dl, cEq, cNe, cIn, cNotIn]
  · rintro i d S hd ⟨xs', y4, y5, y6, y7, y8, y9, rfl, hk'⟩
    obtain ⟨x, hx, rfl⟩ := enum_at' hd
    obtain ⟨t, ht1, rfl⟩ := iD_at hx
    have hi := (List.getElem?_eq_some_iff.mp ht1).1
    have st := take_snoc ht1
    have sl := take_len ht1
    have hin : i ≤ n := by have := ht.lc; omega
    have hl2 : (in3 kn (ch.take i) 0 (List.replicate (n + 2) 0)).length = n + 2 := in3_len ht (by rw [List.length_replicate]) (by rw [sl]; omega)
    obtain ⟨xs2, z6, z7, z8, z9, e3, hk2⟩ := nw3_ok (c1 := .d (.list (iD ch))) (x6 := y6) (x7 := y7) (x8 := y8) (x9 := y9) (s := i) (w := t) (acc := in3 kn (ch.take i) 0 (List.replicate (n + 2) 0)) ht hn hk' hin (ch_bound ht hn (List.mem_of_getElem? ht1)) hl2
    refine ⟨_, _, rfl, .inl e3, xs2, .d (.int i), .d (.int t), z6, z7, z8, z9, ?_, hk2⟩
    rw [st, in3_snoc, sl, Nat.zero_add, ht.lk, Nat.add_sub_cancel]

theorem zip_ok {A B : List Int} : zipD (iD A) (iD B) = (A.zip B).map fun p => .tuple [.int p.1, .int p.2] := by
  unfold zipD iD
  rw [List.zip_map, List.map_map]
  rfl
theorem li_isNo {o : O} {ds : List PyData} (h : Li o ds) : isNo o = false := by rcases h with rfl | rfl <;> rfl
theorem app_same {G : Fn} {i : Nat} {S : Sl} {o r : O} {ds : List PyData} (hS : S[i]? = some o) (hc : Li o ds) (h : G [o] = some (.ok r, [o])) : eApp G [.v i] S = some (.ok r, S) := by
  have hl : i < S.length := (List.getElem?_eq_some_iff.mp hS).1
  have hd : S.getD i .no = o := by rw [List.getD_eq_getElem?_getD, hS]; rfl
  by_cases q : isD o = true
  · exact app_vd hd q h
  · rw [app_vl hl hd (li_isNo hc) (by simpa using q) h, FT.set_self hS]
theorem starL_at {co : O} {ch : List Int} (hc : Li co (iD ch)) (hl : ch.length < 1000) : gStarL (.int 0) [co] = some (.ok (dl (iD (0 :: ch))), [co]) := by
  have hlt : (iD ch).length < LIM := by rw [iD_len, LIM]; omega
  rcases hc with rfl | rfl
  · simp only [gStarL, ls_dl, nrm_dl]
    rw [if_pos hlt]; rfl
  · simp only [gStarL, ls_d]
    rw [if_pos hlt]; rfl
theorem starR_at {co : O} {ch : List Int} (hc : Li co (iD ch)) (hl : ch.length < 1000) : gStarR (.int 0) [co] = some (.ok (dl (iD (ch ++ [0]))), [co]) := by
  have hlt : (iD ch).length < LIM := by rw [iD_len, LIM]; omega
  have e : iD ch ++ [.int 0] = iD (ch ++ [0]) := by rw [iD, iD, List.map_append]; rfl
  rcases hc with rfl | rfl
  · simp only [gStarR, ls_dl, nrm_dl]
    rw [if_pos hlt, e]
  · simp only [gStarR, ls_d]
    rw [if_pos hlt, e]; rfl
theorem zip_at {fa fb : Sl → M O} {S S1 S2 : Sl} {a b : O} {ds es : List PyData} (h1 : fa S = some (.ok a, S1)) (h2 : fb S1 = some (.ok b, S2)) (ha : lsOf a = some ds) (hb : lsOf b = some es) : wArgs [.e fa, .e fb] kZip S = some (.ok (zipD ds es), S2) := by
  refine wa_two h1 h2 ?_
  show (match lsOf a, lsOf b with
    | some ds, some es => some (zipD ds es)
    | _, _ => none) = _
  rw [ha, hb]
theorem comp_add {A B : List Int} {vs : List Nat} {p : Pt} {elt : Sl → M O} (I : Sl → Prop) {src : Sl → M (List PyData)} {S S1 : Sl} (hs : src S = some (.ok (zipD (iD A) (iD B)), S1)) (hl : A.length ≤ 1000) (h0 : I (wipeS S1 vs))
    (st : ∀ (x y : Int) S, I S → ∃ S1, bindP p (.tuple [.int x, .int y]) S = some S1 ∧ elt S1 = some (.ok (.d (.int (x + y))), S1) ∧ I (wipeS S1 vs)) :
    ∃ S', eComp src p tT elt vs S = some (.ok (dl (iD ((A.zip B).map fun p => p.1 + p.2))), wipeS S' vs) ∧ I S' := by
  have hz : (zipD (iD A) (iD B)).length ≤ LIM := by
    rw [zip_ok, List.length_map, List.length_zip, LIM]
    omega
  obtain ⟨S', e, h⟩ := eComp_inv (fun d => match d with
    | .tuple [.int x, .int y] => some (.d (.int (x + y)))
    | _ => none) I hs hz h0 (fun d hd S hS => by
      rw [zip_ok] at hd
      obtain ⟨⟨x, y⟩, _, rfl⟩ := List.mem_map.mp hd
      obtain ⟨S1, h1, h2, h3⟩ := st x y S hS
      exact ⟨S1, S1, h1, .inr ⟨.d (.int (x + y)), S1, rfl, rfl, h2, h3⟩⟩)
  refine ⟨S', (show eComp src p tT elt vs S = _ from e).trans ?_, h⟩
  rw [zip_ok]
  have : ((A.zip B).map fun p => PyData.tuple [.int p.1, .int p.2]).filterMap (fun d => match d with
    | .tuple [.int x, .int y] => some (O.d (.int (x + y)))
    | _ => none) = (iD ((A.zip B).map fun p => p.1 + p.2)).map O.d := by
    rw [List.filterMap_map, iD, List.map_map, List.map_map]
    rw [show ((fun d => match d with
      | .tuple [.int x, .int y] => some (O.d (.int (x + y)))
      | _ => none) ∘ fun p : Int × Int => PyData.tuple [.int p.1, .int p.2]) = fun p : Int × Int => some (O.d (.int (p.1 + p.2))) from rfl]
    rw [List.filterMap_eq_map']
    rfl
  rw [this]
  rfl
theorem nc_ok {co : O} {ch : List Int} (hc : Li co (iD ch)) (hl : ch.length < 1000) : g_next_choices [co] = some (.ok (dl (iD (nch ch))), [co]) := by
  obtain ⟨S', e, x, y, rfl⟩ := comp_add (A := 0 :: ch) (B := ch ++ [0]) (vs := [1, 2]) (p := .tp [.nm 1, .nm 2]) (elt := e_next_choices_1) (src := wArgs [.e (eApp (gStarL (.int 0)) [.v 0]), .e (eApp (gStarR (.int 0)) [.v 0])] kZip) (S := [co, .no, .no]) (S1 := [co, .no, .no]) (fun S => ∃ x y, S = [co, x, y])
    (zip_at (S1 := [co, .no, .no]) (a := dl (iD (0 :: ch))) (b := dl (iD (ch ++ [0]))) (app_same rfl hc (starL_at hc hl)) (app_same rfl hc (starR_at hc hl)) (ls_dl _) (ls_dl _)) (by simp; omega) ⟨_, _, rfl⟩ (by
      rintro x y S ⟨u, v, rfl⟩
      exact ⟨[co, .d (.int x), .d (.int y)], rfl, by simp [e_next_choices_1, ap_seq, ap_if, ap_set, ap_store, ap_ret, ap_retN, ap_do, ap_next, ap_brk, ap_cont, ap_par, ap_asg, ap_val, ap_an, ap_o, ap_n, ap_tT, ap_app, ap_meth, ap_c, ap_nameK, ap_move, ap_eif, ap_and, ap_or, ap_not, ap_wl, ap_wa, ap_orF, ap_mk, item_at, len_at, lst_at, app_at, ins_at, cat_at, ar_nil, ar_v, ar_e, grab, back, dII, dIIc, dIIb, dI, outs, gAdd, gMul, nos, gMax2, gMin2, gAbs, cLt, cLe, cGt, cGe, cIsN, cNotN, dIsN, dNotN, isNone, LIM, vals, bindP, bindPs, ers_cons, lsOf, nrm, flat, app_dl, cEq, cNe, cIn, cNotIn], _, _, rfl⟩)
  refine mk_rt (S := [co, .no, .no]) rfl ?_
  exact ret_at e
theorem isint40 {m : Nat} (hm : m ≤ 40) : g_is_integer [.d (.int m), .d (.int 0), .d (.int 40)] = some (.ok (.d (.bool true)), [.d (.int m), .d (.int 0), .d (.int 40)]) := by
  have h1 : (m : Int) ≤ 40 := by omega
  simp [g_is_integer, b_is_integer, ap_seq, ap_if, ap_set, ap_store, ap_ret, ap_retN, ap_do, ap_next, ap_brk, ap_cont, ap_par, ap_asg, ap_val, ap_an, ap_o, ap_n, ap_tT, ap_app, ap_meth, ap_c, ap_nameK, ap_move, ap_eif, ap_and, ap_or, ap_not, ap_wl, ap_wa, ap_orF, ap_mk, item_at, len_at, lst_at, app_at, ins_at, cat_at, ar_nil, ar_v, ar_e, grab, back, dII, dIIc, dIIb, dI, outs, gAdd, gMul, nos, gMax2, gMin2, gAbs, cLt, cLe, cGt, cGe, cIsN, cNotN, dIsN, dNotN, isNone, LIM, vals, bindP, bindPs, ers_cons, lsOf, nrm, flat, app_dl, cEq, cNe, cIn, cNotIn, d1b, isIntD, isBoolD, h1]
theorem reqn_ok {m : Nat} (hm : m ≤ 40) : g_require_number [.d (.int m)] = some (.ok (.d .none), [.d (.int m)]) := by
  have e := isint40 hm
  simp [g_require_number, b_require_number, ap_seq, ap_if, ap_set, ap_store, ap_ret, ap_retN, ap_do, ap_next, ap_brk, ap_cont, ap_par, ap_asg, ap_val, ap_an, ap_o, ap_n, ap_tT, ap_app, ap_meth, ap_c, ap_nameK, ap_move, ap_eif, ap_and, ap_or, ap_not, ap_wl, ap_wa, ap_orF, ap_mk, item_at, len_at, lst_at, app_at, ins_at, cat_at, ar_nil, ar_v, ar_e, grab, back, dII, dIIc, dIIb, dI, outs, gAdd, gMul, nos, gMax2, gMin2, gAbs, cLt, cLe, cGt, cGe, cIsN, cNotN, dIsN, dNotN, isNone, LIM, vals, bindP, bindPs, ers_cons, lsOf, nrm, flat, app_dl, cEq, cNe, cIn, cNotIn, e]
theorem do_at {fa : Sl → M O} {S S1 : Sl} {a : O} (h1 : fa S = some (.ok a, S1)) : sDo fa S = some (.ok .nx, S1) := by
  show bnd (fa S) _ = _
  rw [h1]
theorem nin_ok {m : Nat} (hm : m ≤ 40) : g_needs_in [.d (.int m)] = some (.ok (dl (iD ((tb m).1.getD m []))), [.d (.int m)]) := by
  have q := for_inv (p := .nm 3) (body := b_needs_in_1) (fun i S => ∃ xs y, S = [.d (.int m), .l xs, dl (iD (tb i).2), y] ∧ Kn xs (tb i).1 ∧ xs[i]? = some (dl (iD ((tb i).1.getD i []))))
    (rng1_at (fe := eName 0) (n := m) (S := [.d (.int m), .l [.l [.d (.int 1)]], .l [.d (.int 1)], .no]) (S1 := [.d (.int m), .l [.l [.d (.int 1)]], .l [.d (.int 1)], .no]) (by simp [ap_seq, ap_if, ap_set, ap_store, ap_ret, ap_retN, ap_do, ap_next, ap_brk, ap_cont, ap_par, ap_asg, ap_val, ap_an, ap_o, ap_n, ap_tT, ap_app, ap_meth, ap_c, ap_nameK, ap_move, ap_eif, ap_and, ap_or, ap_not, ap_wl, ap_wa, ap_orF, ap_mk, item_at, len_at, lst_at, app_at, ins_at, cat_at, ar_nil, ar_v, ar_e, grab, back, dII, dIIc, dIIb, dI, outs, gAdd, gMul, nos, gMax2, gMin2, gAbs, cLt, cLe, cGt, cGe, cIsN, cNotN, dIsN, dNotN, isNone, LIM, vals, bindP, bindPs, ers_cons, lsOf, nrm, flat, app_dl, cEq, cNe, cIn, cNotIn]) (by omega)) ⟨[.l [.d (.int 1)]], .no, rfl, ⟨rfl, fun j r hr => ?_⟩, rfl⟩ ?_
  · obtain ⟨S', e, xs, y, rfl, hk, hx⟩ := q
    rw [rng_len] at e hk hx
    have lk := (tb_ok m).lk
    have hxl : xs.length = m + 1 := by rw [hk.1, lk]
    have e2 : gItemM [.l xs, .d (.int (-1))] = some (.ok (dl (iD ((tb m).1.getD m []))), [.no, .d (.int (-1))]) := by
      have hix : L2.ixN xs.length (-1) = some m := by
        rw [hxl]; unfold L2.ixN
        rw [if_neg (by decide), if_pos (by omega)]
        rw [show -1 + ((m + 1 : Nat) : Int) = (m : Int) by omega, Int.toNat_natCast]
      show (match L2.ixN xs.length (-1) with
        | some j => some (Except.ok (xs.getD j .no), [O.no, O.d (.int (-1))])
        | none => none) = _
      rw [hix]
      simp only [List.getD_eq_getElem?_getD, hx, Option.getD_some]
    refine mk_rt (S := [.d (.int m), .no, dl (iD (tb m).2), y]) rfl ?_
    show b_needs_in [.d (.int m), .no, .no, .no] = _
    refine ((seq_nx ?_).trans ((seq_nx e).trans (ret_at ?_)))
    · exact par_at (a := .l [.l [.d (.int 1)]]) (b := .l [.d (.int 1)]) (S1 := [.d (.int m), .no, .no, .no]) (S2 := [.d (.int m), .no, .no, .no]) (by simp [ap_seq, ap_if, ap_set, ap_store, ap_ret, ap_retN, ap_do, ap_next, ap_brk, ap_cont, ap_par, ap_asg, ap_val, ap_an, ap_o, ap_n, ap_tT, ap_app, ap_meth, ap_c, ap_nameK, ap_move, ap_eif, ap_and, ap_or, ap_not, ap_wl, ap_wa, ap_orF, ap_mk, item_at, len_at, lst_at, app_at, ins_at, cat_at, ar_nil, ar_v, ar_e, grab, back, dII, dIIc, dIIb, dI, outs, gAdd, gMul, nos, gMax2, gMin2, gAbs, cLt, cLe, cGt, cGe, cIsN, cNotN, dIsN, dNotN, isNone, LIM, vals, bindP, bindPs, ers_cons, lsOf, nrm, flat, app_dl, cEq, cNe, cIn, cNotIn]) (by simp [ap_seq, ap_if, ap_set, ap_store, ap_ret, ap_retN, ap_do, ap_next, ap_brk, ap_cont, ap_par, ap_asg, ap_val, ap_an, ap_o, ap_n, ap_tT, ap_app, ap_meth, ap_c, ap_nameK, ap_move, ap_eif, ap_and, ap_or, ap_not, ap_wl, ap_wa, ap_orF, ap_mk, item_at, len_at, lst_at, app_at, ins_at, cat_at, ar_nil, ar_v, ar_e, grab, back, dII, dIIc, dIIb, dI, outs, gAdd, gMul, nos, gMax2, gMin2, gAbs, cLt, cLe, cGt, cGe, cIsN, cNotN, dIsN, dNotN, isNone, LIM, vals, bindP, bindPs, ers_cons, lsOf, nrm, flat, app_dl, cEq, cNe, cIn, cNotIn])
    · exact app_ve (b := .d (.int (-1))) (b' := .d (.int (-1))) (S1 := [.d (.int m), .l xs, dl (iD (tb m).2), y]) rfl (by simp [ap_seq, ap_if, ap_set, ap_store, ap_ret, ap_retN, ap_do, ap_next, ap_brk, ap_cont, ap_par, ap_asg, ap_val, ap_an, ap_o, ap_n, ap_tT, ap_app, ap_meth, ap_c, ap_nameK, ap_move, ap_eif, ap_and, ap_or, ap_not, ap_wl, ap_wa, ap_orF, ap_mk, item_at, len_at, lst_at, app_at, ins_at, cat_at, ar_nil, ar_v, ar_e, grab, back, dII, dIIc, dIIb, dI, outs, gAdd, gMul, nos, gMax2, gMin2, gAbs, cLt, cLe, cGt, cGe, cIsN, cNotN, dIsN, dNotN, isNone, LIM, vals, bindP, bindPs, ers_cons, lsOf, nrm, flat, app_dl, cEq, cNe, cIn, cNotIn]) (by simp) rfl rfl e2
  · cases j with
    | zero => cases hr; exact ⟨_, rfl, .inl rfl⟩
    | succ j => cases hr
  · rintro i d S hd ⟨xs, y, rfl, hk, hx⟩
    obtain ⟨hi, rfl⟩ := rng_at hd
    have T := tb_ok i
    obtain ⟨xs', e1, hk'⟩ := nw_ok T (by omega) hk (.inl rfl)
    have e2 := nc_ok (co := .d (.list (iD (tb i).2))) (ch := (tb i).2) (.inr rfl) (by rw [T.lc]; omega)
    have hlx : xs'.length < 100000 := by rw [hk'.1, T.lk]; omega
    refine ⟨[.d (.int m), .l xs, dl (iD (tb i).2), .d (.int i)], [.d (.int m), .l (xs' ++ [dl (iD (nxt (tb i).1 (tb i).2))]), dl (iD (nch (tb i).2)), .d (.int i)], rfl, .inl ?_, _, _, rfl, kn_add hk', ?_⟩
    · refine (seq_nx (S1 := [.d (.int m), .l (xs' ++ [dl (iD (nxt (tb i).1 (tb i).2))]), .d (.list (iD (tb i).2)), .d (.int i)]) ?_).trans ?_
      · generalize iD (nxt (tb i).1 (tb i).2) = W at *
        generalize iD (tb i).2 = V at *
        simp [ap_seq, ap_if, ap_set, ap_store, ap_ret, ap_retN, ap_do, ap_next, ap_brk, ap_cont, ap_par, ap_asg, ap_val, ap_an, ap_o, ap_n, ap_tT, ap_app, ap_meth, ap_c, ap_nameK, ap_move, ap_eif, ap_and, ap_or, ap_not, ap_wl, ap_wa, ap_orF, ap_mk, item_at, len_at, lst_at, app_at, ins_at, cat_at, ar_nil, ar_v, ar_e, grab, back, dII, dIIc, dIIb, dI, outs, gAdd, gMul, nos, gMax2, gMin2, gAbs, cLt, cLe, cGt, cGe, cIsN, cNotN, dIsN, dNotN, isNone, LIM, vals, bindP, bindPs, ers_cons, lsOf, nrm, flat, app_dl, cEq, cNe, cIn, cNotIn, dl, isLs, show g_needs_with [O.l xs, O.l (List.map O.d V)] = _ from e1, hlx]
      · exact set_at (S1 := [.d (.int m), .l (xs' ++ [dl (iD (nxt (tb i).1 (tb i).2))]), .d (.list (iD (tb i).2)), .d (.int i)]) (app_vd rfl rfl e2)
    · have hl' : xs'.length = i + 1 := by rw [hk'.1, T.lk]
      have hr : (tb (i + 1)).1.getD (i + 1) [] = nxt (tb i).1 (tb i).2 := by
        show ((tb i).1 ++ [nxt (tb i).1 (tb i).2]).getD (i + 1) [] = _
        rw [knD, T.lk, if_neg (by omega), if_pos rfl]
      rw [hr, ← hl', List.getElem?_append_right (Nat.le_refl _), Nat.sub_self]
      rfl
theorem cn_ok {m : Nat} (hm : m ≤ 40) : g_count_needs [.d (.int m)] = some (.ok (dl (iD ((tb m).1.getD m []))), [.d (.int m)]) := by
  refine mk_rt (S := [.d (.int m)]) rfl ?_
  exact (seq_nx (do_at (app_vd (i := 0) (S := [.d (.int m)]) rfl rfl (reqn_ok hm)))).trans (ret_at (app_vd (i := 0) (S := [.d (.int m)]) rfl rfl (nin_ok hm)))

/-! ### the draws -/
theorem sack_ok {ns : List Int} {k : Nat} (hk : k < 100) : ∃ o, g__law_sack [.fz ns, .d (.int k)] = some (.ok o, [.fz ns, .d (.int k)]) ∧ Keg 0 o := by
  obtain ⟨q1, q2, _⟩ := cp10
  have hm : ∀ x : Int, cMul x 13 = true := fun x => cMulR (by decide) (by decide)
  have hm2 : cMul 6151 (k : Int) = true := cMulL (by decide) (by decide)
  have hd : cMod (0:Int) 5 = true := by decide
  have fin : ∀ u x : Int, 0 ≤ u → Keg 0 (.l [.d (.int u), .d (.int (x % 100000000000000000000000000000000000133 * 13 + 6151 * (k : Int) + 17)), .d (.int 0)]) := fun u x hu => by
    have h1 := Int.emod_nonneg x (show (100000000000000000000000000000000000133 : Int) ≠ 0 by decide)
    have h2 := Int.emod_lt_of_pos x (show (0 : Int) < 100000000000000000000000000000000000133 by decide)
    exact ⟨_, _, _, rfl, hu, by omega, by omega, by decide, by decide⟩
  by_cases h : k < ns.length
  · have e : L2.atI ns (k : Int) = some ns[k] := at_lt h
    refine ⟨_, by
      simp [g__law_sack, b__law_sack, ap_seq, ap_if, ap_set, ap_store, ap_ret, ap_retN, ap_do, ap_next, ap_brk, ap_cont, ap_par, ap_asg, ap_val, ap_an, ap_o, ap_n, ap_tT, ap_app, ap_meth, ap_c, ap_nameK, ap_move, ap_eif, ap_and, ap_or, ap_not, ap_wl, ap_wa, ap_orF, ap_mk, item_at, len_at, lst_at, app_at, ins_at, cat_at, ar_nil, ar_v, ar_e, grab, back, dII, dIIc, dIIb, dI, outs, gAdd, gMul, nos, gMax2, gMin2, gAbs, cLt, cLe, cGt, cGe, cIsN, cNotN, dIsN, dNotN, isNone, LIM, vals, bindP, bindPs, ers_cons, lsOf, nrm, flat, app_dl, cEq, cNe, cIn, cNotIn, h, e, q1, q2, hm, hm2, cMod]
      rfl, ?_⟩
    refine fin _ ns[k] ?_
    repeat' split
    all_goals omega
  · refine ⟨_, by
      simp [g__law_sack, b__law_sack, ap_seq, ap_if, ap_set, ap_store, ap_ret, ap_retN, ap_do, ap_next, ap_brk, ap_cont, ap_par, ap_asg, ap_val, ap_an, ap_o, ap_n, ap_tT, ap_app, ap_meth, ap_c, ap_nameK, ap_move, ap_eif, ap_and, ap_or, ap_not, ap_wl, ap_wa, ap_orF, ap_mk, item_at, len_at, lst_at, app_at, ins_at, cat_at, ar_nil, ar_v, ar_e, grab, back, dII, dIIc, dIIb, dI, outs, gAdd, gMul, nos, gMax2, gMin2, gAbs, cLt, cLe, cGt, cGe, cIsN, cNotN, dIsN, dNotN, isNone, LIM, vals, bindP, bindPs, ers_cons, lsOf, nrm, flat, app_dl, cEq, cNe, cIn, cNotIn, h, q1, q2, hm, hm2, cMod]
      rfl, ?_⟩
    simpa using fin 0 0 (by decide)
theorem grab_ok {N : Nat} {k : O} {m : Int} (hk : Keg N k) (hN : N ≤ 1000000) (h0 : 0 < m) (h1 : m ≤ 1000000000000000000000000000000) :
    ∃ r k', g__law_grab [k, .d (.int m)] = some (.ok (.d (.int r)), [k', .d (.int m)]) ∧ 0 ≤ r ∧ r < m ∧ Keg (N + 1) k' := by
  obtain ⟨a, b, c, rfl, ha, hb, hb2, hc, hc2⟩ := hk
  have hdm : ∀ i, cDiv i m = true := fun i => cDiv_pos h0 (Int.lt_of_le_of_lt h1 (by decide +kernel))
  have hmm : ∀ i, cMod i m = true := fun i => cMod_pos h0
  by_cases h : 0 < a
  · refine ⟨a % m, .l [.d (.int (a / m)), .d (.int b), .d (.int c)], by simp [g__law_grab, b__law_grab, ap_seq, ap_if, ap_set, ap_store, ap_ret, ap_retN, ap_do, ap_next, ap_brk, ap_cont, ap_par, ap_asg, ap_val, ap_an, ap_o, ap_n, ap_tT, ap_app, ap_meth, ap_c, ap_nameK, ap_move, ap_eif, ap_and, ap_or, ap_not, ap_wl, ap_wa, ap_orF, ap_mk, item_at, len_at, lst_at, app_at, ins_at, cat_at, ar_nil, ar_v, ar_e, grab, back, dII, dIIc, dIIb, dI, outs, gAdd, gMul, nos, gMax2, gMin2, gAbs, cLt, cLe, cGt, cGe, cIsN, cNotN, dIsN, dNotN, isNone, LIM, vals, bindP, bindPs, ers_cons, lsOf, nrm, flat, app_dl, cEq, cNe, cIn, cNotIn, h, hdm, hmm], Int.emod_nonneg _ (by omega), Int.emod_lt_of_pos _ h0, _, _, _, rfl, ?_, hb, hb2, hc, by omega⟩
    exact Int.ediv_nonneg ha (by omega)
  · obtain ⟨q1, q2, q3, q4, q5, _⟩ := cp10
    have n1 : cMul 512927357 (c + 1) = true := cMulL (by decide) (by decide)
    have n2 : cMul 256203161 (c + 1) = true := cMulL (by decide) (by decide)
    have p1 : cPow (b + 512927357 * (c + 1)) 3 = true := pyt_lt (by omega) (by
      refine Int.lt_trans (b := 10 ^ 60) ?_ (by decide +kernel)
      omega) (by decide) (by decide)
    have p2 : cPow ((b + 512927357 * (c + 1)) ^ 3 % 100000000000000000000000000000000000000037 + 256203161 * (c + 1)) 3 = true := pyt_lt (by
      have := Int.emod_nonneg ((b + 512927357 * (c + 1)) ^ 3) (show (100000000000000000000000000000000000000037 : Int) ≠ 0 by decide)
      omega) (by
      have := Int.emod_lt_of_pos ((b + 512927357 * (c + 1)) ^ 3) (show (0 : Int) < 100000000000000000000000000000000000000037 by decide)
      refine Int.lt_trans (b := 10 ^ 60) ?_ (by decide +kernel)
      omega) (by decide) (by decide)
    have d6 : ∀ i, cDiv i 104729 = true := fun i => cDiv_pos (by decide) (by decide +kernel)
    refine ⟨_, .l [.d (.int a), .d (.int b), .d (.int (c + 1))], by
      simp [g__law_grab, b__law_grab, ap_seq, ap_if, ap_set, ap_store, ap_ret, ap_retN, ap_do, ap_next, ap_brk, ap_cont, ap_par, ap_asg, ap_val, ap_an, ap_o, ap_n, ap_tT, ap_app, ap_meth, ap_c, ap_nameK, ap_move, ap_eif, ap_and, ap_or, ap_not, ap_wl, ap_wa, ap_orF, ap_mk, item_at, len_at, lst_at, app_at, ins_at, cat_at, ar_nil, ar_v, ar_e, grab, back, dII, dIIc, dIIb, dI, outs, gAdd, gMul, nos, gMax2, gMin2, gAbs, cLt, cLe, cGt, cGe, cIsN, cNotN, dIsN, dNotN, isNone, LIM, vals, bindP, bindPs, ers_cons, lsOf, nrm, flat, app_dl, cEq, cNe, cIn, cNotIn, h, hdm, hmm, q1, q2, q3, q4, q5, n1, n2, p1, p2, d6, show ∀ i, cMod i 100000000000000000000000000000000000000037 = true from fun i => cMod_pos (by decide), show ∀ i, cMod i 10000000000000000000000000000000000000121 = true from fun i => cMod_pos (by decide)]
      rfl, Int.emod_nonneg _ (by omega), Int.emod_lt_of_pos _ h0, _, _, _, rfl, ha, hb, hb2, by omega, by omega⟩

theorem sumA {r : List Int} : dSum [.list (iD r)] = some (.int r.sum) := by
  show ((iD r).mapM intD).map (fun ns => PyData.int ns.sum) = _
  have : (iD r).mapM intD = some r := by
    induction r with
    | nil => rfl
    | cons a r ih =>
      rw [iD, List.map_cons, List.mapM_cons]
      rw [iD] at ih
      simp [intD, ih]
  rw [this]; rfl
theorem sumE {f : Sl → M O} {S S1 : Sl} {r : List Int} {o : O} (h : f S = some (.ok o, S1)) (ho : er o = some (.list (iD r))) : eApp (fnD dSum) [.e f] S = some (.ok (.d (.int r.sum)), S1) := by
  refine app_e h (a' := o) ?_
  unfold fnD
  rw [ers_cons, ho, ers_nil]
  simp only [sumA]
def inr (h : Int) : PyData → Bool
  | .int i => decide (0 ≤ i) && decide (i ≤ h)
  | _ => false
theorem isint_gen (h : Int) (x : PyData) : g_is_integer [.d x, .d (.int 0), .d (.int h)] = some (.ok (.d (.bool (inr h x))), [.d x, .d (.int 0), .d (.int h)]) := by
  cases x with
  | int i =>
    by_cases h0 : 0 ≤ i
    · simp [g_is_integer, b_is_integer, ap_seq, ap_if, ap_set, ap_store, ap_ret, ap_retN, ap_do, ap_next, ap_brk, ap_cont, ap_par, ap_asg, ap_val, ap_an, ap_o, ap_n, ap_tT, ap_app, ap_meth, ap_c, ap_nameK, ap_move, ap_eif, ap_and, ap_or, ap_not, ap_wl, ap_wa, ap_orF, ap_mk, item_at, len_at, lst_at, app_at, ins_at, cat_at, ar_nil, ar_v, ar_e, grab, back, dII, dIIc, dIIb, dI, outs, gAdd, gMul, nos, gMax2, gMin2, gAbs, cLt, cLe, cGt, cGe, cIsN, cNotN, dIsN, dNotN, isNone, LIM, vals, bindP, bindPs, ers_cons, lsOf, nrm, flat, app_dl, cEq, cNe, cIn, cNotIn, d1b, isIntD, isBoolD, inr, h0]
    · simp [g_is_integer, b_is_integer, ap_seq, ap_if, ap_set, ap_store, ap_ret, ap_retN, ap_do, ap_next, ap_brk, ap_cont, ap_par, ap_asg, ap_val, ap_an, ap_o, ap_n, ap_tT, ap_app, ap_meth, ap_c, ap_nameK, ap_move, ap_eif, ap_and, ap_or, ap_not, ap_wl, ap_wa, ap_orF, ap_mk, item_at, len_at, lst_at, app_at, ins_at, cat_at, ar_nil, ar_v, ar_e, grab, back, dII, dIIc, dIIb, dI, outs, gAdd, gMul, nos, gMax2, gMin2, gAbs, cLt, cLe, cGt, cGe, cIsN, cNotN, dIsN, dNotN, isNone, LIM, vals, bindP, bindPs, ers_cons, lsOf, nrm, flat, app_dl, cEq, cNe, cIn, cNotIn, d1b, isIntD, isBoolD, inr, h0]
  | _ => simp [g_is_integer, b_is_integer, ap_seq, ap_if, ap_set, ap_store, ap_ret, ap_retN, ap_do, ap_next, ap_brk, ap_cont, ap_par, ap_asg, ap_val, ap_an, ap_o, ap_n, ap_tT, ap_app, ap_meth, ap_c, ap_nameK, ap_move, ap_eif, ap_and, ap_or, ap_not, ap_wl, ap_wa, ap_orF, ap_mk, item_at, len_at, lst_at, app_at, ins_at, cat_at, ar_nil, ar_v, ar_e, grab, back, dII, dIIc, dIIb, dI, outs, gAdd, gMul, nos, gMax2, gMin2, gAbs, cLt, cLe, cGt, cGe, cIsN, cNotN, dIsN, dNotN, isNone, LIM, vals, bindP, bindPs, ers_cons, lsOf, nrm, flat, app_dl, cEq, cNe, cIn, cNotIn, d1b, isIntD, isBoolD, inr]
theorem ap_dict0 (S : Sl) : eDict0 S = some (.ok (.d (.dict [])), S) := rfl
theorem tup_at (os : List O) : gTupF os = match ers os with
  | some ds => if ds.length ≤ LIM then some (.ok (.d (.tuple ds)), nos os) else none
  | none => none := rfl
theorem gAdd_er {o p : O} {A B : List PyData} (h1 : lsOf o = some A) (h2 : lsOf p = some B) (hl : A.length + B.length ≤ 1000) : gAdd [o, p] = some (.ok (dl (A ++ B)), [nrm o, nrm p]) := by
  have g : gCat [o, p] = some (.ok (dl (A ++ B)), [nrm o, nrm p]) := by
    rw [cat_at, h1, h2]
    simp only
    rw [if_pos (by rw [LIM]; omega)]
  have er2 : ers [o, p] = some [.list A, .list B] := by rw [ers_cons, ers_cons, lsOf_er h1, lsOf_er h2, ers_nil]
  unfold gAdd orF
  have f1 : fnD (dII fun i j => i + j) [o, p] = none := by
    unfold fnD
    rw [er2]; rfl
  have f2 : fnD dAddS [o, p] = none := by
    unfold fnD
    rw [er2]; rfl
  rw [f1, f2]
  exact g
theorem app_er1 {G : Fn} {fa : Sl → M O} {S S1 : Sl} {a : O} {e : Ex} {os' : List O} (h1 : fa S = some (.ok a, S1)) (h : G [a] = some (.error e, os')) : eApp G [.e fa] S = some (.error e, S1) := by
  rcases os' with _ | ⟨o, os⟩ <;> simp [ap_app, ar_e, ar_nil, h1, grab, back, h]
theorem app_er2 {G : Fn} {fa fb : Sl → M O} {S S1 S2 : Sl} {a b : O} {e : Ex} {os' : List O} (h1 : fa S = some (.ok a, S1)) (h2 : fb S1 = some (.ok b, S2)) (h : G [a, b] = some (.error e, os')) : eApp G [.e fa, .e fb] S = some (.error e, S2) := by
  rcases os' with _ | ⟨o, _ | ⟨p, os⟩⟩ <;> simp [ap_app, ar_e, ar_nil, h1, h2, grab, back, h]
theorem app_erv {G : Fn} {i : Nat} {S : Sl} {x : PyData} {e : Ex} (hS : S.getD i .no = .d x) (h : G [.d x] = some (.error e, [.d x])) : eApp G [.v i] S = some (.error e, S) := by
  have hS2 : S[i]?.getD .no = .d x := by rw [← List.getD_eq_getElem?_getD]; exact hS
  simp [ap_app, ar_v, ar_nil, hS2, grab, back, h]
theorem app_erev {G : Fn} {fa : Sl → M O} {i : Nat} {S S1 : Sl} {a a' : O} {x : PyData} {e : Ex} (h1 : fa S = some (.ok a, S1)) (hS : S1.getD i .no = .d x) (h : G [a, .d x] = some (.error e, [a', .d x])) : eApp G [.e fa, .v i] S = some (.error e, S1) := by
  have hS2 : S1[i]?.getD .no = .d x := by rw [← List.getD_eq_getElem?_getD]; exact hS
  simp [ap_app, ar_e, ar_v, ar_nil, h1, hS2, grab, back, h]
theorem rev_t {g : Fn} {a b : O} {r : Except Ex O} {os' : List O} (h : g [b, a] = some (r, os')) : revF true g [a, b] = some (r, os'.reverse) := by
  show (match g [b, a] with
    | some (out, os') => some (out, os'.reverse)
    | none => none) = _
  rw [h]
theorem rev_f1 {g : Fn} {os os' : List O} {r : Except Ex O} (h : g os = some (r, os')) : revF false g os = some (r, os') := by
  show (match g os with
    | some (out, os') => some (out, os')
    | none => none) = _
  rw [h]

theorem sq_s {x : Str} (hw : x.cps.size ≤ 10) (hc : (x.cps.toList.all fun c => decide (c < 16 ^ 8)) = true) : Sq 10 0 (.str x) := ⟨by simp [PyData.showable], by simp only [PyData.leavesShort]; exact hc, by simpa [PyData.weight] using hw, by simp [PyData.depth]⟩
/-! ### numbers and other values -/
def eN : Ex := ⟨PySem.Str.ofString "InvalidNumber", none⟩
def wF : Str := PySem.Str.ofString "fine"
def wN : Str := PySem.Str.ofString "number"
theorem co_ok {m : Nat} (hm : m ≤ 40) : g_count_orders [.d (.int m)] = some (.ok (.d (.int (((tb m).1.getD m []).take 2).sum)), [.d (.int m)]) := by
  refine mk_rt (S := [.d (.int m)]) rfl ?_
  refine (seq_nx (do_at (app_vd (i := 0) (S := [.d (.int m)]) rfl rfl (reqn_ok hm)))).trans (ret_at ?_)
  have e := slE_li (lo := none) (hi := some (ckI (eC (.int 2)))) (app_vd (i := 0) (S := [.d (.int m)]) rfl rfl (nin_ok hm)) (.inl rfl) (runB_n _) (runB_i (x := ((2 : Nat) : Int)) rfl)
  rw [FT.cut_to] at e
  refine sumE e ?_
  rw [er_dl, iD, iD, List.map_take]
section
variable {v : PyData}
theorem reqn_er (h : inr 40 v = false) : g_require_number [.d v] = some (.error eN, [.d v]) := by
  have e := isint_gen 40 v
  rw [h] at e
  have t : eApp g_is_integer [.v 0, .e (eC (.int 0)), .e (eC (.int 40))] [.d v] = some (.ok (.d (.bool false)), [.d v]) := by
    simp [ap_seq, ap_if, ap_set, ap_store, ap_ret, ap_retN, ap_do, ap_next, ap_brk, ap_cont, ap_par, ap_asg, ap_val, ap_an, ap_o, ap_n, ap_tT, ap_app, ap_meth, ap_c, ap_nameK, ap_move, ap_eif, ap_and, ap_or, ap_not, ap_wl, ap_wa, ap_orF, ap_mk, item_at, len_at, lst_at, app_at, ins_at, cat_at, ar_nil, ar_v, ar_e, grab, back, dII, dIIc, dIIb, dI, outs, gAdd, gMul, nos, gMax2, gMin2, gAbs, cLt, cLe, cGt, cGe, cIsN, cNotN, dIsN, dNotN, isNone, LIM, vals, bindP, bindPs, ers_cons, lsOf, nrm, flat, app_dl, cEq, cNe, cIn, cNotIn, e]
  exact mk_er (S := [.d v]) rfl ((if_t (tN_at (tVal_at t))).trans rfl)
theorem co_er (h : inr 40 v = false) : g_count_orders [.d v] = some (.error eN, [.d v]) := mk_er (S := [.d v]) rfl (seq_er (do_er (app_erv (i := 0) rfl (reqn_er h))))
theorem cn_er (h : inr 40 v = false) : g_count_needs [.d v] = some (.error eN, [.d v]) := mk_er (S := [.d v]) rfl (seq_er (do_er (app_erv (i := 0) rfl (reqn_er h))))
end
/-! ### told -/
def tW (k : Nat) (v : PyData) : Sl := [.d (.int k), .d v, .no]
section
variable {v : PyData} {k : Nat}
theorem tq (j : Int) : tVal (eApp cEq [.v 0, .e (eC (.int j))]) (tW k v) = some (.ok (decide ((k : Int) = j)), tW k v) := by
  unfold tW
  simp [ap_seq, ap_if, ap_set, ap_store, ap_ret, ap_retN, ap_do, ap_next, ap_brk, ap_cont, ap_par, ap_asg, ap_val, ap_an, ap_o, ap_n, ap_tT, ap_app, ap_meth, ap_c, ap_nameK, ap_move, ap_eif, ap_and, ap_or, ap_not, ap_wl, ap_wa, ap_orF, ap_mk, item_at, len_at, lst_at, app_at, ins_at, cat_at, ar_nil, ar_v, ar_e, grab, back, dII, dIIc, dIIb, dI, outs, gAdd, gMul, nos, gMax2, gMin2, gAbs, cLt, cLe, cGt, cGe, cIsN, cNotN, dIsN, dNotN, isNone, LIM, vals, bindP, bindPs, ers_cons, lsOf, nrm, flat, app_dl, cEq, cNe, cIn, cNotIn]
theorem tqf {j : Int} (h : (k : Int) ≠ j) : tVal (eApp cEq [.v 0, .e (eC (.int j))]) (tW k v) = some (.ok false, tW k v) := by rw [tq, decide_eq_false h]
theorem tqt {j : Int} (h : (k : Int) = j) : tVal (eApp cEq [.v 0, .e (eC (.int j))]) (tW k v) = some (.ok true, tW k v) := by rw [tq, decide_eq_true h]
theorem at_0 : b__law_told_1 (tW 0 v) = sDo (eApp g_count_orders [.v 1]) (tW 0 v) := if_t (tqt rfl)
theorem at_1 : b__law_told_1 (tW 1 v) = sDo (eApp (revF false g_count_orders) [.v 1]) (tW 1 v) := (if_f (tqf (by decide))).trans (if_t (tqt rfl))
theorem at_2 : b__law_told_1 (tW 2 v) = sDo (eApp g_count_needs [.v 1]) (tW 2 v) := (if_f (tqf (by decide))).trans ((if_f (tqf (by decide))).trans (if_t (tqt rfl)))
theorem at_3 : b__law_told_1 (tW 3 v) = sDo (eApp (revF false g_count_needs) [.v 1]) (tW 3 v) := (if_f (tqf (by decide))).trans ((if_f (tqf (by decide))).trans (if_f (tqf (by decide))))
theorem told_no (h : inr 40 v = false) (hk : k < 4) : g__law_told [.d (.int k), .d v] = some (.ok (.d (.str wN)), [.d (.int k), .d v]) := by
  have key : b__law_told_1 (tW k v) = some (.error eN, tW k v) := by
    have : k = 0 ∨ k = 1 ∨ k = 2 ∨ k = 3 := by omega
    rcases this with rfl | rfl | rfl | rfl
    · exact at_0.trans (do_er (app_erv (i := 1) rfl (co_er h)))
    · exact at_1.trans (do_er (app_erv (i := 1) rfl (rev_f1 (co_er h))))
    · exact at_2.trans (do_er (app_erv (i := 1) rfl (cn_er h)))
    · exact at_3.trans (do_er (app_erv (i := 1) rfl (rev_f1 (cn_er h))))
  exact mk_rt (S := tW k v) rfl (seq_rt (tryK_yes (S1 := tW k v) (e := eN) (x := .str (PySem.Str.ofString "number")) key (by rfl)))
theorem told_yes {m : Nat} (hm : m ≤ 40) (hk : k < 4) : g__law_told [.d (.int k), .d (.int (m : Int))] = some (.ok (.d (.str wF)), [.d (.int k), .d (.int (m : Int))]) := by
  have key : b__law_told_1 (tW k (.int (m : Int))) = some (.ok .nx, tW k (.int (m : Int))) := by
    have : k = 0 ∨ k = 1 ∨ k = 2 ∨ k = 3 := by omega
    rcases this with rfl | rfl | rfl | rfl
    · exact at_0.trans (do_at (app_vd (i := 1) rfl rfl (co_ok hm)))
    · exact at_1.trans (do_at (app_vd (i := 1) rfl rfl (rev_f1 (co_ok hm))))
    · exact at_2.trans (do_at (app_vd (i := 1) rfl rfl (cn_ok hm)))
    · exact at_3.trans (do_at (app_vd (i := 1) rfl rfl (rev_f1 (cn_ok hm))))
  exact mk_rt (S := tW k (.int (m : Int))) rfl ((seq_nx (tryK_ok key)).trans rfl)
end
/-! ### values that are no numbers -/
theorem sq_negi {x : Int} (h0 : x ≤ 0) (h : -(10 ^ 60) < x) : Sq 200 0 (.int x) := by
  have hl : x.natAbs.log2 < 200 := by
    have := log_lt (x := -x) (k := 200) (m := 60) (by omega) (by omega) (by decide +kernel) (by decide)
    rwa [Int.natAbs_neg] at this
  refine ⟨?_, ?_, wt_int hl, by simp [PyData.depth]⟩
  · simp only [PyData.showable]
    exact decide_eq_true (by omega)
  · simp only [PyData.leavesShort]
    refine decide_eq_true ?_
    rw [PyData.shown]
    cases x with
    | ofNat n => exact Nat.le_trans (PyProof.Rows.toString_length_le (v := Int.ofNat n) (Int.natCast_nonneg n) (k := 60) (by decide) (Int.lt_of_le_of_lt h0 (by decide))) (by decide)
    | negSucc n =>
      have e : toString (Int.negSucc n) = "-" ++ toString ((n + 1 : Nat) : Int) := rfl
      have q := PyProof.Rows.toString_length_le (v := ((n + 1 : Nat) : Int)) (k := 60) (by omega) (by decide) (by omega)
      rw [PyProof.Rows.ofString_length] at q
      rw [PyProof.Rows.ofString_length, e, String.toList_append, List.length_append]
      have : "-".toList.length = 1 := by decide
      omega
def bads : List PyData := [.none, .int (-1), .int 41, .bool true, .bool false, .str (PySem.Str.ofString "3"), .str (PySem.Str.ofString ""), .list [.int 3], .tuple [.int 3], .dict [], .int (-1000000000000000000000000000000), .int 10000000000000000000000000000000000000000, .list [], .tuple []]

/-! ### a turn -/
def badA : List PyData := [.none, .int (-1), .int 41, .bool true, .bool false, .str (PySem.Str.ofString "3"), .str (PySem.Str.ofString ""), .list [.int 3], .tuple [.int 3], .dict [], .int (0 - 1000000000000000000000000000000), .int 10000000000000000000000000000000000000000, .list [], .tuple []]
def badB (a b : Int) : List PyData := [.int (41 + a), .int (-1 - b)]
theorem bad_no {a b : Int} (ha : 0 ≤ a) (hb : 0 ≤ b) : ∀ v ∈ badA ++ badB a b, inr 40 v = false := by
  intro v hv
  simp only [badA, badB, List.cons_append, List.nil_append, List.mem_cons, List.not_mem_nil, or_false] at hv
  rcases hv with rfl | rfl | rfl | rfl | rfl | rfl | rfl | rfl | rfl | rfl | rfl | rfl | rfl | rfl | rfl | rfl <;> simp [inr] <;> omega
theorem bad_sq {a b : Int} (ha : 0 ≤ a) (hb : 0 ≤ b) (ha2 : a < 1000000000000000000000000000000) (hb2 : b < 1000000000000000000000000000000) : ∀ v ∈ badA ++ badB a b, Sq 300 2 v := by
  intro v hv
  simp only [badA, badB, List.cons_append, List.nil_append, List.mem_cons, List.not_mem_nil, or_false] at hv
  have z : ∀ d ∈ [PyData.int 3], Sq 7 0 d := fun d hd => by rw [List.mem_singleton.mp hd]; exact sq_nat (j := 3) (by decide)
  have z0 : ∀ d ∈ ([] : List PyData), Sq 7 0 d := fun d hd => by cases hd
  rcases hv with rfl | rfl | rfl | rfl | rfl | rfl | rfl | rfl | rfl | rfl | rfl | rfl | rfl | rfl | rfl | rfl
  · exact sq_none.mono (by decide) (by decide)
  · exact sq_m1.mono (by decide) (by decide)
  · exact (sq_nat (j := 41) (by decide)).mono (by decide) (by decide)
  · exact (sq_bool _).mono (by decide) (by decide)
  · exact (sq_bool _).mono (by decide) (by decide)
  · exact (sq_s (by decide) (by decide)).mono (by decide) (by decide)
  · exact (sq_s (by decide) (by decide)).mono (by decide) (by decide)
  · exact (sq_list 1 z (by simp)).mono (by decide) (by decide)
  · exact (sq_tuple 1 z (by simp)).mono (by decide) (by decide)
  · exact sq_emp.mono (by decide) (by decide)
  · exact (sq_negi (by decide) (by decide)).mono (by decide) (by decide)
  · exact (sq_int (by decide) (by decide +kernel)).mono (by decide) (by decide)
  · exact (sq_list 1 z0 (by simp)).mono (by decide) (by decide)
  · exact (sq_tuple 1 z0 (by simp)).mono (by decide) (by decide)
  · exact (sq_int (by omega) (by omega)).mono (by decide) (by decide)
  · exact (sq_negi (by omega) (by omega)).mono (by decide) (by decide)
def lS (ns : List Int) (k : Int) (sk : O) (t : Int) (x4 x5 x6 x7 x8 : O) : Sl := [.fz ns, .d (.int k), sk, .d (.int t), x4, x5, x6, x7, x8]
section
variable {ns : List Int} {k t : Int} {sk x4 x5 x6 x7 x8 : O} {N : Nat}
theorem grab_at {m : Int} {f : Sl → M O} (hf : f (lS ns k sk t x4 x5 x6 x7 x8) = some (.ok (.d (.int m)), lS ns k sk t x4 x5 x6 x7 x8)) (hk : Keg N sk) (hN : N ≤ 1000000) (h0 : 0 < m) (h1 : m ≤ 1000000000000000000000000000000) : ∃ r sk', eApp g__law_grab [.v 2, .e f] (lS ns k sk t x4 x5 x6 x7 x8) = some (.ok (.d (.int r)), lS ns k sk' t x4 x5 x6 x7 x8) ∧ 0 ≤ r ∧ r < m ∧ Keg (N + 1) sk' := by
  obtain ⟨r, kg', e, a0, a1, hk'⟩ := grab_ok hk hN h0 h1
  exact ⟨r, kg', app_ve (S1 := lS ns k sk t x4 x5 x6 x7 x8) (b := .d (.int m)) (b' := .d (.int m)) hk.isNo hf (by show 2 < 9; decide) rfl hk.isD e, a0, a1, hk'⟩
def fA : Sl → M O := eApp gLst [.e (eC .none), .e (eApp (fnD (dI fun i => -i)) [.e (eC (.int 1))]), .e (eC (.int 41)), .e (eC (.bool true)), .e (eC (.bool false)), .e (eC (.str (PySem.Str.ofString "3"))), .e (eC (.str (PySem.Str.ofString ""))), .e (eApp gLst [.e (eC (.int 3))]), .e (eApp gTupF [.e (eC (.int 3))]), .e (eDict0), .e (eApp (fnD (dII fun i j => i - j)) [.e (eC (.int 0)), .e (eApp (fnD (dIIc cPow fun i j => i ^ j.toNat)) [.e (eC (.int 10)), .e (eC (.int 30))])]), .e (eApp (fnD (dIIc cPow fun i j => i ^ j.toNat)) [.e (eC (.int 10)), .e (eC (.int 40))]), .e (eApp gLst []), .e (eApp gTupF [])]
def oA : O := .l [.d .none, .d (.int (-1)), .d (.int 41), .d (.bool true), .d (.bool false), .d (.str (PySem.Str.ofString "3")), .d (.str (PySem.Str.ofString "")), .l [.d (.int 3)], .d (.tuple [.int 3]), .d (.dict []), .d (.int (0 - 1000000000000000000000000000000)), .d (.int 10000000000000000000000000000000000000000), .l [], .d (.tuple [])]
theorem fA_ok (S : Sl) : fA S = some (.ok oA, S) := by
  obtain ⟨q1, q2, q3, q4, q5, q6, q7, q8⟩ := cp10
  unfold fA oA
  simp [ap_seq, ap_if, ap_set, ap_store, ap_ret, ap_retN, ap_do, ap_next, ap_brk, ap_cont, ap_par, ap_asg, ap_val, ap_an, ap_o, ap_n, ap_tT, ap_app, ap_meth, ap_c, ap_nameK, ap_move, ap_eif, ap_and, ap_or, ap_not, ap_wl, ap_wa, ap_orF, ap_mk, item_at, len_at, lst_at, app_at, ins_at, cat_at, ar_nil, ar_v, ar_e, grab, back, dII, dIIc, dIIb, dI, outs, gAdd, gMul, nos, gMax2, gMin2, gAbs, cLt, cLe, cGt, cGe, cIsN, cNotN, dIsN, dNotN, isNone, LIM, vals, bindP, bindPs, ers_cons, lsOf, nrm, flat, app_dl, cEq, cNe, cIn, cNotIn, ap_dict0, tup_at, q4, q8]
theorem oA_er : er oA = some (.list badA) := by
  unfold oA badA
  simp [er_l, ers_cons]
theorem pow30 (S : Sl) : eApp (fnD (dIIc cPow fun i j => i ^ j.toNat)) [.e (eC (.int 10)), .e (eC (.int 30))] S = some (.ok (.d (.int 1000000000000000000000000000000)), S) := by
  obtain ⟨q1, q2, q3, q4, q5, q6, q7, q8⟩ := cp10
  simp [ap_seq, ap_if, ap_set, ap_store, ap_ret, ap_retN, ap_do, ap_next, ap_brk, ap_cont, ap_par, ap_asg, ap_val, ap_an, ap_o, ap_n, ap_tT, ap_app, ap_meth, ap_c, ap_nameK, ap_move, ap_eif, ap_and, ap_or, ap_not, ap_wl, ap_wa, ap_orF, ap_mk, item_at, len_at, lst_at, app_at, ins_at, cat_at, ar_nil, ar_v, ar_e, grab, back, dII, dIIc, dIIb, dI, outs, gAdd, gMul, nos, gMax2, gMin2, gAbs, cLt, cLe, cGt, cGe, cIsN, cNotN, dIsN, dNotN, isNone, LIM, vals, bindP, bindPs, ers_cons, lsOf, nrm, flat, app_dl, cEq, cNe, cIn, cNotIn, q8]
theorem ii_sub (x y : Int) : fnD (dII fun i j => i - j) [.d (.int x), .d (.int y)] = some (.ok (.d (.int (x - y))), [.d (.int x), .d (.int y)]) := by rw [fn2]; rfl
theorem law1_ok (hk : Keg N sk) (hN : N ≤ 900000) : ∃ sk' y4 y5 y6 y8, b_law_1 (lS ns k sk t x4 x5 x6 x7 x8) = some (.ok .nx, lS ns k sk' t y4 y5 y6 x7 y8) ∧ Keg (N + 3) sk' := by
  have s1 : sSet 4 fA (lS ns k sk t x4 x5 x6 x7 x8) = some (.ok .nx, lS ns k sk t oA x5 x6 x7 x8) := set_at (fA_ok _)
  obtain ⟨r1, k1, e1, a0, a1, hk1⟩ := grab_at (ns := ns) (k := k) (t := t) (x4 := oA) (x5 := x5) (x6 := x6) (x7 := x7) (x8 := x8) (pow30 _) hk (by omega) (by decide) (by decide)
  obtain ⟨r2, k2, e2, b0, b1, hk2⟩ := grab_at (ns := ns) (k := k) (t := t) (x4 := oA) (x5 := x5) (x6 := x6) (x7 := x7) (x8 := x8) (pow30 _) hk1 (by omega) (by decide) (by decide)
  have c1 : eApp gAdd [.e (eC (.int 41)), .e (eApp g__law_grab [.v 2, .e (eApp (fnD (dIIc cPow fun i j => i ^ j.toNat)) [.e (eC (.int 10)), .e (eC (.int 30))])])] (lS ns k sk t oA x5 x6 x7 x8) = some (.ok (.d (.int (41 + r1))), lS ns k k1 t oA x5 x6 x7 x8) := app_ee (fa := eC (.int 41)) rfl e1 (add_ii _ _)
  have c2 : eApp (fnD (dII fun i j => i - j)) [.e (eApp (fnD (dI fun i => -i)) [.e (eC (.int 1))]), .e (eApp g__law_grab [.v 2, .e (eApp (fnD (dIIc cPow fun i j => i ^ j.toNat)) [.e (eC (.int 10)), .e (eC (.int 30))])])] (lS ns k k1 t oA x5 x6 x7 x8) = some (.ok (.d (.int (-1 - r2))), lS ns k k2 t oA x5 x6 x7 x8) := app_ee (fa := eApp (fnD (dI fun i => -i)) [.e (eC (.int 1))]) (a := .d (.int (-1))) rfl e2 (ii_sub _ _)
  have c3 := lst_args [.d (.int (41 + r1)), .d (.int (-1 - r2))] (ar_c c1 (ar_c (as := []) c2 rfl)) (by show 2 ≤ 1000; decide)
  have c4 := app_ve (G := gAdd) (i := 4) (S := lS ns k sk t oA x5 x6 x7 x8) (S1 := lS ns k k2 t oA x5 x6 x7 x8) (o := oA) rfl c3 (by show 4 < 9; decide) rfl rfl (gAdd_er (o := oA) (p := .l [.d (.int (41 + r1)), .d (.int (-1 - r2))]) (A := badA) (B := badB r1 r2) (by unfold lsOf; rw [oA_er]) (by unfold lsOf; rfl) (by show 16 ≤ 1000; decide))
  have s2 := set_at (i := 4) c4
  have e4 : ((lS ns k k2 t oA x5 x6 x7 x8).set 4 (nrm oA)).set 4 (dl (badA ++ badB r1 r2)) = lS ns k k2 t (dl (badA ++ badB r1 r2)) x5 x6 x7 x8 := rfl
  rw [e4] at s2
  obtain ⟨r3, k3, e3, d0, d1, hk3⟩ := grab_at (ns := ns) (k := k) (t := t) (x4 := dl (badA ++ badB r1 r2)) (x5 := x5) (x6 := x6) (x7 := x7) (x8 := x8) (f := eC (.int 16)) rfl hk2 (by omega) (by decide) (by decide)
  obtain ⟨r3, rfl⟩ := Int.eq_ofNat_of_zero_le d0
  obtain ⟨v, hv⟩ : ∃ v, (badA ++ badB r1 r2)[r3]? = some v := ⟨_, List.getElem?_eq_getElem (by show r3 < 16; omega)⟩
  have hm := List.mem_of_getElem? hv
  have hno := bad_no a0 b0 v hm
  have hsq := bad_sq a0 b0 a1 b1 v hm
  generalize badA ++ badB r1 r2 = B at s2 e3 hv
  have s3 : sSet 5 (eApp gItem [.v 4, .e (eApp g__law_grab [.v 2, .e (eC (.int 16))])]) (lS ns k k2 t (dl B) x5 x6 x7 x8) = some (.ok .nx, lS ns k k3 t (dl B) (.d v) x6 x7 x8) :=
    set_at (S1 := lS ns k k3 t (dl B) x5 x6 x7 x8) (app_ve' (i := 4) (o := dl B) rfl e3 rfl (.inl rfl) (item_li (.inl rfl) hv))
  have rp := reprQ_ok hsq (by decide) (by decide)
  generalize PyData.shown v = s at rp
  have s4 : sSet 6 (eApp (fnD dReprQ) [.v 5]) (lS ns k k3 t (dl B) (.d v) x6 x7 x8) = some (.ok .nx, lS ns k k3 t (dl B) (.d v) (.d (.str s)) x7 x8) := set_at (S1 := lS ns k k3 t (dl B) (.d v) x6 x7 x8) (app_vd (i := 5) rfl rfl rp)
  obtain ⟨S2, ec, rfl⟩ := eComp_inv (p := .nm 8) (cnd := tT) (elt := e_law_1) (vs := [8]) (S := lS ns k k3 t (dl B) (.d v) (.d (.str s)) x7 x8) (fun d => some (.d (.str wN))) (fun S => S = lS ns k k3 t (dl B) (.d v) (.d (.str s)) x7 .no) (rng1_at (n := 4) (fe := eC (.int 4)) rfl (by decide)) (by decide) rfl (by
    rintro d hd S rfl
    obtain ⟨i, hi, rfl⟩ := List.mem_map.mp hd
    have hi4 : i < 4 := List.mem_range.mp hi
    have e0 : (0 : Int) + (i : Nat) = (i : Int) := by omega
    rw [e0]
    refine ⟨lS ns k k3 t (dl B) (.d v) (.d (.str s)) x7 (.d (.int (i : Int))), lS ns k k3 t (dl B) (.d v) (.d (.str s)) x7 (.d (.int (i : Int))), rfl, .inr ⟨.d (.str wN), lS ns k k3 t (dl B) (.d v) (.d (.str s)) x7 (.d (.int (i : Int))), rfl, rfl, ?_, rfl⟩⟩
    exact app_dv (i := 8) (j := 5) rfl rfl rfl (told_no hno hi4))
  have c5 : eApp gMul [.e (eApp gLst [.e (eC (.str (PySem.Str.ofString "number")))]), .e (eC (.int 4))] (lS ns k k3 t (dl B) (.d v) (.d (.str s)) x7 .no) = some (.ok (dl (List.replicate 4 [.str wN]).flatten), lS ns k k3 t (dl B) (.d v) (.d (.str s)) x7 .no) :=
    app_ee (lst_args [.d (.str wN)] rfl (by simp)) rfl (gMul_li (k := 4) (o := .l [.d (.str wN)]) (A := [.str wN]) (.inl rfl) (by decide) (by simp))
  have ne : ∀ A B : List PyData, (SeqAt.shaped (.list A) && SeqAt.shaped (.list B)) = true → PyData.eqv (.list A) (.list B) = true → dNe [.list A, .list B] = some (.bool false) := fun A B h1 h2 => by
    simp only [dNe, h1, h2, if_true, Bool.not_true]
  have c6 : cNe [.l ((rngD 0 4).filterMap fun d => some (O.d (.str wN))), dl (List.replicate 4 [.str wN]).flatten] = some (.ok (.d (.bool false)), [.l ((rngD 0 4).filterMap fun d => some (O.d (.str wN))), dl (List.replicate 4 [.str wN]).flatten]) := by
    have e1 : O.l ((rngD 0 4).filterMap fun d => some (O.d (.str wN))) = dl [.str wN, .str wN, .str wN, .str wN] := rfl
    rw [e1]
    refine fn_er2 (g := dNe) (er_dl _) (er_dl _) ?_
    exact ne _ _ (by decide +kernel) (by decide +kernel)
  have t1 := tVal_at (app_ee ec c5 c6)
  have c7 : eApp (fnD dReprQ) [.v 5] (lS ns k k3 t (dl B) (.d v) (.d (.str s)) x7 .no) = some (.ok (.d (.str s)), lS ns k k3 t (dl B) (.d v) (.d (.str s)) x7 .no) := app_vd (i := 5) rfl rfl rp
  have t2 := tVal_at (app_ed c7 (i := 6) (x := .str s) rfl (ne_str _))
  exact ⟨k3, _, _, _, _, (seq_nx s1).trans ((seq_nx s2).trans ((seq_nx s3).trans ((seq_nx s4).trans ((if_f ((tO_f t1).trans t2)).trans rfl)))), hk3⟩
end
theorem law2_ok {ns : List Int} {k : Nat} {x2 x3 x4 x5 x6 x7 x8 : O} (hk : k < 100) :
    ∃ y2 y3 y4 y5 y6 y8, b_law_2 [.fz ns, .d (.int k), x2, x3, x4, x5, x6, x7, x8] = some (.ok .nx, [.fz ns, .d (.int k), y2, y3, y4, y5, y6, x7, y8]) := by
  obtain ⟨kg, e1, hkg⟩ := sack_ok (ns := ns) hk
  have s1 : sSet 2 (eApp g__law_sack [.v 0, .v 1]) [.fz ns, .d (.int k), x2, x3, x4, x5, x6, x7, x8] = some (.ok .nx, [.fz ns, .d (.int k), kg, x3, x4, x5, x6, x7, x8]) := by simp [ap_seq, ap_if, ap_set, ap_store, ap_ret, ap_retN, ap_do, ap_next, ap_brk, ap_cont, ap_par, ap_asg, ap_val, ap_an, ap_o, ap_n, ap_tT, ap_app, ap_meth, ap_c, ap_nameK, ap_move, ap_eif, ap_and, ap_or, ap_not, ap_wl, ap_wa, ap_orF, ap_mk, item_at, len_at, lst_at, app_at, ins_at, cat_at, ar_nil, ar_v, ar_e, grab, back, dII, dIIc, dIIb, dI, outs, gAdd, gMul, nos, gMax2, gMin2, gAbs, cLt, cLe, cGt, cGe, cIsN, cNotN, dIsN, dNotN, isNone, LIM, vals, bindP, bindPs, ers_cons, lsOf, nrm, flat, app_dl, cEq, cNe, cIn, cNotIn, e1]
  have q := for_inv (p := .nm 3) (body := b_law_1) (fun i S => ∃ kg z3 z4 z5 z6 z8, S = [.fz ns, .d (.int k), kg, z3, z4, z5, z6, x7, z8] ∧ Keg (3 * i) kg) (rng1_at (n := 6) (fe := eC (.int 6)) (S := [.fz ns, .d (.int k), kg, x3, x4, x5, x6, x7, x8]) rfl (by decide)) ⟨_, _, _, _, _, _, rfl, hkg⟩ (by
    rintro i d S hd ⟨kg, z3, z4, z5, z6, z8, rfl, hkg⟩
    obtain ⟨hi, rfl⟩ := rng_at hd
    obtain ⟨kg', w4, w5, w6, w8, e2, hk2⟩ := law1_ok (ns := ns) (k := k) (t := i) (x4 := z4) (x5 := z5) (x6 := z6) (x7 := x7) (x8 := z8) hkg (by omega)
    exact ⟨_, _, rfl, .inl e2, _, _, _, _, _, _, rfl, hk2.mono (by omega)⟩)
  obtain ⟨S', e, kg', z3, z4, z5, z6, z8, rfl, hkg'⟩ := q
  have hl : (rngD 0 6).length = 6 := rfl
  rw [hl] at hkg'
  obtain ⟨d, k1, f1, a0, a1, hk1⟩ := grab_ok (m := 4) hkg' (by decide) (by decide) (by decide)
  obtain ⟨d, rfl⟩ := Int.eq_ofNat_of_zero_le a0
  obtain ⟨m, k2, f2, b0, b1, hk2⟩ := grab_ok (m := 25) hk1 (by decide) (by decide) (by decide)
  obtain ⟨m, rfl⟩ := Int.eq_ofNat_of_zero_le b0
  have g1 : eApp g__law_grab [.v 2, .e (eC (.int 4))] [.fz ns, .d (.int k), kg', z3, z4, z5, z6, x7, z8] = some (.ok (.d (.int d)), [.fz ns, .d (.int k), k1, z3, z4, z5, z6, x7, z8]) := app_ve (S1 := [.fz ns, .d (.int k), kg', z3, z4, z5, z6, x7, z8]) (b := .d (.int 4)) (b' := .d (.int 4)) hkg'.isNo rfl (by show 2 < 9; decide) rfl hkg'.isD f1
  have g2 : eApp g__law_grab [.v 2, .e (eC (.int 25))] [.fz ns, .d (.int k), k1, z3, z4, z5, z6, x7, z8] = some (.ok (.d (.int m)), [.fz ns, .d (.int k), k2, z3, z4, z5, z6, x7, z8]) := app_ve (S1 := [.fz ns, .d (.int k), k1, z3, z4, z5, z6, x7, z8]) (b := .d (.int 25)) (b' := .d (.int 25)) hk1.isNo rfl (by show 2 < 9; decide) rfl hk1.isD f2
  have c1 := app_ee g1 g2 (told_yes (m := m) (k := d) (by omega) (by omega))
  have t1 := tVal_at (app_ee c1 (fb := eC (.str (PySem.Str.ofString "fine"))) rfl (ne_str wF))
  exact ⟨k2, z3, z4, z5, z6, z8, (seq_nx s1).trans ((seq_nx e).trans ((if_f t1).trans rfl))⟩
theorem law_true (ns : List Int) (hn : ns.length ≤ 63) : ∃ os', g_law [.fz ns] = some (.ok (.d (.bool true)), os') := by
  have hv : ∃ n : Nat, n ≤ 6 ∧ (if (if (ns.length : Int) < 6 then (ns.length : Int) else 6) > 1 then (if (ns.length : Int) < 6 then (ns.length : Int) else 6) else 1) = (n : Int) := by
    by_cases h1 : (ns.length : Int) < 6
    · by_cases h2 : (ns.length : Int) > 1
      · exact ⟨ns.length, by omega, by simp [h1, h2]⟩
      · exact ⟨1, by omega, by simp [h1, h2]⟩
    · exact ⟨6, by omega, by simp [h1]⟩
  obtain ⟨n, hn6, hv⟩ := hv
  have src : eApp gMax2 [.e (eC (.int 1)), .e (eApp gMin2 [.e (eC (.int 6)), .e (eApp gLen [.v 0])])] [.fz ns, .no, .no, .no, .no, .no, .no, .no, .no] = some (.ok (.d (.int n)), [.fz ns, .no, .no, .no, .no, .no, .no, .no, .no]) := by
    rw [← hv]
    simp [ap_seq, ap_if, ap_set, ap_store, ap_ret, ap_retN, ap_do, ap_next, ap_brk, ap_cont, ap_par, ap_asg, ap_val, ap_an, ap_o, ap_n, ap_tT, ap_app, ap_meth, ap_c, ap_nameK, ap_move, ap_eif, ap_and, ap_or, ap_not, ap_wl, ap_wa, ap_orF, ap_mk, item_at, len_at, lst_at, app_at, ins_at, cat_at, ar_nil, ar_v, ar_e, grab, back, dII, dIIc, dIIb, dI, outs, gAdd, gMul, nos, gMax2, gMin2, gAbs, cLt, cLe, cGt, cGe, cIsN, cNotN, dIsN, dNotN, isNone, LIM, vals, bindP, bindPs, ers_cons, lsOf, nrm, flat, app_dl, cEq, cNe, cIn, cNotIn]
  have q := for_inv (p := .nm 1) (body := b_law_2) (fun i S => ∃ z1 z2 z3 z4 z5 z6 z7 z8, S = [.fz ns, z1, z2, z3, z4, z5, z6, z7, z8]) (rng1_at src (by omega)) ⟨_, _, _, _, _, _, _, _, rfl⟩ (by
    rintro i d S hd ⟨z1, z2, z3, z4, z5, z6, z7, z8, rfl⟩
    obtain ⟨hi, rfl⟩ := rng_at hd
    obtain ⟨w2, w3, w4, w5, w6, w8, e2⟩ := law2_ok (ns := ns) (k := i) (x2 := z2) (x3 := z3) (x4 := z4) (x5 := z5) (x6 := z6) (x7 := z7) (x8 := z8) (by omega)
    exact ⟨_, _, rfl, .inl e2, _, _, _, _, _, _, _, _, rfl⟩)
  obtain ⟨S', e, z1, z2, z3, z4, z5, z6, z7, z8, rfl⟩ := q
  have tt : ∀ (d m : Nat) (w : Str) (S : Sl), g__law_told [.d (.int (d : Int)), .d (.int (m : Int))] = some (.ok (.d (.str w)), [.d (.int (d : Int)), .d (.int (m : Int))]) → eApp g__law_told [.e (eC (.int (d : Int))), .e (eC (.int (m : Int)))] S = some (.ok (.d (.str w)), S) := fun d m w S h => app_ee (fa := eC (.int (d : Int))) (fb := eC (.int (m : Int))) rfl rfl h
  have s2 : sSet 7 (eApp gLst [.e (eApp g__law_told [.e (eC (.int 0)), .e (eC (.int 0))]), .e (eApp g__law_told [.e (eC (.int 2)), .e (eC (.int 0))]), .e (eApp g__law_told [.e (eC (.int 1)), .e (eC (.int 40))]), .e (eApp g__law_told [.e (eC (.int 3)), .e (eC (.int 41))])]) [.fz ns, z1, z2, z3, z4, z5, z6, z7, z8] = some (.ok .nx, [.fz ns, z1, z2, z3, z4, z5, z6, dl [.str wF, .str wF, .str wF, .str wN], z8]) :=
    set_at (S1 := [.fz ns, z1, z2, z3, z4, z5, z6, z7, z8]) (lst_args [.d (.str wF), .d (.str wF), .d (.str wF), .d (.str wN)] (ar_c (tt 0 0 wF _ (told_yes (by decide) (by decide))) (ar_c (tt 2 0 wF _ (told_yes (by decide) (by decide))) (ar_c (tt 1 40 wF _ (told_yes (by decide) (by decide))) (ar_c (as := []) (tt 3 41 wN _ (told_no (by decide) (by decide))) rfl)))) (by show 4 ≤ 1000; decide))
  have c1 : eApp gMul [.e (eApp gLst [.e (eC (.str (PySem.Str.ofString "fine")))]), .e (eC (.int 3))] [.fz ns, z1, z2, z3, z4, z5, z6, dl [.str wF, .str wF, .str wF, .str wN], z8] = some (.ok (dl (List.replicate 3 [.str wF]).flatten), [.fz ns, z1, z2, z3, z4, z5, z6, dl [.str wF, .str wF, .str wF, .str wN], z8]) :=
    app_ee (lst_args [.d (.str wF)] rfl (by simp)) rfl (gMul_li (k := 3) (o := .l [.d (.str wF)]) (A := [.str wF]) (.inl rfl) (by decide) (by simp))
  have c2 : eApp gAdd [.e (eApp gMul [.e (eApp gLst [.e (eC (.str (PySem.Str.ofString "fine")))]), .e (eC (.int 3))]), .e (eApp gLst [.e (eC (.str (PySem.Str.ofString "number")))])] [.fz ns, z1, z2, z3, z4, z5, z6, dl [.str wF, .str wF, .str wF, .str wN], z8] = some (.ok (dl ((List.replicate 3 [.str wF]).flatten ++ [.str wN])), [.fz ns, z1, z2, z3, z4, z5, z6, dl [.str wF, .str wF, .str wF, .str wN], z8]) :=
    app_ee c1 (lst_args [.d (.str wN)] rfl (by simp)) (gAdd_li (p := .l [.d (.str wN)]) (B := [.str wN]) (.inl rfl) (.inl rfl) (by simp))
  have c3 : cEq [dl [.str wF, .str wF, .str wF, .str wN], dl ((List.replicate 3 [.str wF]).flatten ++ [.str wN])] = some (.ok (.d (.bool true)), [dl [.str wF, .str wF, .str wF, .str wN], dl ((List.replicate 3 [.str wF]).flatten ++ [.str wN])]) := by
    refine fn_er2 (g := dEq) (er_dl _) (er_dl _) ?_
    have e2 : ∀ A B : List PyData, (SeqAt.shaped (.list A) && SeqAt.shaped (.list B)) = true → PyData.eqv (.list A) (.list B) = true → dEq [.list A, .list B] = some (.bool true) := fun A B h1 h2 => by
      simp only [dEq, h1, h2, if_true]
    exact e2 _ _ (by decide +kernel) (by decide +kernel)
  exact ⟨_, mk_rt (S := [.fz ns, z1, z2, z3, z4, z5, z6, dl [.str wF, .str wF, .str wF, .str wN], z8]) rfl ((seq_nx e).trans ((seq_nx s2).trans (ret_at (app_ve' (i := 7) (o := dl [.str wF, .str wF, .str wF, .str wN]) rfl c2 rfl (.inl rfl) c3))))⟩

end K41
open PySem PySem.W PyProof.Rows
set_option maxHeartbeats 0 in
theorem PySem.Challenge.cw_flatthreads_k41_errors_of_totals_holds : PySem.Challenge.rw_flatthreads_k41_errors_of_totals.Holds := by
  w_on; o_law; k_head; (case hw => w_witness2)
  k_fill
  refine FT.law_endK (l := PySem.Challenge.rw_flatthreads_k41_errors_of_totals) (n := 63) (k := 5) (x := PySem.Str.ofString "_law_script") (g := K41.g_law) rfl (by decide) rfl ⟨⟨rfl, by decide, by decide⟩, rfl⟩ (fun w h Y => PySem.W.kIn_of Y) ?F K41.law_true
  case F =>
    intro w mg fa h KX G hmg
    refine' K41.all_mk KX G hmg ?aC_InvalidNumber ?xe_InvalidNumber ?kp_InvalidNumber ?be_InvalidNumber ?ty_InvalidNumber ?hd_InvalidNumber ?aC_ThreadError ?xe_ThreadError ?kp_ThreadError ?be_ThreadError ?ty_ThreadError ?hd_ThreadError ?aC_InvalidCommand ?ty_InvalidCommand ?hd_InvalidCommand ?aC_InvalidComment ?ty_InvalidComment ?hd_InvalidComment ?aC_InvalidDepths ?ty_InvalidDepths ?hd_InvalidDepths ?aC_InvalidOrder ?ty_InvalidOrder ?hd_InvalidOrder ?aC_InvalidText ?ty_InvalidText ?hd_InvalidText ?aC_InvalidThread ?ty_InvalidThread ?hd_InvalidThread ?aC_NotFolded ?ty_NotFolded ?hd_NotFolded ?aC_NotPossible ?ty_NotPossible ?hd_NotPossible ?aC_NothingToUndo ?ty_NothingToUndo ?hd_NothingToUndo ?aC_TooMany ?ty_TooMany ?hd_TooMany ?sb_InvalidNumber_ThreadError ?xg_InvalidNumber ?xk_InvalidNumber ?xa_InvalidNumber ?xn_InvalidNumber ?xt_InvalidNumber ?xm_InvalidNumber ?sb_InvalidNumber_InvalidCommand ?ne_InvalidNumber_InvalidCommand ?sb_InvalidNumber_InvalidComment ?ne_InvalidNumber_InvalidComment ?sb_InvalidNumber_InvalidDepths ?ne_InvalidNumber_InvalidDepths ?sb_InvalidNumber_InvalidNumber ?sb_InvalidNumber_InvalidOrder ?ne_InvalidNumber_InvalidOrder ?sb_InvalidNumber_InvalidText ?ne_InvalidNumber_InvalidText ?sb_InvalidNumber_InvalidThread ?ne_InvalidNumber_InvalidThread ?sb_InvalidNumber_NotFolded ?ne_InvalidNumber_NotFolded ?sb_InvalidNumber_NotPossible ?ne_InvalidNumber_NotPossible ?sb_InvalidNumber_NothingToUndo ?ne_InvalidNumber_NothingToUndo ?sb_InvalidNumber_TooMany ?ne_InvalidNumber_TooMany ?ki_InvalidNumber_ValueError ?a1 ?l1 ?c1 ?k1 ?a2 ?l2 ?c2 ?k2 ?a3 ?l3 ?c3 ?k3 ?a4 ?l4 ?c4 ?k4 ?a5 ?l5 ?c5 ?k5 ?a6 ?l6 ?c6 ?k6 ?a7 ?l7 ?c7 ?k7 ?a8 ?l8 ?c8 ?k8 ?a9 ?l9 ?c9 ?k9 ?a10 ?l10 ?c10 ?k10 ?a11 ?l11 ?c11 ?k11 ?a12 ?l12 ?c12 ?k12 ?z1 ?z2 ?z3 ?z4 ?z5 ?z6 ?z7 ?z8 ?z9 ?z10 ?z11 ?z12 ?z13 ?w1
    (case aC_InvalidNumber => k_is)
    (case xe_InvalidNumber => k_exc)
    (case kp_InvalidNumber => k_is)
    (case be_InvalidNumber => k_is)
    (case ty_InvalidNumber => k_is)
    (case hd_InvalidNumber => k_is)
    (case aC_ThreadError => k_is)
    (case xe_ThreadError => k_exc)
    (case kp_ThreadError => k_is)
    (case be_ThreadError => k_is)
    (case ty_ThreadError => k_is)
    (case hd_ThreadError => k_is)
    (case aC_InvalidCommand => k_is)
    (case ty_InvalidCommand => k_is)
    (case hd_InvalidCommand => k_is)
    (case aC_InvalidComment => k_is)
    (case ty_InvalidComment => k_is)
    (case hd_InvalidComment => k_is)
    (case aC_InvalidDepths => k_is)
    (case ty_InvalidDepths => k_is)
    (case hd_InvalidDepths => k_is)
    (case aC_InvalidOrder => k_is)
    (case ty_InvalidOrder => k_is)
    (case hd_InvalidOrder => k_is)
    (case aC_InvalidText => k_is)
    (case ty_InvalidText => k_is)
    (case hd_InvalidText => k_is)
    (case aC_InvalidThread => k_is)
    (case ty_InvalidThread => k_is)
    (case hd_InvalidThread => k_is)
    (case aC_NotFolded => k_is)
    (case ty_NotFolded => k_is)
    (case hd_NotFolded => k_is)
    (case aC_NotPossible => k_is)
    (case ty_NotPossible => k_is)
    (case hd_NotPossible => k_is)
    (case aC_NothingToUndo => k_is)
    (case ty_NothingToUndo => k_is)
    (case hd_NothingToUndo => k_is)
    (case aC_TooMany => k_is)
    (case ty_TooMany => k_is)
    (case hd_TooMany => k_is)
    (case sb_InvalidNumber_ThreadError => k_is)
    (case xg_InvalidNumber => k_is)
    (case xk_InvalidNumber => k_is)
    (case xa_InvalidNumber => k_is)
    (case xn_InvalidNumber => k_is)
    (case xt_InvalidNumber => k_is)
    (case xm_InvalidNumber => k_is)
    (case sb_InvalidNumber_InvalidCommand => k_is)
    (case ne_InvalidNumber_InvalidCommand => rfl)
    (case sb_InvalidNumber_InvalidComment => k_is)
    (case ne_InvalidNumber_InvalidComment => rfl)
    (case sb_InvalidNumber_InvalidDepths => k_is)
    (case ne_InvalidNumber_InvalidDepths => rfl)
    (case sb_InvalidNumber_InvalidNumber => k_is)
    (case sb_InvalidNumber_InvalidOrder => k_is)
    (case ne_InvalidNumber_InvalidOrder => rfl)
    (case sb_InvalidNumber_InvalidText => k_is)
    (case ne_InvalidNumber_InvalidText => rfl)
    (case sb_InvalidNumber_InvalidThread => k_is)
    (case ne_InvalidNumber_InvalidThread => rfl)
    (case sb_InvalidNumber_NotFolded => k_is)
    (case ne_InvalidNumber_NotFolded => rfl)
    (case sb_InvalidNumber_NotPossible => k_is)
    (case ne_InvalidNumber_NotPossible => rfl)
    (case sb_InvalidNumber_NothingToUndo => k_is)
    (case ne_InvalidNumber_NothingToUndo => rfl)
    (case sb_InvalidNumber_TooMany => k_is)
    (case ne_InvalidNumber_TooMany => rfl)
    (case ki_InvalidNumber_ValueError => k_is)
    (case a1 => k_is)
    (case l1 => k_is)
    (case c1 => k_is)
    (case k1 => k_is)
    (case a2 => k_is)
    (case l2 => k_is)
    (case c2 => k_is)
    (case k2 => k_is)
    (case a3 => k_is)
    (case l3 => k_is)
    (case c3 => k_is)
    (case k3 => k_is)
    (case a4 => k_is)
    (case l4 => k_is)
    (case c4 => k_is)
    (case k4 => k_is)
    (case a5 => k_is)
    (case l5 => k_is)
    (case c5 => k_is)
    (case k5 => k_is)
    (case a6 => k_is)
    (case l6 => k_is)
    (case c6 => k_is)
    (case k6 => k_is)
    (case a7 => k_is)
    (case l7 => k_is)
    (case c7 => k_is)
    (case k7 => k_is)
    (case a8 => k_is)
    (case l8 => k_is)
    (case c8 => k_is)
    (case k8 => k_is)
    (case a9 => k_is)
    (case l9 => k_is)
    (case c9 => k_is)
    (case k9 => k_is)
    (case a10 => k_is)
    (case l10 => k_is)
    (case c10 => k_is)
    (case k10 => k_is)
    (case a11 => k_is)
    (case l11 => k_is)
    (case c11 => k_is)
    (case k11 => k_is)
    (case a12 => k_is)
    (case l12 => k_is)
    (case c12 => k_is)
    (case k12 => k_is)
    (case z1 => k_is)
    (case z2 => k_is)
    (case z3 => k_is)
    (case z4 => k_is)
    (case z5 => k_is)
    (case z6 => k_is)
    (case z7 => k_is)
    (case z8 => k_is)
    (case z9 => k_is)
    (case z10 => k_is)
    (case z11 => k_is)
    (case z12 => k_is)
    (case z13 => k_is)
    (case w1 => k_is)

